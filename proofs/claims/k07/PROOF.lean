import PyProof.Rows.All
import Wide.All
import OpenK.AllK
import Wide.FinOn
import HandS.ForMost
import HandS.Wide
import HandS.Exc
import HandS.TupAny
import HandS.Deep
import HandS.IsInst
import HandS.SortInts
import HandS.Sort
import KE.KSortedM
import HandS.Zip
import HandS.Rev
import HandS.Codes
import KE.KStateDown
import HandS.Head0
import HandS.Head1
import HandS.Head2
import HandS.HeadEnd
import HandS.HeadHook1
import HandS.HeadHook2
import HandS.Dict
import HandS.Text
import HandS.NoneIn
import HandS.ExcOwn
import HandS.ExcIs
import HandS.ExcField
import HandS.TryMany
import PyProof.EqKinds
import HandS.Iter
import HandS.TupMul
import PyProof.EnumMake
import PyProof.Draws
import HandS.ExcInit
import HandS.ClsMeth
import HandS.TupLe
import HandS.Style
import HandS.DictComp
import KE.DataMinMax
import PyProof.ReprRoads
import PyProof.ReprText
import PyProof.ReprLen
import PyProof.CallFns
import HandS.TryOnly
import HandS.Defaults
import KE.KEqNest
import HandS.Finally
import KE.KExcIs
import HandS.CallSlots
import HandS.FStr
import HandS.SortKw
import KE.SortData
import PyProof.ReprDict
import HandS.HotCalls
import PyProof.Walk
import PyProof.WalkLemmas
import HandS.Comp
import PyProof.AttrMiss
import PyProof.AttrMissHeap
import HandS.Replace
import HandS.HeadHook3
import HandS.More
import HandS.ReplaceLit
import PyProof.P3In
import HandS.Small
import HandS.ExcValue
import PySem.Challenge.RW_fuseboard_k07_refusals_made
set_option Elab.async false
set_option linter.all false
set_option maxRecDepth 100000
set_option maxHeartbeats 0
namespace FB
open PySem PySem.Spec L2
open PyProof.Rows hiding St

/-- an exception that is held as a value: its class, its dict -/
def ExF (cls : Value) (d : Option Addr) (a : Addr) : HO := .ext fun h => ∃ (oe : Obj) (vs : Array Value), h.get? a = some oe ∧ Zc cls d oe ∧ oe.data = .fields vs
inductive D where
  | non
  | bl (b : Bool)
  | int (i : Int)
  | str (s : Str)
  | tup (ds : List D)
  | lst (ds : List D)
  | dct (ks : List Key) (ds : List D)
  | ins (c : Str) (ns : List Str) (ds : List D)
  /-- the script: a list of ints that is read alone -/
  | scr (ns : List Int)
  /-- a def of the file -/
  | fn (x : Str)
  /-- an exception, a value -/
  | exc (c : Str) (ns : List Str) (ds : List D)
  deriving Inhabited

inductive O where
  | val (d : D)
  | lst (os : List O)
  | dct (ks : List Key) (os : List O)
  | ins (c : Str) (ns : List Str) (os : List O)
  deriving Inhabited

mutual
def O.toD : O → D
  | .val d => d
  | .lst os => .lst (O.toDs os)
  | .dct ks os => .dct ks (O.toDs os)
  | .ins c ns os => .ins c ns (O.toDs os)
def O.toDs : List O → List D
  | [] => []
  | o :: os => o.toD :: O.toDs os
end
mutual
inductive Vw (K : PySem.W.Frag) (mg : Str → Option Value) (G : Hp) : V → D → Prop
  | non : Vw K mg G .non .non
  | bl (b : Bool) : Vw K mg G (.bl b) (.bl b)
  | int (i : Int) : Vw K mg G (.int i) (.int i)
  | str (s : Str) : PyData.strOk s = true → Vw K mg G (.str s) (.str s)
  | tup {a : Addr} {xs : List V} {ds : List D} : SqT K G a xs → Vws K mg G xs ds → Vw K mg G (.ref a) (.tup ds)
  | lst {a : Addr} {xs : List V} {ds : List D} : Rd G a (.lst xs) → Vws K mg G xs ds → Vw K mg G (.ref a) (.lst ds)
  | scr {a : Addr} {ns : List Int} : SqL K G a (ns.map V.int) → Vw K mg G (.ref a) (.scr ns)
  | fn {a : Addr} {x : Str} : mg x = some (.ref a) → Vw K mg G (.ref a) (.fn x)
  | dct {a : Addr} {kvs : List (Key × V)} {ks : List Key} {ds : List D} : Rd G a (.dK kvs) → kvs.map (·.1) = ks ∧ ks.Nodup → Vws K mg G (kvs.map (·.2)) ds → Vw K mg G (.ref a) (.dct ks ds)
  | ins {a C dx : Addr} {fs : List (Str × V)} {c : Str} {ns : List Str} {ds : List D} : G a = some (.ins C dx fs) → mg c = some (.ref C) → fs.map (·.1) = ns → Vws K mg G (fs.map (·.2)) ds → Vw K mg G (.ref a) (.ins c ns ds)
  | exc {a C dx : Addr} {fs : List (Str × V)} {c : Str} {ns : List Str} {ds : List D} : G a = some (ExF (.ref C) (some dx) a) → G dx = some (.xd fs) → mg c = some (.ref C) → fs.map (·.1) = ns → Vws K mg G (fs.map (·.2)) ds → Vw K mg G (.ref a) (.exc c ns ds)
  | exn {a C : Addr} {c : Str} : G a = some (ExF (.ref C) none a) → mg c = some (.ref C) → Vw K mg G (.ref a) (.exc c [] [])
inductive Vws (K : PySem.W.Frag) (mg : Str → Option Value) (G : Hp) : List V → List D → Prop
  | nil : Vws K mg G [] []
  | cons {v : V} {vs : List V} {d : D} {ds : List D} : Vw K mg G v d → Vws K mg G vs ds → Vws K mg G (v :: vs) (d :: ds)
end

section
variable {K : PySem.W.Frag} {mg : Str → Option Value}
mutual
inductive VO (K : PySem.W.Frag) (mg : Str → Option Value) (G H : Hp) : V → O → List Addr → Prop
  | val {v : V} {d : D} : Vw K mg G v d → VO K mg G H v (.val d) []
  | lst {p : Addr} {vs : List V} {os : List O} {as : List Addr} : H p = some (.lst vs) → VOs K mg G H vs os as → VO K mg G H (.ref p) (.lst os) (p :: as)
  | dct {p : Addr} {kvs : List (Key × V)} {ks : List Key} {os : List O} {as : List Addr} : H p = some (.dK kvs) → kvs.map (·.1) = ks ∧ ks.Nodup → VOs K mg G H (kvs.map (·.2)) os as → VO K mg G H (.ref p) (.dct ks os) (p :: as)
  | ins {p C dx : Addr} {fs : List (Str × V)} {c : Str} {ns : List Str} {os : List O} {as : List Addr} : H p = some (.ins C dx fs) → mg c = some (.ref C) → fs.map (·.1) = ns → VOs K mg G H (fs.map (·.2)) os as → VO K mg G H (.ref p) (.ins c ns os) (p :: as)
inductive VOs (K : PySem.W.Frag) (mg : Str → Option Value) (G H : Hp) : List V → List O → List Addr → Prop
  | nil : VOs K mg G H [] [] []
  | cons {v : V} {vs : List V} {o : O} {os : List O} {as bs : List Addr} : VO K mg G H v o as → VOs K mg G H vs os bs → VOs K mg G H (v :: vs) (o :: os) (as ++ bs)
end
inductive Item where
  | ov (v : V) (o : O)
  | raw (p : Addr) (h : HO)
  /-- a shared thing that is locked -/
  | pin (p : Addr) (od : Obj) (u : HO)
  /-- an item that knows nothing of what stands at d -/
  | but (d : Addr) (x : Item)
def ers (d : Addr) (G : Hp) : Hp := fun a => if a = d then none else G a
def hide (H : Hp) (A : List Addr) : Hp := fun a => if a ∈ A then none else H a
inductive IOk (K : PySem.W.Frag) (mg : Str → Option Value) : Hp → Hp → Item → List Addr → Prop
  | ov {G H : Hp} {v : V} {o : O} {as : List Addr} : VO K mg G H v o as → IOk K mg G H (.ov v o) as
  | raw {G H : Hp} {p : Addr} {h : HO} : H p = some h → IOk K mg G H (.raw p h) [p]
  | pin {G H : Hp} {p : Addr} {od : Obj} {u : HO} : G p = some (.frz od u) → IOk K mg G H (.pin p od u) []
  | but {G H : Hp} {d : Addr} {x : Item} {as : List Addr} : IOk K mg (ers d G) H x as → IOk K mg G H (.but d x) as
inductive IsOk (K : PySem.W.Frag) (mg : Str → Option Value) (G H : Hp) : List Item → List Addr → Prop
  | nil : IsOk K mg G H [] []
  | cons {x : Item} {L : List Item} {as bs : List Addr} : IOk K mg G H x as → IsOk K mg G H L bs → IsOk K mg G H (x :: L) (as ++ bs)
/-- the heap holds the items apart; B: what is borrowed from them, for the time being -/
def Rep (K : PySem.W.Frag) (mg : Str → Option Value) (H : Hp) (L : List Item) (B : List (V × O)) : Prop :=
  ∃ A : List Addr, A.Nodup ∧ IsOk K mg (hide H A) H L A ∧ ∀ b ∈ B, ∃ as, VO K mg (hide H A) H b.1 b.2 as ∧ ∀ a ∈ as, a ∈ A
def zipI (vs : List V) (os : List O) : List Item := List.zipWith Item.ov vs os
end
end FB

namespace FB
open PySem PySem.Spec L2
open PyProof.Rows hiding St

abbrev Env := List (Option O)
structure Exn where
  c : Str
  ns : List Str
  ds : List D
inductive Res (α : Type) where
  | ok (a : α) (ρ : Env)
  | exc (x : Exn) (ρ : Env)
  | no
abbrev M (α : Type) := Env → Res α
inductive Fl where
  | nx | ret (o : O) | brk | ct

def pairs : St → Env → List Item
  | some v :: σ, some o :: ρ => .ov v o :: pairs σ ρ
  | _ :: σ, _ :: ρ => pairs σ ρ
  | _, _ => []
structure Cov (σ : St) (ρ : Env) : Prop where
  len : σ.length = ρ.length
  ex : ∀ (i : Nat) (o : O), ρ[i]? = some (some o) → ∃ v, σ[i]? = some (some v)
section
variable (K : PySem.W.Frag) (mg : Str → Option Value)
/-- the slots P stand -/
def Fix (P : List Nat) (σ σ' : St) : Prop := σ'.length = σ.length ∧ ∀ i ∈ P, σ'[i]? = σ[i]?
def tS (P : List Nat) (m : M Fl) : TS := fun D σ H => ∃ ρ T, Cov σ ρ ∧ Rep K mg H (pairs σ ρ ++ T) [] ∧
  match m ρ with
  | .ok .nx ρ' => ∀ σ' H', Fix P σ σ' → Cov σ' ρ' → Rep K mg H' (pairs σ' ρ' ++ T) [] → D.nx σ' H'
  | .ok .brk ρ' => ∀ σ' H', Fix P σ σ' → Cov σ' ρ' → Rep K mg H' (pairs σ' ρ' ++ T) [] → D.bk σ' H'
  | .ok .ct ρ' => ∀ σ' H', Fix P σ σ' → Cov σ' ρ' → Rep K mg H' (pairs σ' ρ' ++ T) [] → D.ct σ' H'
  | .ok (.ret o) ρ' => ∀ v σ' H', Fix P σ σ' → Cov σ' ρ' → Rep K mg H' (.ov v o :: (pairs σ' ρ' ++ T)) [] → D.rt v H'
  | .exc _ _ => False
  | .no => False
end
def SSs (X : Cx) (P : List Nat) (st : List Stmt) (m : M Fl) : Prop := PSs X st (tS X.K X.mg P m)
section
end

section
end

section
end
end FB

namespace FB
open PySem PySem.Spec L2
open PyProof.Rows hiding St

mutual
def D.pd : D → PyData
  | .non => .none
  | .bl b => .bool b
  | .int i => .int i
  | .str s => .str s
  | .tup ds => .tuple (D.pds ds)
  | .lst ds => .list (D.pds ds)
  | .dct _ _ => .dict []
  | .ins _ _ _ => .dict []
  | .scr _ => .dict []
  | .fn _ => .dict []
  | .exc _ _ _ => .dict []
def D.pds : List D → List PyData
  | [] => []
  | d :: ds => d.pd :: D.pds ds
end
/-- no dict, no object, at most so deep -/
def D.okE : Nat → D → Bool
  | _, .non => true
  | _, .bl _ => true
  | _, .int _ => true
  | _, .str _ => true
  | 0, .tup _ => false
  | 0, .lst _ => false
  | n + 1, .tup ds => ds.all (D.okE n)
  | n + 1, .lst ds => ds.all (D.okE n)
  | _, .dct _ _ => false
  | _, .ins _ _ _ => false
  | _, .scr _ => false
  | _, .fn _ => false
  | _, .exc _ _ _ => false
section
end
def D.eqv (a b : D) : Bool := PyData.eqv a.pd b.pd

section
end
section
end

section
end
end FB

namespace FB
open PySem PySem.Spec L2
open PyProof.Rows hiding St

section
def eqO (a b : O) : Option O := if (a.toD.okE 9 && b.toD.okE 9) = true then some (.val (.bl (a.toD.eqv b.toD))) else none
end
end FB

namespace FB
open PySem PySem.Spec L2
open PyProof.Rows hiding St

section
variable {X : Cx} {K : PySem.W.Frag} {mg : Str → Option Value} {P : List Nat}
/-- what is wanted behind a statement that ends so -/
def Post (K : PySem.W.Frag) (mg : Str → Option Value) (P : List Nat) (T : List Item) (D : Ends) (σ : L2.St) : Res Fl → Prop
  | .ok .nx ρ' => ∀ σ' H', Fix P σ σ' → Cov σ' ρ' → Rep K mg H' (pairs σ' ρ' ++ T) [] → D.nx σ' H'
  | .ok .brk ρ' => ∀ σ' H', Fix P σ σ' → Cov σ' ρ' → Rep K mg H' (pairs σ' ρ' ++ T) [] → D.bk σ' H'
  | .ok .ct ρ' => ∀ σ' H', Fix P σ σ' → Cov σ' ρ' → Rep K mg H' (pairs σ' ρ' ++ T) [] → D.ct σ' H'
  | .ok (.ret o) ρ' => ∀ v σ' H', Fix P σ σ' → Cov σ' ρ' → Rep K mg H' (.ov v o :: (pairs σ' ρ' ++ T)) [] → D.rt v H'
  | .exc _ _ => False
  | .no => False
end
end FB

namespace FB
open PySem PySem.Spec L2
open PyProof.Rows hiding St

section
end

section
inductive Arg where
  | v (m : M O)
  | io (i : Nat)
end
end FB

namespace FB
open PySem PySem.Spec L2
open PyProof.Rows hiding St

section
variable {X : Cx} {K : PySem.W.Frag} {mg : Str → Option Value}
/-- an own class under its name, with the attributes that its instances may have -/
structure CO (K : PySem.W.Frag) (mg : Str → Option Value) (c : Str) (C : Addr) (fs : List Str) : Prop where
  mgc : mg c = some (.ref C)
  cl : Cls K C
  no : ∀ f ∈ fs, NoAttr K C f
end
end FB

namespace FB
open PySem PySem.Spec L2
open PyProof.Rows hiding St

def Res.nr {α : Type} : Res α → Res α
  | .ok a ρ => .ok a ρ
  | _ => .no
/-- raises nothing -/
def nx {α : Type} (m : M α) : M α := fun ρ => (m ρ).nr
section
/-- the items of an exception that is held -/
def ExI (x : Exn) (d : Option Addr) (I : List Item) : Prop := (x.ds = [] ∧ d = none ∧ I = []) ∨ ∃ dd vs, x.ds ≠ [] ∧ d = some dd ∧ vs.length = x.ds.length ∧ x.ns.length = x.ds.length ∧ I = .raw dd (.xd (x.ns.zip vs)) :: zipI vs (x.ds.map O.val)
end

section
variable {P : Program} {w : World} {K : PySem.W.Frag} {mg : Str → Option Value} {base : Heap}
/-- a def that may be called by its name -/
structure CalX (P : Program) (w : World) (K : PySem.W.Frag) (mg : Str → Option Value) (base : Heap) (k : Nat) (x : Str) (sp : Sp) : Prop where
  ex : ∃ (f : Addr) (fd : FuncData) (ps : List Str), FnOk P w K mg base (L2.CX P w) k f fd ps sp ∧ mg x = some (.ref f) ∧ PySem.W.keepIn K (.ref f) = true ∧ Binds K fd ps []
end
section
end
end FB

namespace FB
open PySem PySem.Spec L2
open PyProof.Rows hiding St

def subB (x y : Str) : Bool := decide (x = y) || decide (y = ("BoardError" : Str))
structure ExAll (K : PySem.W.Frag) (mg : Str → Option Value) (es : List Str) : Prop where
  gl : ∀ x ∈ es, mg x = some (.ref (He.ga K x))
  cc : ∀ x ∈ es, ExcC K (He.ga K x)
  kt : ∀ x ∈ es, ∀ y ∈ es, PySem.W.kitOne K (.ref (He.ga K x)) (.ref (He.ga K y)) = some (subB x y)
  em : ∀ x ∈ es, ∀ y ∈ es, PySem.W.exmOne K (.ref (He.ga K x)) (.ref (He.ga K y)) = some (subB x y)
  kv : ∀ x ∈ es, PySem.W.kitOne K (.ref (He.ga K x)) (.type "ValueError") = some true
def excCB (K : PySem.W.Frag) (D : Addr) : Bool := decide (PySem.W.findIn K (.ref D) "__getattribute__" = some (some (.builtin "BaseException.__getattribute__"))) && (decide (PySem.W.findIn K (.ref D) "__getattr__" = some none) && (decide (PySem.W.subIn K (.ref D) (.type "BaseException") = some true) && (PySem.W.hasDictIn K D && (decide (PySem.W.findIn K (.ref D) "__class__" = some (some (.builtin "object.__class__"))) &&
  (decide (PySem.W.specialIn K (.builtin "object.__class__") "__get__" = some (some (.builtin "getset_descriptor.__get__"))) && (decide (PySem.W.takesIn K (.builtin "object.__class__") = some true) && decide (PySem.W.mroIn K D (.type "object") = some true)))))))
def exAllB (es : List Str) (K : PySem.W.Frag) : Bool := es.all fun x => He.eqO (PySem.W.nsIn K mainGlobals x) (some (some (.ref (He.ga K x)))) && (excCB K (He.ga K x) && (decide (PySem.W.kitOne K (.ref (He.ga K x)) (.type "ValueError") = some true) &&
  es.all fun y => decide (PySem.W.kitOne K (.ref (He.ga K x)) (.ref (He.ga K y)) = some (subB x y)) && decide (PySem.W.exmOne K (.ref (He.ga K x)) (.ref (He.ga K y)) = some (subB x y))))
def xfB2 (es cs : List Str) (f : Str) (K : PySem.W.Frag) : Bool := cs.all fun c => decide (c ∈ es) && decide (PySem.W.findIn K (.ref (He.ga K c)) f = some none)
def obsP (px : List (PySem.W.Frag → Bool)) (fa : List He.Fa) (fn : List He.DefD) (K : PySem.W.Frag) : He.AlD := (((He.obsD fa fn K).1 && px.all fun p => p K), (He.obsD fa fn K).2)
def SaysP (px : List (PySem.W.Frag → Bool)) (fa : List He.Fa) (fn : List He.DefD) (K : PySem.W.Frag) : Prop := obsP px fa fn K = He.valD fn
section
variable {X : Cx} {K : PySem.W.Frag} {mg : Str → Option Value} {P : List Nat} {W : WX}
def FrE (a : Addr) (i : Nat) (I : List Item) (σ : L2.St) (T : List Item) : Prop := σ[i]? = some (some (.ref a)) ∧ ∃ T0, T.Perm (I ++ T0)
variable {a : Addr} {i : Nat} {I : List Item}
variable {x : Exn} {cls : Value} {d : Option Addr} {oe : Obj} {pn : List (Addr × Obj)} {es : List Str}
/-- what a suite knows of the exception -/
structure Held (X : Cx) (es : List Str) (x : Exn) (I : List Item) (cls : Value) (d : Option Addr) (oe : Obj) : Prop where
  cl : X.mg x.c = some cls
  it : ExI x d I
  z : Zc cls d oe
  f : ∃ vs, oe.data = .fields vs
end

section
variable {X : Cx} {K : PySem.W.Frag} {mg : Str → Option Value} {P : List Nat} {W : WX} {a : Addr} {i : Nat} {I : List Item}
def tSF (K : PySem.W.Frag) (mg : Str → Option Value) (P : List Nat) (a : Addr) (i : Nat) (I : List Item) (m : M Fl) : TS := fun D σ H => ∃ ρ T, Cov σ ρ ∧ FrE a i I σ T ∧ Rep K mg H (pairs σ ρ ++ T) [] ∧ Post K mg (i :: P) T D σ (m ρ)
def SSsF (X : Cx) (P : List Nat) (a : Addr) (i : Nat) (I : List Item) (st : List Stmt) (m : M Fl) : Prop := PSs X st (tSF X.K X.mg P a i I m)
end

section
end
end FB

namespace FB
open PySem PySem.Spec L2
open PyProof.Rows hiding St

/-- what is looked at of such a class -/
def oexB (K : PySem.W.Frag) (C : Addr) : Bool := (match K.lookup C with
  | some ⟨.type "type", _, .cls cd, sl⟩ => (match cd.mro, sl.toList with
    | .ref C' :: bm, [_, _, _, _, some (.builtin n), _] => C' == C && n == "ValueError.__new__" && cd.hasDict && !cd.hasDel && PySem.HandSPX.refsVE bm
    | _, _ => false)
  | _ => false) && (decide (PySem.W.findIn K (.ref C) "__setattr__" = some (some (.builtin "object.__setattr__"))) && (decide (PySem.W.subIn K (.ref C) (.type "BaseException") = some true) && (decide (PySem.W.typeIn K (.ref C) = some (.type "type")) && PySem.W.keepIn K (.ref C))))
/-- the base whose __init__ is called -/
structure BaseC (K : PySem.W.Frag) (mg : Str → Option Value) (B : Str) : Prop where
  mg : mg B = some (.ref (He.ga K B))
  rd : PySem.W.readsIn K (He.ga K B) (.type "type") = true
  ga : PySem.W.specialIn K (.ref (He.ga K B)) "__getattribute__" = some (some (.builtin "type.__getattribute__"))
  at_ : PySem.W.findCls K (.ref (He.ga K B)) (.type "type") "__init__" = some (.val (.builtin "ValueError.__init__"))
def baseB (B : Str) (K : PySem.W.Frag) : Bool := He.eqO (PySem.W.nsIn K mainGlobals B) (some (some (.ref (He.ga K B)))) && (PySem.W.readsIn K (He.ga K B) (.type "type") && (decide (PySem.W.specialIn K (.ref (He.ga K B)) "__getattribute__" = some (some (.builtin "type.__getattribute__"))) &&
  (match PySem.W.findCls K (.ref (He.ga K B)) (.type "type") "__init__" with
    | some (.val (.builtin n)) => n == "ValueError.__init__"
    | _ => false)))
/-- .. and the class's own __init__ -/
def ownInitB (c : Str) (fs : List Str) (K : PySem.W.Frag) : Bool := oexB K (He.ga K c) && (He.eqO (PySem.W.nsIn K mainGlobals c) (some (some (.ref (He.ga K c)))) && (He.eqO (PySem.W.findIn K (.ref (He.ga K c)) "__init__") (some (some (.ref (He.ma K (He.ga K c) "__init__")))) &&
  (decide (PySem.W.typeIn K (.ref (He.ma K (He.ga K c) "__init__")) = some (.type "function")) && fs.all fun f => decide (PySem.W.findIn K (.ref (He.ga K c)) f = some none))))
structure OwnInit (K : PySem.W.Frag) (mg : Str → Option Value) (c : Str) (fs : List Str) : Prop where
  mg : mg c = some (.ref (He.ga K c))
  ox : OexC K (He.ga K c)
  ic : PySem.W.findIn K (.ref (He.ga K c)) "__init__" = some (some (.ref (He.ma K (He.ga K c) "__init__")))
  ti : PySem.W.typeIn K (.ref (He.ma K (He.ga K c) "__init__")) = some (.type "function")
  no : ∀ f ∈ fs, PySem.W.findIn K (.ref (He.ga K c)) f = some none
def obsSG (px : List (PySem.W.Frag → Bool)) (n : Nat) (fa : List He.Fa) (fn : List He.DefD) (g : Addr → Option Obj) : He.AlD := obsP px fa fn (He.frG g (He.asD g n ++ [cStatics]))
def hookS (px : List (PySem.W.Frag → Bool)) (n : Nat) (fa : List He.Fa) (fn : List He.DefD) : PySem.W.Hook where
  α := He.AlD
  obs := fun s => obsSG px n fa fn s.heap.get?
  val := fun _ => He.valD fn
  says := fun _ h => ∃ K : PySem.W.Frag, K.In h ∧ SaysP px fa fn K
  of := fun _ _ e => ⟨_, He.frG_in, e⟩
  keeps := fun _ _ _ ⟨K, hK, c⟩ k => ⟨K, PySem.W.Frag.In.keeps hK k, c⟩
section
/-- what an own __init__ of these fields does -/
def spI (C : Addr) (fs : List Str) : Sp := fun vs H Q _ => ∃ a ws, vs = .ref a :: ws ∧ ws.length = fs.length ∧ H a = some (exo a C none) ∧
  ∀ d H2, H d = none → d ≠ a → H2 a = some (exo a C (some d)) → H2 d = some (exd d (fs.zip ws).reverse) → (∀ b, b ≠ a → b ≠ d → H2 b = H b) → Q .non H2
end
section
variable {P : Program} {w : World} {K : PySem.W.Frag} {mg : Str → Option Value} {base : Heap}
/-- an own error with fields that may be raised -/
structure MkX (P : Program) (w : World) (K : PySem.W.Frag) (mg : Str → Option Value) (base : Heap) (c : Str) (fs : List Str) : Prop where
  ow : OwnInit K mg c fs
  ex : ∃ (fd : FuncData) (ps : List Str), FnOk P w K mg base C8.CX0 1 (He.ma K (He.ga K c) "__init__") fd ps (spI (He.ga K c) fs) ∧ Binds K fd ps []
end
section
end
section
end
end FB

namespace FB
open PySem PySem.Spec L2
open PyProof.Rows hiding St
section
/-- the dict at d stands, locked or not -/
structure LkS (d : Addr) (kvs : List (Key × V)) (G G' : Hp) : Prop where
  ne : ∀ a, a ≠ d → G' a = G a
  rd : Rd G d (.dK kvs)
  rd' : Rd G' d (.dK kvs)
end
end FB

namespace FB
open PySem PySem.Spec L2
open PyProof.Rows hiding St
inductive All2 {α β : Type} (P : α → β → Prop) : List α → List β → Prop
  | nil : All2 P [] []
  | cons {x : α} {y : β} {xs : List α} {ys : List β} : P x y → All2 P xs ys → All2 P (x :: xs) (y :: ys)
end FB

namespace FB
open PySem PySem.Spec L2
open PyProof.Rows hiding St
def Okc (x : Str) : Prop := ∀ c ∈ x.cps.toList, c < 1114112
section
end
end FB

namespace FB
open PySem PySem.Spec L2
open PyProof.Rows hiding St
section
variable {P : Program} {w : World} {K : PySem.W.Frag} {mg : Str → Option Value} {base : Heap}
/-- a class that may be made, its __init__ may raise -/
structure MakX (P : Program) (w : World) (K : PySem.W.Frag) (mg : Str → Option Value) (base : Heap) (k : Nat) (x : Str) (C : Addr) (sp : Sp) : Prop where
  ex : ∃ (f : Addr) (fd : FuncData) (ps : List Str), Mk K C f ∧ FnOk P w K mg base (L2.CX P w) k f fd ps sp ∧ mg x = some (.ref C) ∧ Binds K fd ps []
/-- .. a def with defaults -/
structure CalXN (P : Program) (w : World) (K : PySem.W.Frag) (mg : Str → Option Value) (base : Heap) (k : Nat) (x : Str) (sp : Sp) (dvs : List V) : Prop where
  ex : ∃ (f : Addr) (fd : FuncData) (ps : List Str) (ds : List Value), FnOk P w K mg base (L2.CX P w) k f fd ps sp ∧ mg x = some (.ref f) ∧ PySem.W.keepIn K (.ref f) = true ∧ Binds K fd ps ds ∧ Vals dvs ds
end
section
end
end FB

namespace FB
open PySem PySem.Spec L2
open PyProof.Rows hiding St
section
variable {P : Program} {w : World} {K : PySem.W.Frag} {mg : Str → Option Value} {base : Heap}
/-- a method that may raise -/
structure MetX (P : Program) (w : World) (K : PySem.W.Frag) (mg : Str → Option Value) (base : Heap) (k : Nat) (C : Addr) (m : Str) (sp : Sp) : Prop where
  ex : ∃ (f : Addr) (fd : FuncData) (ps : List Str), Cls K C ∧ Meth K C m f ∧ FnOk P w K mg base (L2.CX P w) k f fd ps sp ∧ Binds K fd ps []
end
section
end
end FB
namespace FB
open PySem PySem.Spec L2
open PyProof.Rows hiding St
section
end
end FB

namespace FB
open PySem PySem.Spec L2
open PyProof.Rows hiding St
section
variable {X : Cx} {K : PySem.W.Frag} {mg : Str → Option Value}
/-- a step down an own tree -/
inductive Stp where
  | fld (c f : Str)
  | key (k : Key)
inductive PathV (mg : Str → Option Value) (H : Hp) : V → List Stp → V → Prop
  | nil {v : V} : PathV mg H v [] v
  | fld {p C dx : Addr} {fs : List (Str × V)} {c f : Str} {u w : V} {ps : List Stp} : mg c = some (.ref C) → H p = some (.ins C dx fs) → fs.lookup f = some u → PathV mg H u ps w → PathV mg H (.ref p) (.fld c f :: ps) w
  | key {p : Addr} {kvs : List (Key × V)} {k : Key} {u w : V} {ps : List Stp} : H p = some (.dK kvs) → valV kvs k = some u → PathV mg H u ps w → PathV mg H (.ref p) (.key k :: ps) w
end
section
end
end FB

namespace FB
open PySem PySem.Spec L2
open PyProof.Rows hiding St
section
variable {X : Cx} {K : PySem.W.Frag} {mg : Str → Option Value}
def tKvs (K : PySem.W.Frag) (mg : Str → Option Value) (ks : List Str) (m : M (List O)) : L2.St → Hp → (List (V × V) → Hp → Prop) → Prop := fun σ H Q => ∃ ρ T os ρ', Cov σ ρ ∧ Rep K mg H (pairs σ ρ ++ T) [] ∧ m ρ = .ok os ρ' ∧ os.length = ks.length ∧ ∀ vs H', Cov σ ρ' → vs.length = os.length → Rep K mg H' (zipI vs os ++ (pairs σ ρ' ++ T)) [] → Q ((ks.map V.str).zip vs) H'
structure SDs (X : Cx) (pos : Pos) (keys : List (Option Expr)) (values : List Expr) (ks : List Str) (m : M (List O)) : Prop where
  tr : ∃ trs, PPs X pos keys values trs ∧ ∀ (σ : L2.St) (H : Hp) (Q : List (V × V) → Hp → Prop), tKvs X.K X.mg ks m σ H Q → tPairs trs σ H Q
  all : keys.all (·.isSome) = true
  len : keys.length = values.length
end
end FB

namespace FB
open PySem PySem.Spec L2
open PyProof.Rows hiding St
section
variable {P : Program} {w : World} {K : PySem.W.Frag} {mg : Str → Option Value} {base : Heap}
/-- what a def does where no text is being made -/
structure FnG (P : Program) (w : World) (K : PySem.W.Frag) (mg : Str → Option Value) (base : Heap) (k : Nat) (f : Addr) (fd : FuncData) (ps : List Str) (sp : Sp) : Prop where
  len : ∀ vs H Q E, sp vs H Q E → vs.length = ps.length
  run : ∀ (A : Around) (outer : List PySem.Env) (s : Shared) (H : Hp) (args : Args) (us : List Value) (vs : List V) (Q : VK) (E : XK), Room k A → A.guards = some [] → Env0 P w K mg base A outer s H → BindsTo s fd args (ps.zip us) → Vals vs us → sp vs H Q E →
    codeAny (model P w) A (.call (.ref f) args) (CR C8.CX0 outer P w H s Q E) s
structure CalG (P : Program) (w : World) (K : PySem.W.Frag) (mg : Str → Option Value) (base : Heap) (k : Nat) (x : Str) (sp : Sp) : Prop where
  ex : ∃ (f : Addr) (fd : FuncData) (ps : List Str), FnG P w K mg base k f fd ps sp ∧ mg x = some (.ref f) ∧ PySem.W.keepIn K (.ref f) = true ∧ Binds K fd ps []
end
section
end
end FB

namespace FB
open PySem PySem.Spec L2
open PyProof.Rows hiding St
section
/-- what is read of a value -/
structure RdN (h : Heap) (u : Value) (d : PyData) (n : Nat) (as : List Addr) : Prop where
  rd : Reads h u d as
  sm : sysModules ∉ as
  dp : d.depth ≤ n
  ok : Okc d.shown
structure RdNs (h : Heap) (us : List Value) (ds : List PyData) (n : Nat) (as : List Addr) : Prop where
  rd : ReadsAll h us ds as
  sm : sysModules ∉ as
  dp : PyData.depthAll ds ≤ n
  ok : ∀ d ∈ ds, Okc d.shown
end
end FB

namespace FB
open PySem PySem.Spec L2
open PyProof.Rows hiding St
section
end
section
/-- what is known of a tuple's object -/
structure TupA (P : Program) (w : World) (h : Heap) (a : Addr) (ps : List PyData) (n : Nat) (as bs : List Addr) (o : Obj) (its : Array Value) (m : Nat) : Prop where
  ho : h.get? a = some o
  hd : o.data = .seq its m
  rd : ReadsAll h its.toList ps as
  dp : PyData.depthAll ps ≤ n + 1
  okc : ∀ p ∈ ps, Okc p.shown
  na : a ∉ bs
  am : ReadAtMost h (PyData.depthAll ps) bs
  k : ReprAllK P w bs h (PyData.depthAll ps) its.toList (PyData.shownAll ps)
end
end FB

namespace FB
open PySem PySem.Spec L2
open PyProof.Rows hiding St
open HotX L2H
section
variable {prog : Program} {w : World} {A : Around} {E : Value → Shared → Prop} {s : Shared}
/-- what holds ahead of a turn of the walk over the pairs: i are done, acc is told, rest is to come -/
structure Fill (prog : Program) (w : World) (A : Around) (x1 S I l : Addr) (items : Array Value) (i : Nat) (acc rest : List (Key × Value)) (h : Heap) : Prop where
  hot : HotAt A x1 h
  it : h.IsListIter I l i
  lst : h.IsList l items
  dct : h.DictOf (mixKind prog w) S acc
  prs : ∀ (j : Nat) (q : Key × Value), rest[j]? = some q → ∃ (b : Addr) (u : Value), items[i + j]? = some (.ref b) ∧ b ≠ S ∧ b ≠ I ∧ IsTup h b #[u, q.2] ∧ keyIs q.1 u = true
end
end FB

namespace FB
open PySem PySem.Spec L2
open PyProof.Rows hiding St
open HotX L2H
section
end
section
variable {P : Program} {w : World} {K : PySem.W.Frag} {mg : Str → Option Value} {base : Heap}
/-- a def that may be called by its name while an exception is handled -/
structure CalH (P : Program) (w : World) (K : PySem.W.Frag) (mg : Str → Option Value) (base : Heap) (k : Nat) (x : Str) (sp : Sp) : Prop where
  ex : ∃ (f : Addr) (fd : FuncData) (ps : List Str), FnH P w K mg base C8.CX0 k f fd ps sp ∧ mg x = some (.ref f) ∧ PySem.W.keepIn K (.ref f) = true ∧ Binds K fd ps []
end
section
end
end FB

namespace FB
open PySem PySem.Spec L2
open PyProof.Rows hiding St
section
variable {X : Cx} {pins : List (Addr × Obj)} {B : Heap} {a : Addr} {cls : Value} {d : Option Addr} {σ : L2.St} {H : Hp} {sI s : Shared}
/-- the exception at a is caught; what the body left stands at sI -/
structure Cgt (X : Cx) (pins : List (Addr × Obj)) (B : Heap) (a : Addr) (cls : Value) (d : Option Addr) (σ : L2.St) (H : Hp) (sI s : Shared) : Prop where
  inv : Inv X pins σ H sI
  nb : ∀ b o, sI.heap.get? b = some o → b ∉ frs X.stack → B.get? b = some o
  up : sI.heap.UpToSlots s.heap
  fl : HandSPX.FlyingZ B (X.env :: X.outer) a (Zc cls d) s.heap
  na : H a = none
  os : s.os = sI.os
  ag : AllBare s.gens
/-- a clause's class, its name's slot, its suite -/
abbrev Cla := Value × Option Nat × (Addr → Value → Option Addr → TS)
inductive HdsN (X : Cx) : List ExceptHandler → List Cla → Prop
  | nil : HdsN X [] []
  | plain {x : Str} {c : Value} {ts : Addr → Value → Option Addr → TS} {b₀ : Stmt} {suite : List Stmt} {np pos : Pos} {hds : List ExceptHandler} {l : List Cla} (hc : Names X x c)
      (hsu : ∀ (a : Addr) (oe : Obj) (cls : Value) (d : Option Addr) (pn : List (Addr × Obj)), Zc cls d oe → (∃ vs, oe.data = .fields vs) → PSs (X.suite a ((a, oe) :: pn)) (b₀ :: suite) (ts a cls d)) (r : HdsN X hds l) :
      HdsN X (.ExceptHandler (some (.Name x np)) none (b₀ :: suite) pos :: hds) ((c, none, ts) :: l)
  | named {x n : Str} {i : Nat} {c : Value} {ts : Addr → Value → Option Addr → TS} {b₀ : Stmt} {suite : List Stmt} {np pos : Pos} {hds : List ExceptHandler} {l : List Cla} (hc : Names X x c) (hi : X.N[i]? = some n) (hln : X.env.kindOf n = some .local)
      (hsu : ∀ (a : Addr) (oe : Obj) (cls : Value) (d : Option Addr) (pn : List (Addr × Obj)), Zc cls d oe → (∃ vs, oe.data = .fields vs) → PSs (X.suite a ((a, oe) :: pn)) (b₀ :: suite) (ts a cls d)) (r : HdsN X hds l) :
      HdsN X (.ExceptHandler (some (.Name x np)) (some n) (b₀ :: suite) pos :: hds) ((c, some i, ts) :: l)
end
end FB

namespace FB
open PySem PySem.Spec L2
open PyProof.Rows hiding St
section
variable {X : Cx} {P : List Nat} {W : WX}
/-- a clause: its class, its name's slot, its suite -/
abbrev Clz := Str × Option Nat × (Exn → M Fl)
inductive ClsOk (X : Cx) (P : List Nat) (es : List Str) : List ExceptHandler → List Clz → List Cla → Prop
  | nil : ClsOk X P es [] [] []
  | plain {y : Str} {s : M Fl} {b₀ : Stmt} {suite : List Stmt} {np pos : Pos} {hds : List ExceptHandler} {cs : List Clz} {l : List Cla} (hg : Gl X y) (hy : y ∈ es) (hdy : (y == ("__debug__" : Str)) = false)
      (hsu : ∀ (a : Addr) (pn : List (Addr × Obj)), SSs (X.suite a pn) P (b₀ :: suite) s) (r : ClsOk X P es hds cs l) :
      ClsOk X P es (.ExceptHandler (some (.Name y np)) none (b₀ :: suite) pos :: hds) ((y, none, fun _ => s) :: cs) ((.ref (He.ga X.K y), none, fun _ _ _ => tS X.K X.mg P s) :: l)
  | named {y n : Str} {i : Nat} {s : Exn → M Fl} {b₀ : Stmt} {suite : List Stmt} {np pos : Pos} {hds : List ExceptHandler} {cs : List Clz} {l : List Cla} (hg : Gl X y) (hy : y ∈ es) (hdy : (y == ("__debug__" : Str)) = false) (hi : X.N[i]? = some n) (hln : X.env.kindOf n = some .local) (hP : i ∉ P)
      (hsu : ∀ (a : Addr) (oe : Obj) (cls : Value) (d : Option Addr) (pn : List (Addr × Obj)) (x : Exn) (I : List Item), Held X es x I cls d oe → SSsF (X.suite a ((a, oe) :: pn)) P a i I (b₀ :: suite) (s x)) (r : ClsOk X P es hds cs l) :
      ClsOk X P es (.ExceptHandler (some (.Name y np)) (some n) (b₀ :: suite) pos :: hds) ((y, some i, s) :: cs) ((.ref (He.ga X.K y), some i, fun a cls d D σ H => ∃ x I, X.mg x.c = some cls ∧ ExI x d I ∧ tSF X.K X.mg P a i I (s x) D σ H) :: l)
end
end FB

namespace FB
open PySem PySem.Spec L2
open PyProof.Rows hiding St

def txsB : List Value → List Str → Bool
  | [], [] => true
  | .str x _ :: vs, y :: ys => decide (x = y) && (PyData.strOk y && txsB vs ys)
  | _, _ => false
def ktupB (K : PySem.W.Frag) (a : Addr) (r : List Str) : Bool := match K.lookup a with
  | some ⟨.type c, _, .seq its _, _⟩ => decide (c = "tuple") && (decide (its.size ≤ 1000) && txsB its.toList r)
  | _ => false
/-- a dict of the module, as it stands -/
structure MDic (w : World) (K : PySem.W.Frag) (mg : Str → Option Value) (x : Str) (kvs : List (Str × List Str)) : Prop where
  mg : mg x = some (.ref (He.ga K x))
  kd : ∃ es n, KDict K w (He.ga K x) es n
  is : ∀ z r, kvs.lookup z = some r → ∃ a, PySem.W.nsIn K (He.ga K x) z = some (some (.ref a)) ∧ ktupB K a r = true
  no : ∀ z, kvs.lookup z = none → PySem.W.nsIn K (He.ga K x) z = some none
section
end
section
end
section
end
end FB

namespace Wk
open PySem PySem.Spec L2 FB
open PyProof.Rows hiding St
def top (i : Nat) : Stmt := PySem.Challenge.pw_fuseboard_k07_refusals_made.main.body.getD i (.Pass ⟨0, 0, 0, 0⟩)
abbrev es : List Str := ["BoardError", "NoBoard", "NoText", "NoEvent", "Loud", "Blind", "NoPlace", "NoDeed", "NoTurn", "NoRow"]
structure Fr (K : PySem.W.Frag) (mg : Str → Option Value) : Prop where
  n_ : True
  ex : ExAll K mg es
  xf_greatness : ∀ c ∈ (["Blind"] : List Str), c ∈ es ∧ PySem.W.findIn K (.ref (He.ga K c)) "greatness" = some none
  xf_guard : ∀ c ∈ (["Loud"] : List Str), c ∈ es ∧ PySem.W.findIn K (.ref (He.ga K c)) "guard" = some none
  xf_line : ∀ c ∈ (["NoText"] : List Str), c ∈ es ∧ PySem.W.findIn K (.ref (He.ga K c)) "line" = some none
  xf_lower : ∀ c ∈ (["Blind"] : List Str), c ∈ es ∧ PySem.W.findIn K (.ref (He.ga K c)) "lower" = some none
  xf_number : ∀ c ∈ (["NoBoard", "NoEvent"] : List Str), c ∈ es ∧ PySem.W.findIn K (.ref (He.ga K c)) "number" = some none
  xf_upper : ∀ c ∈ (["Blind"] : List Str), c ∈ es ∧ PySem.W.findIn K (.ref (He.ga K c)) "upper" = some none
  xf_word : ∀ c ∈ (["NoBoard"] : List Str), c ∈ es ∧ PySem.W.findIn K (.ref (He.ga K c)) "word" = some none
  xx_NoDeed : PySem.W.excIn K (He.ga K "NoDeed") He.veBase "ValueError.__new__" = true ∧ PySem.W.keepIn K (.ref (He.ga K "NoDeed")) = true ∧ PySem.W.subIn K (.ref (He.ga K "NoDeed")) (.type "BaseException") = some true ∧ PySem.W.typeIn K (.ref (He.ga K "NoDeed")) = some (.type "type")
  xx_NoPlace : PySem.W.excIn K (He.ga K "NoPlace") He.veBase "ValueError.__new__" = true ∧ PySem.W.keepIn K (.ref (He.ga K "NoPlace")) = true ∧ PySem.W.subIn K (.ref (He.ga K "NoPlace")) (.type "BaseException") = some true ∧ PySem.W.typeIn K (.ref (He.ga K "NoPlace")) = some (.type "type")
  xx_NoRow : PySem.W.excIn K (He.ga K "NoRow") He.veBase "ValueError.__new__" = true ∧ PySem.W.keepIn K (.ref (He.ga K "NoRow")) = true ∧ PySem.W.subIn K (.ref (He.ga K "NoRow")) (.type "BaseException") = some true ∧ PySem.W.typeIn K (.ref (He.ga K "NoRow")) = some (.type "type")
  xx_NoTurn : PySem.W.excIn K (He.ga K "NoTurn") He.veBase "ValueError.__new__" = true ∧ PySem.W.keepIn K (.ref (He.ga K "NoTurn")) = true ∧ PySem.W.subIn K (.ref (He.ga K "NoTurn")) (.type "BaseException") = some true ∧ PySem.W.typeIn K (.ref (He.ga K "NoTurn")) = some (.type "type")
  n_ValueError : mg "ValueError" = none
  n_isinstance : mg "isinstance" = none
  n_len : mg "len" = none
  n_list : mg "list" = none
  n_range : mg "range" = none
abbrev s__law_stream : Stmt := top 12
abbrev s__law_take : Stmt := top 13
abbrev s__law_word : Stmt := top 14
abbrev s__law_kinds : Stmt := top 15
abbrev s__law_caught : Stmt := top 16
abbrev s_law : Stmt := top 17
abbrev s_Blind___init__ : Stmt := (C8.clsBody (top 6)).getD 0 (.Pass ⟨0, 0, 0, 0⟩)
abbrev s_Loud___init__ : Stmt := (C8.clsBody (top 5)).getD 0 (.Pass ⟨0, 0, 0, 0⟩)
abbrev s_NoBoard___init__ : Stmt := (C8.clsBody (top 2)).getD 0 (.Pass ⟨0, 0, 0, 0⟩)
abbrev s_NoEvent___init__ : Stmt := (C8.clsBody (top 4)).getD 0 (.Pass ⟨0, 0, 0, 0⟩)
abbrev s_NoText___init__ : Stmt := (C8.clsBody (top 3)).getD 0 (.Pass ⟨0, 0, 0, 0⟩)
section
end
def d__law_stream : He.DefD := ⟨("_law_stream", none), "_law_stream", "_law_stream", C8.fnArgs s__law_stream, C8.fnBody s__law_stream, C8.fnScope s__law_stream, [], []⟩
def d__law_take : He.DefD := ⟨("_law_take", none), "_law_take", "_law_take", C8.fnArgs s__law_take, C8.fnBody s__law_take, C8.fnScope s__law_take, [], []⟩
def d__law_word : He.DefD := ⟨("_law_word", none), "_law_word", "_law_word", C8.fnArgs s__law_word, C8.fnBody s__law_word, C8.fnScope s__law_word, [], []⟩
def d__law_kinds : He.DefD := ⟨("_law_kinds", none), "_law_kinds", "_law_kinds", C8.fnArgs s__law_kinds, C8.fnBody s__law_kinds, C8.fnScope s__law_kinds, [], []⟩
def d__law_caught : He.DefD := ⟨("_law_caught", none), "_law_caught", "_law_caught", C8.fnArgs s__law_caught, C8.fnBody s__law_caught, C8.fnScope s__law_caught, [], []⟩
def d_law : He.DefD := ⟨("law", none), "law", "law", C8.fnArgs s_law, C8.fnBody s_law, C8.fnScope s_law, [], []⟩
def d_Blind___init__ : He.DefD := ⟨("Blind", some "__init__"), "__init__", "Blind.__init__", C8.fnArgs s_Blind___init__, C8.fnBody s_Blind___init__, C8.fnScope s_Blind___init__, [], []⟩
def d_Loud___init__ : He.DefD := ⟨("Loud", some "__init__"), "__init__", "Loud.__init__", C8.fnArgs s_Loud___init__, C8.fnBody s_Loud___init__, C8.fnScope s_Loud___init__, [], []⟩
def d_NoBoard___init__ : He.DefD := ⟨("NoBoard", some "__init__"), "__init__", "NoBoard.__init__", C8.fnArgs s_NoBoard___init__, C8.fnBody s_NoBoard___init__, C8.fnScope s_NoBoard___init__, [], []⟩
def d_NoEvent___init__ : He.DefD := ⟨("NoEvent", some "__init__"), "__init__", "NoEvent.__init__", C8.fnArgs s_NoEvent___init__, C8.fnBody s_NoEvent___init__, C8.fnScope s_NoEvent___init__, [], []⟩
def d_NoText___init__ : He.DefD := ⟨("NoText", some "__init__"), "__init__", "NoText.__init__", C8.fnArgs s_NoText___init__, C8.fnBody s_NoText___init__, C8.fnScope s_NoText___init__, [], []⟩
def fn : List He.DefD := [d__law_stream, d__law_take, d__law_word, d__law_kinds, d__law_caught, d_law, d_Blind___init__, d_Loud___init__, d_NoBoard___init__, d_NoEvent___init__, d_NoText___init__]
def fa : List He.Fa := [.glo "_law_stream", .glo "_law_take", .glo "_law_word", .glo "_law_kinds", .glo "_law_caught", .glo "law", .free "ValueError", .free "isinstance", .free "len", .free "list", .free "range", .exc "NoDeed", .exc "NoPlace", .exc "NoRow", .exc "NoTurn"]
abbrev R : PySem.W.OpenRow := PySem.W.OpenLaw.row PySem.Challenge.rw_fuseboard_k07_refusals_made
def px : List (PySem.W.Frag → Bool) := [exAllB es, xfB2 es ["Blind"] "greatness", xfB2 es ["Loud"] "guard", xfB2 es ["NoText"] "line", xfB2 es ["Blind"] "lower", xfB2 es ["NoBoard", "NoEvent"] "number", xfB2 es ["Blind"] "upper", xfB2 es ["NoBoard"] "word", ownInitB "Blind" ["lower", "upper", "greatness"], ownInitB "Loud" ["guard"], ownInitB "NoBoard" ["word", "number"], ownInitB "NoEvent" ["number"], ownInitB "NoText" ["line"], baseB "BoardError"]
def hk : PySem.W.Hook := hookS px 6 fa fn
def ob (s : PySem.W.SharedT) : He.AlD := obsSG px 6 fa fn (HandSHeadRun.getT s)
def loose : List PySem.Str := ([("__name__" : PySem.Str), ("BoardError" : PySem.Str), ("NoBoard" : PySem.Str), ("NoText" : PySem.Str), ("NoEvent" : PySem.Str), ("Loud" : PySem.Str), ("Blind" : PySem.Str), ("NoPlace" : PySem.Str), ("NoDeed" : PySem.Str), ("NoTurn" : PySem.Str), ("NoRow" : PySem.Str), ("_law_stream" : PySem.Str), ("_law_take" : PySem.Str), ("_law_word" : PySem.Str), ("_law_kinds" : PySem.Str), ("_law_caught" : PySem.Str)] : List PySem.Str) ++ ([("_law_take" : PySem.Str), ("_law_word" : PySem.Str), ("_law_kinds" : PySem.Str), ("_law_caught" : PySem.Str)] : List PySem.Str)
theorem run (w : World) : HandSHeadRun.RunEq R (PySem.W.view R.prog [17]) hk ob 4000 loose w := by
  intro os
  kernel_rfl
end Wk

/-! Data trees (D: shared, never changed; O: owned, may be changed) and what it means that a heap holds them. -/
namespace FB
open PySem PySem.Spec L2
open PyProof.Rows hiding St

theorem toDs_map : ∀ os : List O, O.toDs os = os.map O.toD
  | [] => rfl
  | o :: os => by show o.toD :: O.toDs os = _; rw [toDs_map os]; rfl
theorem toDs_vals : ∀ ds : List D, O.toDs (ds.map O.val) = ds
  | [] => rfl
  | d :: ds => by show d :: O.toDs (ds.map O.val) = _; rw [toDs_vals ds]

/-! ### what a heap shows -/

theorem sameNew {H : Hp} {p : Addr} {o : HO} (h : H p = none) : Same H (upd H p o) := fun a u e => by rw [upd_ne (ne_of_none e h)]; exact e
theorem Same.rd {H H' : Hp} {a : Addr} {u : HO} (e : Same H H') (h : Rd H a u) : Rd H' a u := by
  rcases h with h | ⟨o, h⟩
  · exact .inl (e _ _ h)
  · exact .inr ⟨o, e _ _ h⟩
theorem Same.seqT {K : PySem.W.Frag} {H H' : Hp} {a : Addr} {xs : List V} (e : Same H H') (h : SqT K H a xs) : SqT K H' a xs := by
  rcases h with h | h
  · exact .inl (FB.Same.rd e h)
  · exact .inr h

section
variable {K : PySem.W.Frag} {mg : Str → Option Value}
mutual
theorem Vw.mono {G G' : Hp} (e : Same G G') : ∀ {v : V} {d : D}, Vw K mg G v d → Vw K mg G' v d
  | _, _, .non => .non
  | _, _, .bl b => .bl b
  | _, _, .int i => .int i
  | _, _, .str s h => .str s h
  | _, _, .tup h hs => .tup (FB.Same.seqT e h) (Vws.mono e hs)
  | _, _, .lst h hs => .lst (FB.Same.rd e h) (Vws.mono e hs)
  | _, _, .scr h => .scr (Same.seq e h)
  | _, _, .fn h => .fn h
  | _, _, .dct h hk hs => .dct (FB.Same.rd e h) hk (Vws.mono e hs)
  | _, _, .ins h hm hn hs => .ins (e _ _ h) hm hn (Vws.mono e hs)
  | _, _, .exc h hd hm hn hs => .exc (e _ _ h) (e _ _ hd) hm hn (Vws.mono e hs)
  | _, _, .exn h hm => .exn (e _ _ h) hm
theorem Vws.mono {G G' : Hp} (e : Same G G') : ∀ {vs : List V} {ds : List D}, Vws K mg G vs ds → Vws K mg G' vs ds
  | _, _, .nil => .nil
  | _, _, .cons h t => .cons (Vw.mono e h) (Vws.mono e t)
end
theorem Vws.length {G : Hp} : ∀ {vs : List V} {ds : List D}, Vws K mg G vs ds → vs.length = ds.length
  | _, _, .nil => rfl
  | _, _, .cons _ t => by simp [Vws.length t]
theorem Vws.get {G : Hp} : ∀ {vs : List V} {ds : List D} {i : Nat} {d : D}, Vws K mg G vs ds → ds[i]? = some d → ∃ v, vs[i]? = some v ∧ Vw K mg G v d
  | _, _, _, _, .nil, e => by simp at e
  | _, _, 0, _, .cons h _, e => by simp at e; subst e; exact ⟨_, rfl, h⟩
  | _, _, i + 1, _, .cons _ t, e => by
    obtain ⟨v, h1, h2⟩ := Vws.get (i := i) t (by simpa using e)
    exact ⟨v, by simpa using h1, h2⟩
theorem Vws.append {G : Hp} : ∀ {vs ws : List V} {ds es : List D}, Vws K mg G vs ds → Vws K mg G ws es → Vws K mg G (vs ++ ws) (ds ++ es)
  | _, _, _, _, .nil, h => h
  | _, _, _, _, .cons h t, q => .cons h (Vws.append t q)
theorem Vws.take {G : Hp} : ∀ {vs : List V} {ds : List D} (n : Nat), Vws K mg G vs ds → Vws K mg G (vs.take n) (ds.take n)
  | _, _, 0, _ => by simp; exact .nil
  | _, _, _ + 1, .nil => .nil
  | _, _, n + 1, .cons h t => .cons h (Vws.take n t)
theorem Vws.drop {G : Hp} : ∀ {vs : List V} {ds : List D} (n : Nat), Vws K mg G vs ds → Vws K mg G (vs.drop n) (ds.drop n)
  | _, _, 0, h => h
  | _, _, _ + 1, .nil => .nil
  | _, _, n + 1, .cons _ t => Vws.drop n t
theorem Vws.reverse {G : Hp} : ∀ {vs : List V} {ds : List D}, Vws K mg G vs ds → Vws K mg G vs.reverse ds.reverse
  | _, _, .nil => .nil
  | _, _, .cons h t => by
    rw [List.reverse_cons, List.reverse_cons]
    exact Vws.append (Vws.reverse t) (.cons h .nil)
theorem Vws.set {G : Hp} {x : V} {e : D} (h : Vw K mg G x e) : ∀ {vs : List V} {ds : List D} (n : Nat), Vws K mg G vs ds → Vws K mg G (vs.set n x) (ds.set n e)
  | _, _, _, .nil => .nil
  | _, _, 0, .cons _ t => .cons h t
  | _, _, n + 1, .cons q t => .cons q (Vws.set h n t)
theorem Vws.ints {G : Hp} : ∀ ns : List Int, Vws K mg G (ns.map V.int) (ns.map D.int)
  | [] => .nil
  | n :: ns => .cons (.int n) (Vws.ints ns)

/-! ### owned trees -/
mutual
theorem VO.mono {G G' H H' : Hp} (e : Same G G') : ∀ {v : V} {o : O} {as : List Addr}, VO K mg G H v o as → (∀ a ∈ as, H' a = H a) → VO K mg G' H' v o as
  | _, _, _, .val h, _ => .val (h.mono e)
  | _, _, _, .lst h hs, q => .lst ((q _ (by simp)).trans h) (VOs.mono e hs fun a ha => q a (by simp [ha]))
  | _, _, _, .dct h hk hs, q => .dct ((q _ (by simp)).trans h) hk (VOs.mono e hs fun a ha => q a (by simp [ha]))
  | _, _, _, .ins h hm hn hs, q => .ins ((q _ (by simp)).trans h) hm hn (VOs.mono e hs fun a ha => q a (by simp [ha]))
theorem VOs.mono {G G' H H' : Hp} (e : Same G G') : ∀ {vs : List V} {os : List O} {as : List Addr}, VOs K mg G H vs os as → (∀ a ∈ as, H' a = H a) → VOs K mg G' H' vs os as
  | _, _, _, .nil, _ => .nil
  | _, _, _, .cons h t, q => .cons (VO.mono e h fun a ha => q a (by simp [ha])) (VOs.mono e t fun a ha => q a (by simp [ha]))
end
mutual
theorem VO.frz {G G' H : Hp} (e : Same G G') : ∀ {v : V} {o : O} {as : List Addr}, VO K mg G H v o as → (∀ a ∈ as, G' a = H a) → Vw K mg G' v o.toD
  | _, _, _, .val h, _ => h.mono e
  | _, _, _, .lst h hs, q => .lst (.inl ((q _ (by simp)).trans h)) (VOs.frz e hs fun a ha => q a (by simp [ha]))
  | _, _, _, .dct h hk hs, q => .dct (.inl ((q _ (by simp)).trans h)) hk (VOs.frz e hs fun a ha => q a (by simp [ha]))
  | _, _, _, .ins h hm hn hs, q => .ins ((q _ (by simp)).trans h) hm hn (VOs.frz e hs fun a ha => q a (by simp [ha]))
theorem VOs.frz {G G' H : Hp} (e : Same G G') : ∀ {vs : List V} {os : List O} {as : List Addr}, VOs K mg G H vs os as → (∀ a ∈ as, G' a = H a) → Vws K mg G' vs (O.toDs os)
  | _, _, _, .nil, _ => .nil
  | _, _, _, .cons h t, q => .cons (VO.frz e h fun a ha => q a (by simp [ha])) (VOs.frz e t fun a ha => q a (by simp [ha]))
end
mutual
theorem VO.dom {G H : Hp} : ∀ {v : V} {o : O} {as : List Addr}, VO K mg G H v o as → ∀ a ∈ as, ∃ u, H a = some u
  | _, _, _, .val _, a, ha => by simp at ha
  | _, _, _, .lst h hs, a, ha => by
    rcases List.mem_cons.mp ha with e | ha
    · exact ⟨_, e ▸ h⟩
    · exact VOs.dom hs a ha
  | _, _, _, .dct h hk hs, a, ha => by
    rcases List.mem_cons.mp ha with e | ha
    · exact ⟨_, e ▸ h⟩
    · exact VOs.dom hs a ha
  | _, _, _, .ins h hm hn hs, a, ha => by
    rcases List.mem_cons.mp ha with e | ha
    · exact ⟨_, e ▸ h⟩
    · exact VOs.dom hs a ha
theorem VOs.dom {G H : Hp} : ∀ {vs : List V} {os : List O} {as : List Addr}, VOs K mg G H vs os as → ∀ a ∈ as, ∃ u, H a = some u
  | _, _, _, .nil, a, ha => by simp at ha
  | _, _, _, .cons h t, a, ha => by
    rcases List.mem_append.mp ha with ha | ha
    · exact VO.dom h a ha
    · exact VOs.dom t a ha
end
theorem VOs.length {G H : Hp} : ∀ {vs : List V} {os : List O} {as : List Addr}, VOs K mg G H vs os as → vs.length = os.length
  | _, _, _, .nil => rfl
  | _, _, _, .cons _ t => by simp [VOs.length t]
theorem VOs.get {G H : Hp} : ∀ {vs : List V} {os : List O} {as : List Addr} {i : Nat} {o : O}, VOs K mg G H vs os as → os[i]? = some o → ∃ v bs, vs[i]? = some v ∧ VO K mg G H v o bs
  | _, _, _, _, _, .nil, e => by simp at e
  | _, _, _, 0, _, .cons h _, e => by simp at e; subst e; exact ⟨_, _, rfl, h⟩
  | _, _, _, i + 1, _, .cons _ t, e => by
    obtain ⟨v, bs, h1, h2⟩ := VOs.get (i := i) t (by simpa using e)
    exact ⟨v, bs, by simpa using h1, h2⟩
theorem VOs.vals {G H : Hp} : ∀ {vs : List V} {ds : List D}, Vws K mg G vs ds → VOs K mg G H vs (ds.map O.val) []
  | _, _, .nil => .nil
  | _, _, .cons h t => .cons (as := []) (.val h) (VOs.vals t)
theorem VOs.of_vals {G H : Hp} : ∀ {vs : List V} {ds : List D} {as : List Addr}, VOs K mg G H vs (ds.map O.val) as → Vws K mg G vs ds ∧ as = []
  | _, [], _, .nil => ⟨.nil, rfl⟩
  | _, d :: ds, _, .cons (.val h) t => by
    obtain ⟨q, e⟩ := VOs.of_vals (ds := ds) t
    subst e
    exact ⟨.cons h q, rfl⟩

/-! ### items, and a heap that holds them apart -/
theorem ers_ne {d a : Addr} {G : Hp} (h : a ≠ d) : ers d G a = G a := if_neg h
theorem ers_some {d a : Addr} {G : Hp} {o : HO} (h : ers d G a = some o) : a ≠ d ∧ G a = some o := by
  by_cases e : a = d
  · unfold ers at h; rw [if_pos e] at h; cases h
  · exact ⟨e, by rw [ers_ne e] at h; exact h⟩
theorem ers_same {d : Addr} {G G' : Hp} (h : Same G G') : Same (ers d G) (ers d G') := fun a o e => by
  obtain ⟨h1, h2⟩ := ers_some e
  rw [ers_ne h1]; exact h _ _ h2
theorem hide_in {H : Hp} {A : List Addr} {a : Addr} (h : a ∈ A) : hide H A a = none := if_pos h
theorem hide_out {H : Hp} {A : List Addr} {a : Addr} (h : a ∉ A) : hide H A a = H a := if_neg h
theorem hide_some {H : Hp} {A : List Addr} {a : Addr} {o : HO} (h : hide H A a = some o) : a ∉ A ∧ H a = some o := by
  by_cases ha : a ∈ A
  · rw [hide_in ha] at h; cases h
  · exact ⟨ha, by rw [hide_out ha] at h; exact h⟩
theorem hide_same {H H' : Hp} {A A' : List Addr} (h : ∀ a o, a ∉ A → H a = some o → a ∉ A' ∧ H' a = some o) : Same (hide H A) (hide H' A') := fun a o e => by
  obtain ⟨h1, h2⟩ := hide_some e
  obtain ⟨h3, h4⟩ := h a o h1 h2
  rw [hide_out h3]; exact h4
theorem hide_sub {H : Hp} {A : List Addr} : Same (hide H A) H := fun a o e => (hide_some e).2
theorem hide_congr {H : Hp} {A B : List Addr} (h : ∀ a, a ∈ A ↔ a ∈ B) : hide H A = hide H B := by
  funext a
  unfold hide
  by_cases ha : a ∈ A
  · rw [if_pos ha, if_pos ((h a).mp ha)]
  · rw [if_neg ha, if_neg fun z => ha ((h a).mpr z)]

theorem IOk.mono {G G' H H' : Hp} (e : Same G G') {x : Item} {as : List Addr} (h : IOk K mg G H x as) (q : ∀ a ∈ as, H' a = H a) : IOk K mg G' H' x as := by
  induction h generalizing G' H' with
  | ov h => exact .ov (h.mono e q)
  | raw h => exact .raw ((q _ (by simp)).trans h)
  | pin h => exact .pin (e _ _ h)
  | but h ih => exact .but (ih (ers_same e) q)
theorem IsOk.mono {G G' H H' : Hp} (e : Same G G') : ∀ {L : List Item} {as : List Addr}, IsOk K mg G H L as → (∀ a ∈ as, H' a = H a) → IsOk K mg G' H' L as
  | _, _, .nil, _ => .nil
  | _, _, .cons h t, q => .cons (h.mono e fun a ha => q a (by simp [ha])) (IsOk.mono e t fun a ha => q a (by simp [ha]))
theorem IOk.dom {G H : Hp} {x : Item} {as : List Addr} (h : IOk K mg G H x as) : ∀ a ∈ as, ∃ u, H a = some u := by
  induction h with
  | ov h => exact h.dom
  | raw h => intro a ha; simp at ha; subst ha; exact ⟨_, h⟩
  | pin h => intro a ha; simp at ha
  | but h ih => exact ih
theorem IsOk.dom {G H : Hp} : ∀ {L : List Item} {as : List Addr}, IsOk K mg G H L as → ∀ a ∈ as, ∃ u, H a = some u
  | _, _, .nil, a, ha => by simp at ha
  | _, _, .cons h t, a, ha => by
    rcases List.mem_append.mp ha with ha | ha
    · exact h.dom a ha
    · exact IsOk.dom t a ha
theorem IsOk.append {G H : Hp} : ∀ {L M : List Item} {as bs : List Addr}, IsOk K mg G H L as → IsOk K mg G H M bs → IsOk K mg G H (L ++ M) (as ++ bs)
  | _, _, _, _, .nil, h => h
  | _, _, _, _, .cons (as := as) (bs := cs) h t, q => by
    rw [List.append_assoc]
    exact .cons h (IsOk.append t q)
theorem IsOk.split {G H : Hp} : ∀ {L M : List Item} {as : List Addr}, IsOk K mg G H (L ++ M) as → ∃ bs cs, as = bs ++ cs ∧ IsOk K mg G H L bs ∧ IsOk K mg G H M cs
  | [], M, as, h => ⟨[], as, rfl, .nil, h⟩
  | x :: L, M, _, .cons (as := as) h t => by
    obtain ⟨bs, cs, e, h1, h2⟩ := IsOk.split (L := L) t
    subst e
    exact ⟨as ++ bs, cs, (List.append_assoc _ _ _).symm, .cons h h1, h2⟩
theorem IsOk.perm {G H : Hp} {L L' : List Item} (p : L.Perm L') : ∀ {as : List Addr}, IsOk K mg G H L as → ∃ bs, as.Perm bs ∧ IsOk K mg G H L' bs := by
  induction p with
  | nil => intro as h; exact ⟨as, .refl _, h⟩
  | cons x _ ih =>
    intro as h
    cases h with
    | cons h t =>
      obtain ⟨bs, q, t'⟩ := ih t
      exact ⟨_, q.append_left _, .cons h t'⟩
  | swap x y L =>
    intro as h
    cases h with
    | cons h t =>
      cases t with
      | cons h2 t =>
        rename_i a1 a2 a3
        refine ⟨a2 ++ (a1 ++ a3), ?_, .cons h2 (.cons h t)⟩
        rw [← List.append_assoc, ← List.append_assoc]
        exact List.perm_append_comm.append_right _
  | trans _ _ ih1 ih2 =>
    intro as h
    obtain ⟨bs, q, h1⟩ := ih1 h
    obtain ⟨cs, q2, h2⟩ := ih2 h1
    exact ⟨cs, q.trans q2, h2⟩

variable {H H' : Hp} {L L' M : List Item} {B B' : List (V × O)}
theorem Rep.perm (h : Rep K mg H L B) (p : L.Perm L') : Rep K mg H L' B := by
  obtain ⟨A, nd, ok, hb⟩ := h
  obtain ⟨A', q, ok'⟩ := ok.perm p
  have e : hide H A = hide H A' := hide_congr fun a => q.mem_iff
  rw [e] at ok'
  refine ⟨A', q.nodup nd, ok', fun b hb' => ?_⟩
  obtain ⟨as, h1, h2⟩ := hb b hb'
  rw [e] at h1
  exact ⟨as, h1, fun a ha => q.mem_iff.mp (h2 a ha)⟩
theorem Rep.bsub (h : Rep K mg H L B) (s : ∀ b ∈ B', b ∈ B) : Rep K mg H L B' := by
  obtain ⟨A, nd, ok, hb⟩ := h
  exact ⟨A, nd, ok, fun b hb' => hb b (s b hb')⟩
theorem Rep.nob (h : Rep K mg H L B) : Rep K mg H L [] := h.bsub fun _ z => by simp at z
theorem Rep.bdrop {b : V × O} (h : Rep K mg H L (b :: B)) : Rep K mg H L B := h.bsub fun _ z => List.mem_cons_of_mem _ z
theorem Rep.drop {x : Item} (h : Rep K mg H (x :: L) []) : Rep K mg H L [] := by
  obtain ⟨A, nd, ok, hb⟩ := h
  cases ok with
  | cons h t =>
    rename_i as bs
    have e : Same (hide H (as ++ bs)) (hide H bs) := hide_same fun a o ha q => ⟨fun z => ha (by simp [z]), q⟩
    exact ⟨bs, (List.nodup_append.mp nd).2.1, t.mono e fun _ _ => rfl, fun _ z => by simp at z⟩
theorem Rep.frz {v : V} {o : O} (h : Rep K mg H (.ov v o :: L) []) : Rep K mg H (.ov v (.val o.toD) :: L) [] := by
  obtain ⟨A, nd, ok, hb⟩ := h
  cases ok with
  | cons h t =>
    rename_i as bs
    cases h with
    | ov h =>
      have e : Same (hide H (as ++ bs)) (hide H bs) := hide_same fun a o ha q => ⟨fun z => ha (by simp [z]), q⟩
      have dj := (List.nodup_append.mp nd).2.2
      refine ⟨bs, (List.nodup_append.mp nd).2.1, ?_, fun _ z => by simp at z⟩
      refine .cons (as := []) (.ov (.val (h.frz e fun a ha => ?_))) (t.mono e fun _ _ => rfl)
      exact hide_out fun z => dj a ha a z rfl
theorem Rep.lend {v : V} {o : O} (h : Rep K mg H (.ov v o :: L) B) : Rep K mg H (.ov v o :: L) ((v, o) :: B) := by
  obtain ⟨A, nd, ok, hb⟩ := h
  refine ⟨A, nd, ok, fun b q => ?_⟩
  rcases List.mem_cons.mp q with e | q
  · subst e
    cases ok with
    | cons h t =>
      cases h with
      | ov h => exact ⟨_, h, fun a ha => by simp [ha]⟩
  · exact hb b q
theorem Rep.keep {v : V} {d : D} (h : Rep K mg H L ((v, .val d) :: B)) : Rep K mg H (.ov v (.val d) :: L) B := by
  obtain ⟨A, nd, ok, hb⟩ := h
  obtain ⟨as, h1, _⟩ := hb _ (List.mem_cons_self ..)
  cases h1 with
  | val h1 => exact ⟨A, nd, .cons (as := []) (.ov (.val h1)) ok, fun b q => hb b (by simp [q])⟩
theorem Rep.scal {v : V} {d : D} (h : Rep K mg H L B) (hv : ∀ G, Vw K mg G v d) : Rep K mg H (.ov v (.val d) :: L) B := by
  obtain ⟨A, nd, ok, hb⟩ := h
  exact ⟨A, nd, .cons (as := []) (.ov (.val (hv _))) ok, hb⟩
theorem Rep.scalB {v : V} {d : D} (h : Rep K mg H L B) (hv : ∀ G, Vw K mg G v d) : Rep K mg H L ((v, .val d) :: B) := by
  obtain ⟨A, nd, ok, hb⟩ := h
  refine ⟨A, nd, ok, fun b q => ?_⟩
  rcases List.mem_cons.mp q with e | q
  · subst e; exact ⟨[], .val (hv _), by simp⟩
  · exact hb b q
theorem Rep.rawAt {p : Addr} {o : HO} (h : Rep K mg H (.raw p o :: L) B) : H p = some o := by
  obtain ⟨A, nd, ok, hb⟩ := h
  cases ok with
  | cons h t =>
    cases h with
    | raw h => exact h
theorem Rep.write {p : Addr} {o o' : HO} (h : Rep K mg H (.raw p o :: L) B) : Rep K mg (upd H p o') (.raw p o' :: L) [] := by
  obtain ⟨A, nd, ok, hb⟩ := h
  cases ok with
  | cons h t =>
    rename_i as bs
    cases h with
    | raw h =>
      have hp : p ∉ bs := (List.nodup_cons.mp nd).1
      have e : Same (hide H (p :: bs)) (hide (upd H p o') (p :: bs)) := hide_same fun a u ha q => ⟨ha, by rw [upd_ne fun z => ha (by simp [z])]; exact q⟩
      refine ⟨p :: bs, nd, .cons (as := [p]) (.raw upd_same) (t.mono e fun a ha => ?_), fun _ z => by simp at z⟩
      exact upd_ne fun z => hp (z ▸ ha)
theorem Rep.new {p : Addr} {o : HO} (h : Rep K mg H L B) (hp : H p = none) : Rep K mg (upd H p o) (.raw p o :: L) B := by
  obtain ⟨A, nd, ok, hb⟩ := h
  have hA : p ∉ A := fun z => by
    obtain ⟨u, q⟩ := ok.dom p z
    rw [hp] at q; cases q
  have e : Same (hide H A) (hide (upd H p o) (p :: A)) := hide_same fun a u ha q => by
    have : a ≠ p := fun z => by rw [z, hp] at q; cases q
    exact ⟨by simp [this, ha], by rw [upd_ne this]; exact q⟩
  have hu : ∀ a ∈ A, upd H p o a = H a := fun a ha => upd_ne fun z => hA (z ▸ ha)
  refine ⟨p :: A, List.nodup_cons.mpr ⟨hA, nd⟩, .cons (as := [p]) (.raw upd_same) (ok.mono e hu), fun b q => ?_⟩
  obtain ⟨as, h1, h2⟩ := hb b q
  exact ⟨as, h1.mono e fun a ha => hu a (h2 a ha), fun a ha => by simp [h2 a ha]⟩

/-! ### opening and closing -/
theorem IsOk.zip {G : Hp} : ∀ {vs : List V} {os : List O} {as : List Addr}, VOs K mg G H vs os as → IsOk K mg G H (zipI vs os) as
  | _, _, _, .nil => .nil
  | _, _, _, .cons h t => .cons (.ov h) (IsOk.zip t)
theorem IsOk.unzip {G : Hp} : ∀ {vs : List V} {os : List O} {as : List Addr}, vs.length = os.length → IsOk K mg G H (zipI vs os) as → VOs K mg G H vs os as
  | [], [], _, _, .nil => .nil
  | [], _ :: _, _, e, _ => by simp at e
  | _ :: _, [], _, e, _ => by simp at e
  | v :: vs, o :: os, _, e, .cons (.ov h) t => .cons h (IsOk.unzip (by simpa using e) t)
theorem Rep.openL {v : V} {os : List O} (h : Rep K mg H (.ov v (.lst os) :: L) B) : ∃ p vs, v = .ref p ∧ vs.length = os.length ∧ Rep K mg H (.raw p (.lst vs) :: (zipI vs os ++ L)) B := by
  obtain ⟨A, nd, ok, hb⟩ := h
  cases ok with
  | cons h t =>
    cases h with
    | ov h =>
      cases h with
      | lst h hs => exact ⟨_, _, rfl, hs.length, _, nd, .cons (as := [_]) (.raw h) (IsOk.append (IsOk.zip hs) t), hb⟩
theorem Rep.closeL {p : Addr} {vs : List V} {os : List O} (h : Rep K mg H (.raw p (.lst vs) :: (zipI vs os ++ L)) B) (e : vs.length = os.length) : Rep K mg H (.ov (.ref p) (.lst os) :: L) B := by
  obtain ⟨A, nd, ok, hb⟩ := h
  cases ok with
  | cons h t =>
    cases h with
    | raw h =>
      obtain ⟨bs, cs, e2, t1, t2⟩ := t.split
      subst e2
      exact ⟨_, nd, .cons (as := _ :: bs) (.ov (.lst h (IsOk.unzip e t1))) t2, hb⟩
theorem Rep.openD {v : V} {ks : List Key} {os : List O} (h : Rep K mg H (.ov v (.dct ks os) :: L) B) : ∃ p kvs, v = .ref p ∧ kvs.length = os.length ∧ (kvs.map (·.1) = ks ∧ ks.Nodup) ∧ Rep K mg H (.raw p (.dK kvs) :: (zipI (kvs.map (·.2)) os ++ L)) B := by
  obtain ⟨A, nd, ok, hb⟩ := h
  cases ok with
  | cons h t =>
    cases h with
    | ov h =>
      cases h with
      | dct h hk hs => exact ⟨_, _, rfl, by have := hs.length; simpa using this, hk, _, nd, .cons (as := [_]) (.raw h) (IsOk.append (IsOk.zip hs) t), hb⟩
theorem Rep.closeD {p : Addr} {kvs : List (Key × V)} {ks : List Key} {os : List O} (h : Rep K mg H (.raw p (.dK kvs) :: (zipI (kvs.map (·.2)) os ++ L)) B) (e : kvs.length = os.length) (hk : kvs.map (·.1) = ks ∧ ks.Nodup) : Rep K mg H (.ov (.ref p) (.dct ks os) :: L) B := by
  obtain ⟨A, nd, ok, hb⟩ := h
  cases ok with
  | cons h t =>
    cases h with
    | raw h =>
      obtain ⟨bs, cs, e2, t1, t2⟩ := t.split
      subst e2
      exact ⟨_, nd, .cons (as := _ :: bs) (.ov (.dct h hk (IsOk.unzip (by simpa using e) t1))) t2, hb⟩
/-- a tuple of shared things is shared -/
theorem Rep.closeT {p : Addr} {vs : List V} {ds : List D} (h : Rep K mg H (.raw p (.tup vs) :: (zipI vs (ds.map O.val) ++ L)) []) (e : vs.length = ds.length) : Rep K mg H (.ov (.ref p) (.val (.tup ds)) :: L) [] := by
  obtain ⟨A, nd, ok, hb⟩ := h
  cases ok with
  | cons h t =>
    cases h with
    | raw h =>
      obtain ⟨bs, cs, e2, t1, t2⟩ := t.split
      subst e2
      obtain ⟨q, e3⟩ := VOs.of_vals (IsOk.unzip (by simpa using e) t1)
      subst e3
      have s : Same (hide H ([p] ++ ([] ++ cs))) (hide H cs) := hide_same fun a o ha q => ⟨fun z => ha (by simp [z]), q⟩
      have hp : p ∉ cs := (List.nodup_cons.mp nd).1
      refine ⟨cs, (List.nodup_cons.mp nd).2, .cons (as := []) (.ov (.val (.tup (SqT.of ?_) (q.mono s)))) (t2.mono s fun _ _ => rfl), fun _ z => by simp at z⟩
      rw [hide_out hp]; exact h
/-- the whole heap shows what is borrowed -/
theorem Rep.view {b : V × O} (h : Rep K mg H L B) (q : b ∈ B) : Vw K mg H b.1 b.2.toD := by
  obtain ⟨A, nd, ok, hb⟩ := h
  obtain ⟨as, h1, h2⟩ := hb b q
  exact h1.frz hide_sub fun _ _ => rfl
end
end FB

/-! The environment, the meaning of expressions and statements over it, the judgements. -/
namespace FB
open PySem PySem.Spec L2
open PyProof.Rows hiding St

def Res.bind {α β : Type} (r : Res α) (f : α → Env → Res β) : Res β :=
  match r with
  | .ok a ρ => f a ρ
  | .exc x ρ => .exc x ρ
  | .no => .no
@[simp] theorem Res.bind_ok {α β : Type} (a : α) (ρ : Env) (f : α → Env → Res β) : (Res.ok a ρ).bind f = f a ρ := rfl
@[simp] theorem Res.bind_no {α β : Type} (f : α → Env → Res β) : (Res.no : Res α).bind f = .no := rfl
theorem Res.bind_eq {α β : Type} {r : Res α} {f : α → Env → Res β} {b : β} {ρ' : Env} (h : r.bind f = .ok b ρ') : ∃ a ρ, r = .ok a ρ ∧ f a ρ = .ok b ρ' := by
  cases r with
  | ok a ρ => exact ⟨a, ρ, rfl, h⟩
  | exc x ρ => cases h
  | no => cases h
abbrev Pf := Env → Option O
theorem pairs_ss (v : V) (o : O) (σ : St) (ρ : Env) : pairs (some v :: σ) (some o :: ρ) = .ov v o :: pairs σ ρ := rfl
theorem pairs_sn (v : Option V) (σ : St) (ρ : Env) : pairs (v :: σ) (none :: ρ) = pairs σ ρ := by cases v <;> rfl
theorem pairs_ns (o : Option O) (σ : St) (ρ : Env) : pairs (none :: σ) (o :: ρ) = pairs σ ρ := by cases o <;> rfl
theorem pairs_nil (ρ : Env) : pairs [] ρ = [] := by cases ρ <;> rfl
theorem pairs_nil' (σ : St) : pairs σ [] = [] := by cases σ with
  | nil => rfl
  | cons v σ => cases v <;> rfl
theorem pairs_take : ∀ {σ : St} {ρ : Env} {i : Nat} {v : V} {o : O}, σ[i]? = some (some v) → ρ[i]? = some (some o) → (pairs σ ρ).Perm (.ov v o :: pairs σ (ρ.set i none))
  | [], _, _, _, _, h, _ => by simp at h
  | _ :: _, [], _, _, _, _, h => by simp at h
  | w :: σ, u :: ρ, 0, v, o, h1, h2 => by
    simp at h1 h2
    subst h1 h2
    rw [List.set_cons_zero, pairs_ss, pairs_sn]
  | w :: σ, u :: ρ, i + 1, v, o, h1, h2 => by
    have ih := pairs_take (σ := σ) (ρ := ρ) (i := i) (v := v) (o := o) (by simpa using h1) (by simpa using h2)
    rw [List.set_cons_succ]
    cases w with
    | none => rw [pairs_ns, pairs_ns]; exact ih
    | some w =>
      cases u with
      | none => rw [pairs_sn, pairs_sn]; exact ih
      | some u =>
        rw [pairs_ss, pairs_ss]
        exact (ih.cons _).trans (.swap _ _ _)
theorem pairs_setn : ∀ {σ : St} {ρ : Env} {i : Nat} {v : Option V}, ρ[i]? = some none → pairs (σ.set i v) ρ = pairs σ ρ
  | [], ρ, i, v, _ => by simp [pairs_nil]
  | w :: σ, [], i, v, h => by simp at h
  | w :: σ, u :: ρ, 0, v, h => by
    simp at h
    subst h
    rw [List.set_cons_zero, pairs_sn, pairs_sn]
  | w :: σ, u :: ρ, i + 1, v, h => by
    have ih := pairs_setn (σ := σ) (ρ := ρ) (i := i) (v := v) (by simpa using h)
    rw [List.set_cons_succ]
    cases w with
    | none => rw [pairs_ns, pairs_ns, ih]
    | some w =>
      cases u with
      | none => rw [pairs_sn, pairs_sn, ih]
      | some u => rw [pairs_ss, pairs_ss, ih]
theorem pairs_put {σ : St} {ρ : Env} {i : Nat} {v : V} {o : O} (h1 : i < σ.length) (h2 : i < ρ.length) : (.ov v o :: pairs σ (ρ.set i none) : List Item).Perm (pairs (σ.set i (some v)) (ρ.set i (some o))) := by
  have e1 : (σ.set i (some v))[i]? = some (some v) := by simp [h1]
  have e2 : (ρ.set i (some o))[i]? = some (some o) := by simp [h2]
  have := pairs_take e1 e2
  rw [List.set_set] at this
  have e3 : pairs (σ.set i (some v)) (ρ.set i none) = pairs σ (ρ.set i none) := pairs_setn (by simp [h2])
  rw [e3] at this
  exact this.symm
/-- the value stands, what is known of it is another thing -/
theorem pairs_back {σ : St} {ρ : Env} {i : Nat} {v : V} {o : O} (h1 : σ[i]? = some (some v)) (h2 : i < ρ.length) : (.ov v o :: pairs σ (ρ.set i none) : List Item).Perm (pairs σ (ρ.set i (some o))) := by
  have e2 : (ρ.set i (some o))[i]? = some (some o) := by simp [h2]
  have := pairs_take h1 e2
  rw [List.set_set] at this
  exact this.symm

theorem Cov.set {σ : St} {ρ : Env} (c : Cov σ ρ) (i : Nat) (v : V) (o : O) : Cov (σ.set i (some v)) (ρ.set i (some o)) := by
  refine ⟨by simp [c.len], fun j q h => ?_⟩
  by_cases e : i = j
  · subst e
    have hj : i < ρ.length := by
      have := (List.getElem?_eq_some_iff.mp h).1
      simpa using this
    exact ⟨v, by simp [c.len, hj]⟩
  · rw [List.getElem?_set_ne e] at h ⊢
    exact c.ex j q h
theorem Cov.setn {σ : St} {ρ : Env} (c : Cov σ ρ) (i : Nat) : Cov σ (ρ.set i none) := by
  refine ⟨by simp [c.len], fun j q h => ?_⟩
  by_cases e : i = j
  · subst e
    have hj : i < ρ.length := by
      have := (List.getElem?_eq_some_iff.mp h).1
      simpa using this
    simp [hj] at h
  · rw [List.getElem?_set_ne e] at h
    exact c.ex j q h
theorem Cov.put {σ : St} {ρ : Env} {i : Nat} {v : V} (c : Cov σ ρ) (hv : σ[i]? = some (some v)) (o : O) : Cov σ (ρ.set i (some o)) := by
  refine ⟨by simp [c.len], fun j q h => ?_⟩
  by_cases e : i = j
  · subst e; exact ⟨v, hv⟩
  · rw [List.getElem?_set_ne e] at h
    exact c.ex j q h

/-! ### the judgements -/
section
variable (K : PySem.W.Frag) (mg : Str → Option Value)
/-- a reading that changes nothing: its value is lent -/
def tP (f : Pf) : TE := fun σ H Q => ∃ ρ T B o, Cov σ ρ ∧ Rep K mg H (pairs σ ρ ++ T) B ∧ f ρ = some o ∧ ∀ v H', Same H H' → Rep K mg H' (pairs σ ρ ++ T) ((v, o) :: B) → Q v H'
/-- an expression that may change what the environment owns -/
def tM (m : M O) : TE := fun σ H Q => ∃ ρ T o ρ', Cov σ ρ ∧ Rep K mg H (pairs σ ρ ++ T) [] ∧ m ρ = .ok o ρ' ∧ ∀ v H', Cov σ ρ' → Rep K mg H' (.ov v o :: (pairs σ ρ' ++ T)) [] → Q v H'
def tMT (m : M Bool) : TT := fun σ H Q => ∃ ρ T b ρ', Cov σ ρ ∧ Rep K mg H (pairs σ ρ ++ T) [] ∧ m ρ = .ok b ρ' ∧ ∀ H', Cov σ ρ' → Rep K mg H' (pairs σ ρ' ++ T) [] → Q b H'
end
theorem Fix.refl (P : List Nat) (σ : St) : Fix P σ σ := ⟨rfl, fun _ _ => rfl⟩
theorem Fix.trans {P : List Nat} {a b c : St} (h : Fix P a b) (q : Fix P b c) : Fix P a c := ⟨q.1.trans h.1, fun i hi => (q.2 i hi).trans (h.2 i hi)⟩
theorem Fix.set {P : List Nat} {σ : St} {i : Nat} {v : Option V} (h : i ∉ P) : Fix P σ (σ.set i v) := ⟨by simp, fun j hj => List.getElem?_set_ne fun e : i = j => h (by rw [e]; exact hj)⟩
theorem PE.imp {X : Cx} {e : Expr} {t t' : TE} (h : PE X e t) (q : ∀ σ H Q, t' σ H Q → t σ H Q) : PE X e t' := ⟨fun pins s σ H Q I w => h.run pins s σ H Q I (q σ H Q w)⟩
theorem PT.imp {X : Cx} {e : Expr} {t t' : TT} (h : PT X e t) (q : ∀ σ H Q, t' σ H Q → t σ H Q) : PT X e t' := ⟨fun pins s σ H Q I w => h.run pins s σ H Q I (q σ H Q w)⟩
theorem PS.imp {X : Cx} {e : Stmt} {t t' : TS} (h : PS X e t) (q : ∀ D σ H, t' D σ H → t D σ H) : PS X e t' := ⟨fun pins s σ H D I w => h.run pins s σ H D I (q D σ H w)⟩
theorem PSs.imp {X : Cx} {e : List Stmt} {t t' : TS} (h : PSs X e t) (q : ∀ D σ H, t' D σ H → t D σ H) : PSs X e t' := ⟨fun pins s σ H D I w => h.run pins s σ H D I (q D σ H w)⟩

def SP (X : Cx) (e : Expr) (f : Pf) : Prop := PE X e (tP X.K X.mg f)
def SE (X : Cx) (e : Expr) (m : M O) : Prop := PE X e (tM X.K X.mg m)
def SET (X : Cx) (e : Expr) (m : M Bool) : Prop := PT X e (tMT X.K X.mg m)
def SS (X : Cx) (P : List Nat) (st : Stmt) (m : M Fl) : Prop := PS X st (tS X.K X.mg P m)
/-- what every body stands in -/
structure CxOk (X : Cx) : Prop where
  calm : X.calm = true
  units : X.A.units + 65 < cLine
  nd : X.N.Nodup

/-! ### what is read of an owned tree whose parts are shared -/
def vals? : List O → Option (List D)
  | [] => some []
  | .val d :: os => (vals? os).map (d :: ·)
  | _ :: _ => none
theorem vals?_map : ∀ ds : List D, vals? (ds.map O.val) = some ds
  | [] => rfl
  | d :: ds => by show (vals? (ds.map O.val)).map _ = _; rw [vals?_map ds]; rfl
theorem vals?_eq : ∀ {os : List O} {ds : List D}, vals? os = some ds → os = ds.map O.val
  | [], ds, h => by cases h; rfl
  | .val d :: os, ds, h => by
    have h : (vals? os).map (d :: ·) = some ds := h
    cases e : vals? os with
    | none => rw [e] at h; cases h
    | some es =>
      rw [e] at h
      cases h
      rw [vals?_eq e]; rfl
  | .lst _ :: _, _, h => by cases h
  | .dct _ _ :: _, _, h => by cases h
  | .ins _ _ _ :: _, _, h => by cases h
def O.sh : O → Option D
  | .val d => some d
  | .lst os => (vals? os).map .lst
  | .dct ks os => (vals? os).map (.dct ks)
  | .ins c ns os => (vals? os).map (.ins c ns)
@[simp] theorem O.sh_val (d : D) : (O.val d).sh = some d := rfl
@[simp] theorem O.sh_lst (ds : List D) : (O.lst (ds.map O.val)).sh = some (.lst ds) := by show (vals? _).map _ = _; rw [vals?_map]; rfl
@[simp] theorem O.sh_dct (ks : List Key) (ds : List D) : (O.dct ks (ds.map O.val)).sh = some (.dct ks ds) := by show (vals? _).map _ = _; rw [vals?_map]; rfl
section
variable {K : PySem.W.Frag} {mg : Str → Option Value} {H : Hp} {L : List Item} {B : List (V × O)}
/-- what is lent and has shared parts alone: shown by the heap, its parts shared -/
theorem Rep.sh {x : V} {o : O} {d : D} (h : Rep K mg H L B) (hx : (x, o) ∈ B) (e : o.sh = some d) : Vw K mg H x d := by
  have q := h.view hx
  cases o with
  | val d' => cases e; exact q
  | lst os =>
    have e : (vals? os).map D.lst = some d := e
    cases e1 : vals? os with
    | none => rw [e1] at e; cases e
    | some ds =>
      rw [e1] at e; cases e
      have q : Vw K mg H x (.lst (O.toDs os)) := q
      rw [vals?_eq e1, toDs_vals] at q
      exact q
  | dct ks os =>
    have e : (vals? os).map (D.dct ks) = some d := e
    cases e1 : vals? os with
    | none => rw [e1] at e; cases e
    | some ds =>
      rw [e1] at e; cases e
      have q : Vw K mg H x (.dct ks (O.toDs os)) := q
      rw [vals?_eq e1, toDs_vals] at q
      exact q
  | ins c ns os =>
    have e : (vals? os).map (D.ins c ns) = some d := e
    cases e1 : vals? os with
    | none => rw [e1] at e; cases e
    | some ds =>
      rw [e1] at e; cases e
      have q : Vw K mg H x (.ins c ns (O.toDs os)) := q
      rw [vals?_eq e1, toDs_vals] at q
      exact q
/-- the parts of a lent list (tuple) of shared parts are shared -/
theorem Rep.items {ds : List D} {vs : List V} (h : ∃ A : List Addr, A.Nodup ∧ IsOk K mg (hide H A) H L A ∧ (∀ b ∈ B, ∃ as, VO K mg (hide H A) H b.1 b.2 as ∧ ∀ a ∈ as, a ∈ A) ∧ Vws K mg (hide H A) vs ds) : Rep K mg H (zipI vs (ds.map O.val) ++ L) B := by
  obtain ⟨A, nd, ok, hb, hv⟩ := h
  exact ⟨A, nd, IsOk.append (as := []) (IsOk.zip (VOs.vals hv)) ok, hb⟩
theorem rd_hide {A : List Addr} {a : Addr} {u : HO} (h : Rd (hide H A) a u) : Rd H a u := FB.Same.rd hide_sub h
theorem sqT_hide {A : List Addr} {a : Addr} {xs : List V} (h : SqT K (hide H A) a xs) : SqT K H a xs := FB.Same.seqT hide_sub h
theorem Rep.shL {x : V} {o : O} {ds : List D} (h : Rep K mg H L B) (hx : (x, o) ∈ B) (e : o.sh = some (.lst ds)) :
    ∃ p vs, x = .ref p ∧ Rd H p (.lst vs) ∧ vs.length = ds.length ∧ Rep K mg H (zipI vs (ds.map O.val) ++ L) B := by
  obtain ⟨A, nd, ok, hb⟩ := h
  obtain ⟨as, q, ha⟩ := hb _ hx
  cases q with
  | val q =>
    cases e
    cases q with
    | lst q qs => exact ⟨_, _, rfl, rd_hide q, qs.length, Rep.items ⟨A, nd, ok, hb, qs⟩⟩
  | lst q qs =>
    rename_i p vs os as'
    have e : (vals? os).map D.lst = some (.lst ds) := e
    cases e1 : vals? os with
    | none => rw [e1] at e; cases e
    | some es =>
      rw [e1] at e; cases e
      rw [vals?_eq e1] at qs
      obtain ⟨qs, _⟩ := VOs.of_vals qs
      exact ⟨_, _, rfl, .inl q, qs.length, Rep.items ⟨A, nd, ok, hb, qs⟩⟩
  | dct q hk qs =>
    rename_i kvs ks os as'
    have e : (vals? os).map (D.dct ks) = some (.lst ds) := e
    cases e1 : vals? os with
    | none => rw [e1] at e; cases e
    | some es => rw [e1] at e; cases e
  | ins q hm hn qs =>
    rename_i c ns os as'
    have e : (vals? os).map (D.ins c ns) = some (.lst ds) := e
    cases e1 : vals? os with
    | none => rw [e1] at e; cases e
    | some es => rw [e1] at e; cases e
theorem sh_val_of {o : O} {d : D} (e : o.sh = some d) (h1 : ∀ ds, d ≠ .lst ds) (h2 : ∀ ks ds, d ≠ .dct ks ds) (h3 : ∀ c ns ds, d ≠ .ins c ns ds) : o = .val d := by
  cases o with
  | val d' => cases e; rfl
  | lst os =>
    have e : (vals? os).map D.lst = some d := e
    cases e1 : vals? os with
    | none => rw [e1] at e; cases e
    | some es => rw [e1] at e; cases e; exact absurd rfl (h1 _)
  | dct ks os =>
    have e : (vals? os).map (D.dct ks) = some d := e
    cases e1 : vals? os with
    | none => rw [e1] at e; cases e
    | some es => rw [e1] at e; cases e; exact absurd rfl (h2 _ _)
  | ins c ns os =>
    have e : (vals? os).map (D.ins c ns) = some d := e
    cases e1 : vals? os with
    | none => rw [e1] at e; cases e
    | some es => rw [e1] at e; cases e; exact absurd rfl (h3 _ _ _)
theorem Rep.shT {x : V} {o : O} {ds : List D} (h : Rep K mg H L B) (hx : (x, o) ∈ B) (e : o.sh = some (.tup ds)) :
    ∃ p vs, x = .ref p ∧ SqT K H p vs ∧ vs.length = ds.length ∧ Rep K mg H (zipI vs (ds.map O.val) ++ L) B := by
  have e' := sh_val_of e (fun _ => by intro z; cases z) (fun _ _ => by intro z; cases z) (fun _ _ _ => by intro z; cases z)
  subst e'
  obtain ⟨A, nd, ok, hb⟩ := h
  obtain ⟨as, q, ha⟩ := hb _ hx
  cases q with
  | val q =>
    cases q with
    | tup q qs => exact ⟨_, _, rfl, sqT_hide q, qs.length, Rep.items ⟨A, nd, ok, hb, qs⟩⟩
theorem Rep.shInt {x : V} {o : O} {i : Int} (h : Rep K mg H L B) (hx : (x, o) ∈ B) (e : o.sh = some (.int i)) : x = .int i := by
  have q := h.sh hx e
  cases q; rfl
theorem Rep.shBl {x : V} {o : O} {b : Bool} (h : Rep K mg H L B) (hx : (x, o) ∈ B) (e : o.sh = some (.bl b)) : x = .bl b := by
  have q := h.sh hx e
  cases q; rfl
theorem Rep.shStr {x : V} {o : O} {s : Str} (h : Rep K mg H L B) (hx : (x, o) ∈ B) (e : o.sh = some (.str s)) : x = .str s := by
  have q := h.sh hx e
  cases q; rfl
/-- a shared item goes (what is lent stands) -/
theorem Rep.dropV {v : V} {d : D} (h : Rep K mg H (.ov v (.val d) :: L) B) : Rep K mg H L B := by
  obtain ⟨A, nd, ok, hb⟩ := h
  cases ok with
  | cons h t =>
    cases h with
    | ov h =>
      cases h with
      | val h => exact ⟨_, nd, t, hb⟩
theorem Rep.dropVs : ∀ {vs : List V} {ds : List D}, Rep K mg H (zipI vs (ds.map O.val) ++ L) B → Rep K mg H L B
  | [], _, h => h
  | _ :: _, [], h => h
  | v :: vs, d :: ds, h => Rep.dropVs (vs := vs) (ds := ds) (Rep.dropV h)
theorem Rep.newT {vs : List V} {ds : List D} {p : Addr} (h : Rep K mg H (zipI vs (ds.map O.val) ++ L) []) (e : vs.length = ds.length) (hp : H p = none) : Rep K mg (upd H p (.tup vs)) (.ov (.ref p) (.val (.tup ds)) :: L) [] :=
  Rep.closeT (h.new hp) e
end

/-! ### names, constants -/
section
variable {X : Cx}
def pVar (i : Nat) : Pf := fun ρ => (ρ[i]?).join
theorem sp_var (i : Nat) {x : Str} {pos : Pos} (hN : X.N[i]? = some x := by rfl) (hv : Vis X.env.scope x := by first | exact Or.inl rfl | exact Or.inr (Or.inl rfl) | exact Or.inr (Or.inr rfl)) (hd : (x == ("__debug__" : Str)) = false := by decide)
    (hcd : (x == ("__classdict__" : Str)) = false := by decide) : SP X (.Name x pos) (pVar i) := by
  refine PE.imp (pv i hN hv hd hcd) fun σ H Q h => ?_
  obtain ⟨ρ, T, B, o, c, R, e, k⟩ := h
  have e1 : ρ[i]? = some (some o) := by
    unfold pVar at e
    cases q : ρ[i]? with
    | none => rw [q] at e; cases e
    | some u => rw [q] at e; cases u <;> cases e; rfl
  obtain ⟨v, hv⟩ := c.ex i o e1
  refine ⟨v, hv, k v H (Same.refl _) ?_⟩
  have p := (pairs_take hv e1).append_right T
  exact (R.perm p).lend.perm p.symm
/-- what is shared may be kept -/
def mP (f : Pf) : M O := fun ρ => match f ρ with
  | some (.val d) => .ok (.val d) ρ
  | _ => .no
theorem se_p {e : Expr} {f : Pf} (h : SP X e f) : SE X e (mP f) := by
  refine PE.imp h fun σ H Q q => ?_
  obtain ⟨ρ, T, o, ρ', c, R, e, k⟩ := q
  unfold mP at e
  cases z : f ρ with
  | none => rw [z] at e; cases e
  | some u =>
    rw [z] at e
    cases u with
    | val d =>
      cases e
      exact ⟨ρ, T, [], .val d, c, R, z, fun v H' _ R' => k v H' c R'.keep⟩
    | lst _ => cases e
    | dct _ _ => cases e
    | ins _ _ _ => cases e
def pC (d : D) : Pf := fun _ => some (.val d)
theorem sp_c {e : Expr} {v : V} {d : D} (h : PE X e (tC v)) (hv : ∀ G, Vw X.K X.mg G v d) : SP X e (pC d) := by
  refine PE.imp h fun σ H Q q => ?_
  obtain ⟨ρ, T, B, o, c, R, e, k⟩ := q
  cases e
  exact k v H (Same.refl _) (R.scalB hv)
theorem sp_int {i j pos} : SP X (.Constant (.int i) j pos) (pC (.int i)) := sp_c pe_int fun _ => .int i
theorem sp_bl {b j pos} : SP X (.Constant (.bool b) j pos) (pC (.bl b)) := sp_c pe_bl fun _ => .bl b
theorem sp_str {x j pos} (h : PyData.strOk x = true := by decide +kernel) : SP X (.Constant (.str x) j pos) (pC (.str x)) := sp_c pe_str fun _ => .str x h
end

/-! ### operations on values -/
def OpV (K : PySem.W.Frag) (mg : Str → Option Value) (r : R2) (f : O → O → Option O) : Prop :=
  ∀ (H : Hp) (L : List Item) (B : List (V × O)) (x y : V) (ox oy o : O) (Q : VK), Rep K mg H L B → (x, ox) ∈ B → (y, oy) ∈ B → f ox oy = some o → (∀ v H', Same H H' → Rep K mg H' L ((v, o) :: B) → Q v H') → r x y H Q
def UnV (K : PySem.W.Frag) (mg : Str → Option Value) (r : V → Hp → VK → Prop) (f : O → Option O) : Prop :=
  ∀ (H : Hp) (L : List Item) (B : List (V × O)) (x : V) (ox o : O) (Q : VK), Rep K mg H L B → (x, ox) ∈ B → f ox = some o → (∀ v H', Same H H' → Rep K mg H' L ((v, o) :: B) → Q v H') → r x H Q
def p2 (op : O → O → Option O) (f g : Pf) : Pf := fun ρ => (f ρ).bind fun a => (g ρ).bind fun b => op a b
def p1 (op : O → Option O) (f : Pf) : Pf := fun ρ => (f ρ).bind op
def okV (o : Option O) (ρ : Env) : Res O := match o with
  | some (.val d) => .ok (.val d) ρ
  | _ => .no
theorem okV_eq {o : Option O} {ρ ρ' : Env} {u : O} (h : okV o ρ = .ok u ρ') : ∃ d, o = some (.val d) ∧ u = .val d ∧ ρ' = ρ := by
  unfold okV at h
  split at h
  · cases h; exact ⟨_, rfl, rfl, rfl⟩
  · cases h
def m2 (op : O → O → Option O) (m n : M O) : M O := fun ρ => (m ρ).bind fun a ρ1 => (n ρ1).bind fun b ρ2 => okV (op a b) ρ2
def m1 (op : O → Option O) (m : M O) : M O := fun ρ => (m ρ).bind fun a ρ1 => okV (op a) ρ1
section
variable {X : Cx} {K : PySem.W.Frag} {mg : Str → Option Value}
theorem tOp_p {r : R2} {op : O → O → Option O} {f g : Pf} (h : OpV K mg r op) (σ : St) (H : Hp) (Q : VK) (q : tP K mg (p2 op f g) σ H Q) : tOp r (tP K mg f) (tP K mg g) σ H Q := by
  obtain ⟨ρ, T, B, o, c, R, e, k⟩ := q
  unfold p2 at e
  cases e1 : f ρ with
  | none => rw [e1] at e; cases e
  | some a =>
    cases e2 : g ρ with
    | none => rw [e1, e2] at e; cases e
    | some b =>
      rw [e1, e2] at e
      refine ⟨ρ, T, B, a, c, R, e1, fun x H1 s1 R1 => ⟨ρ, T, _, b, c, R1, e2, fun y H2 s2 R2 => ?_⟩⟩
      refine h H2 _ _ x y a b o Q R2 (by simp) (by simp) e fun v H3 s3 R3 => k v H3 (s1.trans (s2.trans s3)) (R3.bsub fun z hz => ?_)
      rcases List.mem_cons.mp hz with hz | hz
      · simp [hz]
      · simp [hz]
theorem tOp_m {r : R2} {op : O → O → Option O} {m n : M O} (h : OpV K mg r op) (σ : St) (H : Hp) (Q : VK) (q : tM K mg (m2 op m n) σ H Q) : tOp r (tM K mg m) (tM K mg n) σ H Q := by
  obtain ⟨ρ, T, o, ρ', c, R, e, k⟩ := q
  obtain ⟨a, ρ1, e1, e⟩ := Res.bind_eq e
  obtain ⟨b, ρ2, e2, e⟩ := Res.bind_eq e
  obtain ⟨d, e3, e4, e5⟩ := okV_eq e
  subst e4
  subst e5
  refine ⟨ρ, T, a, ρ1, c, R, e1, fun x H1 c1 R1 => ⟨ρ1, .ov x a :: T, b, ρ', c1, R1.perm List.perm_middle.symm, e2, fun y H2 c2 R2 => ?_⟩⟩
  -- y, the environment, x, T
  have R3 : Rep K mg H2 (.ov x a :: .ov y b :: (pairs σ ρ' ++ T)) [] := R2.perm ((List.perm_middle.cons _).trans (.swap _ _ _))
  have R4 := R3.lend.perm (.swap _ _ _) |>.lend
  refine h H2 _ _ x y a b _ Q R4 (by simp) (by simp) e3 fun v H3 _ R5 => k v H3 c2 ?_
  have R6 := R5.keep.nob
  exact ((R6.perm (.swap _ _ _)).drop.perm (.swap _ _ _)).drop
theorem tUn_p {r : V → Hp → VK → Prop} {op : O → Option O} {f : Pf} (h : UnV K mg r op) (σ : St) (H : Hp) (Q : VK) (q : tP K mg (p1 op f) σ H Q) : tUn r (tP K mg f) σ H Q := by
  obtain ⟨ρ, T, B, o, c, R, e, k⟩ := q
  unfold p1 at e
  cases e1 : f ρ with
  | none => rw [e1] at e; cases e
  | some a =>
    rw [e1] at e
    refine ⟨ρ, T, B, a, c, R, e1, fun x H1 s1 R1 => ?_⟩
    refine h H1 _ _ x a o Q R1 (by simp) e fun v H3 s3 R3 => k v H3 (s1.trans s3) (R3.bsub fun z hz => ?_)
    rcases List.mem_cons.mp hz with hz | hz
    · simp [hz]
    · simp [hz]
theorem OpV.or {r r' : R2} {f g : O → O → Option O} (h : OpV K mg r f) (h' : OpV K mg r' g) : OpV K mg (fun x y H Q => r x y H Q ∨ r' x y H Q) (fun a b => (f a b).or (g a b)) := by
  intro H L B x y ox oy o Q R hx hy e k
  have e : (f ox oy).or (g ox oy) = some o := e
  cases e1 : f ox oy with
  | some u =>
    rw [e1] at e
    cases e
    exact .inl (h H L B x y ox oy _ Q R hx hy e1 k)
  | none =>
    rw [e1] at e
    exact .inr (h' H L B x y ox oy _ Q R hx hy e k)

/-! the shapes -/
variable {a b : Expr} {pos : Pos} {f g : Pf} {m n : M O} {r : R2} {op : O → O → Option O}
theorem sp_bin {o : Operator} (ho : OpR X (binaryOp o) r) (h : OpV X.K X.mg r op) (ha : SP X a f) (hb : SP X b g) : SP X (.BinOp a o b pos) (p2 op f g) := PE.imp (pe_op ho ha hb) (tOp_p h)
theorem sp_cmp {o : CmpOp} (ho : OpR X (compareOp o) r) (h : OpV X.K X.mg r op) (ha : SP X a f) (hb : SP X b g) (hm : behindInMarks o b = false) : SP X (.Compare a [o] [b] pos) (p2 op f g) := PE.imp (pe_cmpR ho ha hb hm) (tOp_p h)
theorem sp_ix (ho : IxR X r) (h : OpV X.K X.mg r op) (ha : SP X a f) (hb : SP X b g) (hs : PlainIx b := by exact fun _ _ => rfl) : SP X (.Subscript a b pos) (p2 op f g) := PE.imp (pe_ix ho ha hb hs) (tOp_p h)
theorem se_ix (ho : IxR X r) (h : OpV X.K X.mg r op) (ha : SE X a m) (hb : SE X b n) (hs : PlainIx b := by exact fun _ _ => rfl) : SE X (.Subscript a b pos) (m2 op m n) := PE.imp (pe_ix ho ha hb hs) (tOp_m h)
end
end FB

/-! Operations by values: arithmetic, comparisons, membership, subscripts. -/
namespace FB
open PySem PySem.Spec L2
open PyProof.Rows hiding St

/-! ### data as the library's data -/
theorem all_pds {ds : List D} {n : Nat} (h : ∀ d ∈ ds, d.pd.canLay0 = true ∧ d.pd.depth ≤ n) : PyData.canLayAll0 (D.pds ds) = true ∧ PyData.depthAll (D.pds ds) ≤ n := by
  induction ds with
  | nil => exact ⟨rfl, Nat.zero_le _⟩
  | cons d ds ih =>
    obtain ⟨h1, h2⟩ := h d (by simp)
    obtain ⟨h3, h4⟩ := ih fun e he => h e (by simp [he])
    refine ⟨?_, ?_⟩
    · show (d.pd.canLay0 && PyData.canLayAll0 (D.pds ds)) = true
      rw [h1, h3]; rfl
    · show max d.pd.depth (PyData.depthAll (D.pds ds)) ≤ n
      omega
section
variable {K : PySem.W.Frag} {mg : Str → Option Value} {G : Hp}
mutual
theorem Vw.lay : ∀ {v : V} {d : D} (n : Nat), Vw K mg G v d → d.okE n = true → d.pd.canLay0 = true ∧ d.pd.depth ≤ n
  | _, _, n, .non, _ => ⟨rfl, Nat.zero_le _⟩
  | _, _, n, .bl b, _ => ⟨rfl, Nat.zero_le _⟩
  | _, _, n, .int i, _ => ⟨rfl, Nat.zero_le _⟩
  | _, _, n, .str s h, _ => ⟨h, Nat.zero_le _⟩
  | _, _, 0, .tup _ _, e => by cases e
  | _, _, n + 1, .tup _ hs, e => by
    obtain ⟨a, b⟩ := all_pds (Vws.lay n hs e)
    exact ⟨a, Nat.succ_le_succ b⟩
  | _, _, 0, .lst _ _, e => by cases e
  | _, _, n + 1, .lst _ hs, e => by
    obtain ⟨a, b⟩ := all_pds (Vws.lay n hs e)
    exact ⟨a, Nat.succ_le_succ b⟩
  | _, _, n, .dct _ _ _, e => by cases n <;> cases e
  | _, _, n, .ins _ _ _ _, e => by cases n <;> cases e
  | _, _, n, .scr _, e => by cases n <;> cases e
  | _, _, n, .fn _, e => by cases n <;> cases e
  | _, _, n, .exc _ _ _ _ _, e => by cases n <;> cases e
  | _, _, n, .exn _ _, e => by cases n <;> cases e
theorem Vws.lay : ∀ {vs : List V} {ds : List D} (n : Nat), Vws K mg G vs ds → ds.all (D.okE n) = true → ∀ d ∈ ds, d.pd.canLay0 = true ∧ d.pd.depth ≤ n
  | _, _, n, .nil, _ => fun d hd => by simp at hd
  | _, _, n, .cons h t, e => fun d hd => by
    rw [List.all_cons, Bool.and_eq_true] at e
    rcases List.mem_cons.mp hd with q | hd
    · rw [q]; exact Vw.lay n h e.1
    · exact Vws.lay n t e.2 d hd
end
theorem Vw.shaped {v : V} {d : D} (h : Vw K mg G v d) (e : d.okE 9 = true) : SeqAt.shaped d.pd = true := by
  obtain ⟨a, b⟩ := h.lay 9 e
  unfold SeqAt.shaped
  rw [a, decide_eq_true (by omega : d.pd.depth ≤ 64)]
  rfl
mutual
theorem Vw.dp : ∀ {v : V} {d : D} (n : Nat), Vw K mg G v d → d.okE n = true → Dp K G v d.pd
  | _, _, n, .non, _ => .non
  | _, _, n, .bl b, _ => .bl b
  | _, _, n, .int i, _ => .int i
  | _, _, n, .str s h, _ => .str s
  | _, _, 0, .tup _ _, e => by cases e
  | _, _, n + 1, .tup h hs, e => .tup h (Vws.dp n hs e)
  | _, _, 0, .lst _ _, e => by cases e
  | _, _, n + 1, .lst h hs, e => .lst (.inl h) (Vws.dp n hs e)
  | _, _, n, .dct _ _ _, e => by cases n <;> cases e
  | _, _, n, .ins _ _ _ _, e => by cases n <;> cases e
  | _, _, n, .scr _, e => by cases n <;> cases e
  | _, _, n, .fn _, e => by cases n <;> cases e
  | _, _, n, .exc _ _ _ _ _, e => by cases n <;> cases e
  | _, _, n, .exn _ _, e => by cases n <;> cases e
theorem Vws.dp : ∀ {vs : List V} {ds : List D} (n : Nat), Vws K mg G vs ds → ds.all (D.okE n) = true → DpAll K G vs (D.pds ds)
  | _, _, n, .nil, _ => .nil
  | _, _, n, .cons h t, e => by
    rw [List.all_cons, Bool.and_eq_true] at e
    exact .cons (Vw.dp n h e.1) (Vws.dp n t e.2)
end
end
/-! ### arithmetic -/
def lift2 (f : D → D → Option D) : O → O → Option O := fun a b => (a.sh).bind fun x => (b.sh).bind fun y => (f x y).map O.val
theorem lift2_eq {f : D → D → Option D} {a b o : O} (h : lift2 f a b = some o) : ∃ x y d, a.sh = some x ∧ b.sh = some y ∧ f x y = some d ∧ o = .val d := by
  unfold lift2 at h
  cases e1 : a.sh with
  | none => rw [e1] at h; cases h
  | some x =>
    cases e2 : b.sh with
    | none => rw [e1, e2] at h; cases h
    | some y =>
      rw [e1, e2] at h
      have h : (f x y).map O.val = some o := h
      cases e3 : f x y with
      | none => rw [e3] at h; cases h
      | some d => rw [e3] at h; cases h; exact ⟨x, y, d, rfl, rfl, e3, rfl⟩
def addD : D → D → Option D
  | .int i, .int j => some (.int (i + j))
  | .str s, .str t => if s.length + t.length ≤ 1000000 then some (.str (s ++ t)) else none
  | .lst xs, .lst ys => if xs.length + ys.length ≤ 1000000 then some (.lst (xs ++ ys)) else none
  | .tup xs, .tup ys => if xs.length + ys.length ≤ 1000000 then some (.tup (xs ++ ys)) else none
  | _, _ => none
def mulOk (i j : Int) : Bool := decide (i.natAbs < 2 ^ 64) || decide (j.natAbs < 2 ^ 64) || decide (i.natAbs.log2 + j.natAbs.log2 < 1000000)
def repS (s : Str) (k : Nat) : Str := ⟨(List.replicate k s.cps.toList).flatten.toArray⟩
def mulD : D → D → Option D
  | .int i, .int j => if mulOk i j then some (.int (i * j)) else none
  | .lst xs, .int k => if k < 1000000 ∧ -1000000 < k ∧ xs.length * k.toNat ≤ 1000000 then some (.lst (List.replicate k.toNat xs).flatten) else none
  | .str s, .int k => if k < 1000000 ∧ -1000000 < k ∧ s.length * k.toNat ≤ 1000000 then some (.str (repS s k.toNat)) else none
  | _, _ => none
def fdivD : D → D → Option D
  | .int i, .int j => if 0 < j ∧ j.natAbs.log2 < 9000 then some (.int (i / j)) else none
  | _, _ => none
def modD : D → D → Option D
  | .int i, .int j => if 0 < j then some (.int (i % j)) else none
  | _, _ => none
def powD : D → D → Option D
  | .int i, .int j => if 0 ≤ j ∧ j ≤ 1000000 ∧ i.natAbs < 2 ^ 64 then some (.int (i ^ j.toNat)) else none
  | _, _ => none
def gtD : D → D → Option D
  | .int i, .int j => some (.bl (decide (j < i)))
  | _, _ => none
def geD : D → D → Option D
  | .int i, .int j => some (.bl (decide (j ≤ i)))
  | _, _ => none
theorem line6 {n : Nat} (h : n ≤ 1000000) : n ≤ sizeLine := by rw [sizeLine_eq]; omega
theorem strOk_append {s t : Str} (hs : PyData.strOk s = true) (ht : PyData.strOk t = true) : PyData.strOk (s ++ t) = true := by
  show ((s.cps ++ t.cps).all _) = true
  rw [Array.all_append, Bool.and_eq_true]
  exact ⟨hs, ht⟩
section
variable {K : PySem.W.Frag} {mg : Str → Option Value} {H : Hp} {L : List Item} {B : List (V × O)}
theorem Rep.strOk {x : V} {o : O} {s : Str} (h : Rep K mg H L B) (hx : (x, o) ∈ B) (e : o.sh = some (.str s)) : PyData.strOk s = true := by
  have q := h.sh hx e
  cases q with
  | str _ h => exact h
theorem Rep.bdup {b : V × O} (h : Rep K mg H L B) (hb : b ∈ B) : Rep K mg H L (b :: B) := h.bsub fun z hz => by
  rcases List.mem_cons.mp hz with e | hz
  · rw [e]; exact hb
  · exact hz
/-- a new list lent -/
theorem Rep.lentL {vs : List V} {ds : List D} {p : Addr} (h : Rep K mg H (zipI vs (ds.map O.val) ++ L) B) (e : vs.length = ds.length) (hp : H p = none) : Rep K mg (upd H p (.lst vs)) L ((.ref p, .val (.lst ds)) :: B) := by
  obtain ⟨A, nd, ok, hb⟩ := h
  obtain ⟨bs, cs, e2, t1, t2⟩ := ok.split
  subst e2
  obtain ⟨q, e3⟩ := VOs.of_vals (IsOk.unzip (by simpa using e) t1)
  subst e3
  have hA : p ∉ cs := fun z => by
    obtain ⟨u, q⟩ := t2.dom p z
    rw [hp] at q; cases q
  have s : Same (hide H ([] ++ cs)) (hide (upd H p (.lst vs)) cs) := hide_same fun a u ha q => ⟨ha, by rw [upd_ne (ne_of_none q hp)]; exact q⟩
  have hu : ∀ a ∈ cs, upd H p (.lst vs) a = H a := fun a ha => upd_ne fun z => hA (z ▸ ha)
  refine ⟨cs, nd, t2.mono s hu, fun b hb' => ?_⟩
  rcases List.mem_cons.mp hb' with e4 | hb'
  · subst e4
    exact ⟨[], .val (.lst (.inl (by rw [hide_out hA]; exact upd_same)) (q.mono s)), by simp⟩
  · obtain ⟨as, h1, h2⟩ := hb b hb'
    exact ⟨as, h1.mono s fun a ha => hu a (h2 a ha), h2⟩
theorem Rep.lentT {vs : List V} {ds : List D} {p : Addr} (h : Rep K mg H (zipI vs (ds.map O.val) ++ L) B) (e : vs.length = ds.length) (hp : H p = none) : Rep K mg (upd H p (.tup vs)) L ((.ref p, .val (.tup ds)) :: B) := by
  obtain ⟨A, nd, ok, hb⟩ := h
  obtain ⟨bs, cs, e2, t1, t2⟩ := ok.split
  subst e2
  obtain ⟨q, e3⟩ := VOs.of_vals (IsOk.unzip (by simpa using e) t1)
  subst e3
  have hA : p ∉ cs := fun z => by
    obtain ⟨u, q⟩ := t2.dom p z
    rw [hp] at q; cases q
  have s : Same (hide H ([] ++ cs)) (hide (upd H p (.tup vs)) cs) := hide_same fun a u ha q => ⟨ha, by rw [upd_ne (ne_of_none q hp)]; exact q⟩
  have hu : ∀ a ∈ cs, upd H p (.tup vs) a = H a := fun a ha => upd_ne fun z => hA (z ▸ ha)
  refine ⟨cs, nd, t2.mono s hu, fun b hb' => ?_⟩
  rcases List.mem_cons.mp hb' with e4 | hb'
  · subst e4
    exact ⟨[], .val (.tup (.inl (.inl (by rw [hide_out hA]; exact upd_same))) (q.mono s)), by simp⟩
  · obtain ⟨as, h1, h2⟩ := hb b hb'
    exact ⟨as, h1.mono s fun a ha => hu a (h2 a ha), h2⟩
end
/-! ### the rules over what may be read -/
section
variable {X : Cx}
theorem Inv.rdL {pins : List (Addr × Obj)} {σ : St} {H : Hp} {s : Shared} {l : Addr} {xs : List V} (I : Inv X pins σ H s) (h : Rd H l (.lst xs)) : xs.length ≤ sizeLine ∧ ∃ (its : List Value) (n : Nat), Vals xs its ∧ xs.length = its.length ∧ s.heap.get? l = some { cls := .type "list", data := .seq its.toArray n } := by
  obtain ⟨z, its, n, r, e⟩ := h.ok I.hok
  exact ⟨z, its, n, r, r.length, e⟩
def rCatR : R2 := fun x y H Q => ∃ l b xs zs, x = .ref l ∧ y = .ref b ∧ Rd H l (.lst xs) ∧ Rd H b (.lst zs) ∧ xs.length + zs.length ≤ sizeLine ∧ ∀ p, H p = none → Q (.ref p) (upd H p (.lst (xs ++ zs)))
theorem op_catR : OpR X (binaryOp .Add) rCatR := by
  intro pins s σ H x y v u Q I rx ry h
  obtain ⟨l, b, xs, zs, rfl, rfl, hH, hB, hz, q⟩ := h
  cases rx
  cases ry
  obtain ⟨z, its, n, r, hl, e⟩ := Inv.rdL I hH
  obtain ⟨z2, its2, n2, r2, hl2, e2⟩ := Inv.rdL I hB
  refine PySem.P.add_list e e2 ?_ (by rw [List.size_toArray, List.size_toArray]; omega)
  have ea : its.toArray ++ its2.toArray = (its ++ its2).toArray := by simp
  rw [ea]
  exact ⟨.ref _, _, I.lnew (t' := s.toks) (r.append r2) (by rw [List.length_append]; omega), rfl, q _ I.fresh⟩
def rRepR : R2 := fun x y H Q => ∃ l k xs, x = .ref l ∧ y = .int k ∧ Rd H l (.lst xs) ∧ -(2 ^ 63) ≤ k ∧ k < 2 ^ 63 ∧ xs.length * k.toNat ≤ sizeLine ∧
  ∀ p, H p = none → Q (.ref p) (upd H p (.lst (List.replicate k.toNat xs).flatten))
theorem op_repR : OpR X (binaryOp .Mult) rRepR := by
  intro pins s σ H x y v u Q I rx ry h
  obtain ⟨l, k, xs, rfl, rfl, hH, h1, h2, hz, q⟩ := h
  cases rx
  obtain ⟨t, rfl⟩ := ry
  obtain ⟨z, its, n, r, hl, e⟩ := Inv.rdL I hH
  have hlen : its.toArray.size * k.toNat ≤ sizeLine := by rw [List.size_toArray, ← hl]; exact hz
  have hcap : ¬ its.toArray.size * k.toNat > (2 ^ 63 - 1) / 8 := by
    have : (sizeLine : Nat) ≤ (2 ^ 63 - 1) / 8 := by decide
    omega
  have hfit : ¬ (!Builtin.List.listFitsIndex k) = true := by
    rw [fitsIndex_both h1 h2]
    exact Bool.false_ne_true
  have hlong : ¬ Builtin.List.listTooLong (its.toArray.size * k.toNat) = true := by
    rw [notLongL hlen]
    exact Bool.false_ne_true
  have hnew : List.foldl (fun x1 x2 => x1 ++ x2) #[] (List.replicate (if its.toArray.isEmpty = true then 0 else k.toNat) its.toArray) = (List.replicate k.toNat its).flatten.toArray := by
    have f0 : ∀ m : Nat, List.foldl (fun x1 x2 => x1 ++ x2) #[] (List.replicate m its.toArray) = (List.replicate m its).flatten.toArray := fun m => by
      have := foldl_rep its m []
      rw [List.nil_append] at this
      exact this
    rw [f0]
    cases its with
    | nil => simp
    | cons a r' => rw [if_neg (by simp)]
  refine wpAny_binaryOp_repeat_ref (T := "list") (U := "int") (by decide) ⟨_, e, rfl⟩ (fun s' => typeIs_int s' k t) noFill_list_mul F.fills_int_mul F.slot_int_rmul repeat_list F.slot_int_index.lookup
    (call_meets F.slot_int_rmul (typeIs_int s k t) F.entry_int_rmul (F.args_int_rmul_2 _ _) (int___rmul___int_list k t l its.toArray n)
      ⟨e, rfl, ⟨_, e, rfl⟩, call_meets F.slot_list_mul ⟨_, e, rfl⟩ F.entry_list_mul (F.args_list_mul_2 _ _) (AutoListH.list___mul___list_int_3 l its.toArray n k t hfit hcap hlong) ⟨e, ?_⟩⟩)
  rw [hnew]
  exact ⟨.ref _, _, I.lnew (t' := s.toks) (r.rep k.toNat) (by rw [PyProof.Rows.lm_len_rep_flat, Nat.mul_comm]; exact hz), rfl, q _ I.fresh⟩
end

theorem Rep.nth {K : PySem.W.Frag} {mg : Str → Option Value} {H : Hp} {L : List Item} {B : List (V × O)} {vs : List V} {ds : List D} {i : Nat} {v : V} {d : D} (h : Rep K mg H (zipI vs (ds.map O.val) ++ L) B) (h1 : vs[i]? = some v) (h2 : ds[i]? = some d) : Rep K mg H L ((v, .val d) :: B) := by
  obtain ⟨A, nd, ok, hb⟩ := h
  obtain ⟨bs, cs, e2, t1, t2⟩ := ok.split
  have hv : ∀ {vs : List V} {ds : List D} {as : List Addr} {i : Nat} {v : V} {d : D}, IsOk K mg (hide H A) H (zipI vs (ds.map O.val)) as → vs[i]? = some v → ds[i]? = some d → Vw K mg (hide H A) v d := by
    intro vs
    induction vs with
    | nil => intro ds as i v d _ h1 _; simp at h1
    | cons w vs ih =>
      intro ds as i v d t h1 h2
      cases ds with
      | nil => simp at h2
      | cons e ds =>
        cases t with
        | cons t r =>
          cases i with
          | zero =>
            simp at h1 h2
            subst h1 h2
            cases t with
            | ov t => cases t with
              | val t => exact t
          | succ i => exact ih r (by simpa using h1) (by simpa using h2)
  have q := hv t1 h1 h2
  have e0 : ∀ {vs : List V} {ds : List D} {as : List Addr}, IsOk K mg (hide H A) H (zipI vs (ds.map O.val)) as → as = [] := by
    intro vs
    induction vs with
    | nil => intro ds as t; cases ds <;> cases t <;> rfl
    | cons w vs ih =>
      intro ds as t
      cases ds with
      | nil => cases t; rfl
      | cons e ds =>
        cases t with
        | cons t r =>
          have := ih r
          subst this
          cases t with
          | ov t => cases t with
            | val t => rfl
  have e3 := e0 t1
  subst e3
  rw [List.nil_append] at e2
  subst e2
  refine ⟨A, nd, t2, fun b hb' => ?_⟩
  rcases List.mem_cons.mp hb' with e4 | hb'
  · subst e4; exact ⟨[], .val q, by simp⟩
  · exact hb b hb'

section
variable {X : Cx} {K : PySem.W.Frag} {mg : Str → Option Value}
/-- ints in, a shown scalar out -/
theorem opv_int0 {g : Int → Int → V} {f : D → D → Option D} (hf : ∀ x y d, f x y = some d → ∃ i j, x = .int i ∧ y = .int j ∧ ∀ G, Vw K mg G (g i j) d) : OpV K mg (rI0 g) (lift2 f) := by
  intro H L B x y ox oy o Q R hx hy e k
  obtain ⟨a, b, d, e1, e2, e3, rfl⟩ := lift2_eq e
  obtain ⟨i, j, rfl, rfl, hv⟩ := hf a b d e3
  exact ⟨i, j, R.shInt hx e1, R.shInt hy e2, k _ _ (Same.refl _) (R.scalB hv)⟩
theorem opv_int {C : Int → Int → Prop} {g : Int → Int → V} {f : D → D → Option D} (hf : ∀ x y d, f x y = some d → ∃ i j, x = .int i ∧ y = .int j ∧ C i j ∧ ∀ G, Vw K mg G (g i j) d) : OpV K mg (rI C g) (lift2 f) := by
  intro H L B x y ox oy o Q R hx hy e k
  obtain ⟨a, b, d, e1, e2, e3, rfl⟩ := lift2_eq e
  obtain ⟨i, j, rfl, rfl, hc, hv⟩ := hf a b d e3
  exact ⟨i, j, R.shInt hx e1, R.shInt hy e2, hc, k _ _ (Same.refl _) (R.scalB hv)⟩
def rAddF (K : PySem.W.Frag) : R2 := fun x y H Q => rI0 (fun i j => .int (i + j)) x y H Q ∨ ((∃ i j, x = .str i ∧ y = .str j ∧ i.length + j.length ≤ sizeLine ∧ Q (.str (i ++ j)) H) ∨ (rCatR x y H Q ∨ rCatA K x y H Q))
theorem op_addF : OpR X (binaryOp .Add) (rAddF X.K) := op_add.or (op_add_str.or (op_catR.or op_catA))
theorem opv_add : OpV K mg (rAddF K) (lift2 addD) := by
  intro H L B x y ox oy o Q R hx hy e k
  obtain ⟨a, b, d, e1, e2, e3, rfl⟩ := lift2_eq e
  unfold addD at e3
  split at e3
  · cases e3
    exact .inl ⟨_, _, R.shInt hx e1, R.shInt hy e2, k _ _ (Same.refl _) (R.scalB fun _ => .int _)⟩
  · split at e3
    · cases e3
      rename_i h
      refine .inr (.inl ⟨_, _, R.shStr hx e1, R.shStr hy e2, line6 h, k _ _ (Same.refl _) (R.scalB fun _ => .str _ (strOk_append (R.strOk hx e1) (R.strOk hy e2)))⟩)
    · cases e3
  · split at e3
    · cases e3
      rename_i xs ys h
      obtain ⟨p, vs, rfl, hp, lp, R1⟩ := R.shL hx e1
      obtain ⟨q, ws, rfl, hq, lq, R2⟩ := R1.shL hy e2
      refine .inr (.inr (.inl ⟨p, q, vs, ws, rfl, rfl, hp, hq, line6 (by omega), fun r hr => k _ _ (sameNew hr) ?_⟩))
      refine Rep.lentL (vs := vs ++ ws) (ds := xs ++ ys) ?_ (by simp [lp, lq]) hr
      have ez : zipI (vs ++ ws) ((xs ++ ys).map O.val) = zipI vs (xs.map O.val) ++ zipI ws (ys.map O.val) := by
        unfold zipI
        rw [List.map_append, List.zipWith_append (by simpa using lp)]
      rw [ez, List.append_assoc]
      exact R2.perm (by rw [← List.append_assoc, ← List.append_assoc]; exact List.perm_append_comm.append_right L)
    · cases e3
  · split at e3
    · cases e3
      rename_i xs ys h
      obtain ⟨p, vs, rfl, hp, lp, R1⟩ := R.shT hx e1
      obtain ⟨q, ws, rfl, hq, lq, R2⟩ := R1.shT hy e2
      have ea := sh_val_of e1 (fun _ => by intro z; cases z) (fun _ _ => by intro z; cases z) (fun _ _ _ => by intro z; cases z)
      have eb := sh_val_of e2 (fun _ => by intro z; cases z) (fun _ _ => by intro z; cases z) (fun _ _ _ => by intro z; cases z)
      subst ea eb
      refine .inr (.inr (.inr ⟨p, q, vs, ws, rfl, rfl, hp, hq, line6 (by omega), fun e => k _ _ (Same.refl _) ?_, fun _ e => k _ _ (Same.refl _) ?_, fun _ _ r hr => k _ _ (sameNew hr) ?_⟩))
      · have : xs = [] := List.eq_nil_of_length_eq_zero (by rw [← lp, e]; rfl)
        subst this
        exact R.bdup hy
      · have : ys = [] := List.eq_nil_of_length_eq_zero (by rw [← lq, e]; rfl)
        subst this
        rw [List.append_nil]
        exact R.bdup hx
      · refine Rep.lentT (vs := vs ++ ws) (ds := xs ++ ys) ?_ (by simp [lp, lq]) hr
        have ez : zipI (vs ++ ws) ((xs ++ ys).map O.val) = zipI vs (xs.map O.val) ++ zipI ws (ys.map O.val) := by
          unfold zipI
          rw [List.map_append, List.zipWith_append (by simpa using lp)]
        rw [ez, List.append_assoc]
        exact R2.perm (by rw [← List.append_assoc, ← List.append_assoc]; exact List.perm_append_comm.append_right L)
    · cases e3
  · cases e3
theorem opv_gt : OpV K mg (rI0 fun i j => .bl (decide (j < i))) (lift2 gtD) := opv_int0 fun x y d e => by
  unfold gtD at e
  split at e
  · cases e; exact ⟨_, _, rfl, rfl, fun _ => .bl _⟩
  · cases e
theorem opv_ge : OpV K mg (rI0 fun i j => .bl (decide (j ≤ i))) (lift2 geD) := opv_int0 fun x y d e => by
  unfold geD at e
  split at e
  · cases e; exact ⟨_, _, rfl, rfl, fun _ => .bl _⟩
  · cases e
theorem opv_fdiv : OpV K mg (rI CDivW fun i j => .int (i / j)) (lift2 fdivD) := opv_int fun x y d e => by
  unfold fdivD at e
  split at e
  · split at e
    · rename_i h
      cases e; exact ⟨_, _, rfl, rfl, h, fun _ => .int _⟩
    · cases e
  · cases e
theorem opv_mod : OpV K mg (rI (fun _ j => 0 < j) fun i j => .int (i % j)) (lift2 modD) := opv_int fun x y d e => by
  unfold modD at e
  split at e
  · split at e
    · rename_i h
      cases e; exact ⟨_, _, rfl, rfl, h, fun _ => .int _⟩
    · cases e
  · cases e
theorem opv_pow : OpV K mg (rI CPow fun i j => .int (i ^ j.toNat)) (lift2 powD) := opv_int fun x y d e => by
  unfold powD at e
  split at e
  · split at e
    · rename_i h
      cases e; exact ⟨_, _, rfl, rfl, h, fun _ => .int _⟩
    · cases e
  · cases e
theorem foldl_repN (its : List Nat) : ∀ (k : Nat) (acc : List Nat), List.foldl (fun x1 x2 => x1 ++ x2) acc.toArray (List.replicate k its.toArray) = (acc ++ (List.replicate k its).flatten).toArray
  | 0, acc => by simp
  | k + 1, acc => by
    have e : acc.toArray ++ its.toArray = (acc ++ its).toArray := by simp
    rw [List.replicate_succ, List.foldl_cons, e, foldl_repN its k, List.replicate_succ, List.flatten_cons, List.append_assoc]
/-- a text again and again -/
def rRepS : R2 := fun x y H Q => ∃ s k, x = .str s ∧ y = .int k ∧ k < 1000000 ∧ -1000000 < k ∧ s.length * k.toNat ≤ 1000000 ∧ Q (.str (repS s k.toNat)) H
theorem op_repS : OpR X (binaryOp .Mult) rRepS := by
  intro pins s σ H x y v u Q I rx ry h
  obtain ⟨z, k, rfl, rfl, h1, h2, h3, q⟩ := h
  obtain ⟨t, rfl⟩ := rx
  obtain ⟨t', rfl⟩ := ry
  have hl : z.cps.toList.length = z.length := by simp [Str.length]
  refine P.mul_str ?_ ?_ ?_ ?_
  · have l63 : (2 : Int) ^ 63 = 9223372036854775808 := by decide
    rw [l63]
    have d1 : ¬ k < -9223372036854775808 := by omega
    have d2 : ¬ k ≥ 9223372036854775808 := by omega
    rw [decide_eq_false d1, decide_eq_false d2]; rfl
  · intro a1 _ a3
    have hk : 1 ≤ k := by omega
    have h4 : (z.length : Int) * k ≤ 1000000 := by
      have : (z.length : Int) * (k.toNat : Int) ≤ 1000000 := by rw [← Int.natCast_mul]; exact Int.ofNat_le.mpr h3
      rwa [show ((k.toNat : Nat) : Int) = k by omega] at this
    have l63 : (2 : Int) ^ 63 = 9223372036854775808 := by decide
    have h6 : (z.length : Int) ≤ (9223372036854775808 - 1) / k := Int.le_ediv_of_mul_le (by omega) (Int.le_trans h4 (by decide))
    rw [l63] at a3
    exact absurd a3 (Int.not_lt.mpr h6)
  · intro _ _
    unfold Builtin.Str.tooLong
    have : ¬ z.length * k.toNat > sizeLine := by rw [sizeLine_eq]; omega
    exact decide_eq_false this
  · by_cases a1 : k < 1
    · rw [if_pos a1]
      have e : repS z k.toNat = Str.empty := by unfold repS; rw [show k.toNat = 0 by omega]; rfl
      rw [e] at q
      exact ⟨by decide, .str Str.empty, H, I.tok _, ⟨_, rfl⟩, q⟩
    · rw [if_neg a1]
      by_cases a2 : (k == 1 || z.length == 0) = true
      · rw [if_pos a2]
        have e : repS z k.toNat = z := by
          unfold repS
          rw [Bool.or_eq_true, beq_iff_eq, beq_iff_eq] at a2
          rcases a2 with a2 | a2
          · rw [show k.toNat = 1 by omega]; simp
          · have : z.cps.toList = [] := by rw [← hl] at a2; exact List.eq_nil_of_length_eq_zero a2
            rw [this]
            have z0 : z = ⟨#[]⟩ := by
              cases z with
              | mk a =>
                have : a = #[] := by apply Array.toList_inj.mp; exact this
                rw [this]
            rw [z0]
            have : ∀ m : Nat, (List.replicate m ([] : List Nat)).flatten = [] := fun m => by simp
            rw [this]
        rw [e] at q
        exact ⟨.str z, H, I, ⟨_, rfl⟩, q⟩
      · rw [if_neg a2]
        have e : (⟨(List.replicate k.toNat z.cps).foldl (· ++ ·) #[]⟩ : Str) = repS z k.toNat := by
          unfold repS
          have := foldl_repN z.cps.toList k.toNat []
          rw [List.nil_append] at this
          rw [← this]
        rw [e]
        refine ⟨?_, .str (repS z k.toNat), H, I.tok _, ⟨_, rfl⟩, q⟩
        have : (repS z k.toNat).length ≤ 1000000 := by
          show (repS z k.toNat).cps.size ≤ _
          unfold repS
          simp
          rw [show z.cps.size = z.length from rfl, Nat.mul_comm]; exact h3
        first
          | (rw [sizeLine_eq]; omega)
          | (have := this; show _ ≤ sizeLine; rw [sizeLine_eq]; omega)
theorem repS_ok {s : Str} (h : PyData.strOk s = true) (k : Nat) : PyData.strOk (repS s k) = true := by
  have q : ∀ c ∈ s.cps.toList, decide (c < 0x110000) = true := by
    have h : s.cps.all (· < 0x110000) = true := h
    rw [← Array.all_toList, List.all_eq_true] at h
    exact h
  show (repS s k).cps.all (· < 0x110000) = true
  rw [← Array.all_toList, List.all_eq_true]
  intro c hc
  have hc : c ∈ (List.replicate k s.cps.toList).flatten := hc
  obtain ⟨l, hl, hm⟩ := List.mem_flatten.mp hc
  rw [(List.mem_replicate.mp hl).2] at hm
  exact q c hm
def rMulF (K : PySem.W.Frag) : R2 := fun x y H Q => rI CMul (fun i j => .int (i * j)) x y H Q ∨ (rI CMulW (fun i j => .int (i * j)) x y H Q ∨ (rRepR x y H Q ∨ rRepS x y H Q))
theorem op_mulF : OpR X (binaryOp .Mult) (rMulF X.K) := op_mul.or (op_mulW.or (op_repR.or op_repS))
theorem zip_rep (vs : List V) (xs : List D) (lp : vs.length = xs.length) : ∀ n : Nat, zipI (List.replicate n vs).flatten ((List.replicate n xs).flatten.map O.val) = (List.replicate n (zipI vs (xs.map O.val))).flatten
  | 0 => rfl
  | n + 1 => by
    rw [List.replicate_succ, List.replicate_succ, List.replicate_succ, List.flatten_cons, List.flatten_cons, List.flatten_cons, ← zip_rep vs xs lp n]
    unfold zipI
    rw [List.map_append, List.zipWith_append (by simpa using lp)]
theorem len_rep {α β : Type} (vs : List α) (xs : List β) (lp : vs.length = xs.length) : ∀ n : Nat, (List.replicate n vs).flatten.length = (List.replicate n xs).flatten.length
  | 0 => rfl
  | n + 1 => by rw [List.replicate_succ, List.replicate_succ, List.flatten_cons, List.flatten_cons, List.length_append, List.length_append, lp, len_rep vs xs lp n]
/-- shared items again and again -/
theorem Rep.again {H : Hp} {L : List Item} {B : List (V × O)} {vs : List V} {xs : List D} (R : Rep K mg H (zipI vs (xs.map O.val) ++ L) B) : ∀ n : Nat, Rep K mg H ((List.replicate n (zipI vs (xs.map O.val))).flatten ++ L) B
  | 0 => R.dropVs
  | n + 1 => by
    have ih := Rep.again R n
    obtain ⟨A, nd, ok, hb⟩ := R
    obtain ⟨A', nd', ok', hb'⟩ := ih
    obtain ⟨bs, cs, e2, t1, t2⟩ := ok.split
    have e0 : ∀ {vs : List V} {ds : List D} {as : List Addr}, IsOk K mg (hide H A) H (zipI vs (ds.map O.val)) as → as = [] := by
      intro vs
      induction vs with
      | nil => intro ds as t; cases ds <;> cases t <;> rfl
      | cons w vs ih =>
        intro ds as t
        cases ds with
        | nil => cases t; rfl
        | cons e ds =>
          cases t with
          | cons t r =>
            have := ih r
            subst this
            cases t with
            | ov t => cases t with
              | val t => rfl
    have e3 := e0 t1
    subst e3
    rw [List.nil_append] at e2
    subst e2
    refine ⟨A, nd, ?_, hb⟩
    rw [List.replicate_succ, List.flatten_cons, List.append_assoc]
    refine IsOk.append (as := []) t1 ?_
    clear hb' ok' nd' ok hb
    induction n with
    | zero => exact t2
    | succ n ih =>
      rw [List.replicate_succ, List.flatten_cons, List.append_assoc]
      exact IsOk.append (as := []) t1 ih
theorem opv_mul : OpV K mg (rMulF K) (lift2 mulD) := by
  intro H L B x y ox oy o Q R hx hy e k
  obtain ⟨a, b, d, e1, e2, e3, rfl⟩ := lift2_eq e
  unfold mulD at e3
  split at e3
  · split at e3
    · rename_i i j h
      cases e3
      have q := k _ H (Same.refl _) (R.scalB (v := .int (i * j)) (d := .int (i * j)) fun _ => .int _)
      unfold mulOk at h
      simp only [Bool.or_eq_true, decide_eq_true_eq] at h
      rcases h with (h | h) | h
      · exact .inl ⟨i, j, R.shInt hx e1, R.shInt hy e2, .inl (by omega), q⟩
      · exact .inl ⟨i, j, R.shInt hx e1, R.shInt hy e2, .inr (by omega), q⟩
      · exact .inr (.inl ⟨i, j, R.shInt hx e1, R.shInt hy e2, h, q⟩)
    · cases e3
  · split at e3
    · rename_i xs j h
      cases e3
      obtain ⟨p, vs, rfl, hp, lp, R1⟩ := R.shL hx e1
      obtain ⟨h1, h2, h3⟩ := h
      refine .inr (.inr (.inl ⟨p, j, vs, rfl, R.shInt hy e2, hp, by omega, by omega, line6 (by rw [lp]; exact h3), fun r hr => k _ _ (sameNew hr) ?_⟩))
      refine Rep.lentL ?_ (len_rep _ _ lp _) hr
      rw [zip_rep _ _ lp]
      exact Rep.again R1 _
    · cases e3
  · split at e3
    · rename_i s j h
      cases e3
      obtain ⟨h1, h2, h3⟩ := h
      exact .inr (.inr (.inr ⟨s, j, R.shStr hx e1, R.shInt hy e2, h1, h2, h3, k _ _ (Same.refl _) (R.scalB fun _ => .str _ (repS_ok (R.strOk hx e1) _))⟩))
    · cases e3
  · cases e3
end
end FB

/-! Comparisons, membership, subscripts, slices, built-ins. -/
namespace FB
open PySem PySem.Spec L2
open PyProof.Rows hiding St

section
variable {X : Cx} {K : PySem.W.Frag} {mg : Str → Option Value}
/-! ### == and != -/
def neO (a b : O) : Option O := if (a.toD.okE 9 && b.toD.okE 9) = true then some (.val (.bl (!a.toD.eqv b.toD))) else none
theorem opv_eq : OpV K mg (rEqD K) eqO := by
  intro H L B x y ox oy o Q R hx hy e k
  unfold eqO at e
  split at e
  · rename_i h
    cases e
    rw [Bool.and_eq_true] at h
    have v1 : Vw K mg H x ox.toD := R.view hx
    have v2 : Vw K mg H y oy.toD := R.view hy
    exact ⟨_, _, v1.dp 9 h.1, v2.dp 9 h.2, v1.shaped h.1, v2.shaped h.2, k _ _ (Same.refl _) (R.scalB fun _ => .bl _)⟩
  · cases e
theorem opv_ne : OpV K mg (rNeD K) neO := by
  intro H L B x y ox oy o Q R hx hy e k
  unfold neO at e
  split at e
  · rename_i h
    cases e
    rw [Bool.and_eq_true] at h
    have v1 : Vw K mg H x ox.toD := R.view hx
    have v2 : Vw K mg H y oy.toD := R.view hy
    exact ⟨_, _, v1.dp 9 h.1, v2.dp 9 h.2, v1.shaped h.1, v2.shaped h.2, k _ _ (Same.refl _) (R.scalB fun _ => .bl _)⟩
  · cases e
/-! ### is None -/
/-! ### in, not in -/
def D.flat : D → Bool
  | .non => true
  | .bl _ => true
  | .int _ => true
  | .str _ => true
  | _ => false
theorem Vw.flat {G : Hp} {v : V} {d : D} (h : Vw K mg G v d) (e : d.flat = true) : flatV v = true := by
  cases h <;> first | rfl | cases e
theorem Vws.flat {G : Hp} : ∀ {vs : List V} {ds : List D}, Vws K mg G vs ds → ds.all D.flat = true → vs.all flatV = true
  | _, _, .nil, _ => rfl
  | _, _, .cons h t, e => by
    rw [List.all_cons, Bool.and_eq_true] at e
    rw [List.all_cons, h.flat e.1, Vws.flat t e.2]; rfl
/-! ### x[i] -/
def ixO (a b : O) : Option O := match b with
  | .val (.int i) => match a with
    | .lst os => atI os i
    | .val (.lst ds) => (atI ds i).map O.val
    | .val (.tup ds) => (atI ds i).map O.val
    | .val (.scr ns) => (atI ns i).map fun n => .val (.int n)
    | .val (.str z) => if z.length ≤ 1000000 then (atI z.cps.toList i).map fun c => .val (.str ⟨#[c]⟩) else none
    | _ => none
  | _ => none
theorem atI_len {α β : Type} {xs : List α} {ys : List β} {i : Int} {y : β} (e : xs.length = ys.length) (h : atI ys i = some y) : ∃ (j : Nat) (x : α), ys[j]? = some y ∧ xs[j]? = some x ∧ atI xs i = some x := by
  unfold atI at h ⊢
  rw [← e] at h
  cases q : ixN xs.length i with
  | none => rw [q] at h; cases h
  | some j =>
    rw [q] at h
    have h : ys[j]? = some y := h
    have hj : j < ys.length := (List.getElem?_eq_some_iff.mp h).1
    exact ⟨j, xs[j]'(by omega), h, by simp, by simp⟩
theorem strOk_at {z : Str} {i : Int} {c : Nat} (h : PyData.strOk z = true) (e : atI z.cps.toList i = some c) : PyData.strOk ⟨#[c]⟩ = true := by
  obtain ⟨j, _, hj, _⟩ := atI_get e
  have hm : c ∈ z.cps.toList := by
    obtain ⟨j', _, h2, _⟩ := atI_get e
    exact List.mem_of_getElem? h2
  have q : ∀ c ∈ z.cps.toList, decide (c < 0x110000) = true := by
    have h : z.cps.all (· < 0x110000) = true := h
    rw [← Array.all_toList, List.all_eq_true] at h
    exact h
  show (#[c].all _) = true
  simp [of_decide_eq_true (q c hm)]
theorem opv_ix : OpV K mg (rIx K) ixO := by
  intro H L B x y ox oy o Q R hx hy e k
  unfold ixO at e
  split at e
  · rename_i i
    have ey : y = .int i := R.shInt hy rfl
    split at e
    · rename_i os
      obtain ⟨A, nd, ok, hb⟩ := id R
      obtain ⟨as, h1, h2⟩ := hb _ hx
      cases h1 with
      | lst h1 hs =>
        obtain ⟨j, v, e1, e2, e3⟩ := atI_len hs.length e
        refine .inl ⟨_, _, i, v, rfl, ey, SqL.of h1, e3, k v H (Same.refl _) ⟨A, nd, ok, fun b q => ?_⟩⟩
        rcases List.mem_cons.mp q with q | q
        · subst q
          have sub : ∀ {vs : List V} {os : List O} {as : List Addr} {j : Nat} {v : V} {o : O}, VOs K mg (hide H A) H vs os as → os[j]? = some o → vs[j]? = some v → ∃ bs, VO K mg (hide H A) H v o bs ∧ ∀ a ∈ bs, a ∈ as := by
            intro vs
            induction vs with
            | nil => intro os as j v o t h1 h2; simp at h2
            | cons w vs ih =>
              intro os as j v o t h1 h2
              cases t with
              | cons t r =>
                cases j with
                | zero =>
                  simp at h1 h2
                  subst h1 h2
                  exact ⟨_, t, fun a ha => by simp [ha]⟩
                | succ j =>
                  obtain ⟨bs, q1, q2⟩ := ih r (by simpa using h1) (by simpa using h2)
                  exact ⟨bs, q1, fun a ha => by simp [q2 a ha]⟩
          obtain ⟨bs, q1, q2⟩ := sub hs e1 e2
          exact ⟨bs, q1, fun a ha => h2 a (by simp [q2 a ha])⟩
        · exact hb b q
    · rename_i ds
      cases e1 : atI ds i with
      | none => rw [e1] at e; cases e
      | some d =>
        rw [e1] at e; cases e
        obtain ⟨p, vs, rfl, hp, lp, R1⟩ := R.shL hx rfl
        obtain ⟨j, v, e1, e2, e3⟩ := atI_len lp e1
        exact .inl ⟨p, vs, i, v, rfl, ey, .inl hp, e3, k v H (Same.refl _) (R1.nth e2 e1)⟩
    · rename_i ds
      cases e1 : atI ds i with
      | none => rw [e1] at e; cases e
      | some d =>
        rw [e1] at e; cases e
        obtain ⟨p, vs, rfl, hp, lp, R1⟩ := R.shT hx rfl
        obtain ⟨j, v, e1, e2, e3⟩ := atI_len lp e1
        exact .inr (.inl ⟨p, vs, i, v, rfl, ey, hp, e3, k v H (Same.refl _) (R1.nth e2 e1)⟩)
    · rename_i ns
      cases e1 : atI ns i with
      | none => rw [e1] at e; cases e
      | some n =>
        rw [e1] at e; cases e
        have q : Vw K mg H x (.scr ns) := R.view hx
        cases q with
        | scr h =>
          have e4 : (ns.map V.int).length = ns.length := by simp
          obtain ⟨j, v, e1, e2, e3⟩ := atI_len e4 e1
          rw [List.getElem?_map, e1] at e2
          cases e2
          exact .inl ⟨_, _, i, _, rfl, ey, h, e3, k _ H (Same.refl _) (R.scalB fun _ => .int n)⟩
    · rename_i z
      split at e
      · rename_i hz
        cases e1 : atI z.cps.toList i with
        | none => rw [e1] at e; cases e
        | some c =>
          rw [e1] at e; cases e
          refine .inr (.inr ⟨z, i, c, R.shStr hx rfl, ey, line6 hz, e1, k _ H (Same.refl _) (R.scalB fun _ => .str _ (strOk_at (R.strOk hx rfl) e1))⟩)
      · cases e
    · cases e
  · cases e
/-! ### len -/
def lenO (a : O) : Option O := match a with
  | .lst os => some (.val (.int os.length))
  | .val (.lst ds) => some (.val (.int ds.length))
  | .val (.tup ds) => some (.val (.int ds.length))
  | .val (.scr ns) => some (.val (.int ns.length))
  | .val (.str z) => if z.length ≤ 1000000 then some (.val (.int z.length)) else none
  | .val (.dct _ _) => none
  | .dct ks _ => some (.val (.int ks.length))
  | _ => none
def rLenF (K : PySem.W.Frag) : List V → Hp → VK → Prop := fun xs H Q => (∃ x n, xs = [x] ∧ LenV K x H n ∧ Q (.int n) H) ∨ (∃ a kvs, xs = [V.ref a] ∧ H a = some (.dK kvs) ∧ Q (.int kvs.length) H)
theorem Rep.ownL {H : Hp} {L : List Item} {B : List (V × O)} {x : V} {os : List O} (R : Rep K mg H L B) (hx : (x, .lst os) ∈ B) : ∃ p vs, x = .ref p ∧ H p = some (.lst vs) ∧ vs.length = os.length := by
  obtain ⟨A, nd, ok, hb⟩ := R
  obtain ⟨as, h1, h2⟩ := hb _ hx
  cases h1 with
  | lst h1 hs => exact ⟨_, _, rfl, h1, hs.length⟩
theorem Rep.ownD {H : Hp} {L : List Item} {B : List (V × O)} {x : V} {ks : List Key} {os : List O} (R : Rep K mg H L B) (hx : (x, .dct ks os) ∈ B) : ∃ p kvs, x = .ref p ∧ H p = some (.dK kvs) ∧ (kvs.map (·.1) = ks ∧ ks.Nodup) ∧ kvs.length = os.length := by
  obtain ⟨A, nd, ok, hb⟩ := R
  obtain ⟨as, h1, h2⟩ := hb _ hx
  cases h1 with
  | dct h1 hk hs => exact ⟨_, _, rfl, h1, hk, by have := hs.length; simpa using this⟩
theorem unv_len : UnV K mg (fun x H Q => rLenF K [x] H Q) lenO := by
  intro H L B x ox o Q R hx e k
  unfold lenO at e
  split at e
  · cases e
    obtain ⟨p, vs, rfl, hp, lp⟩ := R.ownL hx
    exact .inl ⟨_, vs.length, rfl, .inl ⟨vs, SqL.of hp, rfl⟩, by rw [lp]; exact k _ _ (Same.refl _) (R.scalB fun _ => .int _)⟩
  · cases e
    obtain ⟨p, vs, rfl, hp, lp, _⟩ := R.shL hx rfl
    exact .inl ⟨_, vs.length, rfl, .inl ⟨vs, .inl hp, rfl⟩, by rw [lp]; exact k _ _ (Same.refl _) (R.scalB fun _ => .int _)⟩
  · cases e
    obtain ⟨p, vs, rfl, hp, lp, _⟩ := R.shT hx rfl
    exact .inl ⟨_, vs.length, rfl, .inr ⟨vs, hp, rfl⟩, by rw [lp]; exact k _ _ (Same.refl _) (R.scalB fun _ => .int _)⟩
  · cases e
    rename_i ns
    have q : Vw K mg H x (.scr ns) := R.view hx
    cases q with
    | scr h => exact .inl ⟨_, ns.length, rfl, .inl ⟨_, h, by simp⟩, k _ _ (Same.refl _) (R.scalB fun _ => .int _)⟩
  · split at e
    · rename_i z hz
      cases e
      rw [R.shStr hx rfl]
      exact .inl ⟨_, z.length, rfl, ⟨line6 hz, rfl⟩, k _ _ (Same.refl _) (R.scalB fun _ => .int _)⟩
    · cases e
  · cases e
  · cases e
    obtain ⟨p, kvs, rfl, hp, hk, lp⟩ := R.ownD hx
    refine .inr ⟨p, kvs, rfl, hp, ?_⟩
    have : kvs.length = (List.map (·.1) kvs).length := by simp
    rw [this, hk.1]
    exact k _ _ (Same.refl _) (R.scalB fun _ => .int _)
  · cases e
end
end FB

/-! Slices, built-ins by name, tests, displays. -/
namespace FB
open PySem PySem.Spec L2
open PyProof.Rows hiding St

section
variable {X : Cx} {K : PySem.W.Frag} {mg : Str → Option Value}
/-! ### slices -/
def cutL {α : Type} (xs : List α) (lo hi : Option Int) : List α := (xs.drop (HT.sIx xs.length 0 lo)).take (HT.sIx xs.length xs.length hi - HT.sIx xs.length 0 lo)
theorem cutL_map {α β : Type} (f : α → β) (xs : List α) (lo hi : Option Int) : cutL (xs.map f) lo hi = (cutL xs lo hi).map f := by
  unfold cutL
  rw [List.length_map, List.map_take, List.map_drop]
def slO (a : O) (lo hi : Option Int) : Option O := match a.sh with
  | some (.lst ds) => some (.val (.lst (cutL ds lo hi)))
  | some (.tup ds) => some (.val (.tup (cutL ds lo hi)))
  | some (.scr ns) => some (.val (.lst ((cutL ns lo hi).map D.int)))
  | some (.str z) => if z.length ≤ 1000000 then some (.val (.str (cutS z lo hi))) else none
  | _ => none
def rSlF (K : PySem.W.Frag) : V → Option Int → Option Int → Hp → VK → Prop := fun x lo hi H Q => rSlL K x lo hi H Q ∨ (rSlA K x lo hi H Q ∨ rSlS x lo hi H Q)
theorem sl_F : SlR X (rSlF X.K) := sl_list.or (sl_tupA.or sl_str)
theorem zip_cut (vs : List V) (ds : List D) (e : vs.length = ds.length) (lo hi : Option Int) : zipI (cutL vs lo hi) ((cutL ds lo hi).map O.val) = cutL (zipI vs (ds.map O.val)) lo hi := by
  have hz : (zipI vs (ds.map O.val)).length = ds.length := by unfold zipI; simp [e]
  unfold cutL
  rw [hz, e]
  unfold zipI
  rw [List.map_take, List.map_drop, List.drop_zipWith, List.take_zipWith]
theorem len_cut {α β : Type} (vs : List α) (ds : List β) (e : vs.length = ds.length) (lo hi : Option Int) : (cutL vs lo hi).length = (cutL ds lo hi).length := by
  unfold cutL
  simp [e]
theorem vals_nil {G H : Hp} : ∀ {vs : List V} {ds : List D} {as : List Addr}, IsOk K mg G H (zipI vs (ds.map O.val)) as → as = [] := by
  intro vs
  induction vs with
  | nil => intro ds as t; cases ds <;> cases t <;> rfl
  | cons w vs ih =>
    intro ds as t
    cases ds with
    | nil => cases t; rfl
    | cons e ds =>
      cases t with
      | cons t r =>
        have := ih r
        subst this
        cases t with
        | ov t => cases t with
          | val t => rfl
theorem vals_sub {G H : Hp} {M N : List Item} (h : IsOk K mg G H N []) (s : M.Sublist N) : IsOk K mg G H M [] := by
  induction s with
  | slnil => exact .nil
  | cons a s ih =>
    generalize e : ([] : List Addr) = as at h
    cases h with
    | cons h t =>
      rename_i as bs
      have e := List.append_eq_nil_iff.mp e.symm
      obtain ⟨e1, e2⟩ := e
      subst e1 e2
      exact ih t
  | cons_cons a s ih =>
    generalize e : ([] : List Addr) = as at h
    cases h with
    | cons h t =>
      rename_i as bs
      have e := List.append_eq_nil_iff.mp e.symm
      obtain ⟨e1, e2⟩ := e
      subst e1 e2
      exact .cons (as := []) h (ih t)
/-- some of the shared items -/
theorem Rep.someOf {H : Hp} {L : List Item} {B : List (V × O)} {vs : List V} {ds : List D} {M : List Item} (R : Rep K mg H (zipI vs (ds.map O.val) ++ L) B) (s : M.Sublist (zipI vs (ds.map O.val))) : Rep K mg H (M ++ L) B := by
  obtain ⟨A, nd, ok, hb⟩ := R
  obtain ⟨bs, cs, e2, t1, t2⟩ := ok.split
  subst e2
  have e3 := vals_nil t1
  subst e3
  exact ⟨_, nd, IsOk.append (as := []) (vals_sub t1 s) t2, hb⟩
theorem strOk_cut {z : Str} (h : PyData.strOk z = true) (lo hi : Option Int) : PyData.strOk (cutS z lo hi) = true := by
  have h : z.cps.all (· < 0x110000) = true := h
  rw [← Array.all_toList, List.all_eq_true] at h
  show (Array.all _ _) = true
  rw [← Array.all_toList, List.all_eq_true]
  intro c hc
  exact h c (List.mem_of_mem_drop (List.mem_of_mem_take (by simpa [cutS] using hc)))
theorem slv {H : Hp} {L : List Item} {B : List (V × O)} {x : V} {ox o : O} {lo hi : Option Int} {Q : VK} (R : Rep K mg H L B) (hx : (x, ox) ∈ B) (e : slO ox lo hi = some o) (k : ∀ v H', Same H H' → Rep K mg H' L ((v, o) :: B) → Q v H') : rSlF K x lo hi H Q := by
  unfold slO at e
  split at e
  · rename_i ds e1
    cases e
    obtain ⟨p, vs, rfl, hp, lp, R1⟩ := R.shL hx e1
    refine .inl ⟨p, vs, rfl, .inl hp, fun q hq => k _ _ (sameNew hq) ?_⟩
    refine Rep.lentL (vs := cutL vs lo hi) (ds := cutL ds lo hi) (R1.someOf ?_) (len_cut _ _ lp lo hi) hq
    rw [zip_cut _ _ lp]
    exact (List.take_sublist _ _).trans (List.drop_sublist _ _)
  · rename_i ds e1
    cases e
    obtain ⟨p, vs, rfl, hp, lp, R1⟩ := R.shT hx e1
    refine .inr (.inl ⟨p, vs, rfl, hp, fun hw => k _ _ (Same.refl _) ?_, fun hw q hq => k _ _ (sameNew hq) ?_⟩)
    · have : cutL ds lo hi = ds := by
        unfold cutL
        rw [← lp, hw.1, hw.2, List.drop_zero, Nat.sub_zero, lp, List.take_length]
      rw [this]
      have ea := sh_val_of e1 (fun _ => by intro z; cases z) (fun _ _ => by intro z; cases z) (fun _ _ _ => by intro z; cases z)
      subst ea
      exact R.bdup hx
    · refine Rep.lentT (vs := cutL vs lo hi) (ds := cutL ds lo hi) (R1.someOf ?_) (len_cut _ _ lp lo hi) hq
      rw [zip_cut _ _ lp]
      exact (List.take_sublist _ _).trans (List.drop_sublist _ _)
  · rename_i ns e1
    cases e
    have q : Vw K mg H x (.scr ns) := R.sh hx e1
    cases q with
    | scr h =>
      refine .inl ⟨_, _, rfl, h, fun q hq => k _ _ (sameNew hq) ?_⟩
      have e2 : cutV (ns.map V.int) lo hi = (cutL ns lo hi).map V.int := cutL_map _ _ _ _
      rw [e2]
      refine Rep.lentL ?_ (by simp) hq
      have : ∀ (ms : List Int), Rep K mg H (zipI (ms.map V.int) ((ms.map D.int).map O.val) ++ L) B := by
        intro ms
        induction ms with
        | nil => exact R
        | cons m ms ih => exact ih.scal fun _ => .int m
      exact this _
  · split at e
    · rename_i z e1 hz
      cases e
      exact .inr (.inr ⟨z, R.shStr hx e1, line6 hz, k _ _ (Same.refl _) (R.scalB fun _ => .str _ (strOk_cut (R.strOk hx e1) lo hi))⟩)
    · cases e
  · cases e
/-- a slice's bound -/
def tPO (K : PySem.W.Frag) (mg : Str → Option Value) (f : Env → Option (Option Int)) : TO := fun σ H Q => ∃ ρ T B i, Cov σ ρ ∧ Rep K mg H (pairs σ ρ ++ T) B ∧ f ρ = some i ∧ ∀ H', Same H H' → Rep K mg H' (pairs σ ρ ++ T) B → Q i H'
theorem PO.imp {X : Cx} {e : Option Expr} {t t' : TO} (h : PO X e t) (q : ∀ σ H Q, t' σ H Q → t σ H Q) : PO X e t' := ⟨fun pins s σ H Q I w => h.run pins s σ H Q I (q σ H Q w)⟩
def SPO (X : Cx) (e : Option Expr) (f : Env → Option (Option Int)) : Prop := PO X e (tPO X.K X.mg f)
def pNone : Env → Option (Option Int) := fun _ => some none
def pInt (f : Pf) : Env → Option (Option Int) := fun ρ => match f ρ with
  | some (.val (.int i)) => some (some i)
  | _ => none
theorem spo_none : SPO X none pNone := PO.imp po_none fun σ H Q h => by
  obtain ⟨ρ, T, B, i, c, R, e, k⟩ := h
  cases e
  exact k H (Same.refl _) R
theorem spo_some {e : Expr} {f : Pf} (h : SP X e f) : SPO X (some e) (pInt f) := PO.imp (po_some h) fun σ H Q q => by
  obtain ⟨ρ, T, B, i, c, R, e, k⟩ := q
  unfold pInt at e
  split at e
  · rename_i j e1
    cases e
    refine ⟨ρ, T, B, _, c, R, e1, fun v H' s' R' => ⟨j, R'.shInt (List.mem_cons_self ..) rfl, k H' s' R'.bdrop⟩⟩
  · cases e
def pSl (f : Pf) (lo hi : Env → Option (Option Int)) : Pf := fun ρ => (f ρ).bind fun a => (lo ρ).bind fun l => (hi ρ).bind fun h => slO a l h
theorem sp_sl {e : Expr} {lo hi : Option Expr} {f : Pf} {fl fh : Env → Option (Option Int)} {p2 pos} (h : SP X e f) (hl : SPO X lo fl) (hh : SPO X hi fh) : SP X (.Subscript e (.Slice lo hi none p2) pos) (pSl f fl fh) :=
  PE.imp (pe_slice sl_F h hl hh) fun σ H Q q => by
    obtain ⟨ρ, T, B, o, c, R, e, k⟩ := q
    unfold pSl at e
    cases e1 : f ρ with
    | none => rw [e1] at e; cases e
    | some a =>
      rw [e1] at e
      have e : (fl ρ).bind (fun l => (fh ρ).bind fun h => slO a l h) = some o := e
      cases e2 : fl ρ with
      | none => rw [e2] at e; cases e
      | some l =>
        rw [e2] at e
        have e : (fh ρ).bind (fun h => slO a l h) = some o := e
        cases e3 : fh ρ with
        | none => rw [e3] at e; cases e
        | some u =>
          rw [e3] at e
          have e : slO a l u = some o := e
          exact ⟨ρ, T, B, a, c, R, e1, fun v H1 s1 R1 => ⟨ρ, T, _, l, c, R1, e2, fun H2 s2 R2 => ⟨ρ, T, _, u, c, R2, e3, fun H3 s3 R3 =>
            slv R3 (List.mem_cons_self ..) e fun w H4 s4 R4 => k w H4 (s1.trans (s2.trans (s3.trans s4))) (R4.bsub fun z hz => by
              rcases List.mem_cons.mp hz with hz | hz
              · simp [hz]
              · simp [hz])⟩⟩⟩
/-! ### built-ins of one and two arguments -/
theorem sp_b1 {id : String} {x : Str} {a : Expr} {p pos : Pos} {f : Pf} {r : List V → Hp → VK → Prop} {op : O → Option O} (hc : CallR X (.builtin id) r) (h : UnV X.K X.mg (fun x H Q => r [x] H Q) op) (hg : Gl X x) (hm : X.mg x = none) (hv : bootBuiltins x = some (.builtin id)) (ha : SP X a f)
    (hn : x ≠ "__name__" := by decide) (hdb : (x == ("__debug__" : Str)) = false := by decide) (hst : starEach (a :: []) X.env = (false, eval a X.env) :: starEach [] X.env := by rfl) (hpl : (backTo pos (starEach [] X.env)).any (·.1) = false := by rfl) :
    SP X (.Call (.Name x p) [a] [] pos) (p1 op f) := PE.imp (pe_callB hc hg hm hv (pa_cons ha pa_nil hst) hn hdb hst hpl) (tUn_p h)
theorem sp_t1 {T : String} {x : Str} {a : Expr} {p pos : Pos} {f : Pf} {r : List V → Hp → VK → Prop} {op : O → Option O} (hc : CallR X (.type T) r) (h : UnV X.K X.mg (fun x H Q => r [x] H Q) op) (hg : Gl X x) (hm : X.mg x = none) (hv : bootBuiltins x = some (.type T)) (ha : SP X a f)
    (hn : x ≠ "__name__" := by decide) (hdb : (x == ("__debug__" : Str)) = false := by decide) (hst : starEach (a :: []) X.env = (false, eval a X.env) :: starEach [] X.env := by rfl) (hpl : (backTo pos (starEach [] X.env)).any (·.1) = false := by rfl) :
    SP X (.Call (.Name x p) [a] [] pos) (p1 op f) := PE.imp (pe_callTy hc hg hm hv (pa_cons ha pa_nil hst) hn hdb hst hpl) (tUn_p h)
theorem call_lenF : CallR X (.builtin "len") (rLenF X.K) := call_len.or call_lenD

/-! isinstance of a built-in class -/
def D.ty : D → Option String
  | .non => some "NoneType"
  | .bl _ => some "bool"
  | .int _ => some "int"
  | .str _ => some "str"
  | .tup _ => some "tuple"
  | .lst _ => some "list"
  | .scr _ => some "list"
  | .fn _ => none
  | .exc _ _ _ => none
  | .dct _ _ => some "dict"
  | .ins _ _ _ => none
end
end FB

/-! Built-ins over lists; tests; displays. -/
namespace FB
open PySem PySem.Spec L2
open PyProof.Rows hiding St

section
variable {X : Cx} {K : PySem.W.Frag} {mg : Str → Option Value}
def bls? : List D → Option (List Bool)
  | [] => some []
  | .bl b :: ds => (bls? ds).map (b :: ·)
  | _ :: _ => none
def D.lbls? : D → Option (List Bool)
  | .lst ds => bls? ds
  | _ => none
def anyO (a : O) : Option O := (a.toD.lbls?).map fun bs => .val (.bl (bs.any id))
/-- list(xs): of a list or tuple -/
def listO (a : O) : Option O := match a.sh with
  | some (.lst ds) => some (.val (.lst ds))
  | some (.tup ds) => some (.val (.lst ds))
  | some (.scr ns) => some (.val (.lst (ns.map D.int)))
  | _ => none
theorem Rep.ints {H : Hp} {L : List Item} {B : List (V × O)} (R : Rep K mg H L B) (ms : List Int) : Rep K mg H (zipI (ms.map V.int) ((ms.map D.int).map O.val) ++ L) B := by
  induction ms with
  | nil => exact R
  | cons m ms ih => exact ih.scal fun _ => .int m
theorem unv_list : UnV K mg (fun x H Q => ∃ p ys, [x] = [.ref p] ∧ (SqL K H p ys ∨ SqT K H p ys) ∧ ∀ l, H l = none → Q (.ref l) (upd H l (.lst ys))) listO := by
  intro H L B x ox o Q R hx e k
  unfold listO at e
  split at e
  · rename_i ds e1
    cases e
    obtain ⟨p, vs, rfl, hp, lp, R1⟩ := R.shL hx e1
    exact ⟨p, vs, rfl, .inl (.inl hp), fun q hq => k _ _ (sameNew hq) (R1.lentL lp hq)⟩
  · rename_i ds e1
    cases e
    obtain ⟨p, vs, rfl, hp, lp, R1⟩ := R.shT hx e1
    exact ⟨p, vs, rfl, .inr hp, fun q hq => k _ _ (sameNew hq) (R1.lentL lp hq)⟩
  · rename_i ns e1
    cases e
    have q : Vw K mg H x (.scr ns) := R.sh hx e1
    cases q with
    | scr h => exact ⟨_, _, rfl, .inl h, fun q hq => k _ _ (sameNew hq) ((R.ints ns).lentL (by simp) hq)⟩
  · cases e
/-! ### tests -/
def mB (m : M O) : M Bool := fun ρ => (m ρ).bind fun o ρ' => match o with
  | .val (.bl b) => .ok b ρ'
  | _ => .no
theorem set_of {e : Expr} {t : TE} {m : M O} (h : PT X e (tB t)) (q : ∀ σ H Q, tM X.K X.mg m σ H Q → t σ H Q) : SET X e (mB m) := PT.imp h fun σ H Q w => by
  obtain ⟨ρ, T, b, ρ', c, R, e, k⟩ := w
  obtain ⟨o, ρ1, e1, e⟩ := Res.bind_eq e
  split at e
  · rename_i d
    cases e
    exact q σ H _ ⟨ρ, T, _, _, c, R, e1, fun v H' c' R' => ⟨b, R'.lend.shBl (List.mem_cons_self ..) rfl, k H' c' R'.drop⟩⟩
  · cases e
theorem set_val {e : Expr} {m : M O} (h : SE X e m) (he : ∀ whole, isTrue e X.env whole = (do let v ← whole; standAt e.pos; holding [v] (truthy v)) := by intro _; rfl) : SET X e (mB m) := set_of (pt_val h he) fun _ _ _ q => q
theorem set_cmp {o : CmpOp} {a b : Expr} {pos : Pos} {m n : M O} {r : R2} {op : O → O → Option O} (ho : OpR X (compareOp o) r) (h : OpV X.K X.mg r op) (ha : SE X a m) (hb : SE X b n) (hm : behindInMarks o b = false) : SET X (.Compare a [o] [b] pos) (mB (m2 op m n)) := set_of (pt_cmpR ho ha hb hm) (tOp_m h)
theorem tP_m {f : Pf} {t : TE} (q : ∀ σ H Q, tP K mg f σ H Q → t σ H Q) (σ : L2.St) (H : Hp) (Q : VK) (w : tM K mg (mP f) σ H Q) : t σ H Q := by
  obtain ⟨ρ, T, o, ρ', c, R, e, k⟩ := w
  unfold mP at e
  cases z : f ρ with
  | none => rw [z] at e; cases e
  | some u =>
    rw [z] at e
    cases u with
    | val d =>
      cases e
      exact q σ H Q ⟨ρ, T, [], .val d, c, R, z, fun v H' _ R' => k v H' c R'.keep⟩
    | lst _ => cases e
    | dct _ _ => cases e
    | ins _ _ _ => cases e
theorem set_cmpP {o : CmpOp} {a b : Expr} {pos : Pos} {f g : Pf} {r : R2} {op : O → O → Option O} (ho : OpR X (compareOp o) r) (h : OpV X.K X.mg r op) (ha : SP X a f) (hb : SP X b g) (hm : behindInMarks o b = false) : SET X (.Compare a [o] [b] pos) (mB (mP (p2 op f g))) := set_of (pt_cmpR ho ha hb hm) (tP_m (tOp_p h))
def mAnd (a b : M Bool) : M Bool := fun ρ => (a ρ).bind fun c ρ1 => if c = true then b ρ1 else .ok false ρ1
def mOr (a b : M Bool) : M Bool := fun ρ => (a ρ).bind fun c ρ1 => if c = true then .ok true ρ1 else b ρ1
def mNot (a : M Bool) : M Bool := fun ρ => (a ρ).bind fun c ρ1 => .ok (!c) ρ1
def SEW (X : Cx) (e : Expr) (m : M Bool) : Prop := PW X e (tMT X.K X.mg m)
theorem PW.imp {e : Expr} {t t' : TT} (h : PW X e t) (q : ∀ σ H Q, t' σ H Q → t σ H Q) : PW X e t' := ⟨fun wh pins s σ H Q I w => h.run wh pins s σ H Q I (q σ H Q w)⟩
theorem sew_t {e : Expr} {m : M Bool} (h : SEW X e m) : SET X e m := PW.pt h
theorem sew_and1 {a : Expr} {pos : Pos} {m : M Bool} (h : SET X a m) : SEW X (.BoolOp .And [a] pos) m := pw_and1 h
theorem sew_or1 {a : Expr} {pos : Pos} {m : M Bool} (h : SET X a m) : SEW X (.BoolOp .Or [a] pos) m := pw_or1 h
theorem sew_and {a b : Expr} {rest : List Expr} {pos : Pos} {m n : M Bool} (ha : SET X a m) (hb : SEW X (.BoolOp .And (b :: rest) pos) n) : SEW X (.BoolOp .And (a :: b :: rest) pos) (mAnd m n) :=
  PW.imp (pw_and ha hb) fun σ H Q w => by
    obtain ⟨ρ, T, b, ρ', c, R, e, k⟩ := w
    obtain ⟨u, ρ1, e1, e⟩ := Res.bind_eq e
    refine ⟨ρ, T, u, ρ1, c, R, e1, fun H' c' R' => ?_⟩
    cases u with
    | true =>
      rw [if_pos rfl] at e ⊢
      exact ⟨ρ1, T, b, ρ', c', R', e, k⟩
    | false =>
      rw [if_neg Bool.false_ne_true] at e ⊢
      cases e
      exact k H' c' R'
theorem sew_or {a b : Expr} {rest : List Expr} {pos : Pos} {m n : M Bool} (ha : SET X a m) (hb : SEW X (.BoolOp .Or (b :: rest) pos) n) : SEW X (.BoolOp .Or (a :: b :: rest) pos) (mOr m n) :=
  PW.imp (pw_or ha hb) fun σ H Q w => by
    obtain ⟨ρ, T, b, ρ', c, R, e, k⟩ := w
    obtain ⟨u, ρ1, e1, e⟩ := Res.bind_eq e
    refine ⟨ρ, T, u, ρ1, c, R, e1, fun H' c' R' => ?_⟩
    cases u with
    | true =>
      rw [if_pos rfl] at e ⊢
      cases e
      exact k H' c' R'
    | false =>
      rw [if_neg Bool.false_ne_true] at e ⊢
      exact ⟨ρ1, T, b, ρ', c', R', e, k⟩
theorem set_not {a : Expr} {pos : Pos} {m : M Bool} (h : SET X a m) : SET X (.UnaryOp .Not a pos) (mNot m) := PT.imp (pt_not h) fun σ H Q w => by
  obtain ⟨ρ, T, b, ρ', c, R, e, k⟩ := w
  obtain ⟨u, ρ1, e1, e⟩ := Res.bind_eq e
  cases e
  exact ⟨ρ, T, u, _, c, R, e1, k⟩
/-! ### displays -/
def tMs (K : PySem.W.Frag) (mg : Str → Option Value) (m : M (List O)) : TA := fun σ H Q => ∃ ρ T os ρ', Cov σ ρ ∧ Rep K mg H (pairs σ ρ ++ T) [] ∧ m ρ = .ok os ρ' ∧ ∀ vs H', Cov σ ρ' → vs.length = os.length → Rep K mg H' (zipI vs os ++ (pairs σ ρ' ++ T)) [] → Q vs H'
theorem PA.imp {es : List Expr} {t t' : TA} (h : PA X es t) (q : ∀ σ H Q, t' σ H Q → t σ H Q) : PA X es t' := ⟨fun pos pins s σ H Q I w => h.run pos pins s σ H Q I (q σ H Q w)⟩
def SEs (X : Cx) (es : List Expr) (m : M (List O)) : Prop := PA X es (tMs X.K X.mg m)
def mNil : M (List O) := fun ρ => .ok [] ρ
def mCons (m : M O) (ms : M (List O)) : M (List O) := fun ρ => (m ρ).bind fun o ρ1 => (ms ρ1).bind fun os ρ2 => .ok (o :: os) ρ2
theorem ses_nil : SEs X [] mNil := PA.imp pa_nil fun σ H Q w => by
  obtain ⟨ρ, T, os, ρ', c, R, e, k⟩ := w
  cases e
  exact k [] H c rfl R
theorem ses_cons {e : Expr} {es : List Expr} {m : M O} {ms : M (List O)} (h : SE X e m) (hs : SEs X es ms) (hst : starEach (e :: es) X.env = (false, eval e X.env) :: starEach es X.env := by rfl) : SEs X (e :: es) (mCons m ms) :=
  PA.imp (pa_cons h hs hst) fun σ H Q w => by
    obtain ⟨ρ, T, os, ρ', c, R, e, k⟩ := w
    obtain ⟨o, ρ1, e1, e⟩ := Res.bind_eq e
    obtain ⟨os', ρ2, e2, e⟩ := Res.bind_eq e
    cases e
    refine ⟨ρ, T, o, ρ1, c, R, e1, fun v H1 c1 R1 => ⟨ρ1, .ov v o :: T, os', ρ', c1, R1.perm List.perm_middle.symm, e2, fun vs H2 c2 hl R2 => k (v :: vs) H2 c2 (by simp [hl]) (R2.perm ?_)⟩⟩
    show (zipI vs os' ++ (pairs σ ρ' ++ .ov v o :: T)).Perm (.ov v o :: (zipI vs os' ++ (pairs σ ρ' ++ T)))
    exact ((List.perm_middle (a := Item.ov v o)).append_left _).trans List.perm_middle
def mLst (ms : M (List O)) : M O := fun ρ => (ms ρ).bind fun os ρ' => if os.length ≤ 1000000 then .ok (.lst os) ρ' else .no
def mTup (ms : M (List O)) : M O := fun ρ => (ms ρ).bind fun os ρ' => if os.length ≤ 1000000 then .ok (.val (.tup (O.toDs os))) ρ' else .no
theorem Rep.frzs : ∀ {vs : List V} {os : List O} {H : Hp} {L : List Item}, Rep K mg H (zipI vs os ++ L) [] → Rep K mg H (zipI vs ((O.toDs os).map O.val) ++ L) []
  | [], os, H, L, R => by cases os <;> exact R
  | v :: vs, [], H, L, R => R
  | v :: vs, o :: os, H, L, R => by
    have R1 : Rep K mg H (.ov v (.val o.toD) :: (zipI vs os ++ L)) [] := Rep.frz R
    have R2 : Rep K mg H (zipI vs os ++ (.ov v (.val o.toD) :: L)) [] := R1.perm List.perm_middle.symm
    exact (Rep.frzs R2).perm List.perm_middle
theorem toDs_len (os : List O) : (O.toDs os).length = os.length := by rw [toDs_map]; simp
theorem se_lst {es : List Expr} {pos : Pos} {ms : M (List O)} (h : SEs X es ms) : SE X (.List es pos) (mLst ms) := PE.imp (pe_lst h) fun σ H Q w => by
  obtain ⟨ρ, T, o, ρ', c, R, e, k⟩ := w
  obtain ⟨os, ρ1, e1, e⟩ := Res.bind_eq e
  split at e
  · rename_i hl
    cases e
    refine ⟨ρ, T, os, _, c, R, e1, fun vs H' c' hv R' => ⟨line6 (by omega), fun p hp => k _ _ c' (Rep.closeL (R'.new hp) hv)⟩⟩
  · cases e
end
end FB

/-! Statements: names stored, blocks, if, while, for, return. -/
namespace FB
open PySem PySem.Spec L2
open PyProof.Rows hiding St

section
variable {X : Cx} {K : PySem.W.Frag} {mg : Str → Option Value} {P : List Nat}
theorem tS_iff {m : M Fl} {D : Ends} {σ : L2.St} {H : Hp} : tS K mg P m D σ H ↔ ∃ ρ T, Cov σ ρ ∧ Rep K mg H (pairs σ ρ ++ T) [] ∧ Post K mg P T D σ (m ρ) := by
  unfold tS
  constructor
  · rintro ⟨ρ, T, c, R, h⟩
    refine ⟨ρ, T, c, R, ?_⟩
    cases e : m ρ with
    | ok f ρ' => rw [e] at h; cases f <;> exact h
    | exc x ρ' => rw [e] at h; exact h
    | no => rw [e] at h; exact h
  · rintro ⟨ρ, T, c, R, h⟩
    refine ⟨ρ, T, c, R, ?_⟩
    cases e : m ρ with
    | ok f ρ' => rw [e] at h; cases f <;> exact h
    | exc x ρ' => rw [e] at h; exact h
    | no => rw [e] at h; exact h
theorem Post.fix {T : List Item} {D : Ends} {σ σ1 : L2.St} (f : Fix P σ σ1) {r : Res Fl} (h : Post K mg P T D σ r) : Post K mg P T D σ1 r := by
  cases r with
  | ok fl ρ' =>
    cases fl with
    | nx => exact fun σ' H' g => h σ' H' (f.trans g)
    | brk => exact fun σ' H' g => h σ' H' (f.trans g)
    | ct => exact fun σ' H' g => h σ' H' (f.trans g)
    | ret o => exact fun v σ' H' g => h v σ' H' (f.trans g)
  | exc x ρ' => exact h
  | no => exact h
/-- .. the same ends but the next one -/
theorem Post.nx {T : List Item} {D D' : Ends} {σ : L2.St} {r : Res Fl} {g : Env → Res Fl} (h : Post K mg P T D σ (r.bind fun f ρ1 => match f with | .nx => g ρ1 | f => .ok f ρ1)) (e1 : D'.rt = D.rt) (e2 : D'.bk = D.bk) (e3 : D'.ct = D.ct)
    (q : ∀ ρ1 σ' H', Fix P σ σ' → Cov σ' ρ1 → Rep K mg H' (pairs σ' ρ1 ++ T) [] → Post K mg P T D σ (g ρ1) → D'.nx σ' H') : Post K mg P T D' σ r := by
  cases r with
  | ok fl ρ' =>
    cases fl with
    | nx => exact fun σ' H' f c R => q ρ' σ' H' f c R h
    | brk => exact fun σ' H' f c R => by rw [e2]; exact h σ' H' f c R
    | ct => exact fun σ' H' f c R => by rw [e3]; exact h σ' H' f c R
    | ret o => exact fun v σ' H' f c R => by rw [e1]; exact h v σ' H' f c R
  | exc x ρ' => exact h
  | no => exact h
def mSkip : M Fl := fun ρ => .ok .nx ρ
def mSeq (a b : M Fl) : M Fl := fun ρ => (a ρ).bind fun f ρ1 => match f with
  | .nx => b ρ1
  | f => .ok f ρ1
theorem sss_nil : SSs X P [] mSkip := PSs.imp pss_nil fun D σ H w => by
  obtain ⟨ρ, T, c, R, h⟩ := tS_iff.mp w
  exact h σ H (Fix.refl _ _) c R
theorem sss_one {st : Stmt} {m : M Fl} (h : SS X P st m) : SSs X P [st] m := pss_one h
theorem sss_cons {st : Stmt} {rest : List Stmt} {a b : M Fl} (h1 : SS X P st a) (h2 : SSs X P rest b) : SSs X P (st :: rest) (mSeq a b) := PSs.imp (pss_cons h1 h2) fun D σ H w => by
  obtain ⟨ρ, T, c, R, h⟩ := tS_iff.mp w
  refine tS_iff.mpr ⟨ρ, T, c, R, Post.nx (D := D) h rfl rfl rfl fun ρ1 σ' H' f c' R' h' => ?_⟩
  exact tS_iff.mpr ⟨ρ1, T, c', R', h'.fix f⟩
def mEx (m : M O) : M Fl := fun ρ => (m ρ).bind fun _ ρ1 => .ok .nx ρ1
def mRet (m : M O) : M Fl := fun ρ => (m ρ).bind fun o ρ1 => .ok (.ret o) ρ1
theorem ss_expr {e : Expr} {pos : Pos} {m : M O} (h : SE X e m) (hs : swapsWith e none pos.line X.env = pure false := by rfl) : SS X P (.Expr e pos) (mEx m) := PS.imp (ps_expr h hs) fun D σ H w => by
  obtain ⟨ρ, T, c, R, h⟩ := tS_iff.mp w
  unfold mEx at h
  cases e1 : m ρ with
  | ok o ρ1 =>
    rw [e1] at h
    exact ⟨ρ, T, o, ρ1, c, R, e1, fun v H' c' R' => h σ H' (Fix.refl _ _) c' R'.drop⟩
  | exc x ρ1 => rw [e1] at h; exact h.elim
  | no => rw [e1] at h; exact h.elim
theorem ss_ret {e : Expr} {pos : Pos} {m : M O} (h : SE X e m) : SS X P (.Return (some e) pos) (mRet m) := PS.imp (ps_ret h) fun D σ H w => by
  obtain ⟨ρ, T, c, R, h⟩ := tS_iff.mp w
  unfold mRet at h
  cases e1 : m ρ with
  | ok o ρ1 =>
    rw [e1] at h
    exact ⟨ρ, T, o, ρ1, c, R, e1, fun v H' c' R' => h v σ H' (Fix.refl _ _) c' R'⟩
  | exc x ρ1 => rw [e1] at h; exact h.elim
  | no => rw [e1] at h; exact h.elim
def mIf (t : M Bool) (a b : M Fl) : M Fl := fun ρ => (t ρ).bind fun c ρ1 => if c = true then a ρ1 else b ρ1
theorem ss_if {c : Expr} {a b : List Stmt} {pos : Pos} {t : M Bool} {m n : M Fl} (hc : SET X c t) (ha : SSs X P a m) (hb : SSs X P b n) : SS X P (.If c a b pos) (mIf t m n) := PS.imp (ps_if hc ha hb) fun D σ H w => by
  obtain ⟨ρ, T, cv, R, h⟩ := tS_iff.mp w
  unfold mIf at h
  cases e1 : t ρ with
  | ok u ρ1 =>
    rw [e1] at h
    refine ⟨ρ, T, u, ρ1, cv, R, e1, fun H' c' R' => ?_⟩
    cases u with
    | true => rw [if_pos rfl]; exact tS_iff.mpr ⟨ρ1, T, c', R', h⟩
    | false => rw [if_neg Bool.false_ne_true]; exact tS_iff.mpr ⟨ρ1, T, c', R', h⟩
  | exc x ρ1 => rw [e1] at h; exact h.elim
  | no => rw [e1] at h; exact h.elim

/-! ### names stored -/
theorem pairs_none {σ : L2.St} {ρ : Env} {i : Nat} (h : ∀ o, ρ[i]? ≠ some (some o)) : pairs σ (ρ.set i none) = pairs σ ρ := by
  by_cases hi : i < ρ.length
  · have e : ρ[i]? = some none := by
      cases q : ρ[i]? with
      | none => rw [List.getElem?_eq_none_iff] at q; omega
      | some u => cases u with
        | none => rfl
        | some o => exact absurd q (h o)
    have : ρ.set i none = ρ := by
      apply List.ext_getElem?
      intro j
      by_cases hj : i = j
      · subst hj; rw [e]; simp [hi]
      · rw [List.getElem?_set_ne hj]
    rw [this]
  · rw [List.set_eq_of_length_le (by omega)]
theorem Rep.slotDrop {H : Hp} {σ : L2.St} {ρ : Env} {M T : List Item} (c : Cov σ ρ) (i : Nat) (h : Rep K mg H (M ++ (pairs σ ρ ++ T)) []) : Rep K mg H (M ++ (pairs σ (ρ.set i none) ++ T)) [] := by
  by_cases q : ∃ o, ρ[i]? = some (some o)
  · obtain ⟨o, e⟩ := q
    obtain ⟨v, hv⟩ := c.ex i o e
    have p : (M ++ (pairs σ ρ ++ T)).Perm (.ov v o :: (M ++ (pairs σ (ρ.set i none) ++ T))) :=
      (((pairs_take hv e).append_right T).append_left M).trans List.perm_middle
    exact (h.perm p).drop
  · rw [pairs_none fun o e => q ⟨o, e⟩]; exact h
theorem Rep.store {H : Hp} {σ : L2.St} {ρ : Env} {T : List Item} {i : Nat} {v : V} {o : O} (c : Cov σ ρ) (h : Rep K mg H (.ov v o :: (pairs σ ρ ++ T)) []) : Rep K mg H (pairs (σ.set i (some v)) (ρ.set i (some o)) ++ T) [] := by
  by_cases hi : i < ρ.length
  · have h1 := Rep.slotDrop (M := [.ov v o]) c i h
    exact h1.perm ((pairs_put (by rw [c.len]; exact hi) hi).append_right T)
  · rw [List.set_eq_of_length_le (by rw [c.len]; omega), List.set_eq_of_length_le (by omega)]
    exact h.drop
def mSetO (i : Nat) (m : M O) : M Fl := fun ρ => (m ρ).bind fun o ρ1 => .ok .nx (ρ1.set i (some o))
def mSetP (i : Nat) (m : M O) : M Fl := fun ρ => (m ρ).bind fun o ρ1 => .ok .nx (ρ1.set i (some (.val o.toD)))
theorem ss_setO (i : Nat) {x : Str} {e : Expr} {pos pos' : Pos} {m : M O} (ok : CxOk X) (hi : X.N[i]? = some x) (hx : Loc X.env.scope x) (h : SE X e m) (hP : i ∉ P := by decide) (hs : swapsWith e (some (.Name x pos')) pos.line X.env = pure false := by rfl) (hf : X.fn x = true ∨ X.env.scope.names.lookup x = some .local := by first | exact .inl rfl | exact .inr rfl | assumption) :
    SS X P (.Assign [.Name x pos'] e pos) (mSetO i m) := PS.imp (ps_set ok.nd hi hx h hs hf) fun D σ H w => by
  obtain ⟨ρ, T, c, R, h⟩ := tS_iff.mp w
  unfold mSetO at h
  cases e1 : m ρ with
  | ok o ρ1 =>
    rw [e1] at h
    exact ⟨ρ, T, o, ρ1, c, R, e1, fun v H' c' R' => h _ H' (Fix.set hP) (c'.set i v o) (Rep.store c' R')⟩
  | exc x ρ1 => rw [e1] at h; exact h.elim
  | no => rw [e1] at h; exact h.elim
theorem ss_setP (i : Nat) {x : Str} {e : Expr} {pos pos' : Pos} {m : M O} (ok : CxOk X) (hi : X.N[i]? = some x) (hx : Loc X.env.scope x) (h : SE X e m) (hP : i ∉ P := by decide) (hs : swapsWith e (some (.Name x pos')) pos.line X.env = pure false := by rfl) (hf : X.fn x = true ∨ X.env.scope.names.lookup x = some .local := by first | exact .inl rfl | exact .inr rfl | assumption) :
    SS X P (.Assign [.Name x pos'] e pos) (mSetP i m) := PS.imp (ps_set ok.nd hi hx h hs hf) fun D σ H w => by
  obtain ⟨ρ, T, c, R, h⟩ := tS_iff.mp w
  unfold mSetP at h
  cases e1 : m ρ with
  | ok o ρ1 =>
    rw [e1] at h
    exact ⟨ρ, T, o, ρ1, c, R, e1, fun v H' c' R' => h _ H' (Fix.set hP) (c'.set i v _) (Rep.store c' R'.frz)⟩
  | exc x ρ1 => rw [e1] at h; exact h.elim
  | no => rw [e1] at h; exact h.elim

/-! ### targets -/
structure RlOk (Rl : L2.St → L2.St → Prop) : Prop where
  refl : ∀ σ, Rl σ σ
  trans : ∀ {a b c}, Rl a b → Rl b c → Rl a c
def RlSet (Rl : L2.St → L2.St → Prop) (i : Nat) : Prop := ∀ (σ : L2.St) (v : Option V), Rl σ (σ.set i v)
theorem fixSet {P : List Nat} {i : Nat} (h : i ∉ P := by decide) : RlSet (Fix P) i := fun _ _ => Fix.set h
def Wip (own : List Nat) (σ σ' : L2.St) : Prop := wipe σ' own = wipe σ own
theorem wipe_set : ∀ {own : List Nat} {σ : L2.St} {i : Nat} {v : Option V}, i ∈ own → wipe (σ.set i v) own = wipe σ own
  | [], _, _, _, h => by simp at h
  | w :: ws, σ, i, v, h => by
    unfold wipe
    by_cases e : i ∈ ws
    · rw [wipe_set e]
    · have : i = w := by rcases List.mem_cons.mp h with q | q; exact q; exact absurd q e
      subst this
      have out : ∀ {ws : List Nat} {σ : L2.St}, i ∉ ws → wipe (σ.set i v) ws = (wipe σ ws).set i v := by
        intro ws
        induction ws with
        | nil => intro σ _; rfl
        | cons u us ih =>
          intro σ hm
          unfold wipe
          rw [ih (fun z => hm (List.mem_cons_of_mem _ z))]
          exact List.set_comm _ _ (fun z => hm (by rw [z]; exact List.mem_cons_self ..))
      rw [out e, List.set_set]
theorem wipSet {own : List Nat} {i : Nat} (h : i ∈ own := by decide) : RlSet (Wip own) i := fun _ _ => wipe_set h
variable {Rl : L2.St → L2.St → Prop}
def tG (K : PySem.W.Frag) (mg : Str → Option Value) (Rl : L2.St → L2.St → Prop) (a : D → Env → Option Env) : TG := fun v σ H Q => ∃ ρ T d ρ', Cov σ ρ ∧ Rep K mg H (.ov v (.val d) :: (pairs σ ρ ++ T)) [] ∧ a d ρ = some ρ' ∧ ∀ σ', Rl σ σ' → Cov σ' ρ' → Rep K mg H (pairs σ' ρ' ++ T) [] → Q σ' H
theorem PG.imp {e : Expr} {t t' : TG} (h : PG X e t) (q : ∀ v σ H Q, t' v σ H Q → t v σ H Q) : PG X e t' := ⟨fun pins s σ H v u Q I r w => h.run pins s σ H v u Q I r (q v σ H Q w)⟩
theorem PGs.imp {e : List Expr} {t t' : TGs} (h : PGs X e t) (q : ∀ v σ H Q, t' v σ H Q → t v σ H Q) : PGs X e t' := ⟨fun pins s σ H v u Q I r w => h.run pins s σ H v u Q I r (q v σ H Q w)⟩
def SG (X : Cx) (Rl : L2.St → L2.St → Prop) (e : Expr) (a : D → Env → Option Env) : Prop := PG X e (tG X.K X.mg Rl a)
def aN (i : Nat) : D → Env → Option Env := fun d ρ => some (ρ.set i (some (.val d)))
theorem sg_n (i : Nat) {x : Str} {pos : Pos} (ok : CxOk X) (hi : X.N[i]? = some x) (hx : Loc X.env.scope x) (hP : RlSet Rl i) (hf : X.fn x = true ∨ X.env.scope.names.lookup x = some .local := by first | exact .inl rfl | exact .inr rfl | assumption) : SG X Rl (.Name x pos) (aN i) :=
  PG.imp (pg_name ok.nd hi hx hf) fun v σ H Q w => by
    obtain ⟨ρ, T, d, ρ', c, R, e, k⟩ := w
    cases e
    exact k _ (hP σ _) (c.set i v _) (Rep.store c R)
/-! ### while -/
def whileN (t : M Bool) (b : M Fl) : Nat → M Fl
  | 0 => fun _ => .no
  | n + 1 => fun ρ => (t ρ).bind fun c ρ1 => if c = true then (b ρ1).bind fun f ρ2 => match f with
      | .nx => whileN t b n ρ2
      | .ct => whileN t b n ρ2
      | .brk => .ok .nx ρ2
      | .ret o => .ok (.ret o) ρ2
    else .ok .nx ρ1
def mWhile (fuel : Env → Nat) (t : M Bool) (b : M Fl) : M Fl := fun ρ => whileN t b (fuel ρ) ρ
theorem ss_while {c : Expr} {body : List Stmt} {pos : Pos} {t : M Bool} {b : M Fl} (fuel : Env → Nat) (hp : PassesOwn (model X.prog X.w) X.A X.env X.xe) (hc : SET X c t) (hb : SSs X P body b) : SS X P (.While c body [] pos) (mWhile fuel t b) :=
  PS.imp (ps_while hp hc hb) fun D σ H w => by
    obtain ⟨ρ, T, cv, R, h⟩ := tS_iff.mp w
    refine ⟨fun n σ' H' => ∃ ρ', Fix P σ σ' ∧ Cov σ' ρ' ∧ Rep X.K X.mg H' (pairs σ' ρ' ++ T) [] ∧ Post X.K X.mg P T D σ (whileN t b n ρ'), ⟨fuel ρ, ρ, Fix.refl _ _, cv, R, h⟩, ?_⟩
    rintro n σ1 H1 ⟨ρ1, f1, c1, R1, h1⟩
    cases n with
    | zero => exact h1.elim
    | succ n =>
      have h1 : Post X.K X.mg P T D σ ((t ρ1).bind fun c ρ1 => if c = true then (b ρ1).bind fun f ρ2 => match f with
        | .nx => whileN t b n ρ2
        | .ct => whileN t b n ρ2
        | .brk => .ok .nx ρ2
        | .ret o => .ok (.ret o) ρ2
        else .ok .nx ρ1) := h1
      cases e1 : t ρ1 with
      | exc x ρ2 => rw [e1] at h1; exact h1.elim
      | no => rw [e1] at h1; exact h1.elim
      | ok u ρ2 =>
        rw [e1] at h1
        refine ⟨ρ1, T, u, ρ2, c1, R1, e1, fun H2 c2 R2 => ?_⟩
        cases u with
        | false =>
          rw [if_neg Bool.false_ne_true]
          exact h1 σ1 H2 f1 c2 R2
        | true =>
          rw [if_pos rfl]
          have h1 : Post X.K X.mg P T D σ ((b ρ2).bind fun f ρ2 => match f with
            | .nx => whileN t b n ρ2
            | .ct => whileN t b n ρ2
            | .brk => .ok .nx ρ2
            | .ret o => .ok (.ret o) ρ2) := h1
          refine ⟨fun σ' H' => ∃ ρ', Fix P σ σ' ∧ Cov σ' ρ' ∧ Rep X.K X.mg H' (pairs σ' ρ' ++ T) [] ∧ Post X.K X.mg P T D σ (whileN t b n ρ'), fun σ' H' q => ⟨n, Nat.lt_succ_self n, q⟩, ?_⟩
          refine tS_iff.mpr ⟨ρ2, T, c2, R2, ?_⟩
          cases e2 : b ρ2 with
          | exc x ρ3 => rw [e2] at h1; exact h1.elim
          | no => rw [e2] at h1; exact h1.elim
          | ok fl ρ3 =>
            rw [e2] at h1
            cases fl with
            | nx => exact fun σ' H' f' c' R' => ⟨ρ3, f1.trans f', c', R', h1⟩
            | ct => exact fun σ' H' f' c' R' => ⟨ρ3, f1.trans f', c', R', h1⟩
            | brk => exact fun σ' H' f' c' R' => h1 σ' H' (f1.trans f') c' R'
            | ret o => exact fun v σ' H' f' c' R' => h1 v σ' H' (f1.trans f') c' R'

/-! ### for -/
/-- an iterator that yields these, while the kept items stand -/
def Its (K : PySem.W.Frag) (mg : Str → Option Value) (J : It) (ks : List Item) (ds : List D) : Prop :=
  ∀ (L : List Item) (H : Hp), Rep K mg H (ks ++ L) [] → (∀ (i : Nat) (d : D), ds[i]? = some d → J.go i H ∧ ∀ x H', J.yld i H x H' → Same H H' ∧ Rep K mg H' (.ov x (.val d) :: (ks ++ L)) []) ∧ J.stop ds.length H
def tI (K : PySem.W.Frag) (mg : Str → Option Value) (m : M (List D)) : TI := fun σ H R => ∃ ρ T ds ρ', Cov σ ρ ∧ Rep K mg H (pairs σ ρ ++ T) [] ∧ m ρ = .ok ds ρ' ∧ ∀ J ks H', Cov σ ρ' → Its K mg J ks ds → Rep K mg H' (ks ++ (pairs σ ρ' ++ T)) [] → R J H'
theorem PI.imp {tg it : Expr} {t t' : TI} (h : PI X tg it t) (q : ∀ σ H R, t' σ H R → t σ H R) : PI X tg it t' := ⟨fun pins s σ H R I w => h.run pins s σ H R I (q σ H R w)⟩
def SI (X : Cx) (tg it : Expr) (m : M (List D)) : Prop := PI X tg it (tI X.K X.mg m)
def forL (a : D → Env → Option Env) (b : M Fl) : List D → M Fl
  | [] => fun ρ => .ok .nx ρ
  | d :: ds => fun ρ => match a d ρ with
    | none => .no
    | some ρ1 => (b ρ1).bind fun f ρ2 => match f with
      | .nx => forL a b ds ρ2
      | .ct => forL a b ds ρ2
      | .brk => .ok .nx ρ2
      | .ret o => .ok (.ret o) ρ2
def mFor (m : M (List D)) (a : D → Env → Option Env) (b : M Fl) : M Fl := fun ρ => (m ρ).bind fun ds ρ1 => forL a b ds ρ1
theorem drop_cons {α : Type} {ds : List α} {i : Nat} (h : i < ds.length) : ds.drop i = ds[i] :: ds.drop (i + 1) := List.drop_eq_getElem_cons h
theorem Rep.drops : ∀ {H : Hp} {M L : List Item}, Rep K mg H (M ++ L) [] → Rep K mg H L []
  | _, [], _, h => h
  | _, _ :: _, _, h => Rep.drops (Rep.drop h)
theorem rot (A B C : List Item) : (A ++ (B ++ C)).Perm (B ++ (A ++ C)) := by
  rw [← List.append_assoc, ← List.append_assoc]
  exact List.perm_append_comm.append_right _
theorem Post.more {ks T : List Item} {D : Ends} {σ : L2.St} {r : Res Fl} (h : Post K mg P T D σ r) : Post K mg P (ks ++ T) D σ r := by
  cases r with
  | ok fl ρ' =>
    cases fl with
    | nx => exact fun σ' H' f c R => h σ' H' f c (R.perm (rot _ _ _)).drops
    | brk => exact fun σ' H' f c R => h σ' H' f c (R.perm (rot _ _ _)).drops
    | ct => exact fun σ' H' f c R => h σ' H' f c (R.perm (rot _ _ _)).drops
    | ret o => exact fun v σ' H' f c R => h v σ' H' f c (R.perm (((rot _ _ _).cons _).trans List.perm_middle.symm)).drops
  | exc x ρ' => exact h
  | no => exact h
/-- the turns of a loop over these -/
theorem for_core {J : It} {ks T : List Item} {ds : List D} {a : D → Env → Option Env} {b : M Fl} {D : Ends} {σ : L2.St} {H : Hp} {ρ : Env} (c : Cov σ ρ) (hJ : Its K mg J ks ds) (R : Rep K mg H (ks ++ (pairs σ ρ ++ T)) []) (h : Post K mg P (ks ++ T) D σ (forL a b ds ρ)) :
    ∃ W : Nat → Nat → L2.St → Hp → Prop, (∃ m, W 0 m σ H) ∧ ∀ i m σ H, W i m σ H →
      (J.stop i H ∧ D.nx σ H) ∨ (J.go i H ∧ ∃ N : L2.St → Hp → Prop, (∀ σ' H', N σ' H' → ∃ m', m' < m ∧ W (i + 1) m' σ' H') ∧ ∀ x H', J.yld i H x H' → tG K mg (Fix P) a x σ H' fun σ2 H2 => tS K mg P b { D with nx := N, ct := N, bk := D.nx } σ2 H2) := by
  let W : Nat → L2.St → Hp → Prop := fun i σ' H' => ∃ ρ', i ≤ ds.length ∧ Fix P σ σ' ∧ Cov σ' ρ' ∧ Rep K mg H' (ks ++ (pairs σ' ρ' ++ T)) [] ∧ Post K mg P (ks ++ T) D σ (forL a b (ds.drop i) ρ')
  refine ⟨fun i n σ' H' => n = ds.length - i ∧ W i σ' H', ⟨ds.length, by simp, ρ, Nat.zero_le _, Fix.refl _ _, c, R, h⟩, ?_⟩
  rintro i n σ1 H1 ⟨rfl, ρ2, hi, f1, c1, R1, h1⟩
  by_cases hlt : i < ds.length
  · have hd : ds[i]? = some ds[i] := by simp [hlt]
    obtain ⟨hgo, hy⟩ := (hJ _ H1 R1).1 i _ hd
    refine .inr ⟨hgo, fun σ' H' => W (i + 1) σ' H', fun σ' H' q => ⟨ds.length - (i + 1), by omega, rfl, q⟩, fun x H2 y => ?_⟩
    obtain ⟨_, R2⟩ := hy x H2 y
    rw [drop_cons hlt] at h1
    have h1 : Post K mg P (ks ++ T) D σ (match a ds[i] ρ2 with
      | none => .no
      | some ρ1 => (b ρ1).bind fun f ρ2 => match f with
        | .nx => forL a b (ds.drop (i + 1)) ρ2
        | .ct => forL a b (ds.drop (i + 1)) ρ2
        | .brk => .ok .nx ρ2
        | .ret o => .ok (.ret o) ρ2) := h1
    cases e2 : a ds[i] ρ2 with
    | none => rw [e2] at h1; exact h1.elim
    | some ρ3 =>
      rw [e2] at h1
      refine ⟨ρ2, ks ++ T, ds[i], ρ3, c1, R2.perm ((rot _ _ _).cons _), e2, fun σ3 f3 c3 R3 => ?_⟩
      refine tS_iff.mpr ⟨ρ3, ks ++ T, c3, R3, ?_⟩
      have back : ∀ {H' : Hp} {σ' : L2.St} {ρ' : Env}, Rep K mg H' (pairs σ' ρ' ++ (ks ++ T)) [] → Rep K mg H' (ks ++ (pairs σ' ρ' ++ T)) [] := fun R => R.perm (rot _ _ _)
      have h1 : Post K mg P (ks ++ T) D σ ((b ρ3).bind fun f ρ2 => match f with
        | .nx => forL a b (ds.drop (i + 1)) ρ2
        | .ct => forL a b (ds.drop (i + 1)) ρ2
        | .brk => .ok .nx ρ2
        | .ret o => .ok (.ret o) ρ2) := h1
      cases e3 : b ρ3 with
      | exc x ρ4 => rw [e3] at h1; exact h1.elim
      | no => rw [e3] at h1; exact h1.elim
      | ok fl ρ4 =>
        rw [e3] at h1
        cases fl with
        | nx => exact fun σ' H' f' c' R' => ⟨ρ4, hlt, f1.trans (f3.trans f'), c', back R', h1⟩
        | ct => exact fun σ' H' f' c' R' => ⟨ρ4, hlt, f1.trans (f3.trans f'), c', back R', h1⟩
        | brk => exact fun σ' H' f' c' R' => h1 σ' H' (f1.trans (f3.trans f')) c' R'
        | ret o => exact fun v σ' H' f' c' R' => h1 v σ' H' (f1.trans (f3.trans f')) c' R'
  · have e : i = ds.length := by omega
    subst e
    refine .inl ⟨(hJ _ H1 R1).2, ?_⟩
    rw [List.drop_length] at h1
    exact h1 σ1 H1 f1 c1 (R1.perm (rot _ _ _))
theorem ss_for {tg iter : Expr} {body : List Stmt} {pos : Pos} {m : M (List D)} {a : D → Env → Option Env} {b : M Fl} (ok : CxOk X) (hp : PassesOwn (model X.prog X.w) X.A X.env X.xe) (hi : SI X tg iter m) (hg : SG X (Fix P) tg a) (hb : SSs X P body b)
    (hs : ∀ x, foldedSetIterable iter X.env x = pure x := by intro _; rfl) : SS X P (.For tg iter body [] pos) (mFor m a b) :=
  PS.imp (ps_for hp ok.calm hi hg hb hs) fun D σ H w => by
    obtain ⟨ρ, T, cv, R, h⟩ := tS_iff.mp w
    unfold mFor at h
    cases e1 : m ρ with
    | exc x ρ1 => rw [e1] at h; exact h.elim
    | no => rw [e1] at h; exact h.elim
    | ok ds ρ1 =>
      rw [e1] at h
      exact ⟨ρ, T, ds, ρ1, cv, R, e1, fun J ks H' c' hJ R' => for_core c' hJ R' (Post.more h)⟩
end
end FB

/-! What a for or a comprehension walks. -/
namespace FB
open PySem PySem.Spec L2
open PyProof.Rows hiding St

section
variable {X : Cx} {K : PySem.W.Frag} {mg : Str → Option Value}
def rangeL (lo : Int) (n : Nat) : List D := (List.range n).map fun (i : Nat) => D.int (lo + (i : Int))
theorem its_range {lo : Int} {n : Nat} : Its K mg (Itr lo n) [] (rangeL lo n) := by
  intro L H R
  refine ⟨fun i d hd => ?_, by unfold rangeL; simp [Itr]⟩
  have hi : i < n := by
    have := (List.getElem?_eq_some_iff.mp hd).1
    simpa [rangeL] using this
  have e : d = .int (lo + i) := by
    unfold rangeL at hd
    rw [List.getElem?_map, List.getElem?_range hi] at hd
    cases hd; rfl
  subst e
  refine ⟨hi, fun x H' y => ?_⟩
  obtain ⟨e1, e2⟩ := y
  subst e1 e2
  exact ⟨Same.refl _, R.scal fun _ => .int _⟩
/-! ### the rules -/
theorem PI.or {tg it : Expr} {t t' : TI} (h : PI X tg it t) (h' : PI X tg it t') : PI X tg it (fun σ H R => t σ H R ∨ t' σ H R) := ⟨fun pins s σ H R I w => w.elim (h.run pins s σ H R I) (h'.run pins s σ H R I)⟩
theorem line62 : (2 : Int) ^ 62 = 4611686018427387904 := by decide
def small (i : Int) : Bool := decide (-1000000000000 < i) && decide (i < 1000000000000)
theorem small_eq {i : Int} (h : small i = true) : -(2 ^ 62) ≤ i ∧ i < 2 ^ 62 := by
  unfold small at h
  simp only [Bool.and_eq_true, decide_eq_true_eq] at h
  rw [line62]; omega
def mR1 (m : M O) : M (List D) := fun ρ => (m ρ).bind fun o ρ1 => match o with
  | .val (.int j) => if small j = true then .ok (rangeL 0 j.toNat) ρ1 else .no
  | _ => .no
theorem si_range1 {tg a : Expr} {p pos : Pos} {m : M O} (hg : Gl X "range") (hm : X.mg "range" = none) (ha : SE X a m) (hs : starEach (a :: []) X.env = (false, eval a X.env) :: starEach [] X.env := by rfl) : SI X tg (.Call (.Name "range" p) [a] [] pos) (mR1 m) :=
  PI.imp (pi_range1 hg hm (pa_cons ha pa_nil hs) hs) fun σ H R w => by
    obtain ⟨ρ, T, ds, ρ', c, Rp, e, k⟩ := w
    obtain ⟨o, ρ1, e1, e⟩ := Res.bind_eq e
    split at e
    · rename_i j
      split at e
      · rename_i hj
        cases e
        obtain ⟨h1, h2⟩ := small_eq hj
        exact ⟨ρ, T, _, _, c, Rp, e1, fun v H' c' R' => ⟨j, by rw [R'.lend.shInt (List.mem_cons_self ..) rfl], h1, h2, k _ [] _ c' its_range R'.drop⟩⟩
      · cases e
    · cases e
end
end FB

/-! Comprehensions; defs and their calls. -/
namespace FB
open PySem PySem.Spec L2
open PyProof.Rows hiding St

section
variable {X : Cx} {K : PySem.W.Frag} {mg : Str → Option Value}
/-! ### comprehensions -/
abbrev own2 (own : List (Str × Nat)) : List Nat := own.map (·.2)
def wipeE (ρ : Env) : List Nat → Env
  | [] => ρ
  | v :: vs => (wipeE ρ vs).set v none
/-- the own names as they stood ahead -/
def backE (ρ2 ρ1 : Env) : List Nat → Env
  | [] => ρ2
  | v :: vs => match (wipeE ρ1 vs)[v]? with
    | some (some o) => (backE ρ2 ρ1 vs).set v (some o)
    | _ => backE ρ2 ρ1 vs
theorem wipeE_len (ρ : Env) : ∀ own : List Nat, (wipeE ρ own).length = ρ.length
  | [] => rfl
  | v :: vs => by unfold wipeE; rw [List.length_set, wipeE_len ρ vs]
theorem Cov.wipe {σ : L2.St} {ρ : Env} (c : Cov σ ρ) : ∀ own : List Nat, Cov (wipe σ own) (wipeE ρ own)
  | [] => c
  | v :: vs => by
    have ih := Cov.wipe c vs
    unfold L2.wipe wipeE
    refine ⟨by simp [ih.len], fun i o h => ?_⟩
    by_cases e : v = i
    · subst e
      have : v < (wipeE ρ vs).length := by
        have := (List.getElem?_eq_some_iff.mp h).1
        simpa using this
      simp [this] at h
    · rw [List.getElem?_set_ne e] at h ⊢
      exact ih.ex i o h
theorem wipeE_cons (ρ : Env) (v : Nat) (vs : List Nat) : wipeE ρ (v :: vs) = (wipeE ρ vs).set v none := rfl
theorem wipeE_none {ρ : Env} : ∀ {own : List Nat} {v : Nat} {o : O}, v ∈ own → (wipeE ρ own)[v]? ≠ some (some o)
  | [], _, _, h => by simp at h
  | w :: ws, v, o, h => by
    rw [wipeE_cons]
    by_cases e : w = v
    · subst e
      intro z
      have : w < (wipeE ρ ws).length := by
        have := (List.getElem?_eq_some_iff.mp z).1
        simpa using this
      simp [this] at z
    · rw [List.getElem?_set_ne e]
      have : v ∈ ws := by rcases List.mem_cons.mp h with q | q; exact absurd q.symm e; exact q
      exact wipeE_none this
theorem wipe_out {σ : L2.St} {i : Nat} : ∀ {vs : List Nat}, i ∉ vs → (wipe σ vs)[i]? = σ[i]?
  | [], _ => rfl
  | v :: vs, h => by
    unfold wipe
    rw [List.getElem?_set_ne (fun z => h (by rw [z]; exact List.mem_cons_self ..))]
    exact wipe_out fun z => h (List.mem_cons_of_mem _ z)
theorem pairs_congr : ∀ {σ σ' : L2.St} {ρ : Env}, σ.length = σ'.length → (∀ (i : Nat) (o : O), ρ[i]? = some (some o) → σ[i]? = σ'[i]?) → pairs σ ρ = pairs σ' ρ
  | [], [], _, _, _ => rfl
  | [], _ :: _, _, hl, _ => by simp at hl
  | _ :: _, [], _, hl, _ => by simp at hl
  | a :: σ, a' :: σ', [], _, _ => by rw [pairs_nil', pairs_nil']
  | a :: σ, a' :: σ', b :: ρ, hl, h => by
    have t := pairs_congr (σ := σ) (σ' := σ') (ρ := ρ) (by simpa using hl) (fun i o e => by simpa using h (i + 1) o (by simpa using e))
    cases b with
    | none => rw [pairs_sn, pairs_sn, t]
    | some b =>
      have e := h 0 b (by simp)
      simp at e
      subst e
      cases a with
      | none => rw [pairs_ns, pairs_ns, t]
      | some a => rw [pairs_ss, pairs_ss, t]
theorem pairs_wipe {σ : L2.St} {ρ : Env} (own : List Nat) : pairs (wipe σ own) (wipeE ρ own) = pairs σ (wipeE ρ own) :=
  pairs_congr (wipe_length _ _) fun i o e => wipe_out fun z => wipeE_none z e
theorem pairs_wipe2 {σ : L2.St} {ρ : Env} {own : List Nat} (h : ∀ v ∈ own, ∀ o, ρ[v]? ≠ some (some o)) : pairs (wipe σ own) ρ = pairs σ ρ :=
  pairs_congr (wipe_length _ _) fun i o e => wipe_out fun z => h i z o e
/-- the own slots' things stand aside -/
theorem aside {σ : L2.St} {ρ : Env} (c : Cov σ ρ) : ∀ own : List Nat, own.Nodup → ∃ R : List Item, (pairs σ ρ).Perm (R ++ pairs σ (wipeE ρ own)) ∧
    ∀ ρ2 : Env, Cov σ ρ2 → (∀ v ∈ own, ∀ o, ρ2[v]? ≠ some (some o)) → Cov σ (backE ρ2 ρ own) ∧ (R ++ pairs σ ρ2).Perm (pairs σ (backE ρ2 ρ own))
  | [], _ => ⟨[], .refl _, fun ρ2 c2 _ => ⟨c2, .refl _⟩⟩
  | v :: vs, nd => by
    obtain ⟨hv, nd'⟩ := List.nodup_cons.mp nd
    obtain ⟨R, p, back⟩ := aside c vs nd'
    have cw := Cov.wipe c vs
    by_cases q : ∃ o, (wipeE ρ vs)[v]? = some (some o)
    · obtain ⟨o, e⟩ := q
      obtain ⟨w, hw0⟩ := cw.ex v o e
      have hw : σ[v]? = some (some w) := (wipe_some hw0).1
      refine ⟨.ov w o :: R, ?_, fun ρ2 c2 hn => ?_⟩
      · refine p.trans ?_
        rw [wipeE_cons]
        exact ((pairs_take hw e).append_left R).trans List.perm_middle
      · obtain ⟨c3, p3⟩ := back ρ2 c2 fun u hu => hn u (List.mem_cons_of_mem _ hu)
        have e2 : backE ρ2 ρ (v :: vs) = (backE ρ2 ρ vs).set v (some o) := by
          show (match (wipeE ρ vs)[v]? with | some (some o) => (backE ρ2 ρ vs).set v (some o) | _ => backE ρ2 ρ vs) = _
          rw [e]
        rw [e2]
        have hl : v < ρ.length := by
          have := (List.getElem?_eq_some_iff.mp e).1
          rwa [wipeE_len] at this
        have hl3 : v < (backE ρ2 ρ vs).length := by rw [← c3.len, c.len]; exact hl
        have hnone : ∀ u, (backE ρ2 ρ vs)[v]? ≠ some (some u) := by
          have out : ∀ {vs : List Nat}, v ∉ vs → ∀ u, (backE ρ2 ρ vs)[v]? ≠ some (some u) := by
            intro vs
            induction vs with
            | nil => intro _ u; exact hn v (List.mem_cons_self ..) u
            | cons a as ih =>
              intro hm u
              unfold backE
              have h1 : v ≠ a := fun z => hm (by rw [z]; exact List.mem_cons_self ..)
              have h2 := ih (fun z => hm (List.mem_cons_of_mem _ z)) u
              split
              · rw [List.getElem?_set_ne (Ne.symm h1)]; exact h2
              · exact h2
          exact out hv
        refine ⟨c3.put hw _, ?_⟩
        refine (p3.cons (.ov w o)).trans ?_
        have e3 : pairs σ ((backE ρ2 ρ vs).set v none) = pairs σ (backE ρ2 ρ vs) := pairs_none hnone
        have := pairs_back (σ := σ) (ρ := backE ρ2 ρ vs) (o := o) hw hl3
        rw [e3] at this
        exact this
    · refine ⟨R, ?_, fun ρ2 c2 hn => ?_⟩
      · rw [wipeE_cons, pairs_none fun o e => q ⟨o, e⟩]
        exact p
      · obtain ⟨c3, p3⟩ := back ρ2 c2 fun u hu => hn u (List.mem_cons_of_mem _ hu)
        have e2 : backE ρ2 ρ (v :: vs) = backE ρ2 ρ vs := by
          show (match (wipeE ρ vs)[v]? with | some (some o) => (backE ρ2 ρ vs).set v (some o) | _ => backE ρ2 ρ vs) = _
          split
          · rename_i o e; exact absurd ⟨o, e⟩ q
          · rfl
        rw [e2]
        exact ⟨c3, p3⟩
theorem wipe_wipe (σ : L2.St) (own : List Nat) : wipe (wipe σ own) own = wipe σ own := by
  apply List.ext_getElem?
  intro i
  by_cases h : i ∈ own
  · have n : ∀ (τ : L2.St), (wipe τ own)[i]? = if i < τ.length then some none else none := fun τ => by
      split
      · rename_i hi
        cases q : (wipe τ own)[i]? with
        | none => rw [List.getElem?_eq_none_iff, wipe_length] at q; omega
        | some u =>
          cases u with
          | none => rfl
          | some x => exact absurd h (wipe_some q).2
      · rename_i hi
        rw [List.getElem?_eq_none_iff, wipe_length]; omega
    rw [n, n, wipe_length]
  · rw [wipe_out h]
theorem wipeE_id {ρ : Env} : ∀ {own : List Nat}, (∀ v ∈ own, ∀ o, ρ[v]? ≠ some (some o)) → wipeE ρ own = ρ
  | [], _ => rfl
  | v :: vs, h => by
    rw [wipeE_cons, wipeE_id fun u hu => h u (List.mem_cons_of_mem _ hu)]
    apply List.ext_getElem?
    intro i
    by_cases e : v = i
    · subst e
      by_cases hv : v < ρ.length
      · rw [List.getElem?_set_self hv]
        cases q : ρ[v]? with
        | none => rw [List.getElem?_eq_none_iff] at q; omega
        | some u => cases u with
          | none => rfl
          | some o => exact absurd q (h v (List.mem_cons_self ..) o)
      · rw [List.getElem?_eq_none_iff.mpr (by simpa using hv), List.getElem?_eq_none_iff.mpr (by omega)]
    · rw [List.getElem?_set_ne e]
def compL (own : List Nat) (a : D → Env → Option Env) (t : M Bool) (e : M O) : List D → M (List O)
  | [] => fun ρ => .ok [] ρ
  | d :: ds => fun ρ => match a d ρ with
    | none => .no
    | some ρ1 => (t ρ1).bind fun b ρ2 => if b = true then (e ρ2).bind fun o ρ3 => (compL own a t e ds (wipeE ρ3 own)).bind fun os ρ4 => .ok (o :: os) ρ4 else compL own a t e ds (wipeE ρ2 own)
def mComp (it : M (List D)) (own : List Nat) (a : D → Env → Option Env) (t : M Bool) (e : M O) : M O := fun ρ => (it ρ).bind fun ds ρ1 => if ds.length ≤ 1000000 then (compL own a t e ds (wipeE ρ1 own)).bind fun os ρ2 => .ok (.lst os) (backE (wipeE ρ2 own) ρ1 own) else .no
def mTrue : M Bool := fun ρ => .ok true ρ
def SETs (X : Cx) (ifs : List Expr) (m : M Bool) : Prop := PTs X ifs (tMT X.K X.mg m)
theorem sets_nil : SETs X [] mTrue := ⟨fun pins s σ H Q I w => by
  obtain ⟨ρ, T, b, ρ', c, R, e, k⟩ := w
  cases e
  exact pts_nil.run pins s σ H Q I (k H c R)⟩
theorem compL_len {own : List Nat} {a : D → Env → Option Env} {t : M Bool} {e : M O} : ∀ {ds : List D} {ρ ρ' : Env} {os : List O}, compL own a t e ds ρ = .ok os ρ' → os.length ≤ ds.length
  | [], ρ, ρ', os, h => by cases h; simp
  | d :: ds, ρ, ρ', os, h => by
    unfold compL at h
    cases e1 : a d ρ with
    | none => rw [e1] at h; cases h
    | some ρ1 =>
      rw [e1] at h
      obtain ⟨b, ρ2, e2, h⟩ := Res.bind_eq h
      split at h
      · obtain ⟨o, ρ3, e3, h⟩ := Res.bind_eq h
        obtain ⟨os', ρ4, e4, h⟩ := Res.bind_eq h
        cases h
        have := compL_len e4
        simp; omega
      · have := compL_len h
        simp; omega
theorem comp_core0 {own : List Nat} {g : TG} {tt : TT} {te : TE} {a : D → Env → Option Env} {t : M Bool} {e : M O} {J : It} {ks T : List Item} {ds : List D} {ρ1 ρ2 : Env} {fin : List O} {σ : L2.St} {H1 : Hp} {Q : VK} {D : Addr} (nd : own.Nodup)
    (hg : ∀ v σ H Q, tG K mg (Wip own) a v σ H Q → g v σ H Q) (ht : ∀ σ H Q, tMT K mg t σ H Q → tt σ H Q) (he : ∀ σ H Q, tM K mg e σ H Q → te σ H Q) (hlen : ds.length ≤ 1000000) (c1 : Cov σ ρ1) (hJ : Its K mg J ks ds)
    (R1 : Rep K mg H1 (ks ++ (pairs σ ρ1 ++ T)) []) (e2 : compL own a t e ds (wipeE ρ1 own) = .ok fin ρ2) (hD : H1 D = none)
    (k : ∀ H', Cov σ (backE (wipeE ρ2 own) ρ1 own) → Rep K mg H' (.ov (.ref D) (.lst fin) :: (ks ++ (pairs σ (backE (wipeE ρ2 own) ρ1 own) ++ T))) [] → Q (.ref D) H') :
    ∃ W : Nat → Nat → Hp → Prop, (∃ m, W 0 m (upd H1 D (.lst []))) ∧ ∀ i m H, W i m H →
      (J.stop i H ∧ Q (.ref D) H) ∨ (J.go i H ∧ ∃ Nx : Hp → Prop, (∀ H', Nx H' → ∃ m', m' < m ∧ W (i + 1) m' H') ∧ ∀ x H', J.yld i H x H' → g x (wipe σ own) H' fun σ2 H2 => wipe σ2 own = wipe σ own ∧ tt σ2 H2 fun b H3 =>
        if b = true then te σ2 H3 fun y H4 => ∃ acc, H4 D = some (.lst acc) ∧ acc.length < sizeLine ∧ Nx (upd H4 D (.lst (acc ++ [y]))) else Nx H3) := by
  obtain ⟨R, p, back⟩ := aside c1 own nd
  have cw := Cov.wipe c1 own
  let W : Nat → Hp → Prop := fun i H' => ∃ ρ' acc os os', i ≤ ds.length ∧ Cov (wipe σ own) ρ' ∧ (∀ v ∈ own, ∀ o, ρ'[v]? ≠ some (some o)) ∧ acc.length = os.length ∧ fin = os ++ os' ∧
    Rep K mg H' (.raw D (.lst acc) :: (zipI acc os ++ (ks ++ (pairs (wipe σ own) ρ' ++ (R ++ T))))) [] ∧ compL own a t e (ds.drop i) ρ' = .ok os' ρ2
  refine ⟨fun i n H' => n = ds.length - i ∧ W i H', ⟨ds.length, by simp, wipeE ρ1 own, [], [], fin, Nat.zero_le _, cw, fun v hv o => wipeE_none hv, rfl, rfl, ?_, e2⟩, ?_⟩
  · rw [pairs_wipe]
    refine (R1.perm ?_).new hD
    show (ks ++ (pairs σ ρ1 ++ T)).Perm (ks ++ (pairs σ (wipeE ρ1 own) ++ (R ++ T)))
    refine List.Perm.append_left _ ?_
    rw [← List.append_assoc]
    exact (p.trans List.perm_append_comm).append_right T
  · rintro i n H2 ⟨rfl, ρ3, acc, os, os', hi', c3, hn3, hl, hf, R3, e3⟩
    have p3 : ∀ (Z : List Item) (M : List Item), (.raw D (.lst acc) :: (zipI acc os ++ (ks ++ M)) : List Item).Perm (ks ++ (.raw D (.lst acc) :: (zipI acc os ++ M))) := fun _ M => by
      refine List.Perm.trans (List.Perm.cons _ ?_) List.perm_middle.symm
      rw [← List.append_assoc, ← List.append_assoc]
      exact List.perm_append_comm.append_right _
    by_cases hlt : i < ds.length
    · have hd : ds[i]? = some ds[i] := by simp [hlt]
      obtain ⟨hgo, hy⟩ := (hJ _ H2 (R3.perm (p3 [] _))).1 i _ hd
      refine .inr ⟨hgo, fun H' => W (i + 1) H', fun H' q => ⟨ds.length - (i + 1), by omega, rfl, q⟩, fun x H3 y => ?_⟩
      obtain ⟨_, R4⟩ := hy x H3 y
      rw [drop_cons hlt] at e3
      unfold compL at e3
      cases e4 : a ds[i] ρ3 with
      | none => rw [e4] at e3; cases e3
      | some ρ4 =>
        rw [e4] at e3
        obtain ⟨b, ρ5, e5, e3⟩ := Res.bind_eq e3
        -- the frame of the turn
        have F : List Item := ks ++ (.raw D (.lst acc) :: (zipI acc os ++ (R ++ T)))
        have pF : ∀ (M : List Item), (ks ++ (.raw D (.lst acc) :: (zipI acc os ++ (M ++ (R ++ T)))) : List Item).Perm (M ++ (ks ++ (.raw D (.lst acc) :: (zipI acc os ++ (R ++ T))))) := fun M => by
          have q1 : (zipI acc os ++ (M ++ (R ++ T))).Perm (M ++ (zipI acc os ++ (R ++ T))) := rot _ _ _
          have q2 : (.raw D (.lst acc) :: (zipI acc os ++ (M ++ (R ++ T))) : List Item).Perm (M ++ (.raw D (.lst acc) :: (zipI acc os ++ (R ++ T)))) := (q1.cons _).trans List.perm_middle.symm
          exact (q2.append_left ks).trans (rot _ _ _)
        refine hg x (wipe σ own) H3 _ ⟨ρ3, _, ds[i], ρ4, c3, R4.perm ((pF _).cons _), e4, fun σ4 f4 c4 R5 => ?_⟩
        have fw : wipe σ4 own = wipe σ own := by
          have q : wipe σ4 own = wipe (wipe σ own) own := f4
          rw [q]
          exact wipe_wipe σ own
        refine ⟨fw, ht σ4 H3 _ ⟨ρ4, _, b, ρ5, c4, R5, e5, fun H5 c5 R6 => ?_⟩⟩
        have next : ∀ {H' : Hp} {ρ' : Env} {acc' : List V} {os2 : List O} {os3 : List O}, Cov σ4 ρ' → acc'.length = os2.length → fin = os2 ++ os3 → Rep K mg H' (pairs σ4 ρ' ++ (ks ++ (.raw D (.lst acc') :: (zipI acc' os2 ++ (R ++ T))))) [] → compL own a t e (ds.drop (i + 1)) (wipeE ρ' own) = .ok os3 ρ2 → W (i + 1) H' := by
          intro H' ρ' acc' os2 os3 cv hl' hf' R' e'
          refine ⟨wipeE ρ' own, acc', os2, os3, hlt, by rw [← fw]; exact Cov.wipe cv own, fun v hv o => wipeE_none hv, hl', hf', ?_, e'⟩
          obtain ⟨Rx, px, _⟩ := aside cv own nd
          have R7 : Rep K mg H' (Rx ++ (pairs σ4 (wipeE ρ' own) ++ (ks ++ (.raw D (.lst acc') :: (zipI acc' os2 ++ (R ++ T)))))) [] := R'.perm ((px.append_right _).trans (by rw [List.append_assoc]))
          have R8 := R7.drops
          have e8 : pairs σ4 (wipeE ρ' own) = pairs (wipe σ own) (wipeE ρ' own) := by rw [← fw, pairs_wipe]
          rw [e8] at R8
          refine R8.perm ?_
          have q0 : (ks ++ (.raw D (.lst acc') :: (zipI acc' os2 ++ (R ++ T))) : List Item).Perm (.raw D (.lst acc') :: (zipI acc' os2 ++ (ks ++ (R ++ T)))) := by
            exact List.perm_middle.trans (List.Perm.cons _ (rot _ _ _))
          refine (q0.append_left _).trans ?_
          refine List.perm_middle.trans (List.Perm.cons _ ?_)
          exact (rot _ _ _).trans (List.Perm.append_left _ (rot _ _ _))
        cases b with
        | true =>
          rw [if_pos rfl] at e3
          refine iteT ?_
          obtain ⟨o, ρ6, e6, e3⟩ := Res.bind_eq e3
          obtain ⟨os'', ρ7, e7, e3⟩ := Res.bind_eq e3
          cases e3
          refine he σ4 H5 _ ⟨ρ5, _, o, ρ6, c5, R6, e6, fun y H6 c6 R7 => ?_⟩
          have pD : (.ov y o :: (pairs σ4 ρ6 ++ (ks ++ (.raw D (.lst acc) :: (zipI acc os ++ (R ++ T))))) : List Item).Perm (.raw D (.lst acc) :: (.ov y o :: (pairs σ4 ρ6 ++ (ks ++ (zipI acc os ++ (R ++ T)))))) := by
            refine List.Perm.trans (List.Perm.cons _ ?_) (.swap _ _ _)
            exact (List.Perm.append_left _ List.perm_middle).trans List.perm_middle
          have R8 := R7.perm pD
          have hlen3 : acc.length < 1000000 := by
            have q := compL_len e2
            rw [hf, List.length_append, List.length_cons] at q
            omega
          refine ⟨acc, R8.rawAt, by rw [sizeLine_eq]; omega, ?_⟩
          have R9 := R8.write (o' := .lst (acc ++ [y]))
          refine next (acc' := acc ++ [y]) (os2 := os ++ [o]) (os3 := os'') c6 (by simp [hl]) (by rw [hf, List.append_assoc]; rfl) (R9.perm ?_) e7
          have ez : zipI (acc ++ [y]) (os ++ [o]) = zipI acc os ++ [.ov y o] := by
            unfold zipI
            rw [List.zipWith_append hl]; rfl
          rw [ez]
          refine List.Perm.trans ?_ (List.Perm.append_left _ (List.Perm.append_left _ (List.Perm.cons _ (List.Perm.append_right _ List.perm_append_comm))))
          show (.raw D (.lst (acc ++ [y])) :: .ov y o :: (pairs σ4 ρ6 ++ (ks ++ (zipI acc os ++ (R ++ T)))) : List Item).Perm (pairs σ4 ρ6 ++ (ks ++ (.raw D (.lst (acc ++ [y])) :: .ov y o :: (zipI acc os ++ (R ++ T)))))
          have q : ∀ (A B C : List Item) (u w : Item), (u :: w :: (A ++ (B ++ C))).Perm (A ++ (B ++ (u :: w :: C))) := fun A B C u w => by
            refine List.Perm.trans ?_ (List.Perm.append_left _ (List.perm_middle.symm))
            refine List.Perm.trans ?_ List.perm_middle.symm
            refine List.Perm.cons _ ?_
            refine List.Perm.trans ?_ (List.Perm.append_left _ (List.perm_middle.symm))
            exact List.perm_middle.symm
          exact q _ _ _ _ _
        | false =>
          rw [if_neg Bool.false_ne_true] at e3
          refine iteF ?_
          exact next c5 hl hf R6 e3
    · have ei : i = ds.length := by omega
      subst ei
      rw [List.drop_length] at e3
      cases e3
      rw [List.append_nil] at hf
      subst hf
      refine .inl ⟨(hJ _ H2 (R3.perm (p3 [] _))).2, ?_⟩
      have e4 : wipeE ρ2 own = ρ2 := wipeE_id hn3
      have c4 : Cov σ ρ2 := ⟨by rw [← c3.len, wipe_length], fun i o h => by
        obtain ⟨v, hv⟩ := c3.ex i o h
        exact ⟨v, (wipe_some hv).1⟩⟩
      obtain ⟨c5, p5⟩ := back ρ2 c4 hn3
      rw [e4] at k
      refine k H2 c5 ?_
      rw [pairs_wipe2 hn3] at R3
      have R4 := Rep.closeL R3 hl
      refine R4.perm (List.Perm.cons _ (List.Perm.append_left _ ?_))
      rw [← List.append_assoc]
      exact (List.perm_append_comm.trans p5).append_right T
theorem comp_core {tg iter elt : Expr} {own : List Nat} {wi : TI} {g : TG} {tt : TT} {te : TE} {it : M (List D)} {a : D → Env → Option Env} {t : M Bool} {e : M O} (nd : own.Nodup)
    (hi : ∀ σ H R, tI K mg it σ H R → wi σ H R) (hg : ∀ v σ H Q, tG K mg (Wip own) a v σ H Q → g v σ H Q) (ht : ∀ σ H Q, tMT K mg t σ H Q → tt σ H Q) (he : ∀ σ H Q, tM K mg e σ H Q → te σ H Q)
    (σ : L2.St) (H : Hp) (Q : VK) (w : tM K mg (mComp it own a t e) σ H Q) : tLc wi g tt te own σ H Q := by
  obtain ⟨ρ, T, o, ρ', c, Rp, e0, k⟩ := w
  obtain ⟨ds, ρ1, e1, e0⟩ := Res.bind_eq e0
  split at e0
  · rename_i hlen
    obtain ⟨fin, ρ2, e2, e0⟩ := Res.bind_eq e0
    cases e0
    refine hi σ H _ ⟨ρ, T, ds, ρ1, c, Rp, e1, fun J ks H1 c1 hJ R1 D hD => ?_⟩
    exact comp_core0 nd hg ht he hlen c1 hJ R1 e2 hD fun H' c' R' => k _ H' c' ((R'.perm List.perm_middle.symm).drops)
  · cases e0
theorem se_comp {tg iter elt : Expr} {ifs : List Expr} {scope : Scope} {own : List (Str × Nat)} {pos : Pos} {it : M (List D)} {a : D → Env → Option Env} {t : M Bool} {e : M O} (ok : CxOk X) (hi : SI X tg iter it) (bo : BlkOk X.N X.env.scope scope own)
    (hg : ∀ (s : Shared) (H : Hp) (C : Addr) (cl : List (Str × Addr)) (fp : List Addr), SG (X.blk s H scope (compEnvC scope cl C X.env) fp) (Wip (own2 own)) tg a) (ht : ∀ (s : Shared) (H : Hp) (C : Addr) (cl : List (Str × Addr)) (fp : List Addr), SETs (X.blk s H scope (compEnvC scope cl C X.env) fp) ifs t)
    (he : ∀ (s : Shared) (H : Hp) (C : Addr) (cl : List (Str × Addr)) (fp : List Addr), SE (X.blk s H scope (compEnvC scope cl C X.env) fp) elt e) (nd : (own2 own).Nodup := by decide) (hs : ∀ x, foldedSetIterable iter X.env x = pure x := by intro _; rfl) :
    SE X (.ListComp elt [⟨tg, iter, ifs, 0⟩] scope pos) (mComp it (own2 own) a t e) := PE.imp (pe_lc (wi := tI X.K X.mg it) (g := tG X.K X.mg (Wip (own2 own)) a) (tt := tMT X.K X.mg t) (te := tM X.K X.mg e) ok.calm ok.nd hi bo hg ht he hs) (comp_core (tg := tg) (iter := iter) (elt := elt) nd (fun _ _ _ w => w) (fun _ _ _ _ w => w) (fun _ _ _ w => w) (fun _ _ _ w => w))

/-! ### defs, calls -/
abbrev FSem := List O → Option (O × Env)
def maskE (n : Nat) (P : List Nat) (ρ : Env) : Env := (List.range n).map fun i => if P.contains i = true then (ρ[i]?).join else none
def runF (n N : Nat) (P : List Nat) (b : M Fl) : FSem := fun os => match b (os.map some ++ List.replicate (N - os.length) none) with
  | .ok .nx ρ' => some (.val .non, maskE n P ρ')
  | .ok (.ret o) ρ' => some (o, maskE n P ρ')
  | _ => none
/-- a def of n parameters means F -/
def spF (K : PySem.W.Frag) (mg : Str → Option Value) (n : Nat) (F : FSem) : Sp := fun vs H Q _ => ∃ os T o ρ', vs.length = n ∧ os.length = n ∧ Rep K mg H (zipI vs os ++ T) [] ∧ F os = some (o, ρ') ∧ ∀ v H', Rep K mg H' (.ov v o :: (pairs (vs.map some) ρ' ++ T)) [] → Q v H'
theorem pairs_start : ∀ (vs : List V) (os : List O) (m : Nat), vs.length = os.length → pairs (vs.map some ++ List.replicate m none) (os.map some ++ List.replicate m none) = zipI vs os
  | [], [], m, _ => by
    induction m with
    | zero => rfl
    | succ m ih => rw [List.map_nil, List.map_nil, List.nil_append, List.nil_append, List.replicate_succ, List.replicate_succ, pairs_ns]; exact ih
  | [], _ :: _, _, h => by simp at h
  | _ :: _, [], _, h => by simp at h
  | v :: vs, o :: os, m, h => by
    show pairs (some v :: (vs.map some ++ List.replicate m none)) (some o :: (os.map some ++ List.replicate m none)) = .ov v o :: zipI vs os
    rw [pairs_ss, pairs_start vs os m (by simpa using h)]
theorem cov_start (vs : List V) (os : List O) (m : Nat) (h : vs.length = os.length) : Cov (vs.map some ++ List.replicate m none) (os.map some ++ List.replicate m none) := by
  refine ⟨by simp [h], fun i o e => ?_⟩
  by_cases hi : i < os.length
  · refine ⟨vs[i]'(by omega), ?_⟩
    rw [List.getElem?_append_left (by simp; omega), List.getElem?_map]
    simp [show i < vs.length by omega]
  · rw [List.getElem?_append_right (by simp; omega), List.getElem?_replicate] at e
    split at e <;> cases e
/-- some items of the environment, those kept -/
theorem pairs_mask {H : Hp} {T M : List Item} : ∀ {σ : L2.St} {ρ ρ' : Env}, ρ'.length ≤ ρ.length → (∀ (i : Nat) (o : O), ρ'[i]? = some (some o) → ρ[i]? = some (some o)) → Rep K mg H (M ++ (pairs σ ρ ++ T)) [] → Rep K mg H (M ++ (pairs σ ρ' ++ T)) []
  | [], ρ, ρ', hl, h, R => by
    rw [pairs_nil] at R ⊢; exact R
  | s :: σ, ρ, [], hl, h, R => by
    rw [pairs_nil']
    exact (R.perm (rot _ _ _)).drops
  | s :: σ, [], b :: ρ', hl, h, R => by simp at hl
  | s :: σ, a :: ρ, b :: ρ', hl, h, R => by
    have h' : ∀ (i : Nat) (o : O), ρ'[i]? = some (some o) → ρ[i]? = some (some o) := fun i o e => by simpa using h (i + 1) o (by simpa using e)
    have hl' : ρ'.length ≤ ρ.length := by simpa using hl
    cases s with
    | none =>
      rw [pairs_ns] at R ⊢
      exact pairs_mask hl' h' R
    | some v =>
      cases b with
      | none =>
        rw [pairs_sn]
        cases a with
        | none => rw [pairs_sn] at R; exact pairs_mask hl' h' R
        | some o =>
          rw [pairs_ss] at R
          exact pairs_mask hl' h' ((R.perm (List.perm_middle)).drop)
      | some o =>
        have e := h 0 o (by simp)
        simp at e
        subst e
        rw [pairs_ss] at R ⊢
        have R1 : Rep K mg H ((M ++ [.ov v o]) ++ (pairs σ ρ ++ T)) [] := R.perm (by rw [List.append_assoc]; exact List.Perm.refl _)
        exact (pairs_mask hl' h' R1).perm (by rw [List.append_assoc]; exact List.Perm.refl _)
theorem maskE_len (n : Nat) (P : List Nat) (ρ : Env) : (maskE n P ρ).length = n := by unfold maskE; simp
theorem maskE_get {n : Nat} {P : List Nat} {ρ : Env} {i : Nat} {o : O} (h : (maskE n P ρ)[i]? = some (some o)) : i ∈ P ∧ i < n ∧ ρ[i]? = some (some o) := by
  unfold maskE at h
  rw [List.getElem?_map] at h
  by_cases hi : i < n
  · rw [List.getElem?_range hi] at h
    simp only [Option.map_some] at h
    split at h
    · rename_i hP
      refine ⟨by simpa using hP, hi, ?_⟩
      cases q : ρ[i]? with
      | none => rw [q] at h; simp at h
      | some u => rw [q] at h; simp at h; rw [h]
    · simp at h
  · rw [List.getElem?_eq_none_iff.mpr (by simpa using hi)] at h; simp at h
theorem fn_post {H' : Hp} {T M : List Item} {N n : Nat} {P : List Nat} {vs : List V} {σ' : L2.St} {ρ' : Env} (hvn : vs.length = n) (hN : n ≤ N) (hf : Fix P (vs.map some ++ List.replicate (N - n) none) σ') (c : Cov σ' ρ') (hl : σ'.length = N) (R : Rep K mg H' (M ++ (pairs σ' ρ' ++ T)) []) : Rep K mg H' (M ++ (pairs (vs.map some) (maskE n P ρ') ++ T)) [] := by
  have e1 : pairs (vs.map some) (maskE n P ρ') = pairs σ' (maskE n P ρ') := by
    have q1 : pairs (vs.map some) (maskE n P ρ') = pairs (σ'.take n) (maskE n P ρ') := pairs_congr (by simp [hvn, hl]; omega) fun i o e => by
      obtain ⟨hp, hi, _⟩ := maskE_get e
      rw [List.getElem?_take_of_lt hi, hf.2 i hp, List.getElem?_append_left (by simp; omega)]
    have q2 : ∀ {σ : L2.St} {ρ : Env} {n : Nat}, ρ.length = n → pairs (σ.take n) ρ = pairs σ ρ := by
      intro σ
      induction σ with
      | nil => intro ρ n _; simp
      | cons a σ ih =>
        intro ρ n hr
        cases ρ with
        | nil => rw [pairs_nil', pairs_nil']
        | cons b ρ =>
          cases n with
          | zero => simp at hr
          | succ n =>
            rw [List.take_succ_cons]
            have t := ih (ρ := ρ) (n := n) (by simpa using hr)
            cases a with
            | none => rw [pairs_ns, pairs_ns, t]
            | some a =>
              cases b with
              | none => rw [pairs_sn, pairs_sn, t]
              | some b => rw [pairs_ss, pairs_ss, t]
    rw [q1, q2 (maskE_len _ _ _)]
  rw [e1]
  exact pairs_mask (by rw [maskE_len, ← c.len, hl]; exact hN) (fun i o e => (maskE_get e).2.2) R
end
section
variable {P : Program} {w : World} {K : PySem.W.Frag} {mg : Str → Option Value} {base : Heap}
theorem sp_len {n : Nat} {F : FSem} : ∀ vs H Q E, spF K mg n F vs H Q E → vs.length = n := fun vs H Q E h => by
  obtain ⟨os, T, o, ρ', h1, _⟩ := h
  exact h1
theorem body_sem {X : Cx} {N n : Nat} {Pr : List Nat} {st : List Stmt} {b : M Fl} {Ns : List Str} (hNs : Ns.length = N) (hn : n ≤ N) (hb : SSs X Pr st b) {vs : List V} {H : Hp} {Q : VK} {E : XK} (hsp : spF X.K X.mg n (runF n N Pr b) vs H Q E) : ∃ t, PSs X st t ∧ t { nx := fun _ H' => Q .non H', rt := Q } (L2.start Ns vs) H := by
  obtain ⟨os, T, o, ρ', h1, h2, R, e, k⟩ := hsp
  refine ⟨_, hb, tS_iff.mpr ⟨os.map some ++ List.replicate (N - os.length) none, T, ?_, ?_, ?_⟩⟩
  · have : L2.start Ns vs = vs.map some ++ List.replicate (N - os.length) none := by unfold L2.start; rw [hNs, h1, h2]
    rw [this]; exact cov_start vs os _ (by omega)
  · have : L2.start Ns vs = vs.map some ++ List.replicate (N - os.length) none := by unfold L2.start; rw [hNs, h1, h2]
    rw [this, pairs_start vs os _ (by omega)]; exact R
  · unfold runF at e
    have es : L2.start Ns vs = vs.map some ++ List.replicate (N - n) none := by unfold L2.start; rw [hNs, h1]
    cases e1 : b (os.map some ++ List.replicate (N - os.length) none) with
    | exc x ρ1 => rw [e1] at e; cases e
    | no => rw [e1] at e; cases e
    | ok fl ρ1 =>
      rw [e1] at e
      cases fl with
      | brk => cases e
      | ct => cases e
      | nx =>
        cases e
        intro σ' H' f c R'
        rw [es] at f
        have hl : σ'.length = N := by rw [f.1]; simp [h1]; omega
        refine k .non H' (fn_post (M := [.ov .non (.val .non)]) h1 hn f c hl ?_)
        exact R'.scal fun _ => .non
      | ret o =>
        cases e
        intro v σ' H' f c R'
        rw [es] at f
        have hl : σ'.length = N := by rw [f.1]; simp [h1]; omega
        exact k v H' (fn_post (M := [.ov v o]) h1 hn f c hl R')
end
end FB

/-! Calls of defs by name; lists and dicts changed at a name. -/
namespace FB
open PySem PySem.Spec L2
open PyProof.Rows hiding St

section
variable {P : Program} {w : World} {K : PySem.W.Frag} {mg : Str → Option Value} {base : Heap}
theorem bodyOk {N ps : List Str} {qual : Str} {st : Stmt} {f : Addr} {cdv : Value} {A : Around} {outer : List PySem.Env} {s : Shared} {H : Hp} {E : XK} {k : Nat} (S : FnScope N ps (C8.fnScope st)) (hr : Room k (A.deeper (envOfC qual (C8.fnScope st) s.heap.objs.size f cdv))) :
    CxOk (cxOf C8.CX0 P w K mg base N qual (C8.fnScope st) f cdv A outer s H E).nox :=
  ⟨rfl, by show (A.deeper (envOfC qual (C8.fnScope st) s.heap.objs.size f cdv)).units + 65 < cLine; have := hr.un; omega, S.nd⟩
theorem CxOk.blk {X : Cx} (ok : CxOk X) {s : Shared} {H : Hp} {sc : Scope} {e : PySem.Env} {fp : List Addr} : CxOk (X.blk s H sc e fp) := ⟨ok.calm, ok.units, ok.nd⟩
theorem cal_sem {x : Str} {st : Stmt} {f : Addr} {fd : FuncData} {N ps : List Str} {k n m : Nat} {Pr : List Nat} {b : M Fl} (F : C8.Def K mg x st f fd) (bi : Binds K fd ps []) (S : FnScope N ps (C8.fnScope st)) (hn : ps.length = n := by rfl) (hm : N.length = m := by rfl) (hnm : n ≤ m := by decide)
    (hb : ∀ (cdv : Value) (A : Around) (outer : List PySem.Env) (s : Shared) (H : Hp) (E : XK), Room k (A.deeper (envOfC x (C8.fnScope st) s.heap.objs.size f cdv)) → SSs (cxOf C8.CX0 P w K mg base N x (C8.fnScope st) f cdv A outer s H E).nox Pr (C8.fnBody st) b) :
    C8.Cal P w K mg base (k + 1) x (spF K mg n (runF n m Pr b)) [] :=
  C8.cal0 F bi .nil S (fun vs H Q E h => by rw [hn]; exact sp_len vs H Q E h) fun cdv A outer s H vs Q E hr h => body_sem (X := (cxOf C8.CX0 P w K mg base N x (C8.fnScope st) f cdv A outer s H E).nox) (E := E) hm hnm (hb cdv A outer s H E hr) h
end

section
variable {X : Cx} {K : PySem.W.Frag} {mg : Str → Option Value}
/-! ### arguments -/
def evA : List Arg → M (List (Option O))
  | [] => fun ρ => .ok [] ρ
  | .v m :: as => fun ρ => (m ρ).bind fun o ρ1 => (evA as ρ1).bind fun os ρ2 => .ok (some o :: os) ρ2
  | .io i :: as => fun ρ => match ρ[i]? with
    | some (some _) => (evA as ρ).bind fun os ρ2 => .ok (none :: os) ρ2
    | _ => .no
def IoOk : List Arg → L2.St → List V → Prop
  | [], _, [] => True
  | .v _ :: as, σ, _ :: vs => IoOk as σ vs
  | .io i :: as, σ, v :: vs => σ[i]? = some (some v) ∧ IoOk as σ vs
  | _, _, _ => False
def takeA : List Arg → List (Option O) → Env → Option (List O × Env)
  | [], [], ρ => some ([], ρ)
  | .v _ :: as, some o :: os, ρ => (takeA as os ρ).map fun r => (o :: r.1, r.2)
  | .io i :: as, none :: os, ρ => match ρ[i]? with
    | some (some o) => (takeA as os (ρ.set i none)).map fun r => (o :: r.1, r.2)
    | _ => none
  | _, _, _ => none
def giveA : List Arg → Env → Env → Env
  | .v _ :: as, _ :: ρc, ρ => giveA as ρc ρ
  | .io i :: as, some o :: ρc, ρ => giveA as ρc (ρ.set i (some o))
  | .io _ :: as, none :: ρc, ρ => giveA as ρc ρ
  | _, _, ρ => ρ
def tAs (K : PySem.W.Frag) (mg : Str → Option Value) (as : List Arg) : TA := fun σ H Q => ∃ ρ T os ρ', Cov σ ρ ∧ Rep K mg H (pairs σ ρ ++ T) [] ∧ evA as ρ = .ok os ρ' ∧
  ∀ vs H', Cov σ ρ' → vs.length = os.length → IoOk as σ vs → Rep K mg H' (pairs (vs.map some) os ++ (pairs σ ρ' ++ T)) [] → Q vs H'
def SAs (X : Cx) (es : List Expr) (as : List Arg) : Prop := PA X es (tAs X.K X.mg as)
theorem sas_nil : SAs X [] [] := PA.imp pa_nil fun σ H Q w => by
  obtain ⟨ρ, T, os, ρ', c, R, e, k⟩ := w
  cases e
  exact k [] H c rfl True.intro R
theorem sas_v {e : Expr} {es : List Expr} {m : M O} {as : List Arg} (h : SE X e m) (hs : SAs X es as) (hst : starEach (e :: es) X.env = (false, eval e X.env) :: starEach es X.env := by rfl) : SAs X (e :: es) (.v m :: as) :=
  PA.imp (pa_cons h hs hst) fun σ H Q w => by
    obtain ⟨ρ, T, os, ρ', c, R, e, k⟩ := w
    obtain ⟨o, ρ1, e1, e⟩ := Res.bind_eq e
    obtain ⟨os', ρ2, e2, e⟩ := Res.bind_eq e
    cases e
    refine ⟨ρ, T, o, ρ1, c, R, e1, fun v H1 c1 R1 => ⟨ρ1, .ov v o :: T, os', ρ', c1, R1.perm List.perm_middle.symm, e2, fun vs H2 c2 hl io R2 => k (v :: vs) H2 c2 (by simp [hl]) io (R2.perm ?_)⟩⟩
    show (pairs (vs.map some) os' ++ (pairs σ ρ' ++ .ov v o :: T)).Perm (.ov v o :: (pairs (vs.map some) os' ++ (pairs σ ρ' ++ T)))
    exact ((List.perm_middle (a := Item.ov v o)).append_left _).trans List.perm_middle
theorem sas_io (i : Nat) {x : Str} {pos : Pos} {es : List Expr} {as : List Arg} (hs : SAs X es as) (hN : X.N[i]? = some x := by rfl) (hv : Vis X.env.scope x := by first | exact Or.inl rfl | exact Or.inr (Or.inl rfl) | exact Or.inr (Or.inr rfl)) (hd : (x == ("__debug__" : Str)) = false := by decide)
    (hcd : (x == ("__classdict__" : Str)) = false := by decide) (hst : starEach (.Name x pos :: es) X.env = (false, eval (.Name x pos) X.env) :: starEach es X.env := by rfl) : SAs X (.Name x pos :: es) (.io i :: as) :=
  PA.imp (pa_cons (pv i hN hv hd hcd) hs hst) fun σ H Q w => by
    obtain ⟨ρ, T, os, ρ', c, R, e, k⟩ := w
    unfold evA at e
    split at e
    · rename_i o e1
      obtain ⟨v, hv⟩ := c.ex i o e1
      obtain ⟨os', ρ2, e2, e⟩ := Res.bind_eq e
      cases e
      exact ⟨v, hv, ρ, T, os', ρ', c, R, e2, fun vs H2 c2 hl io R2 => k (v :: vs) H2 c2 (by simp [hl]) ⟨hv, io⟩ (by
        show Rep X.K X.mg H2 (pairs (some v :: vs.map some) (none :: os') ++ (pairs σ ρ' ++ T)) []
        rw [pairs_sn]; exact R2)⟩
    · cases e
theorem take_ok {H : Hp} {T : List Item} {σ : L2.St} : ∀ {as : List Arg} {os : List (Option O)} {vs : List V} {ρ ρ' : Env} {os' : List O}, Cov σ ρ → IoOk as σ vs → takeA as os ρ = some (os', ρ') → Rep K mg H (pairs (vs.map some) os ++ (pairs σ ρ ++ T)) [] →
    Cov σ ρ' ∧ vs.length = os'.length ∧ Rep K mg H (zipI vs os' ++ (pairs σ ρ' ++ T)) []
  | [], [], [], ρ, ρ', os', c, io, e, R => by cases e; exact ⟨c, rfl, R⟩
  | [], [], _ :: _, _, _, _, _, io, _, _ => io.elim
  | [], _ :: _, _, _, _, _, _, _, e, _ => by cases e
  | .v _ :: _, [], _, _, _, _, _, _, e, _ => by cases e
  | .v _ :: _, none :: _, _, _, _, _, _, _, e, _ => by cases e
  | .v _ :: _, some _ :: _, [], _, _, _, _, io, _, _ => io.elim
  | .v _ :: as, some o :: os, v :: vs, ρ, ρ', os', c, io, e, R => by
    have e : (takeA as os ρ).map (fun r => (o :: r.1, r.2)) = some (os', ρ') := e
    cases e1 : takeA as os ρ with
    | none => rw [e1] at e; cases e
    | some r =>
      rw [e1] at e
      cases e
      have R1 : Rep K mg H (.ov v o :: (pairs (vs.map some) os ++ (pairs σ ρ ++ T))) [] := R
      have R2 : Rep K mg H (pairs (vs.map some) os ++ (pairs σ ρ ++ (.ov v o :: T))) [] := R1.perm (by
        refine List.Perm.trans ?_ (List.Perm.append_left _ List.perm_middle.symm)
        exact List.perm_middle.symm)
      obtain ⟨c', hl, R3⟩ := take_ok (as := as) c io e1 R2
      refine ⟨c', by simp [hl], R3.perm ?_⟩
      show (zipI vs r.1 ++ (pairs σ r.2 ++ .ov v o :: T)).Perm (.ov v o :: (zipI vs r.1 ++ (pairs σ r.2 ++ T)))
      exact (List.Perm.append_left _ List.perm_middle).trans List.perm_middle
  | .io _ :: _, [], _, _, _, _, _, _, e, _ => by cases e
  | .io _ :: _, some _ :: _, _, _, _, _, _, _, e, _ => by cases e
  | .io _ :: _, none :: _, [], _, _, _, _, io, _, _ => io.elim
  | .io i :: as, none :: os, v :: vs, ρ, ρ', os', c, io, e, R => by
    unfold takeA at e
    split at e
    · rename_i o e0
      cases e1 : takeA as os (ρ.set i none) with
      | none => rw [e1] at e; cases e
      | some r =>
        rw [e1] at e
        cases e
        have R1 : Rep K mg H (pairs (vs.map some) os ++ (pairs σ ρ ++ T)) [] := by
          have R : Rep K mg H (pairs (some v :: vs.map some) (none :: os) ++ (pairs σ ρ ++ T)) [] := R
          rw [pairs_sn] at R; exact R
        have p : (pairs σ ρ ++ T).Perm (pairs σ (ρ.set i none) ++ (.ov v o :: T)) :=
          ((pairs_take io.1 e0).append_right T).trans List.perm_middle.symm
        obtain ⟨c', hl, R3⟩ := take_ok (c.setn i) io.2 e1 (R1.perm (p.append_left _))
        refine ⟨c', by simp [hl], R3.perm ?_⟩
        show (zipI vs r.1 ++ (pairs σ r.2 ++ .ov v o :: T)).Perm (.ov v o :: (zipI vs r.1 ++ (pairs σ r.2 ++ T)))
        exact (List.Perm.append_left _ List.perm_middle).trans List.perm_middle
    · cases e
theorem give_ok {H : Hp} {T M : List Item} {σ : L2.St} : ∀ {as : List Arg} {vs : List V} {ρc ρ : Env}, Cov σ ρ → IoOk as σ vs → Rep K mg H (M ++ (pairs (vs.map some) ρc ++ (pairs σ ρ ++ T))) [] →
    Cov σ (giveA as ρc ρ) ∧ Rep K mg H (M ++ (pairs σ (giveA as ρc ρ) ++ T)) []
  | [], vs, ρc, ρ, c, io, R => by
    refine ⟨c, ?_⟩
    exact ((R.perm (rot _ _ _)).drops)
  | .v _ :: as, [], ρc, ρ, c, io, R => io.elim
  | .io _ :: as, [], ρc, ρ, c, io, R => io.elim
  | .v _ :: as, v :: vs, [], ρ, c, io, R => by
    refine ⟨c, ?_⟩
    rw [pairs_nil'] at R
    exact R
  | .io _ :: as, v :: vs, [], ρ, c, io, R => by
    refine ⟨c, ?_⟩
    rw [pairs_nil'] at R
    exact R
  | .v _ :: as, v :: vs, u :: ρc, ρ, c, io, R => by
    have R : Rep K mg H (M ++ (pairs (some v :: vs.map some) (u :: ρc) ++ (pairs σ ρ ++ T))) [] := R
    refine give_ok (as := as) c io ?_
    cases u with
    | none => rw [pairs_sn] at R; exact R
    | some o =>
      rw [pairs_ss] at R
      exact (R.perm List.perm_middle).drop
  | .io i :: as, v :: vs, none :: ρc, ρ, c, io, R => by
    have R : Rep K mg H (M ++ (pairs (some v :: vs.map some) (none :: ρc) ++ (pairs σ ρ ++ T))) [] := R
    rw [pairs_sn] at R
    exact give_ok (as := as) c io.2 R
  | .io i :: as, v :: vs, some o :: ρc, ρ, c, io, R => by
    have R : Rep K mg H (M ++ (pairs (some v :: vs.map some) (some o :: ρc) ++ (pairs σ ρ ++ T))) [] := R
    rw [pairs_ss] at R
    refine give_ok (as := as) (c.put io.1 o) io.2 ?_
    by_cases hi : i < ρ.length
    · have R1 : Rep K mg H ((.ov v o :: (M ++ pairs (vs.map some) ρc)) ++ (pairs σ ρ ++ T)) [] := R.perm (by
        refine List.perm_middle.trans ?_
        show (.ov v o :: (M ++ (pairs (vs.map some) ρc ++ (pairs σ ρ ++ T)))).Perm _
        rw [← List.append_assoc]; exact List.Perm.refl _)
      have R2 := Rep.slotDrop c i R1
      refine R2.perm ?_
      have p := (pairs_back (o := o) io.1 hi).append_right T
      have q1 : ((.ov v o :: (M ++ pairs (vs.map some) ρc)) ++ (pairs σ (ρ.set i none) ++ T)).Perm ((M ++ pairs (vs.map some) ρc) ++ ((.ov v o :: pairs σ (ρ.set i none)) ++ T)) := List.perm_middle.symm
      refine q1.trans ?_
      rw [List.append_assoc]
      exact List.Perm.append_left _ (List.Perm.append_left _ p)
    · rw [List.set_eq_of_length_le (by omega)]
      exact (R.perm List.perm_middle).drop
def mCall (F : FSem) (as : List Arg) : M O := fun ρ => (evA as ρ).bind fun os ρ1 => match takeA as os ρ1 with
  | none => .no
  | some r => match F r.1 with
    | none => .no
    | some q => .ok q.1 (giveA as q.2 r.2)
theorem call_core {n : Nat} {F : FSem} {as : List Arg} {Ex : XK} (σ : L2.St) (H : Hp) (Q : VK) (w : tM K mg (mCall F as) σ H Q) : tCall (spF K mg n F) [] Ex (tAs K mg as) σ H Q ∨ as.length ≠ n := by
  by_cases hn : as.length = n
  · left
    obtain ⟨ρ, T, o, ρ', c, R, e, k⟩ := w
    obtain ⟨os, ρ1, e1, e⟩ := Res.bind_eq e
    split at e
    · cases e
    · rename_i r e2
      split at e
      · cases e
      · rename_i q e3
        cases e
        refine ⟨ρ, T, os, ρ1, c, R, e1, fun vs H1 c1 hl io R1 => ?_⟩
        obtain ⟨c2, hl2, R2⟩ := take_ok c1 io e2 R1
        have lenA : ∀ {as : List Arg} {vs : List V}, IoOk as σ vs → vs.length = as.length := by
          intro as
          induction as with
          | nil => intro vs io; cases vs with
            | nil => rfl
            | cons => exact io.elim
          | cons a as ih => intro vs io; cases vs with
            | nil => cases a <;> exact io.elim
            | cons v vs => cases a with
              | v _ => simp [ih (vs := vs) io]
              | io _ => simp [ih (vs := vs) io.2]
        have hv : vs.length = n := by rw [lenA io, hn]
        rw [List.append_nil]
        refine ⟨r.1, pairs σ r.2 ++ T, q.1, q.2, hv, by omega, R2, e3, fun v H2 R3 => ?_⟩
        obtain ⟨c3, R4⟩ := give_ok (M := [.ov v q.1]) c2 io R3
        exact k v H2 c3 R4
  · right; exact hn
theorem se_call {n k j : Nat} {F : FSem} {x : Str} {p pos : Pos} {e : Expr} {es : List Expr} {as : List Arg} (cl : C8.Cal X.prog X.w X.K X.mg X.base k x (spF X.K X.mg n F) []) (hr : Room j X.A) (hk : k ≤ j) (hg : Gl X x) (ha : SAs X (e :: es) as) (hn : as.length = n := by rfl)
    (hdb : (x == ("__debug__" : Str)) = false := by decide) (he : starEach (e :: es) X.env = (false, eval e X.env) :: starEach es X.env := by rfl) (hpl : (backTo pos (starEach es X.env)).any (·.1) = false := by rfl) :
    SE X (.Call (.Name x p) (e :: es) [] pos) (mCall F as) := PE.imp (C8.pe_c cl hr hk hg ha hdb he hpl) fun σ H Q w => (call_core σ H Q w).resolve_right fun h => h hn

/-! ### lists changed at a name -/
def mAppend (i : Nat) (m : M O) : M O := fun ρ => match ρ[i]? with
  | some (some (.lst _)) => (m ρ).bind fun o ρ1 => match ρ1[i]? with
    | some (some (.lst os)) => if os.length < 1000000 then .ok (.val .non) (ρ1.set i (some (.lst (os ++ [o])))) else .no
    | _ => .no
  | _ => .no
theorem Rep.slot {H : Hp} {T M : List Item} {σ : L2.St} {ρ : Env} {i : Nat} {v : V} {o : O} (hv : σ[i]? = some (some v)) (e : ρ[i]? = some (some o)) (R : Rep K mg H (M ++ (pairs σ ρ ++ T)) []) : Rep K mg H (.ov v o :: (M ++ (pairs σ (ρ.set i none) ++ T))) [] :=
  R.perm ((((pairs_take hv e).append_right T).append_left M).trans List.perm_middle)
theorem Rep.unslot {H : Hp} {T M : List Item} {σ : L2.St} {ρ : Env} {i : Nat} {v : V} {o o' : O} (hv : σ[i]? = some (some v)) (e : ρ[i]? = some (some o)) (R : Rep K mg H (.ov v o' :: (M ++ (pairs σ (ρ.set i none) ++ T))) []) : Rep K mg H (M ++ (pairs σ (ρ.set i (some o')) ++ T)) [] := by
  have hi : i < ρ.length := (List.getElem?_eq_some_iff.mp e).1
  refine R.perm (List.perm_middle.symm.trans (List.Perm.append_left _ ?_))
  exact (pairs_back (o := o') hv hi).append_right T
theorem se_append (i : Nat) {x : Str} {p apos cpos : Pos} {e : Expr} {m : M O} (h : SE X e m) (hN : X.N[i]? = some x := by rfl) (hv : Vis X.env.scope x := by first | exact Or.inl rfl | exact Or.inr (Or.inl rfl) | exact Or.inr (Or.inr rfl)) (hd : (x == ("__debug__" : Str)) = false := by decide)
    (hcd : (x == ("__classdict__" : Str)) = false := by decide) (hst : starEach (e :: []) X.env = (false, eval e X.env) :: starEach [] X.env := by rfl)
    (hbase : attributeBase (.Name x p) "append" X.env (eval (.Name x p) X.env) = eval (.Name x p) X.env := by rfl)
    (hfew : ((backTo cpos (starEach (e :: []) X.env)).all (fun x => !x.1) && (backToKw cpos (keywordEach [] X.env)).all (fun x => x.1.isSome)
      && decide ((e :: []).length + ([] : List Keyword).length + (if ([] : List Keyword).isEmpty then 0 else 1) < 30)) = true := by rfl)
    (hline : (apos.endLine == cpos.line) = true := by rfl) (hplain : (backTo cpos (starEach [] X.env)).any (·.1) = false := by rfl) :
    SE X (.Call (.Attribute (.Name x p) "append" apos) [e] [] cpos) (mAppend i m) :=
  PE.imp (pe_bm PySem.F.plainAttrs_list PySem.F.slot_list_append PySem.F.type_list_append mt_append (pv i hN hv hd hcd) (pa_cons h pa_nil hst) hbase hfew hline hst hplain) fun σ H Q w => by
    obtain ⟨ρ, T, o, ρ', c, R, e0, k⟩ := w
    unfold mAppend at e0
    split at e0
    · rename_i os0 e1
      obtain ⟨v, hv⟩ := c.ex i _ e1
      have R0 : Rep X.K X.mg H ([] ++ (pairs σ ρ ++ T)) [] := R
      obtain ⟨q, vs, ev, hl, R1⟩ := (Rep.slot hv e1 R0).openL
      subst ev
      have hq := R1.rawAt
      obtain ⟨u, ρ1, e2, e0⟩ := Res.bind_eq e0
      split at e0
      · rename_i os e3
        split at e0
        · rename_i hlt
          cases e0
          refine ⟨_, hv, .inl ⟨rfl, _, SqL.of hq⟩, ρ, T, u, ρ1, c, R, e2, fun y H1 c1 R2 => ?_⟩
          have R3 := Rep.slot (M := [.ov y u]) hv e3 R2
          obtain ⟨q', ws, ev, hl2, R4⟩ := R3.openL
          cases ev
          refine ⟨q, ws, y, rfl, rfl, R4.rawAt, by rw [sizeLine_eq]; omega, ?_⟩
          have R5 := R4.write (o' := .lst (ws ++ [y]))
          have ez : zipI (ws ++ [y]) (os ++ [u]) = zipI ws os ++ [.ov y u] := by
            unfold zipI
            rw [List.zipWith_append hl2]; rfl
          have R6 : Rep X.K X.mg (upd H1 q (.lst (ws ++ [y]))) (.ov (.ref q) (.lst (os ++ [u])) :: (pairs σ (ρ1.set i none) ++ T)) [] := by
            refine Rep.closeL (vs := ws ++ [y]) ?_ (by simp [hl2])
            rw [ez, List.append_assoc]
            exact R5
          have R7 : Rep X.K X.mg _ ([] ++ (pairs σ (ρ1.set i (some (.lst (os ++ [u])))) ++ T)) [] := Rep.unslot hv e3 R6
          exact k .non _ (c1.put hv _) (R7.scal fun _ => .non)
        · cases e0
      · cases e0
    · cases e0

/-! ### x[k] = e, a list or a dict at a name -/
def keyO : O → Option Key
  | .val (.int i) => some (.inl i)
  | .val (.str s) => some (.inr s)
  | _ => none
def idxK (ks : List Key) (k : Key) : Option Nat := ks.findIdx? fun k' => decide (k' = k)
def putL {α : Type} (ks : List Key) (os : List α) (k : Key) (o : α) : List Key × List α := match idxK ks k with
  | some j => (ks, os.set j o)
  | none => (ks ++ [k], os ++ [o])
def setItO (a b u : O) : Option O := match a with
  | .lst os => match b with
    | .val (.int i) => (ixN os.length i).map fun j => .lst (os.set j u)
    | _ => none
  | .dct ks os => (keyO b).bind fun k => if ks.length < 1000000 then some (.dct (putL ks os k u).1 (putL ks os k u).2) else none
  | _ => none
theorem putK_eq : ∀ (kvs : List (Key × V)) (k : Key) (v : V), (kvs.map (·.1)).Nodup → (putK kvs k v).map (·.1) = (putL (kvs.map (·.1)) (kvs.map (·.2)) k v).1 ∧ (putK kvs k v).map (·.2) = (putL (kvs.map (·.1)) (kvs.map (·.2)) k v).2 := by
  intro kvs k v nd
  have hany : (kvs.any fun kv => decide (kv.1 = k)) = (idxK (kvs.map (·.1)) k).isSome := by
    unfold idxK
    rw [List.findIdx?_isSome, List.any_map]
    rfl
  unfold putK putL
  rw [hany]
  cases q : idxK (kvs.map (·.1)) k with
  | none =>
    rw [if_neg (by simp)]
    simp
  | some j =>
    rw [if_pos (show (Option.some j).isSome = true from rfl)]
    refine ⟨by
      rw [List.map_map]
      refine List.map_congr_left fun a _ => ?_
      show (if a.1 = k then (a.1, v) else a).1 = a.1
      split <;> rfl, ?_⟩
    -- just the j-th is another one
    have key : ∀ (kvs : List (Key × V)) (j : Nat), (kvs.map (·.1)).Nodup → idxK (kvs.map (·.1)) k = some j → (kvs.map fun kv => if kv.1 = k then (kv.1, v) else kv).map (·.2) = (kvs.map (·.2)).set j v := by
      intro kvs
      induction kvs with
      | nil => intro j _ h; cases h
      | cons a r ih =>
        intro j nd h
        rw [List.map_cons, List.nodup_cons] at nd
        unfold idxK at h
        rw [List.map_cons, List.findIdx?_cons] at h
        by_cases e : a.1 = k
        · rw [if_pos (decide_eq_true e)] at h
          cases h
          rw [List.map_cons, if_pos e, List.map_cons, List.map_cons, List.set_cons_zero]
          congr 1
          rw [List.map_map]
          refine List.map_congr_left fun b hb => ?_
          show (if b.1 = k then (b.1, v) else b).2 = b.2
          rw [if_neg]
          intro z
          exact nd.1 (by rw [e, ← z]; exact List.mem_map_of_mem hb)
        · rw [if_neg (by simpa using e)] at h
          cases q : List.findIdx? (fun k' => decide (k' = k)) (List.map (fun x => x.1) r) with
          | none => rw [q] at h; cases h
          | some i =>
            rw [q] at h
            cases h
            rw [List.map_cons, if_neg e, List.map_cons, List.map_cons, List.set_cons_succ]
            congr 1
            exact ih i nd.2 q
    exact key kvs j nd q
def rSetF : TSet := fun o i v H Q => rSetL o i v H Q ∨ ∃ a H4, o = .ref a ∧ DPut H a i v H4 ∧ Q H4
theorem set_F (ok : CxOk X) : PSet X rSetF := by
  intro pins s σ H o i v ov iv u Q I ro ri rv h
  rcases h with h | ⟨a, H4, e, g, q⟩
  · exact set_list pins s σ H o i v ov iv u Q I ro ri rv h
  · subst e
    obtain rfl : ov = Value.ref a := ro
    exact d_setItem (by have := ok.units; omega) I g ri rv fun s4 I4 => ⟨H4, I4, q⟩
theorem keyO_V {H : Hp} {L : List Item} {B : List (V × O)} {y : V} {oy : O} {k : Key} (R : Rep K mg H L B) (hy : (y, oy) ∈ B) (e : keyO oy = some k) : y = kV k := by
  unfold keyO at e
  split at e
  · cases e; exact R.shInt hy rfl
  · cases e; exact R.shStr hy rfl
  · cases e
theorem nodup_put {ks : List Key} {k : Key} {os : List O} {o : O} (nd : ks.Nodup) : (putL ks os k o).1.Nodup := by
  unfold putL
  cases q : idxK ks k with
  | some j => exact nd
  | none =>
    have : k ∉ ks := fun z => by
      have h : (ks.findIdx? fun k' => decide (k' = k)) = none := q
      rw [List.findIdx?_eq_none_iff] at h
      have := h k z
      simp at this
    exact List.nodup_append.mpr ⟨nd, by simp, fun a ha b hb e => this (by simp at hb; rw [← hb, ← e]; exact ha)⟩
theorem zip_set : ∀ {vs : List V} {os : List O} {j : Nat} {v : V} {u : O}, vs.length = os.length → j < os.length → ∃ A C w, zipI vs os = A ++ w :: C ∧ zipI (vs.set j v) (os.set j u) = A ++ .ov v u :: C
  | [], [], j, v, u, _, h => by simp at h
  | [], _ :: _, _, _, _, h, _ => by simp at h
  | _ :: _, [], _, _, _, h, _ => by simp at h
  | a :: vs, b :: os, 0, v, u, _, _ => ⟨[], zipI vs os, .ov a b, rfl, rfl⟩
  | a :: vs, b :: os, j + 1, v, u, hl, hj => by
    obtain ⟨A, C, w, e1, e2⟩ := zip_set (vs := vs) (os := os) (j := j) (v := v) (u := u) (by simpa using hl) (by simpa using hj)
    exact ⟨.ov a b :: A, C, w, by show .ov a b :: zipI vs os = _; rw [e1]; rfl, by show .ov a b :: zipI (vs.set j v) (os.set j u) = _; rw [e2]; rfl⟩
theorem perm_set (A C L : List Item) (h w y n : Item) : (h :: ((A ++ w :: C) ++ y :: n :: L)).Perm (w :: y :: (h :: ((A ++ n :: C) ++ L))) := by
  have h1 : ((A ++ w :: C) ++ y :: n :: L).Perm (w :: y :: ((A ++ n :: C) ++ L)) := by
    rw [List.append_assoc]
    refine List.perm_middle.trans (List.Perm.cons _ ?_)
    show (A ++ (C ++ y :: n :: L)).Perm _
    rw [← List.append_assoc]
    refine List.perm_middle.trans (List.Perm.cons _ ?_)
    refine List.perm_middle.trans ?_
    rw [List.append_assoc, List.append_assoc]
    exact List.perm_middle.symm
  refine (List.Perm.cons _ h1).trans ?_
  exact (List.Perm.swap _ _ _).trans (List.Perm.cons _ (List.Perm.swap _ _ _))
/-- a part of an owned list or dict is stored -/
theorem setIt_core {H : Hp} {L : List Item} {x y v : V} {a b u o' : O} {Q : Hp → Prop} (R : Rep K mg H (.ov x a :: .ov y b :: .ov v u :: L) []) (e : setItO a b u = some o') (k : ∀ H', Rep K mg H' (.ov x o' :: L) [] → Q H') : rSetF x y v H Q := by
  have Rb : Rep K mg H (.ov x a :: .ov y b :: .ov v u :: L) [(y, b)] := ((R.perm (.swap _ _ _)).lend).perm (.swap _ _ _)
  generalize hY : Item.ov y b = Y at R
  unfold setItO at e
  split at e
  · rename_i os
    split at e
    · rename_i i
      cases ej : ixN os.length i with
      | none => rw [ej] at e; cases e
      | some j =>
        rw [ej] at e; cases e
        have ey := Rb.shInt (List.mem_cons_self ..) rfl
        obtain ⟨p, vs, rfl, hl, R1⟩ := R.openL
        have hj : j < os.length := (ixN_seq ej).2.1
        refine .inl ⟨p, vs, i, j, rfl, ey, R1.rawAt, by rw [hl]; exact ej, k _ ?_⟩
        have R2 := R1.write (o' := .lst (vs.set j v))
        refine Rep.closeL (vs := vs.set j v) ?_ (by simp [hl])
        obtain ⟨A, C, w, z1, z2⟩ := zip_set (v := v) (u := u) hl hj
        rw [z1] at R2
        rw [z2]
        exact (R2.perm (perm_set _ _ _ _ _ _ _)).drop.drop
    · cases e
  · rename_i ks os
    cases ek : keyO b with
    | none => rw [ek] at e; cases e
    | some key =>
      rw [ek] at e
      have e : (if ks.length < 1000000 then some (O.dct (putL ks os key u).1 (putL ks os key u).2) else none) = some o' := e
      split at e
      · rename_i hlt
        cases e
        have ey := keyO_V Rb (List.mem_cons_self ..) ek
        obtain ⟨p, kvs, rfl, hl, hk, R1⟩ := R.openD
        obtain ⟨hk, nd⟩ := hk
        have hlen : kvs.length < sizeLine := by rw [sizeLine_eq]; have : kvs.length = ks.length := by rw [← hk]; simp
                                                omega
        have g : DPut H p y v (upd H p (.dK (putK kvs key v))) := by rw [ey]; exact DPut.k R1.rawAt hlen
        refine .inr ⟨p, _, rfl, g, k _ ?_⟩
        have R2 := R1.write (o' := .dK (putK kvs key v))
        obtain ⟨f1, f2⟩ := putK_eq kvs key v (by rw [hk]; exact nd)
        have hlo : (kvs.map (·.2)).length = os.length := by simpa using hl
        refine Rep.closeD (kvs := putK kvs key v) (ks := (putL ks os key u).1) (os := (putL ks os key u).2) ?_ ?_ ⟨?_, nodup_put nd⟩
        · rw [f2]
          unfold putL
          rw [hk]
          cases q : idxK ks key with
          | none =>
            show Rep K mg _ (.raw p (.dK (putK kvs key v)) :: (zipI (kvs.map (·.2) ++ [v]) (os ++ [u]) ++ L)) []
            have ez : zipI (kvs.map (·.2) ++ [v]) (os ++ [u]) = zipI (kvs.map (·.2)) os ++ [.ov v u] := by
              unfold zipI
              rw [List.zipWith_append hlo]; rfl
            rw [ez, List.append_assoc]
            have p1 : (.raw p (.dK (putK kvs key v)) :: (zipI (kvs.map (·.2)) os ++ Y :: .ov v u :: L) : List Item).Perm (Y :: (.raw p (.dK (putK kvs key v)) :: (zipI (kvs.map (·.2)) os ++ .ov v u :: L))) :=
              (List.Perm.cons _ List.perm_middle).trans (.swap _ _ _)
            exact (R2.perm p1).drop
          | some j =>
            show Rep K mg _ (.raw p (.dK (putK kvs key v)) :: (zipI ((kvs.map (·.2)).set j v) (os.set j u) ++ L)) []
            have hj : j < os.length := by
              have h : (ks.findIdx? fun k' => decide (k' = key)) = some j := q
              rw [List.findIdx?_eq_some_iff_getElem] at h
              obtain ⟨h, _⟩ := h
              have : kvs.length = ks.length := by rw [← hk]; simp
              omega
            obtain ⟨A, C, w, z1, z2⟩ := zip_set (v := v) (u := u) hlo hj
            rw [z1] at R2
            rw [z2]
            exact (R2.perm (perm_set _ _ _ _ _ _ _)).drop.drop
        · have h1 : (putK kvs key v).length = (putL (kvs.map (·.1)) (kvs.map (·.2)) key v).2.length := by rw [← f2]; simp
          rw [h1, hk]
          unfold putL
          cases q : idxK ks key with
          | none => simp [hl]
          | some j => simp [hl]
        · rw [f1, hk]
          unfold putL
          cases q : idxK ks key <;> rfl
      · cases e
  · cases e
/-- name[k] = e -/
def mSetIt (i : Nat) (n m : M O) : M Fl := fun ρ => (m ρ).bind fun u ρ1 => match ρ1[i]? with
  | some (some _) => (n ρ1).bind fun b ρ2 => match ρ2[i]? with
    | some (some a) => match setItO a b u with
      | some o => .ok .nx (ρ2.set i (some o))
      | none => .no
    | _ => .no
  | _ => .no
theorem ss_setIt (i : Nat) {P : List Nat} {x : Str} {p tpos pos : Pos} {ix e : Expr} {n m : M O} (ok : CxOk X) (hn : SE X ix n) (h : SE X e m) (hN : X.N[i]? = some x := by rfl) (hv : Vis X.env.scope x := by first | exact Or.inl rfl | exact Or.inr (Or.inl rfl) | exact Or.inr (Or.inr rfl)) (hd : (x == ("__debug__" : Str)) = false := by decide)
    (hcd : (x == ("__classdict__" : Str)) = false := by decide)
    (ha : ∀ v, assign (.Subscript (.Name x p) ix tpos) X.env v = (do
      let ov ← holding [v] (eval (.Name x p) X.env)
      let iv ← holding [v, ov] (eval ix X.env)
      standAt tpos
      holding [v, ov, iv] (setItem ov iv v)
      release [v, ov, iv] []) := by intro _; rfl)
    (hs : swapsWithSole [.Subscript (.Name x p) ix tpos] e pos.line X.env = pure false := by rfl) (hw : swappedStores [.Subscript (.Name x p) ix tpos] e X.env = pure none := by rfl)
    (h1 : (assignEach [.Subscript (.Name x p) ix tpos] X.env).map (·.2) = [assign (.Subscript (.Name x p) ix tpos) X.env] := by rfl) :
    SS X P (.Assign [.Subscript (.Name x p) ix tpos] e pos) (mSetIt i n m) :=
  PS.imp (ps_asg h (pg_sub (pv i hN hv hd hcd) hn (set_F ok) ha) hs hw h1) fun D σ H w => by
    obtain ⟨ρ, T, c, R, h⟩ := tS_iff.mp w
    unfold mSetIt at h
    cases e1 : m ρ with
    | exc z ρ1 => rw [e1] at h; exact h.elim
    | no => rw [e1] at h; exact h.elim
    | ok u ρ1 =>
      rw [e1] at h
      have h : Post X.K X.mg P T D σ (match ρ1[i]? with
        | some (some _) => (n ρ1).bind fun b ρ2 => match ρ2[i]? with
          | some (some a) => match setItO a b u with
            | some o => .ok .nx (ρ2.set i (some o))
            | none => .no
          | _ => .no
        | _ => .no) := h
      refine ⟨ρ, T, u, ρ1, c, R, e1, fun v H1 c1 R1 => ?_⟩
      split at h
      · rename_i a0 e2
        obtain ⟨vx, hvx⟩ := c1.ex i _ e2
        refine ⟨vx, hvx, ρ1, .ov v u :: T, ?_⟩
        cases e3 : n ρ1 with
        | exc z ρ2 => rw [e3] at h; exact h.elim
        | no => rw [e3] at h; exact h.elim
        | ok b ρ2 =>
          rw [e3] at h
          refine ⟨b, ρ2, c1, R1.perm List.perm_middle.symm, rfl, fun y H2 c2 R2 => ?_⟩
          have h : Post X.K X.mg P T D σ (match ρ2[i]? with
            | some (some a) => match setItO a b u with
              | some o => .ok .nx (ρ2.set i (some o))
              | none => .no
            | _ => .no) := h
          split at h
          · rename_i a e4
            split at h
            · rename_i o' e5
              have R3 : Rep X.K X.mg H2 ([.ov y b] ++ (pairs σ ρ2 ++ (.ov v u :: T))) [] := R2
              have R4 := Rep.slot hvx e4 R3
              have R5 : Rep X.K X.mg H2 (.ov vx a :: .ov y b :: .ov v u :: (pairs σ (ρ2.set i none) ++ T)) [] := R4.perm ((List.Perm.cons _ (List.Perm.cons _ List.perm_middle)))
              refine setIt_core R5 e5 fun H3 R6 => h σ H3 (Fix.refl _ _) (c2.put hvx _) ?_
              exact Rep.unslot (M := []) hvx e4 R6
            · exact h.elim
          · exact h.elim
      · exact h.elim
end
end FB

/-! Displays among readings; the law's own def; the end. -/
namespace FB
open PySem PySem.Spec L2
open PyProof.Rows hiding St

section
variable {X : Cx} {K : PySem.W.Frag} {mg : Str → Option Value}
def tPs (K : PySem.W.Frag) (mg : Str → Option Value) (f : Env → Option (List D)) : TA := fun σ H Q => ∃ ρ T B ds, Cov σ ρ ∧ Rep K mg H (pairs σ ρ ++ T) B ∧ f ρ = some ds ∧ ∀ vs H', Same H H' → vs.length = ds.length → Rep K mg H' (zipI vs (ds.map O.val) ++ (pairs σ ρ ++ T)) B → Q vs H'
def SPs (X : Cx) (es : List Expr) (f : Env → Option (List D)) : Prop := PA X es (tPs X.K X.mg f)
def pNil : Env → Option (List D) := fun _ => some []
def pCons (f : Pf) (g : Env → Option (List D)) : Env → Option (List D) := fun ρ => match f ρ with
  | some (.val d) => (g ρ).map (d :: ·)
  | _ => none
theorem sps_nil : SPs X [] pNil := PA.imp pa_nil fun σ H Q w => by
  obtain ⟨ρ, T, B, ds, c, R, e, k⟩ := w
  cases e
  exact k [] H (Same.refl _) rfl R
theorem sps_cons {e : Expr} {es : List Expr} {f : Pf} {g : Env → Option (List D)} (h : SP X e f) (hs : SPs X es g) (hst : starEach (e :: es) X.env = (false, eval e X.env) :: starEach es X.env := by rfl) : SPs X (e :: es) (pCons f g) :=
  PA.imp (pa_cons h hs hst) fun σ H Q w => by
    obtain ⟨ρ, T, B, ds, c, R, e, k⟩ := w
    unfold pCons at e
    split at e
    · rename_i d e1
      cases e2 : g ρ with
      | none => rw [e2] at e; cases e
      | some ds' =>
        rw [e2] at e
        cases e
        refine ⟨ρ, T, B, .val d, c, R, e1, fun v H1 s1 R1 => ⟨ρ, .ov v (.val d) :: T, B, ds', c, R1.keep.perm List.perm_middle.symm, e2, fun vs H2 s2 hl R2 => k (v :: vs) H2 (s1.trans s2) (by simp [hl]) (R2.perm ?_)⟩⟩
        show (zipI vs (ds'.map O.val) ++ (pairs σ ρ ++ .ov v (.val d) :: T)).Perm (.ov v (.val d) :: (zipI vs (ds'.map O.val) ++ (pairs σ ρ ++ T)))
        exact ((List.perm_middle (a := Item.ov v (.val d))).append_left _).trans List.perm_middle
    · cases e
def pLst (g : Env → Option (List D)) : Pf := fun ρ => (g ρ).bind fun ds => if ds.length ≤ 1000000 then some (.val (.lst ds)) else none
def pTup (g : Env → Option (List D)) : Pf := fun ρ => (g ρ).bind fun ds => if ds.length ≤ 1000000 then some (.val (.tup ds)) else none
theorem sp_lst {es : List Expr} {pos : Pos} {g : Env → Option (List D)} (h : SPs X es g) : SP X (.List es pos) (pLst g) := PE.imp (pe_lst h) fun σ H Q w => by
  obtain ⟨ρ, T, B, o, c, R, e, k⟩ := w
  unfold pLst at e
  cases e1 : g ρ with
  | none => rw [e1] at e; cases e
  | some ds =>
    rw [e1] at e
    have e : (if ds.length ≤ 1000000 then some (O.val (.lst ds)) else none) = some o := e
    split at e
    · rename_i hl
      cases e
      exact ⟨ρ, T, B, ds, c, R, e1, fun vs H' s' hv R' => ⟨line6 (by omega), fun p hp => k _ _ (s'.trans (sameNew hp)) (R'.lentL hv hp)⟩⟩
    · cases e
theorem sp_tup {es : List Expr} {x1 : Nat} {pos : Pos} {g : Env → Option (List D)} (h : SPs X es g) : SP X (.Tuple es x1 pos) (pTup g) := PE.imp (pe_tup h) fun σ H Q w => by
  obtain ⟨ρ, T, B, o, c, R, e, k⟩ := w
  unfold pTup at e
  cases e1 : g ρ with
  | none => rw [e1] at e; cases e
  | some ds =>
    rw [e1] at e
    have e : (if ds.length ≤ 1000000 then some (O.val (.tup ds)) else none) = some o := e
    split at e
    · rename_i hl
      cases e
      exact ⟨ρ, T, B, ds, c, R, e1, fun vs H' s' hv R' => ⟨line6 (by omega), fun p hp => k _ _ (s'.trans (sameNew hp)) (R'.lentT hv hp)⟩⟩
    · cases e
end

section
variable {P : Program} {w : World} {K : PySem.W.Frag} {mg : Str → Option Value} {base : Heap}
/-- .. the same, for the law's own def -/
theorem fn_sem {x : Str} {st : Stmt} {f : Addr} {fd : FuncData} {N ps : List Str} {k n m : Nat} {Pr : List Nat} {b : M Fl} (F : C8.Fun K x x st f fd) (S : FnScope N ps (C8.fnScope st)) (hn : ps.length = n := by rfl) (hm : N.length = m := by rfl) (hnm : n ≤ m := by decide)
    (hb : ∀ (cdv : Value) (A : Around) (outer : List PySem.Env) (s : Shared) (H : Hp) (E : XK), Room k (A.deeper (envOfC x (C8.fnScope st) s.heap.objs.size f cdv)) → SSs (cxOf C8.CX0 P w K mg base N x (C8.fnScope st) f cdv A outer s H E).nox Pr (C8.fnBody st) b) :
    FnOk P w K mg base C8.CX0 (k + 1) f fd ps (spF K mg n (runF n m Pr b)) :=
  C8.fn0 F S (fun vs H Q E h => by rw [hn]; exact sp_len vs H Q E h) fun cdv A outer s H vs Q E hr h => body_sem (X := (cxOf C8.CX0 P w K mg base N x (C8.fnScope st) f cdv A outer s H E).nox) (E := E) hm hnm (hb cdv A outer s H E hr) h
theorem law_end {F : FSem} {H : Hp} {a : Addr} {ns : List Int} (h : ∃ r, F [.val (.scr ns)] = some (.val (.bl true), r)) (hS : SqL K H a (ns.map V.int)) : spF K mg 1 F [.ref a] H (fun v _ => v = .bl true) fun _ _ _ => False := by
  obtain ⟨r, e⟩ := h
  refine ⟨[.val (.scr ns)], [], _, r, rfl, rfl, ?_, e, fun v H' R => ?_⟩
  · refine ⟨[], List.nodup_nil, ?_, fun _ h => by simp at h⟩
    exact IsOk.append (as := []) (IsOk.zip (VOs.vals (Vws.cons (Vw.scr hS) Vws.nil))) IsOk.nil
  · have q := R.lend.view (List.mem_cons_self ..)
    cases q
    rfl
end
end FB

/-! From the head's facts to the walk. -/
namespace FB
open PySem PySem.Spec L2
open PyProof.Rows hiding St
@[irreducible] def fuel : Nat := 1000000
theorem fuel_eq : fuel = 1000000 := by unfold fuel; rfl
theorem fun_of {K : PySem.W.Frag} {x qual : Str} {st : Stmt} {f : Addr} {fd : FuncData} (D : FunD K x qual (C8.fnArgs st) (C8.fnBody st) (C8.fnScope st) [] [] f fd) : C8.Fun K x qual st f fd := by
  obtain ⟨oc, od, dV, kV, doc, pm, an, cdv, ct, osl, e, lk, hc, _, _⟩ := D.ex
  exact ⟨oc, od, dV, kV, doc, pm, an, cdv, ct, osl, e, lk, hc⟩
end FB
namespace FB
open PySem PySem.Spec L2
theorem CxOk.u64 {X : Cx} (ok : CxOk X) : X.A.units + 64 < cLine := by have := ok.units; omega
end FB

/-! What the combinators compute: rules for simp, rules for loops. -/
namespace FB
open PySem PySem.Spec L2
open PyProof.Rows hiding St

variable {ρ : Env}
-- readings
@[simp] theorem e_pVar (i : Nat) : pVar i ρ = (ρ[i]?).join := (rfl)
@[simp] theorem e_pC (d : D) : pC d ρ = some (.val d) := (rfl)
def p2K (op : O → O → Option O) : Option O → Option O → Option O
  | some a, some b => op a b
  | _, _ => none
@[simp] theorem e_p2 (op : O → O → Option O) (f g : Pf) : p2 op f g ρ = p2K op (f ρ) (g ρ) := by
  unfold p2 p2K; cases f ρ <;> cases g ρ <;> rfl
@[simp] theorem e_p2K (op : O → O → Option O) (a b : O) : p2K op (some a) (some b) = op a b := (rfl)
def p1K (op : O → Option O) : Option O → Option O
  | some a => op a
  | none => none
@[simp] theorem e_p1 (op : O → Option O) (f : Pf) : p1 op f ρ = p1K op (f ρ) := by
  unfold p1 p1K; cases f ρ <;> rfl
@[simp] theorem e_p1K (op : O → Option O) (a : O) : p1K op (some a) = op a := (rfl)
@[simp] theorem e_mP (f : Pf) : mP f ρ = okV (f ρ) ρ := by unfold mP okV; rfl
@[simp] theorem e_okV (d : D) : okV (some (.val d)) ρ = .ok (.val d) ρ := (rfl)
@[simp] theorem e_pNil : pNil ρ = some [] := (rfl)
def pcK : Option O → Option (List D) → Option (List D)
  | some (.val d), some ds => some (d :: ds)
  | _, _ => none
@[simp] theorem e_pCons (f : Pf) (g : Env → Option (List D)) : pCons f g ρ = pcK (f ρ) (g ρ) := by
  unfold pCons pcK
  cases f ρ with
  | none => rfl
  | some o => cases o <;> cases g ρ <;> rfl
@[simp] theorem e_pcK (d : D) (ds : List D) : pcK (some (.val d)) (some ds) = some (d :: ds) := (rfl)
def plK (k : List D → D) : Option (List D) → Option O
  | some ds => if ds.length ≤ 1000000 then some (.val (k ds)) else none
  | none => none
@[simp] theorem e_pLst (g : Env → Option (List D)) : pLst g ρ = plK .lst (g ρ) := by unfold pLst plK; cases g ρ <;> rfl
@[simp] theorem e_pTup (g : Env → Option (List D)) : pTup g ρ = plK .tup (g ρ) := by unfold pTup plK; cases g ρ <;> rfl
@[simp] theorem e_plK (k : List D → D) (ds : List D) (h : ds.length ≤ 1000000) : plK k (some ds) = some (.val (k ds)) := by unfold plK; simp [h]
def pslK : Option O → Option (Option Int) → Option (Option Int) → Option O
  | some a, some l, some h => slO a l h
  | _, _, _ => none
@[simp] theorem e_pSl (f : Pf) (lo hi : Env → Option (Option Int)) : pSl f lo hi ρ = pslK (f ρ) (lo ρ) (hi ρ) := by
  unfold pSl pslK; cases f ρ <;> cases lo ρ <;> cases hi ρ <;> rfl
@[simp] theorem e_pslK (a : O) (l h : Option Int) : pslK (some a) (some l) (some h) = slO a l h := (rfl)
@[simp] theorem e_pNone : pNone ρ = some none := (rfl)
def piK : Option O → Option (Option Int)
  | some (.val (.int i)) => some (some i)
  | _ => none
@[simp] theorem e_pInt (f : Pf) : pInt f ρ = piK (f ρ) := by unfold pInt piK; rfl
@[simp] theorem e_piK (i : Int) : piK (some (.val (.int i))) = some (some i) := (rfl)
-- expressions
def m2B (op : O → O → Option O) (a : O) : Res O → Res O
  | .ok b ρ2 => okV (op a b) ρ2
  | .exc x ρ => .exc x ρ
  | .no => .no
def m2A (op : O → O → Option O) (n : M O) : Res O → Res O
  | .ok a ρ1 => m2B op a (n ρ1)
  | .exc x ρ => .exc x ρ
  | .no => .no
@[simp] theorem e_m2 (op : O → O → Option O) (m n : M O) : m2 op m n ρ = m2A op n (m ρ) := by
  unfold m2 m2A
  cases m ρ with
  | ok a ρ1 => show (n ρ1).bind _ = m2B op a (n ρ1); unfold m2B; cases n ρ1 <;> rfl
  | exc _ _ => rfl
  | no => rfl
@[simp] theorem e_m2A (op : O → O → Option O) (n : M O) (a : O) : m2A op n (.ok a ρ) = m2B op a (n ρ) := (rfl)
@[simp] theorem e_m2B (op : O → O → Option O) (a b : O) : m2B op a (.ok b ρ) = okV (op a b) ρ := (rfl)
def m1K (op : O → Option O) : Res O → Res O
  | .ok a ρ1 => okV (op a) ρ1
  | .exc x ρ => .exc x ρ
  | .no => .no
@[simp] theorem e_m1 (op : O → Option O) (m : M O) : m1 op m ρ = m1K op (m ρ) := by unfold m1 m1K; cases m ρ <;> rfl
@[simp] theorem e_m1K (op : O → Option O) (a : O) : m1K op (.ok a ρ) = okV (op a) ρ := (rfl)
def mBK : Res O → Res Bool
  | .ok (.val (.bl b)) ρ => .ok b ρ
  | .ok _ _ => .no
  | .exc x ρ => .exc x ρ
  | .no => .no
@[simp] theorem e_mB (m : M O) : mB m ρ = mBK (m ρ) := by
  unfold mB mBK
  cases m ρ with
  | ok o ρ1 =>
    cases o with
    | val d => cases d <;> rfl
    | lst _ => rfl
    | dct _ _ => rfl
    | ins _ _ _ => rfl
  | exc _ _ => rfl
  | no => rfl
@[simp] theorem e_mBK (b : Bool) : mBK (.ok (.val (.bl b)) ρ) = .ok b ρ := (rfl)
def andK (b : M Bool) : Res Bool → Res Bool
  | .ok c ρ => if c = true then b ρ else .ok false ρ
  | .exc x ρ => .exc x ρ
  | .no => .no
@[simp] theorem e_mAnd (a b : M Bool) : mAnd a b ρ = andK b (a ρ) := by unfold mAnd andK; cases a ρ <;> rfl
@[simp] theorem e_andK (b : M Bool) (c : Bool) : andK b (.ok c ρ) = if c = true then b ρ else .ok false ρ := (rfl)
def orK (b : M Bool) : Res Bool → Res Bool
  | .ok c ρ => if c = true then .ok true ρ else b ρ
  | .exc x ρ => .exc x ρ
  | .no => .no
@[simp] theorem e_mOr (a b : M Bool) : mOr a b ρ = orK b (a ρ) := by unfold mOr orK; cases a ρ <;> rfl
@[simp] theorem e_orK (b : M Bool) (c : Bool) : orK b (.ok c ρ) = if c = true then .ok true ρ else b ρ := (rfl)
def notK : Res Bool → Res Bool
  | .ok c ρ => .ok (!c) ρ
  | .exc x ρ => .exc x ρ
  | .no => .no
@[simp] theorem e_mNot (a : M Bool) : mNot a ρ = notK (a ρ) := by unfold mNot notK; cases a ρ <;> rfl
@[simp] theorem e_notK (c : Bool) : notK (.ok c ρ) = .ok (!c) ρ := (rfl)
def ifK {α : Type} (a b : M α) : Res Bool → Res α
  | .ok c ρ => if c = true then a ρ else b ρ
  | .exc x ρ => .exc x ρ
  | .no => .no
@[simp] theorem e_mIf (t : M Bool) (a b : M Fl) : mIf t a b ρ = ifK a b (t ρ) := by unfold mIf ifK; cases t ρ <;> rfl
@[simp] theorem e_ifK {α : Type} (a b : M α) (c : Bool) : ifK a b (.ok c ρ) = if c = true then a ρ else b ρ := (rfl)
@[simp] theorem e_mNil : mNil ρ = .ok [] ρ := (rfl)
def csB (o : O) : Res (List O) → Res (List O)
  | .ok os ρ => .ok (o :: os) ρ
  | .exc x ρ => .exc x ρ
  | .no => .no
def csA (ms : M (List O)) : Res O → Res (List O)
  | .ok o ρ => csB o (ms ρ)
  | .exc x ρ => .exc x ρ
  | .no => .no
@[simp] theorem e_mCons (m : M O) (ms : M (List O)) : mCons m ms ρ = csA ms (m ρ) := by
  unfold mCons csA
  cases m ρ with
  | ok a ρ1 => show (ms ρ1).bind _ = csB a (ms ρ1); unfold csB; cases ms ρ1 <;> rfl
  | exc _ _ => rfl
  | no => rfl
@[simp] theorem e_csA (ms : M (List O)) (o : O) : csA ms (.ok o ρ) = csB o (ms ρ) := (rfl)
@[simp] theorem e_csB (o : O) (os : List O) : csB o (.ok os ρ) = .ok (o :: os) ρ := (rfl)
def lsK (k : List O → O) : Res (List O) → Res O
  | .ok os ρ => if os.length ≤ 1000000 then .ok (k os) ρ else .no
  | .exc x ρ => .exc x ρ
  | .no => .no
@[simp] theorem e_mLst (ms : M (List O)) : mLst ms ρ = lsK .lst (ms ρ) := by unfold mLst lsK; cases ms ρ <;> rfl
@[simp] theorem e_mTup (ms : M (List O)) : mTup ms ρ = lsK (fun os => .val (.tup (O.toDs os))) (ms ρ) := by unfold mTup lsK; cases ms ρ <;> rfl
@[simp] theorem e_lsK (k : List O → O) (os : List O) (h : os.length ≤ 1000000) : lsK k (.ok os ρ) = .ok (k os) ρ := by unfold lsK; simp [h]
-- statements
@[simp] theorem e_mSkip : mSkip ρ = .ok .nx ρ := (rfl)
def sqK (b : M Fl) : Res Fl → Res Fl
  | .ok .nx ρ => b ρ
  | .ok f ρ => .ok f ρ
  | .exc x ρ => .exc x ρ
  | .no => .no
@[simp] theorem e_mSeq (a b : M Fl) : mSeq a b ρ = sqK b (a ρ) := by
  unfold mSeq sqK
  cases a ρ with
  | ok f ρ1 => cases f <;> rfl
  | exc _ _ => rfl
  | no => rfl
@[simp] theorem e_sqK (b : M Fl) : sqK b (.ok .nx ρ) = b ρ := (rfl)
@[simp] theorem e_sqKr (b : M Fl) (o : O) : sqK b (.ok (.ret o) ρ) = .ok (.ret o) ρ := (rfl)
@[simp] theorem e_sqKb (b : M Fl) : sqK b (.ok .brk ρ) = .ok .brk ρ := (rfl)
@[simp] theorem e_sqKc (b : M Fl) : sqK b (.ok .ct ρ) = .ok .ct ρ := (rfl)
def exK : Res O → Res Fl
  | .ok _ ρ => .ok .nx ρ
  | .exc x ρ => .exc x ρ
  | .no => .no
@[simp] theorem e_mEx (m : M O) : mEx m ρ = exK (m ρ) := by unfold mEx exK; cases m ρ <;> rfl
@[simp] theorem e_exK (o : O) : exK (.ok o ρ) = .ok .nx ρ := (rfl)
def rtK : Res O → Res Fl
  | .ok o ρ => .ok (.ret o) ρ
  | .exc x ρ => .exc x ρ
  | .no => .no
@[simp] theorem e_mRet (m : M O) : mRet m ρ = rtK (m ρ) := by unfold mRet rtK; cases m ρ <;> rfl
@[simp] theorem e_rtK (o : O) : rtK (.ok o ρ) = .ok (.ret o) ρ := (rfl)
def soK (i : Nat) : Res O → Res Fl
  | .ok o ρ => .ok .nx (ρ.set i (some o))
  | .exc x ρ => .exc x ρ
  | .no => .no
@[simp] theorem e_mSetO (i : Nat) (m : M O) : mSetO i m ρ = soK i (m ρ) := by unfold mSetO soK; cases m ρ <;> rfl
@[simp] theorem e_soK (i : Nat) (o : O) : soK i (.ok o ρ) = .ok .nx (ρ.set i (some o)) := (rfl)
def spK (i : Nat) : Res O → Res Fl
  | .ok o ρ => .ok .nx (ρ.set i (some (.val o.toD)))
  | .exc x ρ => .exc x ρ
  | .no => .no
@[simp] theorem e_mSetP (i : Nat) (m : M O) : mSetP i m ρ = spK i (m ρ) := by unfold mSetP spK; cases m ρ <;> rfl
@[simp] theorem e_spK (i : Nat) (o : O) : spK i (.ok o ρ) = .ok .nx (ρ.set i (some (.val o.toD))) := (rfl)
@[simp] theorem e_aN (i : Nat) (d : D) : aN i d ρ = some (ρ.set i (some (.val d))) := (rfl)
@[simp] theorem e_mWhile (fu : Env → Nat) (t : M Bool) (b : M Fl) : mWhile fu t b ρ = whileN t b (fu ρ) ρ := (rfl)
def foK (a : D → Env → Option Env) (b : M Fl) : Res (List D) → Res Fl
  | .ok ds ρ => forL a b ds ρ
  | .exc x ρ => .exc x ρ
  | .no => .no
@[simp] theorem e_mFor (m : M (List D)) (a : D → Env → Option Env) (b : M Fl) : mFor m a b ρ = foK a b (m ρ) := by unfold mFor foK; cases m ρ <;> rfl
@[simp] theorem e_foK (a : D → Env → Option Env) (b : M Fl) (ds : List D) : foK a b (.ok ds ρ) = forL a b ds ρ := (rfl)
def siC (i : Nat) (u b : O) (ρ : Env) : Option (Option O) → Res Fl
  | some (some a) => match setItO a b u with
    | some o => .ok .nx (ρ.set i (some o))
    | none => .no
  | _ => .no
def siB (i : Nat) (u : O) : Res O → Res Fl
  | .ok b ρ2 => siC i u b ρ2 (ρ2[i]?)
  | .exc x ρ => .exc x ρ
  | .no => .no
def siA' (i : Nat) (n : M O) (u : O) (ρ : Env) : Option (Option O) → Res Fl
  | some (some _) => siB i u (n ρ)
  | _ => .no
def siA (i : Nat) (n : M O) : Res O → Res Fl
  | .ok u ρ1 => siA' i n u ρ1 (ρ1[i]?)
  | .exc x ρ => .exc x ρ
  | .no => .no
@[simp] theorem e_mSetIt (i : Nat) (n m : M O) : mSetIt i n m ρ = siA i n (m ρ) := by
  unfold mSetIt siA
  cases m ρ with
  | ok u ρ1 =>
    show (match ρ1[i]? with | some (some _) => _ | _ => Res.no) = siA' i n u ρ1 (ρ1[i]?)
    unfold siA'
    cases ρ1[i]? with
    | none => rfl
    | some q =>
      cases q with
      | none => rfl
      | some _ =>
        unfold siB
        cases n ρ1 <;> rfl
  | exc _ _ => rfl
  | no => rfl
@[simp] theorem e_siA (i : Nat) (n : M O) (u : O) : siA i n (.ok u ρ) = siA' i n u ρ (ρ[i]?) := (rfl)
@[simp] theorem e_siA' (i : Nat) (n : M O) (u o : O) : siA' i n u ρ (some (some o)) = siB i u (n ρ) := (rfl)
@[simp] theorem e_siB (i : Nat) (u b : O) : siB i u (.ok b ρ) = siC i u b ρ (ρ[i]?) := (rfl)
def siD (i : Nat) (ρ : Env) : Option O → Res Fl
  | some o => .ok .nx (ρ.set i (some o))
  | none => .no
@[simp] theorem e_siC (i : Nat) (u b a : O) : siC i u b ρ (some (some a)) = siD i ρ (setItO a b u) := by
  show (match setItO a b u with | some o => Res.ok Fl.nx (ρ.set i (some o)) | none => .no) = _
  unfold siD; cases setItO a b u <;> rfl
@[simp] theorem e_siD (i : Nat) (o : O) : siD i ρ (some o) = .ok .nx (ρ.set i (some o)) := (rfl)
def apC (i : Nat) (o : O) (ρ : Env) : Option (Option O) → Res O
  | some (some (.lst os)) => if os.length < 1000000 then .ok (.val .non) (ρ.set i (some (.lst (os ++ [o])))) else .no
  | _ => .no
def apB (i : Nat) : Res O → Res O
  | .ok o ρ => apC i o ρ (ρ[i]?)
  | .exc x ρ => .exc x ρ
  | .no => .no
def apA (i : Nat) (m : M O) (ρ : Env) : Option (Option O) → Res O
  | some (some (.lst _)) => apB i (m ρ)
  | _ => .no
@[simp] theorem e_mAppend (i : Nat) (m : M O) : mAppend i m ρ = apA i m ρ (ρ[i]?) := by
  unfold mAppend apA
  cases ρ[i]? with
  | none => rfl
  | some q =>
    cases q with
    | none => rfl
    | some o =>
      cases o with
      | lst os =>
        unfold apB
        cases m ρ <;> rfl
      | _ => rfl
@[simp] theorem e_apA (i : Nat) (m : M O) (os : List O) : apA i m ρ (some (some (.lst os))) = apB i (m ρ) := (rfl)
@[simp] theorem e_apB (i : Nat) (o : O) : apB i (.ok o ρ) = apC i o ρ (ρ[i]?) := (rfl)
@[simp] theorem e_apC (i : Nat) (o : O) (os : List O) (h : os.length < 1000000) : apC i o ρ (some (some (.lst os))) = .ok (.val .non) (ρ.set i (some (.lst (os ++ [o])))) := by unfold apC; simp [h]
def caC (as : List Arg) (ρ : Env) : Option (O × Env) → Res O
  | some q => .ok q.1 (giveA as q.2 ρ)
  | none => .no
def caB (F : FSem) (as : List Arg) : Option (List O × Env) → Res O
  | some r => caC as r.2 (F r.1)
  | none => .no
def caA (F : FSem) (as : List Arg) : Res (List (Option O)) → Res O
  | .ok os ρ => caB F as (takeA as os ρ)
  | .exc x ρ => .exc x ρ
  | .no => .no
@[simp] theorem e_mCall (F : FSem) (as : List Arg) : mCall F as ρ = caA F as (evA as ρ) := by
  unfold mCall caA
  cases evA as ρ with
  | ok os ρ1 =>
    show (match takeA as os ρ1 with | none => Res.no | some r => match F r.1 with | none => .no | some q => .ok q.1 (giveA as q.2 r.2)) = caB F as (takeA as os ρ1)
    unfold caB
    cases takeA as os ρ1 with
    | none => rfl
    | some r =>
      show (match F r.1 with | none => Res.no | some q => .ok q.1 (giveA as q.2 r.2)) = caC as r.2 (F r.1)
      unfold caC
      cases F r.1 <;> rfl
  | exc _ _ => rfl
  | no => rfl
@[simp] theorem e_caA (F : FSem) (as : List Arg) (os : List (Option O)) : caA F as (.ok os ρ) = caB F as (takeA as os ρ) := (rfl)
@[simp] theorem e_caB (F : FSem) (as : List Arg) (os : List O) : caB F as (some (os, ρ)) = caC as ρ (F os) := (rfl)
@[simp] theorem e_caC (as : List Arg) (o : O) (ρc : Env) : caC as ρ (some (o, ρc)) = .ok o (giveA as ρc ρ) := (rfl)
@[simp] theorem e_evA0 : evA [] ρ = .ok [] ρ := (rfl)
def evB (o : O) : Res (List (Option O)) → Res (List (Option O))
  | .ok os ρ => .ok (some o :: os) ρ
  | .exc x ρ => .exc x ρ
  | .no => .no
def evC (as : List Arg) : Res O → Res (List (Option O))
  | .ok o ρ => evB o (evA as ρ)
  | .exc x ρ => .exc x ρ
  | .no => .no
@[simp] theorem e_evAv (m : M O) (as : List Arg) : evA (.v m :: as) ρ = evC as (m ρ) := by
  show (m ρ).bind (fun o ρ1 => (evA as ρ1).bind fun os ρ2 => .ok (some o :: os) ρ2) = _
  unfold evC
  cases m ρ with
  | ok o ρ1 => show (evA as ρ1).bind _ = evB o (evA as ρ1); unfold evB; cases evA as ρ1 <;> rfl
  | exc _ _ => rfl
  | no => rfl
@[simp] theorem e_evC (as : List Arg) (o : O) : evC as (.ok o ρ) = evB o (evA as ρ) := (rfl)
@[simp] theorem e_evB (os : List (Option O)) (o : O) : evB o (.ok os ρ) = .ok (some o :: os) ρ := (rfl)
def evD : Res (List (Option O)) → Res (List (Option O))
  | .ok os ρ => .ok (none :: os) ρ
  | .exc x ρ => .exc x ρ
  | .no => .no
def evE (as : List Arg) (ρ : Env) : Option (Option O) → Res (List (Option O))
  | some (some _) => evD (evA as ρ)
  | _ => .no
@[simp] theorem e_evAi (i : Nat) (as : List Arg) : evA (.io i :: as) ρ = evE as ρ (ρ[i]?) := by
  show (match ρ[i]? with | some (some _) => (evA as ρ).bind fun os ρ2 => .ok (none :: os) ρ2 | _ => .no) = _
  unfold evE
  cases ρ[i]? with
  | none => rfl
  | some q =>
    cases q with
    | none => rfl
    | some o => show (evA as ρ).bind _ = evD (evA as ρ); unfold evD; cases evA as ρ <;> rfl
@[simp] theorem e_evE (as : List Arg) (o : O) : evE as ρ (some (some o)) = evD (evA as ρ) := (rfl)
@[simp] theorem e_evD (os : List (Option O)) : evD (.ok os ρ) = .ok (none :: os) ρ := (rfl)
@[simp] theorem e_tk0 : takeA [] [] ρ = some ([], ρ) := (rfl)
def tkK (o : O) : Option (List O × Env) → Option (List O × Env)
  | some r => some (o :: r.1, r.2)
  | none => none
@[simp] theorem e_tkv (m : M O) (as : List Arg) (o : O) (os : List (Option O)) : takeA (.v m :: as) (some o :: os) ρ = tkK o (takeA as os ρ) := by
  show (takeA as os ρ).map (fun r : List O × Env => (o :: r.1, r.2)) = tkK o (takeA as os ρ)
  unfold tkK; cases takeA as os ρ <;> rfl
@[simp] theorem e_tkK (o : O) (os : List O) : tkK o (some (os, ρ)) = some (o :: os, ρ) := (rfl)
def tkI (i : Nat) (as : List Arg) (os : List (Option O)) (ρ : Env) : Option (Option O) → Option (List O × Env)
  | some (some o) => tkK o (takeA as os (ρ.set i none))
  | _ => none
@[simp] theorem e_tki (i : Nat) (as : List Arg) (os : List (Option O)) : takeA (.io i :: as) (none :: os) ρ = tkI i as os ρ (ρ[i]?) := by
  show (match ρ[i]? with
    | some (some o) => (takeA as os (ρ.set i none)).map fun r : List O × Env => (o :: r.1, r.2)
    | _ => none) = tkI i as os ρ (ρ[i]?)
  unfold tkI
  cases ρ[i]? with
  | none => rfl
  | some q =>
    cases q with
    | none => rfl
    | some o =>
      show (takeA as os (ρ.set i none)).map (fun r => (o :: r.1, r.2)) = tkK o (takeA as os (ρ.set i none))
      unfold tkK
      cases takeA as os (ρ.set i none) <;> rfl
@[simp] theorem e_tkI (i : Nat) (as : List Arg) (os : List (Option O)) (o : O) : tkI i as os ρ (some (some o)) = tkK o (takeA as os (ρ.set i none)) := (rfl)
@[simp] theorem e_gv0 (ρc : Env) : giveA [] ρc ρ = ρ := by cases ρc <;> rfl
@[simp] theorem e_gvv (m : M O) (as : List Arg) (u : Option O) (ρc : Env) : giveA (.v m :: as) (u :: ρc) ρ = giveA as ρc ρ := (rfl)
@[simp] theorem e_gvi (i : Nat) (as : List Arg) (o : O) (ρc : Env) : giveA (.io i :: as) (some o :: ρc) ρ = giveA as ρc (ρ.set i (some o)) := (rfl)
@[simp] theorem e_gvn (i : Nat) (as : List Arg) (ρc : Env) : giveA (.io i :: as) (none :: ρc) ρ = giveA as ρc ρ := (rfl)
-- iterables
@[simp] theorem e_mTrue : mTrue ρ = .ok true ρ := (rfl)
def r1K : Res O → Res (List D)
  | .ok (.val (.int j)) ρ => if small j = true then .ok (rangeL 0 j.toNat) ρ else .no
  | .ok _ _ => .no
  | .exc x ρ => .exc x ρ
  | .no => .no
@[simp] theorem e_mR1 (m : M O) : mR1 m ρ = r1K (m ρ) := by
  unfold r1K mR1
  cases m ρ with
  | ok o ρ1 =>
    cases o with
    | val d => cases d <;> rfl
    | lst _ => rfl
    | dct _ _ => rfl
    | ins _ _ _ => rfl
  | exc _ _ => rfl
  | no => rfl
@[simp] theorem e_r1K (j : Int) (h : small j = true) : r1K (.ok (.val (.int j)) ρ) = .ok (rangeL 0 j.toNat) ρ := by unfold r1K; simp [h]
-- values
@[simp] theorem e_lift2 (f : D → D → Option D) (x y : D) : lift2 f (.val x) (.val y) = (f x y).map O.val := (rfl)
@[simp] theorem e_add (i j : Int) : addD (.int i) (.int j) = some (.int (i + j)) := (rfl)
@[simp] theorem e_gt (i j : Int) : gtD (.int i) (.int j) = some (.bl (decide (j < i))) := (rfl)
@[simp] theorem e_ge (i j : Int) : geD (.int i) (.int j) = some (.bl (decide (j ≤ i))) := (rfl)
theorem mulOk_r {i j : Int} (h : j.natAbs < 2 ^ 64) : mulOk i j = true := by unfold mulOk; simp [h]
theorem e_mul {i j : Int} (h : mulOk i j = true) : mulD (.int i) (.int j) = some (.int (i * j)) := by unfold mulD; simp [h]
theorem e_mulr {i : Int} (j : Int) (h : j.natAbs < 2 ^ 64) : mulD (.int i) (.int j) = some (.int (i * j)) := e_mul (mulOk_r h)
theorem e_mod {i j : Int} (h : 0 < j) : modD (.int i) (.int j) = some (.int (i % j)) := by unfold modD; simp [h]
theorem e_fdiv {i j : Int} (h : 0 < j) (h2 : j.natAbs.log2 < 9000) : fdivD (.int i) (.int j) = some (.int (i / j)) := by unfold fdivD; simp [h, h2]
theorem e_pow {i j : Int} (h : 0 ≤ j) (h2 : j ≤ 1000000) (h3 : i.natAbs < 2 ^ 64) : powD (.int i) (.int j) = some (.int (i ^ j.toNat)) := by unfold powD; simp [h, h2, h3]
@[simp] theorem e_toD_val (d : D) : (O.val d).toD = d := (rfl)
@[simp] theorem e_toD_lst (os : List O) : (O.lst os).toD = .lst (O.toDs os) := (rfl)
@[simp] theorem e_toDs0 : O.toDs [] = [] := (rfl)
@[simp] theorem e_toDs1 (o : O) (os : List O) : O.toDs (o :: os) = o.toD :: O.toDs os := (rfl)
@[simp] theorem e_toDsv (ds : List D) : O.toDs (ds.map O.val) = ds := toDs_vals ds
def endF (n : Nat) (P : List Nat) : Res Fl → Option (O × Env)
  | .ok .nx ρ' => some (.val .non, maskE n P ρ')
  | .ok (.ret o) ρ' => some (o, maskE n P ρ')
  | _ => none
theorem runF_eq (n N : Nat) (P : List Nat) (b : M Fl) (os : List O) : runF n N P b os = endF n P (b (os.map some ++ List.replicate (N - os.length) none)) := by
  unfold runF endF
  rfl
@[simp] theorem e_endR (n : Nat) (P : List Nat) (o : O) : endF n P (.ok (.ret o) ρ) = some (o, maskE n P ρ) := (rfl)
@[simp] theorem e_endN (n : Nat) (P : List Nat) : endF n P (.ok .nx ρ) = some (.val .non, maskE n P ρ) := (rfl)

/-! ### loops -/
theorem forL_inv {a : D → Env → Option Env} {b : M Fl} {ds : List D} (I : Nat → Env → Prop) {ρ : Env} (h0 : I 0 ρ) (hs : ∀ i d ρ, ds[i]? = some d → I i ρ → ∃ ρ1 ρ2, a d ρ = some ρ1 ∧ (b ρ1 = .ok .nx ρ2 ∨ b ρ1 = .ok .ct ρ2) ∧ I (i + 1) ρ2) :
    ∃ ρ', forL a b ds ρ = .ok .nx ρ' ∧ I ds.length ρ' := by
  induction ds generalizing I ρ with
  | nil => exact ⟨ρ, rfl, h0⟩
  | cons d ds ih =>
    obtain ⟨ρ1, ρ2, e1, e2, h1⟩ := hs 0 d ρ rfl h0
    obtain ⟨ρ', e3, h3⟩ := ih (fun i => I (i + 1)) h1 fun i d ρ h => hs (i + 1) d ρ (by simpa using h)
    refine ⟨ρ', ?_, by simpa using h3⟩
    unfold forL
    rw [e1]
    rcases e2 with e2 | e2 <;> simp only [e2, Res.bind_ok] <;> exact e3
theorem while_inv {t : M Bool} {b : M Fl} (I J : Env → Prop) (μ : Env → Nat) (hs : ∀ ρ, I ρ → (∃ ρ1, t ρ = .ok false ρ1 ∧ J ρ1) ∨ ∃ ρ1 ρ2, t ρ = .ok true ρ1 ∧ (b ρ1 = .ok .nx ρ2 ∨ b ρ1 = .ok .ct ρ2) ∧ I ρ2 ∧ μ ρ2 < μ ρ) :
    ∀ (n : Nat) (ρ : Env), I ρ → μ ρ < n → ∃ ρ', whileN t b n ρ = .ok .nx ρ' ∧ J ρ' := by
  intro n
  induction n with
  | zero => intro ρ _ h; omega
  | succ n ih =>
    intro ρ hI hn
    rcases hs ρ hI with ⟨ρ1, e1, h1⟩ | ⟨ρ1, ρ2, e1, e2, h1, h2⟩
    · exact ⟨ρ1, by unfold whileN; rw [e1]; simp, h1⟩
    · obtain ⟨ρ', e3, h3⟩ := ih ρ2 h1 (by omega)
      refine ⟨ρ', ?_, h3⟩
      unfold whileN
      rw [e1]
      rcases e2 with e2 | e2 <;> simp [e2, e3]
end FB

/-! Plain facts of data: equality, slices, places. -/
namespace FB
open PySem PySem.Spec L2
open PyProof.Rows hiding St

@[simp] theorem eqv_int (i j : Int) : D.eqv (.int i) (.int j) = decide (i = j) := by
  unfold D.eqv D.pd; simp only [PyData.eqv]; first | rfl | (simp; done) | (by_cases h : i = j <;> simp [h])
def eqvs (xs ys : List D) : Bool := PyData.eqvAll (D.pds xs) (D.pds ys)
@[simp] theorem eqv_lst (xs ys : List D) : D.eqv (.lst xs) (.lst ys) = eqvs xs ys := by unfold D.eqv D.pd eqvs; simp only [PyData.eqv]
@[simp] theorem eqv_tup (xs ys : List D) : D.eqv (.tup xs) (.tup ys) = eqvs xs ys := by unfold D.eqv D.pd eqvs; simp only [PyData.eqv]
@[simp] theorem eqvs_nn : eqvs [] [] = true := by unfold eqvs D.pds; simp only [PyData.eqvAll]
@[simp] theorem eqvs_nc (y : D) (ys : List D) : eqvs [] (y :: ys) = false := by unfold eqvs D.pds; simp only [PyData.eqvAll]
@[simp] theorem eqvs_cn (y : D) (ys : List D) : eqvs (y :: ys) [] = false := by unfold eqvs D.pds; simp only [PyData.eqvAll]
@[simp] theorem eqvs_cc (x y : D) (xs ys : List D) : eqvs (x :: xs) (y :: ys) = (D.eqv x y && eqvs xs ys) := by
  show PyData.eqvAll (x.pd :: D.pds xs) (y.pd :: D.pds ys) = _
  simp only [PyData.eqvAll]; rfl
@[simp] theorem eqvs_n (xs : List D) : eqvs xs [] = xs.isEmpty := by cases xs <;> simp
@[simp] theorem okE_int (n : Nat) (i : Int) : D.okE n (.int i) = true := by unfold D.okE; first | rfl | (cases n <;> rfl)
@[simp] theorem okE_bl (n : Nat) (i : Bool) : D.okE n (.bl i) = true := by unfold D.okE; first | rfl | (cases n <;> rfl)
@[simp] theorem okE_non (n : Nat) : D.okE n .non = true := by unfold D.okE; first | rfl | (cases n <;> rfl)
@[simp] theorem okE_str (n : Nat) (s : Str) : D.okE n (.str s) = true := by unfold D.okE; first | rfl | (cases n <;> rfl)
@[simp] theorem okE_lst (n : Nat) (xs : List D) : D.okE (n + 1) (.lst xs) = xs.all (D.okE n) := by rw [D.okE]
@[simp] theorem okE_tup (n : Nat) (xs : List D) : D.okE (n + 1) (.tup xs) = xs.all (D.okE n) := by rw [D.okE]
theorem e_eqO {a b : O} (ha : a.toD.okE 9 = true) (hb : b.toD.okE 9 = true) : eqO a b = some (.val (.bl (a.toD.eqv b.toD))) := by unfold eqO; simp [ha, hb]
theorem e_neO {a b : O} (ha : a.toD.okE 9 = true) (hb : b.toD.okE 9 = true) : neO a b = some (.val (.bl (!a.toD.eqv b.toD))) := by unfold neO; simp [ha, hb]
@[simp] theorem eqO_int (i j : Int) : eqO (.val (.int i)) (.val (.int j)) = some (.val (.bl (decide (i = j)))) := by rw [e_eqO (by simp) (by simp)]; simp
@[simp] theorem neO_int (i j : Int) : neO (.val (.int i)) (.val (.int j)) = some (.val (.bl (!decide (i = j)))) := by rw [e_neO (by simp) (by simp)]; simp
theorem neO_ints (ns : List Int) : neO (.val (.lst (ns.map D.int))) (.val (.lst [])) = some (.val (.bl (!ns.isEmpty))) := by
  rw [e_neO (by show D.okE (8 + 1) _ = true; simp) (by show D.okE (8 + 1) _ = true; simp)]; simp
theorem cut_to {α : Type} (xs : List α) (n : Nat) : cutL xs none (some (n : Int)) = xs.take n := by
  unfold cutL
  rw [HT.sIx_none, HT.sIx_nat]
  simp [List.take_eq_take_iff]
theorem cut_from {α : Type} (xs : List α) (n : Nat) : cutL xs (some (n : Int)) none = xs.drop n := by
  unfold cutL
  rw [HT.sIx_none, HT.sIx_nat]
  rw [List.take_of_length_le (by simp)]
  by_cases h : n ≤ xs.length
  · rw [Nat.min_eq_left h]
  · rw [Nat.min_eq_right (by omega), List.drop_length, List.drop_of_length_le (by omega)]
@[simp] theorem slO_val_lst (ds : List D) (lo hi : Option Int) : slO (.val (.lst ds)) lo hi = some (.val (.lst (cutL ds lo hi))) := (rfl)
@[simp] theorem slO_val_tup (ds : List D) (lo hi : Option Int) : slO (.val (.tup ds)) lo hi = some (.val (.tup (cutL ds lo hi))) := (rfl)
@[simp] theorem slO_val_scr (ns : List Int) (lo hi : Option Int) : slO (.val (.scr ns)) lo hi = some (.val (.lst ((cutL ns lo hi).map D.int))) := (rfl)
@[simp] theorem listO_lst (ds : List D) : listO (.val (.lst ds)) = some (.val (.lst ds)) := by first | rfl | (unfold listO; simp)
@[simp] theorem ixO_lst (os : List O) (i : Int) : ixO (.lst os) (.val (.int i)) = atI os i := (rfl)
@[simp] theorem ixO_vlst (ds : List D) (i : Int) : ixO (.val (.lst ds)) (.val (.int i)) = (atI ds i).map O.val := (rfl)
@[simp] theorem ixO_vtup (ds : List D) (i : Int) : ixO (.val (.tup ds)) (.val (.int i)) = (atI ds i).map O.val := (rfl)
@[simp] theorem atI_0 {α : Type} (x : α) (xs : List α) : atI (x :: xs) 0 = some x := by unfold atI ixN; simp
theorem atN {α : Type} (xs : List α) (i : Nat) : atI xs (i : Int) = xs[i]? := by
  unfold atI ixN
  by_cases h : i < xs.length
  · simp [h]
  · simp [h]
@[simp] theorem atI_1 {α : Type} (x y : α) (xs : List α) : atI (x :: y :: xs) 1 = some y := by rw [show (1 : Int) = ((1 : Nat) : Int) from rfl, atN]; rfl
@[simp] theorem atI_2 {α : Type} (x y z : α) (xs : List α) : atI (x :: y :: z :: xs) 2 = some z := by rw [show (2 : Int) = ((2 : Nat) : Int) from rfl, atN]; rfl
@[simp] theorem setItO_lst (os : List O) (i : Nat) (u : O) (h : i < os.length) : setItO (.lst os) (.val (.int (i : Int))) u = some (.lst (os.set i u)) := by
  unfold setItO ixN
  simp [h]
@[simp] theorem setItO_0 (a : O) (os : List O) (u : O) : setItO (.lst (a :: os)) (.val (.int 0)) u = some (.lst (u :: os)) := setItO_lst (a :: os) 0 u (by simp)
@[simp] theorem setItO_1 (a b : O) (os : List O) (u : O) : setItO (.lst (a :: b :: os)) (.val (.int 1)) u = some (.lst (a :: u :: os)) := setItO_lst (a :: b :: os) 1 u (by simp)
@[simp] theorem setItO_2 (a b c : O) (os : List O) (u : O) : setItO (.lst (a :: b :: c :: os)) (.val (.int 2)) u = some (.lst (a :: b :: u :: os)) := setItO_lst (a :: b :: c :: os) 2 u (by simp)
def coK2 (own : List Nat) (ρ1 : Env) : Res (List O) → Res O
  | .ok os ρ2 => .ok (.lst os) (backE (wipeE ρ2 own) ρ1 own)
  | .exc x ρ => .exc x ρ
  | .no => .no
def coK (own : List Nat) (a : D → Env → Option Env) (t : M Bool) (e : M O) : Res (List D) → Res O
  | .ok ds ρ1 => if ds.length ≤ 1000000 then coK2 own ρ1 (compL own a t e ds (wipeE ρ1 own)) else .no
  | .exc x ρ => .exc x ρ
  | .no => .no
variable {ρ : Env}
@[simp] theorem e_mComp (it : M (List D)) (own : List Nat) (a : D → Env → Option Env) (t : M Bool) (e : M O) : mComp it own a t e ρ = coK own a t e (it ρ) := by
  unfold mComp coK
  cases it ρ with
  | ok ds ρ1 =>
    show (if ds.length ≤ 1000000 then (compL own a t e ds (wipeE ρ1 own)).bind _ else Res.no) = if ds.length ≤ 1000000 then coK2 own ρ1 (compL own a t e ds (wipeE ρ1 own)) else Res.no
    unfold coK2
    cases compL own a t e ds (wipeE ρ1 own) <;> rfl
  | exc _ _ => rfl
  | no => rfl
@[simp] theorem e_coK (own : List Nat) (a : D → Env → Option Env) (t : M Bool) (e : M O) (ds : List D) (h : ds.length ≤ 1000000) : coK own a t e (.ok ds ρ) = coK2 own ρ (compL own a t e ds (wipeE ρ own)) := by unfold coK; simp [h]
@[simp] theorem e_coK2 (own : List Nat) (os : List O) (ρ1 : Env) : coK2 own ρ1 (.ok os ρ) = .ok (.lst os) (backE (wipeE ρ own) ρ1 own) := (rfl)
@[simp] theorem e_wipe0 : wipeE ρ [] = ρ := (rfl)
@[simp] theorem e_wipe1 (v : Nat) (vs : List Nat) : wipeE ρ (v :: vs) = (wipeE ρ vs).set v none := (rfl)
def bkK (v : Nat) (ρ : Env) : Option (Option O) → Env
  | some (some o) => ρ.set v (some o)
  | _ => ρ
@[simp] theorem e_back0 (ρ2 : Env) : backE ρ2 ρ [] = ρ2 := (rfl)
@[simp] theorem e_back1 (ρ2 : Env) (v : Nat) (vs : List Nat) : backE ρ2 ρ (v :: vs) = bkK v (backE ρ2 ρ vs) ((wipeE ρ vs)[v]?) := by
  show (match (wipeE ρ vs)[v]? with | some (some o) => (backE ρ2 ρ vs).set v (some o) | _ => backE ρ2 ρ vs) = _
  unfold bkK; rfl
@[simp] theorem e_bkKs (v : Nat) (o : O) : bkK v ρ (some (some o)) = ρ.set v (some o) := (rfl)
@[simp] theorem e_bkKn (v : Nat) : bkK v ρ (some none) = ρ := (rfl)
@[simp] theorem e_bkKx (v : Nat) : bkK v ρ none = ρ := (rfl)
theorem bkK_eta (v : Nat) (c : Option O) (ρ : Env) (h : ρ[v]? = some none) : bkK v ρ (some c) = ρ.set v c := by
  cases c with
  | some o => rfl
  | none =>
    show ρ = _
    apply List.ext_getElem?
    intro j
    by_cases hj : v = j
    · subst hj
      have hl : v < ρ.length := (List.getElem?_eq_some_iff.mp h).1
      rw [h]; simp [hl]
    · rw [List.getElem?_set_ne hj]
@[simp] theorem lenO_lst (os : List O) : lenO (.lst os) = some (.val (.int os.length)) := by first | rfl | (unfold lenO; simp)
@[simp] theorem lenO_vlst (os : List D) : lenO (.val (.lst os)) = some (.val (.int os.length)) := by first | rfl | (unfold lenO; simp)
@[simp] theorem lenO_vtup (os : List D) : lenO (.val (.tup os)) = some (.val (.int os.length)) := by first | rfl | (unfold lenO; simp)
@[simp] theorem lenO_scr (os : List Int) : lenO (.val (.scr os)) = some (.val (.int os.length)) := by first | rfl | (unfold lenO; simp)
@[simp] theorem addD_lst (xs ys : List D) (h : xs.length + ys.length ≤ 1000000) : addD (.lst xs) (.lst ys) = some (.lst (xs ++ ys)) := by unfold addD; simp [h]
@[simp] theorem lift2_lst (f : D → D → Option D) (xs : List D) (y : D) : lift2 f (.lst (xs.map O.val)) (.val y) = (f (.lst xs) y).map O.val := by unfold lift2; simp
theorem small_nat {n : Nat} (h : n ≤ 1000000) : small (n : Int) = true := by unfold small; simp; omega
/-- an owned list of shared things -/
def vO (ds : List D) : O := .lst (ds.map O.val)
@[simp] theorem vO_sh (ds : List D) : (vO ds).sh = some (.lst ds) := O.sh_lst ds
@[simp] theorem vO_toD (ds : List D) : (vO ds).toD = .lst ds := by show D.lst (O.toDs _) = _; rw [toDs_vals]
@[simp] theorem vO_apA (i : Nat) (m : M O) (ds : List D) : apA i m ρ (some (some (vO ds))) = apB i (m ρ) := (rfl)
@[simp] theorem vO_apC (i : Nat) (d : D) (ds : List D) (h : ds.length < 1000000) : apC i (.val d) ρ (some (some (vO ds))) = .ok (.val .non) (ρ.set i (some (vO (ds ++ [d])))) := by
  unfold vO; rw [e_apC _ _ _ (by simpa using h)]; simp
@[simp] theorem vO_len (ds : List D) : lenO (vO ds) = some (.val (.int ds.length)) := by unfold vO; simp
@[simp] theorem vO_ix (ds : List D) (i : Int) : ixO (vO ds) (.val (.int i)) = (atI ds i).map O.val := by
  unfold vO; rw [ixO_lst]; unfold atI; simp; rfl
@[simp] theorem vO_lift2 (f : D → D → Option D) (ds : List D) (y : D) : lift2 f (vO ds) (.val y) = (f (.lst ds) y).map O.val := lift2_lst f ds y
@[simp] theorem vO_sl (ds : List D) (lo hi : Option Int) : slO (vO ds) lo hi = some (.val (.lst (cutL ds lo hi))) := by unfold slO; simp
@[simp] theorem vO_list (ds : List D) : listO (vO ds) = some (.val (.lst ds)) := by unfold listO; simp
end FB

/-! Constants of the module; a new dict. -/
namespace FB
open PySem PySem.Spec L2
open PyProof.Rows hiding St

section
variable {X : Cx} {K : PySem.W.Frag} {mg : Str → Option Value}
/-! a new list of its own, by list(..) -/
end
end FB
namespace FB
open PySem PySem.Spec L2
variable {ρ : Env}
@[simp] theorem eqv_bl (a b : Bool) : D.eqv (.bl a) (.bl b) = (a == b) := by cases a <;> cases b <;> (unfold D.eqv D.pd; simp [PyData.eqv])
@[simp] theorem eqO_bl (a b : Bool) : eqO (.val (.bl a)) (.val (.bl b)) = some (.val (.bl (a == b))) := by rw [e_eqO (by simp) (by simp)]; simp
end FB

/-! Objects: attributes read and stored, methods, making. -/
namespace FB
open PySem PySem.Spec L2
open PyProof.Rows hiding St

section
variable {X : Cx} {K : PySem.W.Frag} {mg : Str → Option Value}
def fidx : List Str → Str → Option Nat
  | [], _ => none
  | g :: gs, f => if g = f then some 0 else (fidx gs f).map (· + 1)
theorem fidx_look : ∀ {fs : List (Str × V)} {f : Str} {j : Nat}, fidx (fs.map (·.1)) f = some j → ∃ v, fs.lookup f = some v ∧ (fs.map (·.2))[j]? = some v
  | [], f, j, h => by cases h
  | (g, v) :: fs, f, j, h => by
    have h : (if g = f then some 0 else (fidx (fs.map (·.1)) f).map (· + 1)) = some j := h
    by_cases e : g = f
    · rw [if_pos e] at h
      cases h
      subst e
      exact ⟨v, by simp [List.lookup], rfl⟩
    · rw [if_neg e] at h
      cases q : fidx (fs.map (·.1)) f with
      | none => rw [q] at h; cases h
      | some i =>
        rw [q] at h
        cases h
        obtain ⟨w, h1, h2⟩ := fidx_look q
        refine ⟨w, ?_, by simpa using h2⟩
        have : (f == g) = false := beq_eq_false_iff_ne.mpr (Ne.symm e)
        simp [List.lookup, this, h1]
theorem VOs.sub {G H : Hp} : ∀ {vs : List V} {os : List O} {as : List Addr} {j : Nat} {v : V} {o : O}, VOs K mg G H vs os as → os[j]? = some o → vs[j]? = some v → ∃ bs, VO K mg G H v o bs ∧ ∀ a ∈ bs, a ∈ as
  | [], os, as, j, v, o, t, h1, h2 => by simp at h2
  | w :: vs, os, as, j, v, o, t, h1, h2 => by
    cases t with
    | cons t r =>
      cases j with
      | zero =>
        simp at h1 h2
        subst h1 h2
        exact ⟨_, t, fun a ha => by simp [ha]⟩
      | succ j =>
        obtain ⟨bs, q1, q2⟩ := VOs.sub r (by simpa using h1) (by simpa using h2)
        exact ⟨bs, q1, fun a ha => by simp [q2 a ha]⟩
/-! stored -/
end
end FB

/-! Methods called, objects made. -/
namespace FB
open PySem PySem.Spec L2
open PyProof.Rows hiding St

section
variable {P : Program} {w : World} {K : PySem.W.Frag} {mg : Str → Option Value} {base : Heap}
end

section
variable {X : Cx} {K : PySem.W.Frag} {mg : Str → Option Value}
/-! o.m(..), o a name -/
/-! C(..) -/
end
end FB

/-! self.f[k] = e; self.f[k] += e. -/
namespace FB
open PySem PySem.Spec L2
open PyProof.Rows hiding St

section
variable {X : Cx} {K : PySem.W.Frag} {mg : Str → Option Value}
end
end FB

/-! Rules for simp: objects. -/
namespace FB
open PySem PySem.Spec L2
open PyProof.Rows hiding St
variable {ρ : Env}
end FB

/-! A loop over an own list that stands meanwhile; isinstance as a reading. -/
namespace FB
open PySem PySem.Spec L2
open PyProof.Rows hiding St

section
variable {X : Cx} {K : PySem.W.Frag} {mg : Str → Option Value}
end
end FB

/-! zip of any two of lists and tuples. -/
namespace MZ
open PySem PySem.Sem
/-- u: a list, else a tuple -/
def CSeq (u : Bool) (h : Heap) (l : Addr) (xs : Array Value) : Prop := if u = true then h.IsList l xs else h.IsTuple l xs
def CIt (u : Bool) (h : Heap) (it l : Addr) (k : Nat) : Prop := if u = true then h.IsListIter it l k else h.IsTupleIter it l k
theorem CSeq.ext {u : Bool} {h h' : Heap} {l b : Addr} {xs : Array Value} (x : CSeq u h l xs) (q : Heap.ExtBut b h h') (n : l ≠ b) : CSeq u h' l xs := by
  cases u with
  | true => exact Heap.IsList.extBut (show h.IsList l xs from x) q n
  | false => exact Heap.IsTuple.extBut (show h.IsTuple l xs from x) q n
theorem CIt.ext {u : Bool} {h h' : Heap} {it l b : Addr} {k : Nat} (x : CIt u h it l k) (q : Heap.ExtBut b h h') (n : it ≠ b) : CIt u h' it l k := by
  cases u with
  | true => exact Heap.IsListIter.extBut (show h.IsListIter it l k from x) q n
  | false => exact Heap.IsTupleIter.extBut (show h.IsTupleIter it l k from x) q n
theorem CIt.some {u : Bool} {h : Heap} {it l : Addr} {k : Nat} (x : CIt u h it l k) : ∃ o, h.get? it = some o ∧ ∀ v, o.data ≠ .cell v := by
  cases u with
  | true =>
    obtain ⟨o, e, _, d⟩ := show h.IsListIter it l k from x
    exact ⟨o, e, fun v q => by rw [d] at q; cases q⟩
  | false =>
    obtain ⟨o, e, _, d⟩ := show h.IsTupleIter it l k from x
    exact ⟨o, e, fun v q => by rw [d] at q; cases q⟩
section
variable {prog : Program} {w : World} {A : Around} {E : Value → Shared → Prop} {s : Shared}
variable {u1 u2 : Bool} {z TI TO i j l m : Addr} {k n : Nat} {xs ys : Array Value} {x y a b : Value}
end
/-! ### it is made -/
def itObj (u : Bool) (l : Addr) : Obj := { cls := .type (if u = true then "list_iterator" else "tuple_iterator"), data := .fields #[.ref l, .int 0 0] }
abbrev m1 (u1 : Bool) (h : Heap) (l : Addr) : Heap := h.push (itObj u1 l)
abbrev m2 (u1 u2 : Bool) (h : Heap) (l m : Addr) : Heap := (m1 u1 h l).push (itObj u2 m)
theorem CSeq.push {u : Bool} {h : Heap} {l : Addr} {xs : Array Value} (q : CSeq u h l xs) (o : Obj) : CSeq u (h.push o) l xs := by
  cases u with
  | true => exact Heap.IsList.push (show h.IsList l xs from q) o
  | false => exact Heap.IsTuple.push (show h.IsTuple l xs from q) o
end MZ
namespace MZ
open PySem PySem.Spec L2
open PyProof.Rows hiding St
def SqC (K : PySem.W.Frag) (u : Bool) (H : Hp) (a : Addr) (xs : List V) : Prop := if u = true then SqL K H a xs else SqT K H a xs
theorem SqC.its {X : Cx} {pins : List (Addr × Obj)} {σ : L2.St} {H : Hp} {s : Shared} {u : Bool} {a : Addr} {xs : List V} (I : Inv X pins σ H s) (q : SqC X.K u H a xs) : ∃ its : List Value, Vals xs its ∧ CSeq u s.heap a its.toArray ∧ a < s.heap.objs.size := by
  cases u with
  | true =>
    obtain ⟨its, r, p, _⟩ := I.list (show SqL X.K H a xs from q)
    exact ⟨its, r, p.isList, p.lt⟩
  | false =>
    obtain ⟨its, r, p, _⟩ := I.tuple (show SqT X.K H a xs from q)
    obtain ⟨o, e, _⟩ := id p
    exact ⟨its, r, show s.heap.IsTuple a its.toArray from p, Heap.lt_size e⟩
theorem SqC.inj {X : Cx} {pins : List (Addr × Obj)} {σ : L2.St} {H : Hp} {s : Shared} {u : Bool} {a : Addr} {xs ys : List V} (I : Inv X pins σ H s) (q : SqC X.K u H a xs) (q' : SqC X.K u H a ys) : xs = ys := by
  cases u with
  | true => exact I.list_inj q q'
  | false => exact I.tuple_inj q q'
end MZ
namespace FB
open PySem PySem.Spec L2
open PyProof.Rows hiding St
section
variable {X : Cx} {K : PySem.W.Frag} {mg : Str → Option Value}
end
end FB

/-! Loops and comprehensions over what an own object lends meanwhile. -/
namespace FB
open PySem PySem.Spec L2
open PyProof.Rows hiding St
section
variable {X : Cx} {K : PySem.W.Frag} {mg : Str → Option Value}
/-! zip of two attributes -/
end
end FB

/-! More rules for simp; loops that end at the first. -/
namespace FB
open PySem PySem.Spec L2
open PyProof.Rows hiding St
variable {ρ : Env}
@[simp] theorem neO_bl (a b : Bool) : neO (.val (.bl a)) (.val (.bl b)) = some (.val (.bl (!(a == b)))) := by rw [e_neO (by simp) (by simp)]; simp
theorem rangeL_len (lo : Int) (n : Nat) : (rangeL lo n).length = n := by unfold rangeL; simp
theorem rangeL_get {lo : Int} {n k : Nat} {d : D} (h : (rangeL lo n)[k]? = some d) : k < n ∧ d = .int (lo + k) := by
  have hk : k < n := by
    have := (List.getElem?_eq_some_iff.mp h).1
    rwa [rangeL_len] at this
  unfold rangeL at h
  rw [List.getElem?_map, List.getElem?_range hk] at h
  exact ⟨hk, (Option.some.inj h).symm⟩
theorem bls_map {α : Type} (p : α → Bool) : ∀ xs : List α, bls? (xs.map fun z => D.bl (p z)) = some (xs.map p)
  | [] => rfl
  | x :: xs => by
    show (bls? (xs.map fun z => D.bl (p z))).map (p x :: ·) = _
    rw [bls_map p xs]; rfl
theorem toD_bls {α : Type} (p : α → Bool) (xs : List α) : (O.lst (xs.map fun z => O.val (.bl (p z)))).toD = .lst (xs.map fun z => D.bl (p z)) := by
  show D.lst (O.toDs _) = _
  rw [toDs_map, List.map_map]; rfl
theorem any_map {α : Type} (p : α → Bool) (xs : List α) : anyO (.lst (xs.map fun z => O.val (.bl (p z)))) = some (.val (.bl (xs.any p))) := by
  unfold anyO
  rw [toD_bls]
  show ((bls? (xs.map fun z => D.bl (p z))).map fun bs => O.val (.bl (bs.any id))) = _
  rw [bls_map]
  simp [List.any_map]
end FB

/-! Dicts read; texts joined; lists turned round. -/
namespace FB
open PySem PySem.Spec L2
open PyProof.Rows hiding St
section
variable {X : Cx} {K : PySem.W.Frag} {mg : Str → Option Value}
/-! ### d[k] -/
/-! ### k in d -/
/-! ### d.get(k, x) -/
def p3 (op : O → O → O → Option O) (f g h : Pf) : Pf := fun ρ => (f ρ).bind fun a => (g ρ).bind fun b => (h ρ).bind fun c => op a b c
end
end FB

/-! join, reverse, dict(pairs), name[k] += e; rules. -/
namespace FB
open PySem PySem.Spec L2 TL
open PyProof.Rows hiding St
section
variable {X : Cx} {K : PySem.W.Frag} {mg : Str → Option Value}
/-! ### join -/
def strs? : List D → Option (List Str)
  | [] => some []
  | .str s :: ds => (strs? ds).map (s :: ·)
  | _ :: _ => none
theorem strs_eq : ∀ {ds : List D} {ys : List Str}, strs? ds = some ys → ds = ys.map D.str
  | [], _, h => by cases h; rfl
  | .str s :: ds, ys, h => by
    have h : (strs? ds).map (s :: ·) = some ys := h
    cases e : strs? ds with
    | none => rw [e] at h; cases h
    | some zs => rw [e] at h; cases h; rw [strs_eq e]; rfl
  | .non :: _, _, h => by cases h
  | .bl _ :: _, _, h => by cases h
  | .int _ :: _, _, h => by cases h
  | .tup _ :: _, _, h => by cases h
  | .lst _ :: _, _, h => by cases h
  | .dct _ _ :: _, _, h => by cases h
  | .ins _ _ _ :: _, _, h => by cases h
  | .scr _ :: _, _, h => by cases h
  | .fn _ :: _, _, h => by cases h
  | .exc _ _ _ :: _, _, h => by cases h
theorem Vws.strs {H : Hp} : ∀ {vs : List V} {ys : List Str}, Vws K mg H vs (ys.map D.str) → vs = ys.map V.str ∧ ∀ y ∈ ys, PyData.strOk y = true
  | _, [], .nil => ⟨rfl, by simp⟩
  | _, y :: ys, .cons h t => by
    obtain ⟨e, o⟩ := Vws.strs t
    cases h with
    | str _ hy =>
      refine ⟨by rw [e]; rfl, fun z hz => ?_⟩
      rcases List.mem_cons.mp hz with q | q
      · rw [q]; exact hy
      · exact o z q
theorem strOk_iff {s : Str} : PyData.strOk s = true ↔ ∀ c ∈ s.cps.toList, decide (c < 0x110000) = true := by
  show s.cps.all (· < 0x110000) = true ↔ _
  rw [← Array.all_toList, List.all_eq_true]
theorem joinL_mem {S : List Nat} {c : Nat} : ∀ {ps : List (List Nat)}, c ∈ joinL S ps → c ∈ S ∨ ∃ p ∈ ps, c ∈ p
  | [], h => by cases h
  | [p], h => .inr ⟨p, by simp, h⟩
  | p :: q :: r, h => by
    have h : c ∈ p ++ (S ++ joinL S (q :: r)) := h
    rcases List.mem_append.mp h with h | h
    · exact .inr ⟨p, by simp, h⟩
    · rcases List.mem_append.mp h with h | h
      · exact .inl h
      · rcases joinL_mem h with h | ⟨p', h1, h2⟩
        · exact .inl h
        · exact .inr ⟨p', List.mem_cons_of_mem _ h1, h2⟩
theorem join_ok {a : Str} {ys : List Str} (ha : PyData.strOk a = true) (h : ∀ y ∈ ys, PyData.strOk y = true) : PyData.strOk (Txt.join a ys) = true := by
  rw [join_eq, strOk_iff]
  intro c hc
  have hc : c ∈ joinL (tl a) (ys.map tl) := by rw [← tl_join]; exact hc
  rcases joinL_mem hc with q | ⟨p, hp, q⟩
  · exact strOk_iff.mp ha c q
  · obtain ⟨y, hy, rfl⟩ := List.mem_map.mp hp
    exact strOk_iff.mp (h y hy) c q
def joinD (a : Str) (d : D) : Option D := match d with
  | .lst ds => (strs? ds).bind fun ys => if (ys.map (·.length)).sum + ys.length * a.length ≤ 1000000 then some (.str (Txt.join a ys)) else none
  | _ => none
def mJoin (a : Str) (m : M O) : M O := fun ρ => (m ρ).bind fun o ρ1 => match joinD a o.toD with
  | some d => .ok (.val d) ρ1
  | none => .no
theorem se_join {a : Str} {j : Nat} {p apos pos : Pos} {e : Expr} {m : M O} (h : SE X e m) (ha : PyData.strOk a = true := by decide +kernel) (hs : starEach [e] X.env = [(false, eval e X.env)] := by rfl) (hbase : attributeBase (.Constant (.str a) j p) "join" X.env (eval (.Constant (.str a) j p) X.env) = eval (.Constant (.str a) j p) X.env := by rfl)
    (hline : (apos.endLine == pos.line) = true := by rfl) : SE X (.Call (.Attribute (.Constant (.str a) j p) "join" apos) [e] [] pos) (mJoin a m) :=
  PE.imp (pe_join pe_str h hs hbase hline) fun σ H Q w => by
    obtain ⟨ρ, T, o, ρ', c, R, e0, k⟩ := w
    obtain ⟨u, ρ1, e1, e0⟩ := Res.bind_eq e0
    refine ⟨⟨a, rfl⟩, ρ, T, u, ρ1, c, R, e1, fun y H1 c1 R1 => ?_⟩
    unfold joinD at e0
    have R2 := R1.frz
    cases hd : u.toD with
    | lst ds =>
      rw [hd] at e0 R2
      have e0 : (match (strs? ds).bind fun ys => if (ys.map (·.length)).sum + ys.length * a.length ≤ 1000000 then some (D.str (Txt.join a ys)) else none with | some d => Res.ok (O.val d) ρ1 | none => .no) = .ok o ρ' := e0
      cases es : strs? ds with
      | none => rw [es] at e0; cases e0
      | some ys =>
        rw [es] at e0
        have e0 : (match (if (ys.map (·.length)).sum + ys.length * a.length ≤ 1000000 then some (D.str (Txt.join a ys)) else none) with | some d => Res.ok (O.val d) ρ1 | none => .no) = .ok o ρ' := e0
        by_cases hl : (ys.map (·.length)).sum + ys.length * a.length ≤ 1000000
        · rw [if_pos hl] at e0
          cases e0
          have ed := strs_eq es
          subst ed
          have q : Vw X.K X.mg H1 y (.lst (ys.map D.str)) := R2.lend.sh (List.mem_cons_self ..) rfl
          cases q with
          | lst q1 q2 =>
            obtain ⟨ev, ok⟩ := q2.strs
            subst ev
            exact ⟨a, _, ys, rfl, rfl, .inl (.inl q1), by omega, k _ H1 c1 ((R2.drop).scal fun _ => .str _ (join_ok ha ok))⟩
        · rw [if_neg hl] at e0; cases e0
    | _ => rw [hd] at e0; cases e0
/-! ### reverse -/
/-! ### dict(pairs) -/
theorem Vws.putL {G : Hp} {ks : List Key} {vs : List V} {ds : List D} {k : Key} {v : V} {d : D} (h : Vws K mg G vs ds) (h1 : Vw K mg G v d) : Vws K mg G (putL ks vs k v).2 (putL ks ds k d).2 := by
  unfold FB.putL
  cases idxK ks k with
  | none => exact h.append (.cons h1 .nil)
  | some j => exact h.set h1 j
/-! ### name[k] += e, ints -/
end
/-! ### rules -/
variable {ρ : Env}
def p3K (op : O → O → O → Option O) : Option O → Option O → Option O → Option O
  | some a, some b, some c => op a b c
  | _, _, _ => none
@[simp] theorem e_p3 (op : O → O → O → Option O) (f g h : Pf) : p3 op f g h ρ = p3K op (f ρ) (g ρ) (h ρ) := by
  unfold p3 p3K
  cases f ρ <;> cases g ρ <;> cases h ρ <;> rfl
@[simp] theorem e_p3K (op : O → O → O → Option O) (a b c : O) : p3K op (some a) (some b) (some c) = op a b c := (rfl)
def jnK (a : Str) : Res O → Res O
  | .ok o ρ1 => (match joinD a o.toD with
    | some d => .ok (.val d) ρ1
    | none => .no)
  | .exc x ρ => .exc x ρ
  | .no => .no
def jnK2 (ρ : Env) : Option D → Res O
  | some d => .ok (.val d) ρ
  | none => .no
@[simp] theorem e_mJoin (a : Str) (m : M O) : mJoin a m ρ = jnK a (m ρ) := by unfold mJoin jnK; cases m ρ <;> rfl
@[simp] theorem e_jnK (a : Str) (o : O) : jnK a (.ok o ρ) = jnK2 ρ (joinD a o.toD) := by
  show (match joinD a o.toD with | some d => Res.ok (O.val d) ρ | none => .no) = _
  unfold jnK2
  cases joinD a o.toD <;> rfl
@[simp] theorem e_jnK2 (d : D) : jnK2 ρ (some d) = .ok (.val d) ρ := (rfl)
theorem strs_map : ∀ ys : List Str, strs? (ys.map D.str) = some ys
  | [] => rfl
  | y :: ys => by
    show (strs? (ys.map D.str)).map (y :: ·) = _
    rw [strs_map ys]; rfl
theorem joinD_strs (a : Str) (ys : List Str) (h : (ys.map (·.length)).sum + ys.length * a.length ≤ 1000000) : joinD a (.lst (ys.map D.str)) = some (.str (Txt.join a ys)) := by
  show ((strs? (ys.map D.str)).bind fun ys => if (ys.map (·.length)).sum + ys.length * a.length ≤ 1000000 then some (D.str (Txt.join a ys)) else none) = _
  rw [strs_map]
  show (if (ys.map (·.length)).sum + ys.length * a.length ≤ 1000000 then some (D.str (Txt.join a ys)) else none) = _
  rw [if_pos h]
end FB

/-! Loops and comprehensions over what own names lend meanwhile. -/
namespace FB
open PySem PySem.Spec L2
open PyProof.Rows hiding St
section
variable {X : Cx} {K : PySem.W.Frag} {mg : Str → Option Value}
/-! zip of two own names -/
/-! one own name -/
end
/-- a comprehension whose turns change the environment -/
theorem compL_inv {own : List Nat} {a : D → Env → Option Env} {e : M O} (I : Nat → Env → Prop) (P : Nat → O → Prop) : ∀ {ds : List D} {ρ : Env}, I 0 ρ →
    (∀ k d ρ, ds[k]? = some d → I k ρ → ∃ ρ1 o ρ2, a d ρ = some ρ1 ∧ e ρ1 = .ok o ρ2 ∧ P k o ∧ I (k + 1) (wipeE ρ2 own)) →
    ∃ os ρ', compL own a mTrue e ds ρ = .ok os ρ' ∧ os.length = ds.length ∧ (∀ k o, os[k]? = some o → P k o) ∧ I ds.length ρ' := by
  intro ds
  induction ds generalizing I P with
  | nil => intro ρ h0 _; exact ⟨[], ρ, rfl, rfl, fun k o h => by simp at h, h0⟩
  | cons d ds ih =>
    intro ρ h0 h
    obtain ⟨ρ1, o, ρ2, e1, e2, p, i1⟩ := h 0 d ρ rfl h0
    obtain ⟨os, ρ', e3, hl, hp, i2⟩ := ih (fun k => I (k + 1)) (fun k => P (k + 1)) i1 fun k d ρ hd hI => h (k + 1) d ρ (by simpa using hd) hI
    refine ⟨o :: os, ρ', ?_, by simp [hl], fun k o' ho => ?_, by simpa using i2⟩
    · unfold compL
      rw [e1]
      show (mTrue ρ1).bind _ = _
      rw [show mTrue ρ1 = .ok true ρ1 from rfl, Res.bind_ok, if_pos rfl, e2, Res.bind_ok, e3, Res.bind_ok]
    · cases k with
      | zero => simp at ho; subst ho; exact p
      | succ k => exact hp k o' (by simpa using ho)
end FB

/-! Texts of letters. -/
namespace FB
open PySem PySem.Spec L2 TL
open PyProof.Rows hiding St
@[simp] theorem eqv_str (a b : Str) : D.eqv (.str a) (.str b) = decide (a = b) := by
  unfold D.eqv D.pd
  simp only [PyData.eqv]
  by_cases h : a = b
  · subst h; simp
  · simp [h]
@[simp] theorem eqO_str (a b : Str) : eqO (.val (.str a)) (.val (.str b)) = some (.val (.bl (decide (a = b)))) := by rw [e_eqO (by simp) (by simp)]; simp
@[simp] theorem neO_str (a b : Str) : neO (.val (.str a)) (.val (.str b)) = some (.val (.bl (!decide (a = b)))) := by rw [e_neO (by simp) (by simp)]; simp
@[simp] theorem flat_str (a : Str) : D.flat (.str a) = true := (rfl)
@[simp] theorem flat_int (a : Int) : D.flat (.int a) = true := (rfl)
@[simp] theorem flat_non : D.flat .non = true := (rfl)
/-- a text of letters, by their places -/
def SL (l : List Nat) : Str := ⟨(l.map (97 + ·)).toArray⟩
theorem SL_len (l : List Nat) : (SL l).length = l.length := by
  show (SL l).cps.size = _
  unfold SL; simp
theorem letters_tl : (("abcdefghijklmnopqrstuvwxyz" : Str)).cps.toList = (List.range 26).map (97 + ·) := by decide +kernel
theorem letter_at (i : Nat) (h : i < 26) : ixO (.val (.str "abcdefghijklmnopqrstuvwxyz")) (.val (.int (i : Int))) = some (.val (.str (SL [i]))) := by
  have hl : (("abcdefghijklmnopqrstuvwxyz" : Str)).length ≤ 1000000 := by decide +kernel
  show (if (("abcdefghijklmnopqrstuvwxyz" : Str)).length ≤ 1000000 then (atI (("abcdefghijklmnopqrstuvwxyz" : Str)).cps.toList (i : Int)).map fun c => O.val (.str ⟨#[c]⟩) else none) = _
  rw [if_pos hl, letters_tl, atN, List.getElem?_map, List.getElem?_range h]; rfl
/-- all items alike in kind -/
theorem list_of {α : Type} (f : α → O) (P : α → Prop) : ∀ {os : List O}, (∀ (k : Nat) (o : O), os[k]? = some o → ∃ b, P b ∧ o = f b) → ∃ bs : List α, os = bs.map f ∧ ∀ b ∈ bs, P b
  | [], _ => ⟨[], rfl, by simp⟩
  | o :: os, h => by
    obtain ⟨b, hb, e⟩ := h 0 o rfl
    obtain ⟨bs, e2, hp⟩ := list_of f P (os := os) fun k o' ho => h (k + 1) o' (by simpa using ho)
    refine ⟨b :: bs, by rw [e, e2]; rfl, fun c hc => ?_⟩
    rcases List.mem_cons.mp hc with q | q
    · rw [q]; exact hb
    · exact hp c q
end FB

/-! Exceptions: statements and calls that may raise. -/
namespace FB
open PySem PySem.Spec L2
open PyProof.Rows hiding St

@[simp] theorem Res.nr_ok {α : Type} (a : α) (ρ : Env) : (Res.ok a ρ).nr = .ok a ρ := rfl
@[simp] theorem Res.nr_no {α : Type} : (Res.no : Res α).nr = .no := rfl
@[simp] theorem Res.nr_exc {α : Type} (x : Exn) (ρ : Env) : (Res.exc x ρ : Res α).nr = .no := rfl
@[simp] theorem Res.bind_exc {α β : Type} (x : Exn) (ρ : Env) (f : α → Env → Res β) : (Res.exc x ρ : Res α).bind f = .exc x ρ := rfl
@[simp] theorem nx_ap {α : Type} (m : M α) (ρ : Env) : nx m ρ = (m ρ).nr := (rfl)

section
variable {X : Cx} {K : PySem.W.Frag} {mg : Str → Option Value} {P : List Nat} {W : WX}
theorem ExI.nd {x : Exn} {d : Option Addr} {I : List Item} (h : ExI x d I) (e : x.ds = []) : d = none := by
  rcases h with h | ⟨_, _, h, _⟩
  · exact h.2.1
  · exact absurd e h
def ExP (K : PySem.W.Frag) (mg : Str → Option Value) (P : List Nat) (T : List Item) (W : WX) (σ : L2.St) (x : Exn) (ρ' : Env) : Prop :=
  ∀ cls d I σ' H', Fix P σ σ' → Cov σ' ρ' → mg x.c = some cls → ExI x d I → Rep K mg H' (I ++ (pairs σ' ρ' ++ T)) [] → W cls d σ' H'
def PostX (K : PySem.W.Frag) (mg : Str → Option Value) (P : List Nat) (T : List Item) (W : WX) (D : Ends) (σ : L2.St) : Res Fl → Prop
  | .exc x ρ' => ExP K mg P T W σ x ρ'
  | .ok f ρ' => Post K mg P T D σ (.ok f ρ')
  | .no => False
def tSX (K : PySem.W.Frag) (mg : Str → Option Value) (P : List Nat) (W : WX) (m : M Fl) : TS := fun D σ H => ∃ ρ T, Cov σ ρ ∧ Rep K mg H (pairs σ ρ ++ T) [] ∧ PostX K mg P T W D σ (m ρ)
def SSX (X : Cx) (P : List Nat) (W : WX) (st : Stmt) (m : M Fl) : Prop := PS X st (tSX X.K X.mg P W m)
def SSsX (X : Cx) (P : List Nat) (W : WX) (st : List Stmt) (m : M Fl) : Prop := PSs X st (tSX X.K X.mg P W m)
/-- where no exception is wished for -/
theorem ss_ofX {st : Stmt} {m : M Fl} (h : SSX X P (fun _ _ _ _ => False) st m) : SS X P st (nx m) := PS.imp h fun D σ H w => by
  obtain ⟨ρ, T, c, R, q⟩ := tS_iff.mp w
  refine ⟨ρ, T, c, R, ?_⟩
  have q : Post X.K X.mg P T D σ (m ρ).nr := q
  cases e : m ρ with
  | ok f ρ' => rw [e] at q; exact q
  | exc x ρ' => rw [e] at q; exact q.elim
  | no => rw [e] at q; exact q.elim
theorem PostX.fix {T : List Item} {D : Ends} {σ σ1 : L2.St} (f : Fix P σ σ1) {r : Res Fl} (h : PostX K mg P T W D σ r) : PostX K mg P T W D σ1 r := by
  cases r with
  | ok fl ρ' => exact Post.fix (r := .ok fl ρ') f h
  | exc x ρ' => exact fun cls d I σ' H' g => h cls d I σ' H' (f.trans g)
  | no => exact h
theorem PostX.nx {T : List Item} {D D' : Ends} {σ : L2.St} {r : Res Fl} {g : Env → Res Fl} (h : PostX K mg P T W D σ (r.bind fun f ρ1 => match f with | .nx => g ρ1 | f => .ok f ρ1)) (e1 : D'.rt = D.rt) (e2 : D'.bk = D.bk) (e3 : D'.ct = D.ct)
    (q : ∀ ρ1 σ' H', Fix P σ σ' → Cov σ' ρ1 → Rep K mg H' (pairs σ' ρ1 ++ T) [] → PostX K mg P T W D σ (g ρ1) → D'.nx σ' H') : PostX K mg P T W D' σ r := by
  cases r with
  | ok fl ρ' =>
    cases fl with
    | nx => exact fun σ' H' f c R => q ρ' σ' H' f c R h
    | brk =>
      have h : Post K mg P T D σ (.ok .brk ρ') := h
      exact fun σ' H' f c R => by rw [e2]; exact h σ' H' f c R
    | ct =>
      have h : Post K mg P T D σ (.ok .ct ρ') := h
      exact fun σ' H' f c R => by rw [e3]; exact h σ' H' f c R
    | ret o =>
      have h : Post K mg P T D σ (.ok (.ret o) ρ') := h
      exact fun v σ' H' f c R => by rw [e1]; exact h v σ' H' f c R
  | exc x ρ' => exact h
  | no => exact h
theorem sssX_nil : SSsX X P W [] mSkip := PSs.imp pss_nil fun D σ H w => by
  obtain ⟨ρ, T, c, R, h⟩ := w
  have h : Post X.K X.mg P T D σ (.ok .nx ρ) := h
  exact h σ H (Fix.refl _ _) c R
theorem sssX_one {st : Stmt} {m : M Fl} (h : SSX X P W st m) : SSsX X P W [st] m := pss_one h
theorem sssX_cons {st : Stmt} {rest : List Stmt} {a b : M Fl} (h1 : SSX X P W st a) (h2 : SSsX X P W rest b) : SSsX X P W (st :: rest) (mSeq a b) := PSs.imp (pss_cons h1 h2) fun D σ H w => by
  obtain ⟨ρ, T, c, R, h⟩ := w
  refine ⟨ρ, T, c, R, PostX.nx (D := D) h rfl rfl rfl fun ρ1 σ' H' f c' R' h' => ?_⟩
  exact ⟨ρ1, T, c', R', h'.fix f⟩
theorem ssX_if {c : Expr} {a b : List Stmt} {pos : Pos} {t : M Bool} {m n : M Fl} (hc : SET X c t) (ha : SSsX X P W a m) (hb : SSsX X P W b n) : SSX X P W (.If c a b pos) (mIf (nx t) m n) := PS.imp (ps_if hc ha hb) fun D σ H w => by
  obtain ⟨ρ, T, cv, R, h⟩ := w
  have h : PostX X.K X.mg P T W D σ ((t ρ).nr.bind fun c ρ1 => if c = true then m ρ1 else n ρ1) := h
  cases e1 : t ρ with
  | ok u ρ1 =>
    rw [e1] at h
    refine ⟨ρ, T, u, ρ1, cv, R, e1, fun H' c' R' => ?_⟩
    cases u with
    | true => rw [if_pos rfl]; exact ⟨ρ1, T, c', R', h⟩
    | false => rw [if_neg Bool.false_ne_true]; exact ⟨ρ1, T, c', R', h⟩
  | exc x ρ1 => rw [e1] at h; exact h.elim
  | no => rw [e1] at h; exact h.elim
theorem PostX.more {ks T : List Item} {D : Ends} {σ : L2.St} {r : Res Fl} (h : PostX K mg P T W D σ r) : PostX K mg P (ks ++ T) W D σ r := by
  cases r with
  | ok fl ρ' => exact Post.more (r := .ok fl ρ') h
  | exc x ρ' =>
    intro cls d I σ' H' f c hm hI R
    refine h cls d I σ' H' f c hm hI ?_
    have R1 : Rep K mg H' (ks ++ (I ++ (pairs σ' ρ' ++ T))) [] := R.perm (((List.Perm.append_left I (rot _ _ _))).trans (rot _ _ _))
    exact R1.drops
  | no => exact h
/-! ### raise -/
/-! ### expressions that may raise -/
end

/-! ### defs that may raise -/
section
variable {P : Program} {w : World} {K : PySem.W.Frag} {mg : Str → Option Value} {base : Heap}
end
section
variable {X : Cx} {W : WX}
end
end FB

/-! Exceptions caught: suites, try; what the head says of the classes. -/
namespace FB
open PySem PySem.Spec L2
open PyProof.Rows hiding St

/-! ### the classes -/
def subX (es : List Str) (x y : Str) : Option Bool := if x ∈ es ∧ y ∈ es then some (subB x y) else none
theorem excCB_ok {K : PySem.W.Frag} {D : Addr} (h : excCB K D = true) : ExcC K D := by
  unfold excCB at h
  simp only [Bool.and_eq_true, decide_eq_true_eq] at h
  obtain ⟨h1, h2, h3, h4, h5, h6, h7, h8⟩ := h
  exact ⟨h1, h2, h3, h4, h5, h6, h7, h8⟩
theorem exAll_ok {K : PySem.W.Frag} {h : Heap} {mg : Str → Option Value} {es : List Str} (X : K.In h) (G : h.Ns mainGlobals mg) (c : exAllB es K = true) : ExAll K mg es := by
  have c := List.all_eq_true.mp c
  have q : ∀ x ∈ es, (He.eqO (PySem.W.nsIn K mainGlobals x) (some (some (.ref (He.ga K x)))) = true) ∧ excCB K (He.ga K x) = true ∧ PySem.W.kitOne K (.ref (He.ga K x)) (.type "ValueError") = some true ∧
      ∀ y ∈ es, PySem.W.kitOne K (.ref (He.ga K x)) (.ref (He.ga K y)) = some (subB x y) ∧ PySem.W.exmOne K (.ref (He.ga K x)) (.ref (He.ga K y)) = some (subB x y) := fun x hx => by
    have z := c x hx
    simp only [Bool.and_eq_true, decide_eq_true_eq, List.all_eq_true] at z
    exact z
  exact ⟨fun x hx => PySem.W.mg_of X G (He.eqO_ok (q x hx).1), fun x hx => excCB_ok (q x hx).2.1, fun x hx y hy => ((q x hx).2.2.2 y hy).1, fun x hx y hy => ((q x hx).2.2.2 y hy).2, fun x hx => (q x hx).2.2.1⟩
theorem xfB_ok2 {K : PySem.W.Frag} {es cs : List Str} {f : Str} (h : xfB2 es cs f K = true) : ∀ c ∈ cs, c ∈ es ∧ PySem.W.findIn K (.ref (He.ga K c)) f = some none := fun c hc => by
  have q := List.all_eq_true.mp h c hc
  rw [Bool.and_eq_true, decide_eq_true_eq, decide_eq_true_eq] at q
  exact q
/-! the head's hook, with wishes of one's own -/
theorem SaysP.says {px : List (PySem.W.Frag → Bool)} {fa : List He.Fa} {fn : List He.DefD} {K : PySem.W.Frag} (c : SaysP px fa fn K) : He.SaysD fa fn K ∧ ∀ p ∈ px, p K = true := by
  have c1 : ((He.obsD fa fn K).1 && px.all fun p => p K) = true := congrArg (fun z : He.AlD => z.1) c
  have c2 : (He.obsD fa fn K).2 = fn.map He.DefD.val := congrArg (fun z : He.AlD => z.2) c
  obtain ⟨h1, h2⟩ := Bool.and_eq_true_iff.mp c1
  exact ⟨Prod.ext h1 c2, fun p hp => List.all_eq_true.mp h2 p hp⟩

section
variable {X : Cx} {K : PySem.W.Frag} {mg : Str → Option Value} {P : List Nat} {W : WX}
/-! ### frames of what is known of a slot and the rest -/
theorem FrE.more {a : Addr} {i : Nat} {I T : List Item} {σ : L2.St} {z : Item} (h : FrE a i I σ T) : FrE a i I σ (z :: T) := by
  obtain ⟨h1, T0, h2⟩ := h
  exact ⟨h1, z :: T0, (h2.cons z).trans List.perm_middle.symm⟩
theorem FrE.fix {a : Addr} {i : Nat} {I T : List Item} {σ σ' : L2.St} (f : Fix (i :: P) σ σ') (h : FrE a i I σ T) : FrE a i I σ' T := ⟨(f.2 i (List.mem_cons_self ..)).trans h.1, h.2⟩
variable {a : Addr} {i : Nat} {I : List Item}
def tMF (K : PySem.W.Frag) (mg : Str → Option Value) (a : Addr) (i : Nat) (I : List Item) (m : M O) : TE := fun σ H Q => ∃ ρ T o ρ', Cov σ ρ ∧ FrE a i I σ T ∧ Rep K mg H (pairs σ ρ ++ T) [] ∧ m ρ = .ok o ρ' ∧ ∀ v H', Cov σ ρ' → Rep K mg H' (.ov v o :: (pairs σ ρ' ++ T)) [] → Q v H'
def SEF (X : Cx) (a : Addr) (i : Nat) (I : List Item) (e : Expr) (m : M O) : Prop := PE X e (tMF X.K X.mg a i I m)
theorem sef_of {e : Expr} {m : M O} (h : SE X e m) : SEF X a i I e m := PE.imp h fun σ H Q w => by
  obtain ⟨ρ, T, o, ρ', c, _, R, e, k⟩ := w
  exact ⟨ρ, T, o, ρ', c, R, e, k⟩
def tMsF (K : PySem.W.Frag) (mg : Str → Option Value) (a : Addr) (i : Nat) (I : List Item) (m : M (List O)) : TA := fun σ H Q => ∃ ρ T os ρ', Cov σ ρ ∧ FrE a i I σ T ∧ Rep K mg H (pairs σ ρ ++ T) [] ∧ m ρ = .ok os ρ' ∧ ∀ vs H', Cov σ ρ' → vs.length = os.length → Rep K mg H' (zipI vs os ++ (pairs σ ρ' ++ T)) [] → Q vs H'
def SEsF (X : Cx) (a : Addr) (i : Nat) (I : List Item) (es : List Expr) (m : M (List O)) : Prop := PA X es (tMsF X.K X.mg a i I m)
theorem sesf_nil : SEsF X a i I [] mNil := PA.imp pa_nil fun σ H Q w => by
  obtain ⟨ρ, T, os, ρ', c, f, R, e, k⟩ := w
  cases e
  exact k [] H c rfl R
theorem sesf_cons {e : Expr} {es : List Expr} {m : M O} {ms : M (List O)} (h : SEF X a i I e m) (hs : SEsF X a i I es ms) (hst : starEach (e :: es) X.env = (false, eval e X.env) :: starEach es X.env := by rfl) : SEsF X a i I (e :: es) (mCons m ms) :=
  PA.imp (pa_cons h hs hst) fun σ H Q w => by
    obtain ⟨ρ, T, os, ρ', c, f, R, e, k⟩ := w
    obtain ⟨o, ρ1, e1, e⟩ := Res.bind_eq e
    obtain ⟨os', ρ2, e2, e⟩ := Res.bind_eq e
    cases e
    refine ⟨ρ, T, o, ρ1, c, f, R, e1, fun v H1 c1 R1 => ⟨ρ1, .ov v o :: T, os', ρ', c1, f.more, R1.perm List.perm_middle.symm, e2, fun vs H2 c2 hl R2 => k (v :: vs) H2 c2 (by simp [hl]) (R2.perm ?_)⟩⟩
    show (zipI vs os' ++ (pairs σ ρ' ++ .ov v o :: T)).Perm (.ov v o :: (zipI vs os' ++ (pairs σ ρ' ++ T)))
    exact ((List.perm_middle (a := Item.ov v o)).append_left _).trans List.perm_middle
theorem sef_tup {es : List Expr} {x1 : Nat} {pos : Pos} {ms : M (List O)} (h : SEsF X a i I es ms) : SEF X a i I (.Tuple es x1 pos) (mTup ms) := PE.imp (pe_tup h) fun σ H Q w => by
  obtain ⟨ρ, T, o, ρ', c, f, R, e, k⟩ := w
  obtain ⟨os, ρ1, e1, e⟩ := Res.bind_eq e
  split at e
  · rename_i hl
    cases e
    refine ⟨ρ, T, os, _, c, f, R, e1, fun vs H' c' hv R' => ⟨line6 (by omega), fun p hp => k _ _ c' ?_⟩⟩
    exact Rep.newT (ds := O.toDs os) R'.frzs (by rw [toDs_len]; exact hv) hp
  · cases e
/-! ### isinstance of what the suite holds -/
theorem pe_false {e : Expr} {t : TE} (h : ∀ σ H Q, ¬ t σ H Q) : PE X e t := ⟨fun _ _ σ H Q _ w => absurd w (h σ H Q)⟩
def mIs (es : List Str) (y : Str) (x : Exn) : M O := fun ρ => if x.ds = [] ∧ x.c ∈ es then .ok (.val (.bl (subB x.c y))) ρ else .no
variable {x : Exn} {cls : Value} {d : Option Addr} {oe : Obj} {pn : List (Addr × Obj)} {es : List Str}
theorem Held.eqc (h : Held X es x I cls d oe) (E : ExAll X.K X.mg es) (hx : x.c ∈ es) : cls = .ref (He.ga X.K x.c) := by
  have e1 := E.gl x.c hx
  rw [h.cl] at e1
  injection e1
theorem sef_is {n y : Str} {p q r pos : Pos} (E : ExAll X.K X.mg es) (h : Held X es x I cls d oe) (hN : X.N[i]? = some n) (hv : Vis X.env.scope n) (hg : Gl X "isinstance") (hm : X.mg "isinstance" = none) (hgy : Gl X y) (hy : y ∈ es := by decide)
    (hd : (n == ("__debug__" : Str)) = false := by decide) (hcd : (n == ("__classdict__" : Str)) = false := by decide) (hdy : (y == ("__debug__" : Str)) = false := by decide)
    (he : starEach (.Name n q :: [.Name y r]) X.env = (false, eval (.Name n q) X.env) :: starEach [.Name y r] X.env := by rfl) (hpl : (backTo pos (starEach [.Name y r] X.env)).any (·.1) = false := by rfl) :
    SEF (X.suite a ((a, oe) :: pn)) a i I (.Call (.Name "isinstance" p) [.Name n q, .Name y r] [] pos) (mIs es y x) := by
  by_cases hx : x.ds = [] ∧ x.c ∈ es
  · have hx0 := hx
    obtain ⟨hx1, hx⟩ := hx
    have e1 := h.eqc E hx
    have hz := h.z
    rw [e1, h.it.nd hx1] at hz
    have ha : PA (X.suite a ((a, oe) :: pn)) [.Name n q, .Name y r] (tCons (tVar i) (tCons (tC (.ref (He.ga X.K y))) tNil)) := pa_cons (pe_var hN hv hd hcd) (pa_cons (pe_glob (v := .ref (He.ga X.K y)) (u := .ref (He.ga X.K y)) hgy (E.gl y hy) rfl hdy) pa_nil) he
    refine PE.imp (pe_callB (call_isE (E.cc x.c hx) hz h.f) hg hm (by rfl) ha (he := he) (hpl := hpl)) fun σ H Q w => ?_
    obtain ⟨ρ, T, o, ρ', c, f, R, e, k⟩ := w
    unfold mIs at e
    rw [if_pos hx0] at e
    cases e
    refine ⟨.ref a, f.1, ?_⟩
    exact ⟨.ref (He.ga X.K y), .ref (He.ga X.K y), subB x.c y, rfl, fun u r => r, E.kt x.c hx y hy, k _ H c (R.scal fun _ => .bl _)⟩
  · refine pe_false fun σ H Q w => ?_
    obtain ⟨ρ, T, o, ρ', c, f, R, e, k⟩ := w
    unfold mIs at e
    rw [if_neg hx] at e
    cases e
/-- a tuple of classes -/
structure SCls (X : Cx) (es : List Str) (xs : List Expr) (ys : List Str) : Prop where
  pa : PA X xs (fun _ H Q => Q (ys.map fun y => V.ref (He.ga X.K y)) H)
  mem : ∀ y ∈ ys, y ∈ es
/-! ### e.f -/
def mXf (cs : List Str) (f : Str) (x : Exn) : M O := fun ρ => if x.c ∈ cs ∧ x.ns.length = x.ds.length then match fidx x.ns f with
  | some j => match x.ds[j]? with
    | some d => .ok (.val d) ρ
    | none => .no
  | none => .no
  else .no
theorem sef_fld {n f : Str} {q pos : Pos} {cs : List Str} (E : ExAll X.K X.mg es) (h : Held X es x I cls d oe) (hcs : ∀ c ∈ cs, c ∈ es ∧ PySem.W.findIn X.K (.ref (He.ga X.K c)) f = some none) (hN : X.N[i]? = some n) (hv : Vis X.env.scope n)
    (hd : (n == ("__debug__" : Str)) = false := by decide) (hcd : (n == ("__classdict__" : Str)) = false := by decide) (hb : attributeBase (.Name n q) f X.env (eval (.Name n q) X.env) = eval (.Name n q) X.env := by rfl) :
    SEF (X.suite a ((a, oe) :: pn)) a i I (.Attribute (.Name n q) f pos) (mXf cs f x) := by
  by_cases hx : x.c ∈ cs
  · have hes := (hcs x.c hx).1
    have e1 := h.eqc E hes
    have C := E.cc x.c hes
    have XF : XfC X.K (He.ga X.K x.c) := ⟨C.hg, C.hk, C.hs, C.hd⟩
    refine PE.imp (pe_xf XF (hcs x.c hx).2 h.z h.f (pe_var (pos := q) hN hv hd hcd) hb) fun σ H Q w => ?_
    obtain ⟨ρ, T, o, ρ', c, fr, R, e, k⟩ := w
    unfold mXf at e
    split at e
    · rename_i hc
      split at e
      · rename_i j ej
        split at e
        · rename_i dj edj
          cases e
          obtain ⟨fr1, T0, fr2⟩ := fr
          refine ⟨.ref a, fr1, rfl, e1, ?_⟩
          rcases h.it with ⟨z, _⟩ | ⟨dd, vs, hne, ed, hl, hl2, eI⟩
          · rw [z] at edj; cases edj
          · subst eI
            have R1 : Rep X.K X.mg H (.raw dd (.xd (x.ns.zip vs)) :: (zipI vs (x.ds.map O.val) ++ (T0 ++ pairs σ ρ))) [] := R.perm (by
              refine List.perm_append_comm.trans ?_
              refine (fr2.append_right _).trans ?_
              simp only [List.cons_append, List.append_assoc]
              exact List.Perm.refl _)
            have hm : (x.ns.zip vs).map (·.1) = x.ns := by
              rw [List.map_fst_zip]; omega
            have hm2 : (x.ns.zip vs).map (·.2) = vs := by
              rw [List.map_snd_zip]; omega
            obtain ⟨v, l1, l2⟩ := fidx_look (fs := x.ns.zip vs) (f := f) (j := j) (by rw [hm]; exact ej)
            rw [hm2] at l2
            refine ⟨dd, x.ns.zip vs, v, ed, R1.rawAt, l1, ?_⟩
            have R2 : Rep X.K X.mg H (zipI vs (x.ds.map O.val) ++ (T0 ++ pairs σ ρ)) [] := R1.drop
            have hmem : Item.ov v (.val dj) ∈ zipI vs (x.ds.map O.val) := by
              refine List.mem_of_getElem? (i := j) ?_
              unfold zipI
              rw [List.getElem?_zipWith, l2, List.getElem?_map, edj]
              rfl
            obtain ⟨A, B, eAB⟩ := List.append_of_mem hmem
            have p1 : (pairs σ ρ ++ T).Perm (.ov v (.val dj) :: ((A ++ B) ++ (.raw dd (.xd (x.ns.zip vs)) :: (T0 ++ pairs σ ρ)))) := by
              refine List.perm_append_comm.trans ?_
              refine (fr2.append_right _).trans ?_
              rw [eAB]
              simp only [List.cons_append, List.append_assoc]
              refine List.Perm.trans (List.Perm.cons _ List.perm_middle) ?_
              refine (List.Perm.swap _ _ _).trans (List.Perm.cons _ ?_)
              rw [← List.append_assoc A B, ← List.append_assoc A B]
              exact List.perm_middle.symm
            have R4 := (R.perm p1).lend.keep.nob
            exact k v H c (R4.perm (List.Perm.cons _ p1.symm))
        · cases e
      · cases e
    · cases e
  · refine pe_false fun σ H Q w => ?_
    obtain ⟨ρ, T, o, ρ', c, fr, R, e, k⟩ := w
    unfold mXf at e
    rw [if_neg (fun z => hx z.1)] at e
    cases e
end

/-! ### statements of a suite -/
section
variable {X : Cx} {K : PySem.W.Frag} {mg : Str → Option Value} {P : List Nat} {W : WX} {a : Addr} {i : Nat} {I : List Item}
def SSF (X : Cx) (P : List Nat) (a : Addr) (i : Nat) (I : List Item) (st : Stmt) (m : M Fl) : Prop := PS X st (tSF X.K X.mg P a i I m)
theorem ssF_setP (j : Nat) {y : Str} {e : Expr} {pos pos' : Pos} {m : M O} (nd : X.N.Nodup) (hi : X.N[j]? = some y) (hx : Loc X.env.scope y) (h : SEF X a i I e m) (hP : j ∉ (i :: P) := by decide) (hs : swapsWith e (some (.Name y pos')) pos.line X.env = pure false := by rfl) (hf : X.fn y = true ∨ X.env.scope.names.lookup y = some .local := by first | exact .inl rfl | exact .inr rfl | assumption) :
    SSF X P a i I (.Assign [.Name y pos'] e pos) (mSetP j m) := PS.imp (ps_set nd hi hx h hs hf) fun D σ H w => by
  obtain ⟨ρ, T, c, f, R, h⟩ := w
  unfold mSetP at h
  cases e1 : m ρ with
  | ok o ρ1 =>
    rw [e1] at h
    exact ⟨ρ, T, o, ρ1, c, f, R, e1, fun v H' c' R' => h _ H' (Fix.set hP) (c'.set j v _) (Rep.store c' R'.frz)⟩
  | exc x ρ1 => rw [e1] at h; exact h.elim
  | no => rw [e1] at h; exact h.elim
theorem sssF_one {st : Stmt} {m : M Fl} (h : SSF X P a i I st m) : SSsF X P a i I [st] m := pss_one h
end

/-! ### try -/
section
variable {X : Cx} {P : List Nat} {W : WX}
theorem CxOk.tr {X : Cx} (ok : CxOk X) {pn : List (Addr × Obj)} {xe : Value → Shared → Prop} : CxOk (X.tr pn xe) := ⟨ok.calm, ok.units, ok.nd⟩
theorem Cov.clear {σ : L2.St} {ρ : Env} (c : Cov σ ρ) (i : Nat) : Cov (σ.set i none) (ρ.set i none) := by
  refine ⟨by simp [c.len], fun j q h => ?_⟩
  by_cases e : i = j
  · subst e
    have hj : i < ρ.length := by
      have := (List.getElem?_eq_some_iff.mp h).1
      simpa using this
    simp [hj] at h
  · rw [List.getElem?_set_ne e] at h ⊢
    exact c.ex j q h
theorem pairs_clear {σ : L2.St} {ρ : Env} {i : Nat} {v : Option V} (hi : i < ρ.length) : pairs (σ.set i v) (ρ.set i none) = pairs σ (ρ.set i none) := pairs_setn (by simp [hi])
theorem Rep.unheld {K : PySem.W.Frag} {mg : Str → Option Value} {H : Hp} {σ : L2.St} {ρ : Env} {I T M : List Item} {i : Nat} (c : Cov σ ρ) (hi : i < ρ.length) (h : Rep K mg H (M ++ (pairs σ ρ ++ (I ++ T))) []) : Rep K mg H (M ++ (pairs (σ.set i none) (ρ.set i none) ++ T)) [] := by
  rw [pairs_clear hi]
  have h1 := Rep.slotDrop (M := M) c i h
  have h2 : Rep K mg H (I ++ (M ++ (pairs σ (ρ.set i none) ++ T))) [] := h1.perm ((List.Perm.append_left M (rot _ _ _)).trans (rot _ _ _))
  exact h2.drops
theorem takes_no : Takes X (fun _ _ _ _ => False) := takes_none5
end
end FB

/-! A dict against a text: never equal. -/
namespace FB
open PySem PySem.Spec L2 PySem.Calls
open PyProof.Rows hiding St
section
variable {A : Around} {s : Shared}
end
section
variable {X : Cx} {K : PySem.W.Frag} {mg : Str → Option Value}
/-! x in l -/
/-! ### .upper() -/
/-! ### {k: v} -/
end
end FB

/-! simp rules for what may raise. -/
namespace FB
open PySem PySem.Spec L2
open PyProof.Rows hiding St
variable {ρ : Env}
@[simp] theorem e_sqKx (b : M Fl) (x : Exn) : sqK b (.exc x ρ) = .exc x ρ := (rfl)
@[simp] theorem e_exKx (x : Exn) : exK (.exc x ρ) = .exc x ρ := (rfl)
@[simp] theorem e_rtKx (x : Exn) : rtK (.exc x ρ) = .exc x ρ := (rfl)
@[simp] theorem e_soKx (i : Nat) (x : Exn) : soK i (.exc x ρ) = .exc x ρ := (rfl)
@[simp] theorem toD_dct (ks : List Key) (os : List O) : (O.dct ks os).toD = .dct ks (O.toDs os) := (rfl)
/-! texts, dicts -/
end FB

/-! enumerate of a tuple; a tuple times a number; texts of the module. -/
namespace ET
open PySem PySem.Sem
open AutoSeq1 (wpAny_loadPart')
section
variable {prog : Program} {w : World} {A : Around} {E : Value → Shared → Prop} {s : Shared}
end
end ET
namespace FB
open PySem PySem.Spec L2
open PyProof.Rows hiding St
section
variable {X : Cx} {K : PySem.W.Frag} {mg : Str → Option Value}
/-! a text of the module -/
end
end FB

/-! Own errors with fields, made and raised. -/
namespace FB
open PySem PySem.Spec L2
open PyProof.Rows hiding St

theorem oexB_ok {K : PySem.W.Frag} {C : Addr} (h : oexB K C = true) : OexC K C := by
  unfold oexB at h
  rw [Bool.and_eq_true, Bool.and_eq_true, Bool.and_eq_true, Bool.and_eq_true, decide_eq_true_eq, decide_eq_true_eq, decide_eq_true_eq] at h
  obtain ⟨q, h1, h2, h3, h4⟩ := h
  refine ⟨?_, h1, h2, h3, h4⟩
  split at q
  · rename_i dd cd sl ho
    split at q
    · rename_i C' bm k0 k1 k2 k3 n k5 hm hs
      simp only [Bool.and_eq_true, beq_iff_eq, Bool.not_eq_true'] at q
      obtain ⟨⟨⟨⟨rfl, rfl⟩, hdd⟩, hdel⟩, hv⟩ := q
      obtain ⟨nm, bs, mro, ns, qn, hd, sn, sub, ab, col, del⟩ := cd
      dsimp only at hm hdd hdel
      subst hm hdd hdel
      have hsl : sl = #[k0, k1, k2, k3, some (.builtin "ValueError.__new__"), k5] := by
        obtain ⟨l⟩ := sl
        simp only at hs
        rw [hs]
      subst hsl
      exact ⟨nm, qn, ns, bs, bm, sn, sub, ab, col, dd, k0, k1, k2, k3, k5, ho, hv⟩
    · cases q
  · cases q
theorem baseB_ok {K : PySem.W.Frag} {h : Heap} {mg : Str → Option Value} {B : Str} (X : K.In h) (G : h.Ns mainGlobals mg) (c : baseB B K = true) : BaseC K mg B := by
  unfold baseB at c
  rw [Bool.and_eq_true, Bool.and_eq_true, Bool.and_eq_true, decide_eq_true_eq] at c
  obtain ⟨h1, h2, h3, h4⟩ := c
  refine ⟨PySem.W.mg_of X G (He.eqO_ok h1), h2, h3, ?_⟩
  split at h4
  · rename_i n e
    rw [e, beq_iff_eq.mp h4]
  · cases h4
theorem ownInit_ok {K : PySem.W.Frag} {h : Heap} {mg : Str → Option Value} {c : Str} {fs : List Str} (X : K.In h) (G : h.Ns mainGlobals mg) (q : ownInitB c fs K = true) : OwnInit K mg c fs := by
  unfold ownInitB at q
  rw [Bool.and_eq_true, Bool.and_eq_true, Bool.and_eq_true, Bool.and_eq_true, decide_eq_true_eq] at q
  obtain ⟨h1, h2, h3, h4, h5⟩ := q
  exact ⟨PySem.W.mg_of X G (He.eqO_ok h2), oexB_ok h1, He.eqO_ok h3, h4, fun f hf => of_decide_eq_true (List.all_eq_true.mp h5 f hf)⟩
/-! a hook whose part of the heap holds the statics as well -/
theorem obsSG_eq {px : List (PySem.W.Frag → Bool)} {n : Nat} {fa : List He.Fa} {fn : List He.DefD} {g : Addr → Option Obj} {s : Shared} (h : ∀ a, g a = s.heap.get? a) : obsSG px n fa fn g = (hookS px n fa fn).obs s := by
  have e : g = s.heap.get? := funext h
  rw [e] <;> rfl

section
variable {X : Cx} {K : PySem.W.Frag} {mg : Str → Option Value}
theorem pe_beinit {pl : Sem Bool} {B : Str} {e : Expr} {es : List Expr} {ta : TA} {p1 p2 pos : Pos} (b : BaseC X.K X.mg B) (hg : Gl X B) (ha : PA X (e :: es) ta)
    (hc : eval (.Call (.Attribute (.Name B p1) "__init__" p2) (e :: es) [] pos) X.env = (do
      let ov ← eval (.Name B p1) X.env
      standAt p2.atName
      let (f, first) ← holding [ov] (getMethod ov "__init__" pl)
      callWith pos f first (backTo pos (starEach (e :: es) X.env)) (backToKw pos (keywordEach [] X.env))) := by rfl)
    (hdb : (B == ("__debug__" : Str)) = false := by decide)
    (he : starEach (e :: es) X.env = (false, eval e X.env) :: starEach es X.env := by rfl) (hpl : (backTo pos (starEach es X.env)).any (·.1) = false := by rfl) :
    PE X (.Call (.Attribute (.Name B p1) "__init__" p2) (e :: es) [] pos) (tVeI X.K ta) := by
  refine ⟨fun pins s σ H Q I h => ?_⟩
  refine PySem.W.methodCall_KW (pl := pl) (ld_glob I hg b.mg ?_ hdb) hc
  refine PySem.W.method_cls I.kIn b.ga (PySem.W.cls_value I.kIn b.rd b.at_ rfl ?_)
  show wpAny _ _ (callWith pos (Value.builtin "ValueError.__init__") [] (backTo pos (starEach (e :: es) X.env)) []) _ _ _
  refine PyProof.Rows.callWith_method1 (thn (ha.run pos pins _ σ H _ (I.tok _) h) fun us s1 ⟨vs, H1, I1, r1, a, C, ws, ev, hl, T, ea, q⟩ => ?_) he hpl
  subst ev
  cases r1 with
  | @cons _ u0 _ ur ra rw' =>
    obtain rfl : u0 = Value.ref a := ra
    have hlen : ur.length ≤ sizeLine := by
      rw [← Paired.length rw', sizeLine_eq]
      omega
    exact oinit_ok T I1 ea hlen fun s' J => ⟨.non, H1, J, rfl, q⟩
theorem spI_len {C : Addr} {fs : List Str} : ∀ vs H Q E, spI C fs vs H Q E → vs.length = fs.length + 1 := fun vs H Q E h => by
  obtain ⟨a, ws, rfl, h, _⟩ := h
  simp [h]
/-- the body with one field, two, three -/
theorem init1 {e : Stmt} {f : Str} {C : Addr} {N : List Str} {q1 : Stmt} {t1 : TE} (h1 : PS X q1 (tDrop (tVeI X.K (tCons (tVar 0) (tCons t1 tNil))))) (ht : ∀ σ H Q, (∀ z, Q z H) → t1 σ H Q) (hs : PS X e (tOst X.K f (tVar 0) (tVar 1))) (T : OexC X.K C) (no : PySem.W.findIn X.K (.ref C) f = some none) (hN : 2 ≤ N.length)
    {vs : List V} {H : Hp} {Q : VK} {E : XK} (h : spI C [f] vs H Q E) : ∃ t, PSs X [q1, e] t ∧ t { nx := fun _ H' => Q .non H', rt := Q } (L2.start N vs) H := by
  refine ⟨_, pss_cons h1 (pss_one hs), ?_⟩
  obtain ⟨a, ws, rfl, hl, ha, k⟩ := h
  match ws, hl with
  | [y], _ =>
    have s0 : (L2.start N [V.ref a, y])[0]? = some (some (V.ref a)) := rfl
    have s1 : (L2.start N [V.ref a, y])[1]? = some (some y) := rfl
    refine ⟨.ref a, s0, ht _ _ _ fun z => ?_⟩
    refine ⟨a, C, [z], rfl, by show 1 ≤ 1000; decide, T, ha, ?_⟩
    refine ⟨y, s1, .ref a, s0, a, C, rfl, T, no, .inl ⟨ha, fun dx h1 h2 => ?_⟩⟩
    exact k dx _ h1 h2 upd_same (by rw [upd_ne h2, upd_same]; rfl) fun b hb hd => by rw [upd_ne hb, upd_ne hd]
theorem init2 {e1 e2 : Stmt} {f g : Str} {C : Addr} {N : List Str} {q1 : Stmt} {t1 : TE} (h1 : PS X q1 (tDrop (tVeI X.K (tCons (tVar 0) (tCons t1 tNil))))) (ht : ∀ σ H Q, (∀ z, Q z H) → t1 σ H Q) (hs : PS X e1 (tOst X.K f (tVar 0) (tVar 1))) (hs2 : PS X e2 (tOst X.K g (tVar 0) (tVar 2))) (T : OexC X.K C) (no : PySem.W.findIn X.K (.ref C) f = some none) (no2 : PySem.W.findIn X.K (.ref C) g = some none)
    {vs : List V} {H : Hp} {Q : VK} {E : XK} (h : spI C [f, g] vs H Q E) : ∃ t, PSs X [q1, e1, e2] t ∧ t { nx := fun _ H' => Q .non H', rt := Q } (L2.start N vs) H := by
  refine ⟨_, pss_cons h1 (pss_cons hs (pss_one hs2)), ?_⟩
  obtain ⟨a, ws, rfl, hl, ha, k⟩ := h
  match ws, hl with
  | [y, z], _ =>
    have s0 : (L2.start N [V.ref a, y, z])[0]? = some (some (V.ref a)) := rfl
    have s1 : (L2.start N [V.ref a, y, z])[1]? = some (some y) := rfl
    have s2 : (L2.start N [V.ref a, y, z])[2]? = some (some z) := rfl
    refine ⟨.ref a, s0, ht _ _ _ fun z' => ?_⟩
    refine ⟨a, C, [z'], rfl, by show 1 ≤ 1000; decide, T, ha, ?_⟩
    refine ⟨y, s1, .ref a, s0, a, C, rfl, T, no, .inl ⟨ha, fun dx h1 h2 => ?_⟩⟩
    have d1 : upd (upd H dx (exd dx [(f, y)])) a (exo a C (some dx)) dx = some (exd dx [(f, y)]) := by rw [upd_ne h2, upd_same]
    refine ⟨z, s2, .ref a, s0, a, C, rfl, T, no2, .inr ⟨dx, [(f, y)], upd_same, d1, by show 1 ≤ 900; decide, ?_⟩⟩
    exact k dx _ h1 h2 (by rw [upd_ne (Ne.symm h2), upd_same]) upd_same fun b hb hd => by rw [upd_ne hd, upd_ne hb, upd_ne hd]
theorem init3 {e1 e2 e3 : Stmt} {f g l : Str} {C : Addr} {N : List Str} {q1 : Stmt} {t1 : TE} (h1 : PS X q1 (tDrop (tVeI X.K (tCons (tVar 0) (tCons t1 tNil))))) (ht : ∀ σ H Q, (∀ z, Q z H) → t1 σ H Q) (hs : PS X e1 (tOst X.K f (tVar 0) (tVar 1))) (hs2 : PS X e2 (tOst X.K g (tVar 0) (tVar 2))) (hs3 : PS X e3 (tOst X.K l (tVar 0) (tVar 3))) (T : OexC X.K C) (no : PySem.W.findIn X.K (.ref C) f = some none) (no2 : PySem.W.findIn X.K (.ref C) g = some none) (no3 : PySem.W.findIn X.K (.ref C) l = some none)
    {vs : List V} {H : Hp} {Q : VK} {E : XK} (h : spI C [f, g, l] vs H Q E) : ∃ t, PSs X [q1, e1, e2, e3] t ∧ t { nx := fun _ H' => Q .non H', rt := Q } (L2.start N vs) H := by
  refine ⟨_, pss_cons h1 (pss_cons hs (pss_cons hs2 (pss_one hs3))), ?_⟩
  obtain ⟨a, ws, rfl, hl, ha, k⟩ := h
  match ws, hl with
  | [y, z, u], _ =>
    have s0 : (L2.start N [V.ref a, y, z, u])[0]? = some (some (V.ref a)) := rfl
    have s1 : (L2.start N [V.ref a, y, z, u])[1]? = some (some y) := rfl
    have s2 : (L2.start N [V.ref a, y, z, u])[2]? = some (some z) := rfl
    have s3 : (L2.start N [V.ref a, y, z, u])[3]? = some (some u) := rfl
    refine ⟨.ref a, s0, ht _ _ _ fun z' => ?_⟩
    refine ⟨a, C, [z'], rfl, by show 1 ≤ 1000; decide, T, ha, ?_⟩
    refine ⟨y, s1, .ref a, s0, a, C, rfl, T, no, .inl ⟨ha, fun dx h1 h2 => ?_⟩⟩
    have d1 : upd (upd H dx (exd dx [(f, y)])) a (exo a C (some dx)) dx = some (exd dx [(f, y)]) := by rw [upd_ne h2, upd_same]
    refine ⟨z, s2, .ref a, s0, a, C, rfl, T, no2, .inr ⟨dx, [(f, y)], upd_same, d1, by show 1 ≤ 900; decide, ?_⟩⟩
    refine ⟨u, s3, .ref a, s0, a, C, rfl, T, no3, .inr ⟨dx, [(g, z), (f, y)], by rw [upd_ne (Ne.symm h2), upd_same], upd_same, by show 2 ≤ 900; decide, ?_⟩⟩
    exact k dx _ h1 h2 (by rw [upd_ne (Ne.symm h2), upd_ne (Ne.symm h2), upd_same]) upd_same fun b hb hd => by rw [upd_ne hd, upd_ne hd, upd_ne hb, upd_ne hd]
end
section
variable {P : Program} {w : World} {K : PySem.W.Frag} {mg : Str → Option Value} {base : Heap}
theorem mkX_of {c qual : Str} {fs : List Str} {st : Stmt} {fd : FuncData} {N ps : List Str} (ow : OwnInit K mg c fs) (F : C8.Fun K "__init__" qual st (He.ma K (He.ga K c) "__init__") fd) (bi : Binds K fd ps []) (S : FnScope N ps (C8.fnScope st)) (hn : ps.length = fs.length + 1 := by rfl)
    (hb : ∀ (cdv : Value) (A : Around) (outer : List PySem.Env) (s : Shared) (H : Hp) (vs : List V) (Q : VK) (E : XK), spI (He.ga K c) fs vs H Q E →
      ∃ t, PSs (cxOf C8.CX0 P w K mg base N qual (C8.fnScope st) (He.ma K (He.ga K c) "__init__") cdv A outer s H E).nox (C8.fnBody st) t ∧ t { nx := fun _ H' => Q .non H', rt := Q } (L2.start N vs) H) : MkX P w K mg base c fs :=
  ⟨ow, fd, ps, C8.fn0 (k := 0) F S (fun vs H Q E h => by rw [hn]; exact spI_len vs H Q E h) fun cdv A outer s H vs Q E _ h => hb cdv A outer s H vs Q E h, bi⟩
end
section
variable {X : Cx} {P : List Nat} {W : WX}
/-- raise C(e, ..) -/
def rfK (c : Str) (fs : List Str) : Res (List O) → Res Fl
  | .ok os ρ => if os.length = fs.length ∧ 0 < fs.length ∧ os.length ≤ 1000 then .exc ⟨c, fs.reverse, (O.toDs os).reverse⟩ ρ else .no
  | _ => .no
def mRaiseF (c : Str) (fs : List Str) (m : M (List O)) : M Fl := fun ρ => rfK c fs (m ρ)
theorem ssX_raiseF {c : Str} {fs : List Str} {e : Expr} {es : List Expr} {m : M (List O)} {p pos pos' : Pos} {j : Nat} (ok : CxOk X) (tk : Takes X W) (mk : MkX X.prog X.w X.K X.mg X.base c fs) (hr : Room j X.A) (hk : 2 ≤ j) (hg : Gl X c) (ha : SEs X (e :: es) m)
    (hdb : (c == ("__debug__" : Str)) = false := by decide) (he : starEach (e :: es) X.env = (false, eval e X.env) :: starEach es X.env := by rfl) (hpl : (backTo pos (starEach es X.env)).any (·.1) = false := by rfl) :
    SSX X P W (.Raise (some (.Call (.Name c p) (e :: es) [] pos)) none pos') (mRaiseF c fs m) := by
  obtain ⟨fd, ps, F, bi⟩ := mk.ex
  have pm := pmk_oex (X := X) (p := p) (pos := pos) (dvs := []) (ds := []) mk.ow.ox mk.ow.ic mk.ow.ti F (hr.mono hk) bi .nil C8.pass0 hg mk.ow.mg ha hdb he hpl
  refine PS.imp (ps_raise ok.calm tk pm) fun D σ H w => ?_
  obtain ⟨ρ, T, cv, R, h⟩ := w
  unfold mRaiseF at h
  cases e1 : m ρ with
  | exc x ρ1 => rw [e1] at h; exact h.elim
  | no => rw [e1] at h; exact h.elim
  | ok os ρ1 =>
    rw [e1] at h
    have h : PostX X.K X.mg P T W D σ (if os.length = fs.length ∧ 0 < fs.length ∧ os.length ≤ 1000 then .exc ⟨c, fs.reverse, (O.toDs os).reverse⟩ ρ1 else .no) := h
    split at h
    · rename_i hl
      obtain ⟨hl1, hl2, hl3⟩ := hl
      have h : ExP X.K X.mg P T W σ ⟨c, fs.reverse, (O.toDs os).reverse⟩ ρ1 := h
      refine ⟨ρ, T, os, ρ1, cv, R, e1, fun vs H1 c1 hv R1 => ⟨by omega, fun a ha1 => ?_⟩⟩
      refine ⟨a, vs ++ [], rfl, by simp; omega, upd_same, fun d H2 hd1 hda h1 h2 h3 => ⟨rfl, d, _, h1, h2, ?_, ?_⟩⟩
      · rw [upd_ne hda] at hd1
        exact hd1
      · have hd : H1 d = none := by rw [upd_ne hda] at hd1; exact hd1
        have eH : upd (del H2 a) d (.xd (fs.zip (vs ++ [])).reverse) = upd H1 d (.xd (fs.zip (vs ++ [])).reverse) := by
          funext b
          by_cases hb : b = d
          · rw [hb, upd_same, upd_same]
          · rw [upd_ne hb, upd_ne hb]
            by_cases hba : b = a
            · rw [hba, del_same, ha1]
            · rw [del_ne hba, h3 b hba hb, upd_ne hba]
        rw [eH]
        have td : (O.toDs os).length = os.length := toDs_len os
        have R2 := (R1.frzs).new (o := .xd (fs.zip (vs ++ [])).reverse) hd
        rw [List.append_nil] at R2 ⊢
        have ez : (fs.zip vs).reverse = fs.reverse.zip vs.reverse := by
          rw [List.zip_eq_zipWith, List.zip_eq_zipWith, List.reverse_zipWith]
          omega
        refine h (.ref (He.ga X.K c)) (some d) (.raw d (.xd (fs.zip vs).reverse) :: zipI vs.reverse ((O.toDs os).reverse.map O.val)) σ _ (Fix.refl _ _) c1 mk.ow.mg (.inr ⟨d, vs.reverse, ?_, rfl, by simp; omega, by simp; omega, by rw [ez]⟩) (R2.perm ?_)
        · intro z
          have z' : (O.toDs os).reverse = [] := z
          have q := congrArg List.length z'
          rw [List.length_reverse, td, List.length_nil] at q
          omega
        · refine List.Perm.cons _ (List.Perm.append_right _ ?_)
          have : zipI vs.reverse ((O.toDs os).reverse.map O.val) = (zipI vs ((O.toDs os).map O.val)).reverse := by
            unfold zipI
            rw [List.map_reverse, List.reverse_zipWith]
            simp; omega
          rw [this]
          exact (List.reverse_perm _).symm
    · exact h.elim
@[simp] theorem e_mRaiseF {ρ : Env} (c : Str) (fs : List Str) (m : M (List O)) : mRaiseF c fs m ρ = rfK c fs (m ρ) := (rfl)
end
section
variable {X : Cx} {K : PySem.W.Frag} {mg : Str → Option Value}
/-! a tuple times a number -/
end
end FB

/-! is True. -/
namespace FB
open PySem PySem.Spec L2
open PyProof.Rows hiding St
section
variable {X : Cx} {K : PySem.W.Frag} {mg : Str → Option Value}
end
end FB

/-! Raising calls inside expressions: under not, a built-in, as what a comprehension goes over; d.get(k, x) of a dict just made. -/
namespace FB
open PySem PySem.Spec L2
open PyProof.Rows hiding St

section
variable {X : Cx} {W : WX}
/-! d.get(k, x), d a dict just made -/
end
variable {ρ : Env}
@[simp] theorem e_m1Kx (op : O → Option O) (x : Exn) : m1K op (.exc x ρ) = .exc x ρ := (rfl)
end FB

/-! Dicts walked: they are locked meanwhile. -/
namespace FB
open PySem PySem.Spec L2
open PyProof.Rows hiding St
section
variable {X : Cx} {K : PySem.W.Frag} {mg : Str → Option Value}
theorem rd_uniq {G : Hp} {d : Addr} {kvs : List (Key × V)} {u : HO} (h : Rd G d (.dK kvs)) (h2 : Rd G d u) (hu : ∀ o w, u ≠ .frz o w) : u = .dK kvs := by
  rcases h with h | ⟨o, h⟩ <;> rcases h2 with h2 | ⟨o2, h2⟩
  · rw [h] at h2; cases h2; rfl
  · rw [h] at h2; cases h2
  · rw [h] at h2; cases h2; exact absurd rfl (hu _ _)
  · rw [h] at h2; cases h2; rfl
theorem LkS.rdn {d : Addr} {kvs : List (Key × V)} {G G' : Hp} (l : LkS d kvs G G') {a : Addr} {u : HO} (h : Rd G a u) (hu : ∀ o w, u ≠ .frz o w) : Rd G' a u := by
  by_cases e : a = d
  · subst e
    rw [rd_uniq l.rd h hu]; exact l.rd'
  · rcases h with h | ⟨o, h⟩
    · exact .inl ((l.ne a e).trans h)
    · exact .inr ⟨o, (l.ne a e).trans h⟩
theorem LkS.seqT {d : Addr} {kvs : List (Key × V)} {G G' : Hp} (l : LkS d kvs G G') {a : Addr} {xs : List V} (h : SqT K G a xs) : SqT K G' a xs := by
  rcases h with h | h
  · exact .inl (l.rdn h fun _ _ z => by cases z)
  · exact .inr h
theorem LkS.seqL {d : Addr} {kvs : List (Key × V)} {G G' : Hp} (l : LkS d kvs G G') {a : Addr} {xs : List V} (h : SqL K G a xs) : SqL K G' a xs := by
  rcases h with h | h
  · exact .inl (l.rdn h fun _ _ z => by cases z)
  · exact .inr h
mutual
theorem Vw.lk {G G' : Hp} {d : Addr} {kvs : List (Key × V)} (l : LkS d kvs G G') : ∀ {v : V} {x : D}, Vw K mg G v x → Vw K mg G' v x
  | _, _, .non => .non
  | _, _, .bl b => .bl b
  | _, _, .int i => .int i
  | _, _, .str s h => .str s h
  | _, _, .tup h hs => .tup (l.seqT h) (Vws.lk l hs)
  | _, _, .lst h hs => .lst (l.rdn h fun _ _ z => by cases z) (Vws.lk l hs)
  | _, _, .scr h => .scr (l.seqL h)
  | _, _, .fn h => .fn h
  | _, _, .dct h hk hs => .dct (l.rdn h fun _ _ z => by cases z) hk (Vws.lk l hs)
  | _, _, .ins (a := a) h hm hn hs => by
    have e : a ≠ d := fun e => by
      subst e
      rcases l.rd with z | ⟨o, z⟩ <;> rw [h] at z <;> cases z
    exact .ins ((l.ne a e).trans h) hm hn (Vws.lk l hs)
  | _, _, .exc (a := a) (dx := dx) h hd hm hn hs => by
    have e : a ≠ d := fun e => by
      subst e
      have h' := h
      unfold ExF at h'
      rcases l.rd with z | ⟨o, z⟩ <;> rw [h'] at z <;> cases z
    have e2 : dx ≠ d := fun e => by
      subst e
      rcases l.rd with z | ⟨o, z⟩ <;> rw [hd] at z <;> cases z
    exact .exc ((l.ne a e).trans h) ((l.ne dx e2).trans hd) hm hn (Vws.lk l hs)
  | _, _, .exn (a := a) h hm => by
    have e : a ≠ d := fun e => by
      subst e
      have h' := h
      unfold ExF at h'
      rcases l.rd with z | ⟨o, z⟩ <;> rw [h'] at z <;> cases z
    exact .exn ((l.ne a e).trans h) hm
theorem Vws.lk {G G' : Hp} {d : Addr} {kvs : List (Key × V)} (l : LkS d kvs G G') : ∀ {vs : List V} {ds : List D}, Vws K mg G vs ds → Vws K mg G' vs ds
  | _, _, .nil => .nil
  | _, _, .cons h t => .cons (Vw.lk l h) (Vws.lk l t)
end
mutual
theorem VO.lk {G G' H H' : Hp} {d : Addr} {kvs : List (Key × V)} (l : LkS d kvs G G') : ∀ {v : V} {o : O} {as : List Addr}, VO K mg G H v o as → (∀ a ∈ as, H' a = H a) → VO K mg G' H' v o as
  | _, _, _, .val h, _ => .val (h.lk l)
  | _, _, _, .lst h hs, q => .lst ((q _ (by simp)).trans h) (VOs.lk l hs fun a ha => q a (by simp [ha]))
  | _, _, _, .dct h hk hs, q => .dct ((q _ (by simp)).trans h) hk (VOs.lk l hs fun a ha => q a (by simp [ha]))
  | _, _, _, .ins h hm hn hs, q => .ins ((q _ (by simp)).trans h) hm hn (VOs.lk l hs fun a ha => q a (by simp [ha]))
theorem VOs.lk {G G' H H' : Hp} {d : Addr} {kvs : List (Key × V)} (l : LkS d kvs G G') : ∀ {vs : List V} {os : List O} {as : List Addr}, VOs K mg G H vs os as → (∀ a ∈ as, H' a = H a) → VOs K mg G' H' vs os as
  | _, _, _, .nil, _ => .nil
  | _, _, _, .cons h t, q => .cons (VO.lk l h fun a ha => q a (by simp [ha])) (VOs.lk l t fun a ha => q a (by simp [ha]))
end
/-- the item locks another one -/
def NoPin (d : Addr) : Item → Prop
  | .pin p _ _ => p ≠ d
  | .but _ x => NoPin d x
  | _ => True
theorem LkS.ers {d2 d : Addr} {kvs : List (Key × V)} {G G' : Hp} (l : LkS d kvs G G') (h : d ≠ d2) : LkS d kvs (ers d2 G) (ers d2 G') := by
  refine ⟨fun a ha => ?_, ?_, ?_⟩
  · unfold FB.ers
    split
    · rfl
    · exact l.ne a ha
  · rcases l.rd with q | ⟨o, q⟩
    · exact .inl (by rw [ers_ne h]; exact q)
    · exact .inr ⟨o, by rw [ers_ne h]; exact q⟩
  · rcases l.rd' with q | ⟨o, q⟩
    · exact .inl (by rw [ers_ne h]; exact q)
    · exact .inr ⟨o, by rw [ers_ne h]; exact q⟩
theorem IOk.lk {G G' H H' : Hp} {d : Addr} {kvs : List (Key × V)} (l : LkS d kvs G G') {x : Item} {as : List Addr} (h : IOk K mg G H x as) (n : NoPin d x) (q : ∀ a ∈ as, H' a = H a) : IOk K mg G' H' x as := by
  induction h generalizing G' H' with
  | ov h => exact .ov (h.lk l q)
  | raw h => exact .raw ((q _ (by simp)).trans h)
  | pin h => exact .pin ((l.ne _ n).trans h)
  | @but G H d2 x as h ih =>
    by_cases e : d = d2
    · subst e
      have e2 : ers d G' = ers d G := by
        funext a
        unfold ers
        split
        · rfl
        · rename_i ha; exact l.ne a ha
      refine .but ?_
      rw [e2]
      exact h.mono (Same.refl _) q
    · exact .but (ih (l.ers e) n q)
theorem IsOk.lk {G G' H H' : Hp} {d : Addr} {kvs : List (Key × V)} (l : LkS d kvs G G') : ∀ {L : List Item} {as : List Addr}, IsOk K mg G H L as → (∀ x ∈ L, NoPin d x) → (∀ a ∈ as, H' a = H a) → IsOk K mg G' H' L as
  | _, _, .nil, _, _ => .nil
  | _, _, .cons h t, n, q => by
    refine .cons ?_ (IsOk.lk l t (fun x hx => n x (List.mem_cons_of_mem _ hx)) fun a ha => q a (by simp [ha]))
    exact h.lk l (n _ (List.mem_cons_self ..)) fun a ha => q a (by simp [ha])
variable {H : Hp} {L : List Item}
theorem NoPin.pairs {d : Addr} : ∀ {σ : L2.St} {ρ : Env}, ∀ x ∈ pairs σ ρ, NoPin d x := by
  intro σ
  induction σ with
  | nil => intro ρ x hx; rw [pairs_nil] at hx; simp at hx
  | cons v σ ih =>
    intro ρ x hx
    cases ρ with
    | nil => rw [pairs_nil'] at hx; simp at hx
    | cons o ρ =>
      cases v with
      | none => rw [pairs_ns] at hx; exact ih x hx
      | some v =>
        cases o with
        | none => rw [pairs_sn] at hx; exact ih x hx
        | some o =>
          rw [pairs_ss] at hx
          rcases List.mem_cons.mp hx with e | hx
          · subst e; trivial
          · exact ih x hx
def keyD : Key → D
  | .inl i => .int i
  | .inr s => .str s
def keyOk : Key → Bool
  | .inl _ => true
  | .inr s => PyData.strOk s
theorem key_vwD {G : Hp} {k : Key} (h : keyOk k = true) : Vw K mg G (kV k) (keyD k) := by
  cases k with
  | inl i => exact .int i
  | inr s => exact .str s h
/-! comprehensions -/
end
end FB

/-! Lists turned round, dicts copied, counted, compared, their keys. -/
namespace FB
open PySem PySem.Spec L2
open PyProof.Rows hiding St
section
variable {X : Cx} {K : PySem.W.Frag} {mg : Str → Option Value}
/-! ### xs[::-1] -/
/-! ### list(d), len(d) -/
theorem Rep.keys {H : Hp} {L : List Item} {B : List (V × O)} (R : Rep K mg H L B) : ∀ {ks : List Key}, ks.all keyOk = true → Rep K mg H (zipI (ks.map kV) ((ks.map keyD).map O.val) ++ L) B
  | [], _ => R
  | k :: ks, h => by
    rw [List.all_cons, Bool.and_eq_true] at h
    exact Rep.scal (Rep.keys R h.2) fun G => key_vwD h.1
/-! ### dict(d) -/
/-! ### d == e -/
variable {ρ : Env}
end
end FB

/-! Comprehensions and loops whose turns simp computes. -/
namespace FB
open PySem PySem.Spec L2
open PyProof.Rows hiding St
variable {ρ : Env}
/-- a turn of a comprehension -/
def cstep (own : List Nat) (a : D → Env → Option Env) (t : M Bool) (e : M O) (d : D) (ρ : Env) : Res (Option O) := match a d ρ with
  | none => .no
  | some ρ1 => (t ρ1).bind fun b ρ2 => if b = true then (e ρ2).bind fun o ρ3 => .ok (some o) (wipeE ρ3 own) else .ok none (wipeE ρ2 own)
def csE (own : List Nat) : Res O → Res (Option O)
  | .ok o ρ => .ok (some o) (wipeE ρ own)
  | .exc x ρ => .exc x ρ
  | .no => .no
def csT (own : List Nat) (e : M O) : Res Bool → Res (Option O)
  | .ok b ρ => if b = true then csE own (e ρ) else .ok none (wipeE ρ own)
  | .exc x ρ => .exc x ρ
  | .no => .no
def csS (own : List Nat) (t : M Bool) (e : M O) : Option Env → Res (Option O)
  | some ρ => csT own e (t ρ)
  | none => .no
@[simp] theorem e_cstep (own : List Nat) (a : D → Env → Option Env) (t : M Bool) (e : M O) (d : D) : cstep own a t e d ρ = csS own t e (a d ρ) := by
  unfold cstep csS
  cases a d ρ with
  | none => rfl
  | some ρ1 =>
    show (t ρ1).bind _ = csT own e (t ρ1)
    unfold csT
    cases t ρ1 with
    | ok b ρ2 =>
      show (if b = true then (e ρ2).bind _ else _) = if b = true then csE own (e ρ2) else _
      unfold csE
      cases e ρ2 <;> rfl
    | exc x ρ2 => rfl
    | no => rfl
@[simp] theorem e_csS (own : List Nat) (t : M Bool) (e : M O) : csS own t e (some ρ) = csT own e (t ρ) := (rfl)
@[simp] theorem e_csT (own : List Nat) (e : M O) (b : Bool) : csT own e (.ok b ρ) = if b = true then csE own (e ρ) else .ok none (wipeE ρ own) := (rfl)
@[simp] theorem e_csE (own : List Nat) (o : O) : csE own (.ok o ρ) = .ok (some o) (wipeE ρ own) := (rfl)
theorem compL_step {own : List Nat} {a : D → Env → Option Env} {t : M Bool} {e : M O} (d : D) (ds : List D) : compL own a t e (d :: ds) ρ = (cstep own a t e d ρ).bind fun o ρ1 => match o with
    | some o => (compL own a t e ds ρ1).bind fun os ρ2 => .ok (o :: os) ρ2
    | none => compL own a t e ds ρ1 := by
  show (match a d ρ with | none => Res.no | some ρ1 => (t ρ1).bind fun b ρ2 => if b = true then (e ρ2).bind fun o ρ3 => (compL own a t e ds (wipeE ρ3 own)).bind fun os ρ4 => .ok (o :: os) ρ4 else compL own a t e ds (wipeE ρ2 own)) = _
  unfold cstep
  cases a d ρ with
  | none => rfl
  | some ρ1 =>
    show (t ρ1).bind _ = ((t ρ1).bind _).bind _
    cases t ρ1 with
    | ok b ρ2 =>
      cases b with
      | true =>
        show (e ρ2).bind _ = ((e ρ2).bind _).bind _
        cases e ρ2 <;> rfl
      | false => rfl
    | exc x ρ2 => rfl
    | no => rfl
theorem compL_fn {α : Type} {own : List Nat} {a : D → Env → Option Env} {t : M Bool} {e : M O} (f : α → D) (c : α → Bool) (g : α → O) : ∀ {xs : List α},
    (∀ x ∈ xs, cstep own a t e (f x) ρ = if c x = true then .ok (some (g x)) ρ else .ok none ρ) → compL own a t e (xs.map f) ρ = .ok ((xs.filter c).map g) ρ
  | [], _ => rfl
  | x :: xs, h => by
    have ih := compL_fn (own := own) (a := a) (t := t) (e := e) f c g (xs := xs) fun d hd => h d (List.mem_cons_of_mem _ hd)
    rw [List.map_cons, compL_step, h x (List.mem_cons_self ..)]
    cases hc : c x with
    | true => simp [ih, hc]
    | false => simp [ih, hc]
theorem wipeE_get (ρ : Env) : ∀ (own : List Nat) (j : Nat), (wipeE ρ own)[j]? = if j ∈ own ∧ j < ρ.length then some none else ρ[j]?
  | [], j => by simp
  | v :: vs, j => by
    rw [e_wipe1, List.getElem?_set, wipeE_get ρ vs j, wipeE_len]
    by_cases e : v = j
    · subst e
      by_cases hl : v < ρ.length
      · simp [hl]
      · simp [hl]
    · simp [e, show ¬ j = v from fun z => e z.symm]
theorem backE_get (ρ2 ρ1 : Env) (hl : ρ2.length = ρ1.length) : ∀ (own : List Nat), own.Nodup → ∀ j, (backE ρ2 ρ1 own)[j]? = if j ∈ own ∧ (ρ1[j]?).join.isSome = true then ρ1[j]? else ρ2[j]?
  | [], _, j => by
    show ρ2[j]? = _
    simp
  | v :: vs, nd, j => by
    rw [List.nodup_cons] at nd
    have ih := backE_get ρ2 ρ1 hl vs nd.2
    rw [e_back1]
    have hv : (wipeE ρ1 vs)[v]? = ρ1[v]? := by rw [wipeE_get]; simp [nd.1]
    rw [hv]
    by_cases e : v = j
    · subst e
      cases h1 : ρ1[v]? with
      | none =>
        rw [e_bkKx, ih]
        simp [nd.1, h1]
      | some o =>
        cases o with
        | none =>
          rw [e_bkKn, ih]
          simp [nd.1, h1]
        | some o =>
          rw [e_bkKs, List.getElem?_set_self]
          · simp [h1]
          · have e3 : v < ρ1.length := (List.getElem?_eq_some_iff.mp h1).1
            have e4 := ih v
            rw [if_neg (fun z => nd.1 z.1)] at e4
            have : (backE ρ2 ρ1 vs)[v]? = some (ρ2[v]'(by omega)) := by rw [e4, List.getElem?_eq_getElem]
            exact (List.getElem?_eq_some_iff.mp this).1
    · have hb : ∀ q : Option (Option O), (bkK v (backE ρ2 ρ1 vs) q)[j]? = (backE ρ2 ρ1 vs)[j]? := by
        intro q
        cases q with
        | none => rfl
        | some o =>
          cases o with
          | none => rfl
          | some o => rw [e_bkKs, List.getElem?_set_ne e]
      rw [hb, ih]
      simp [show ¬ j = v from fun z => e z.symm]
theorem back_wipe (ρ : Env) {own : List Nat} (nd : own.Nodup) : backE (wipeE (wipeE ρ own) own) ρ own = ρ := by
  apply List.ext_getElem?
  intro j
  rw [backE_get _ _ (by rw [wipeE_len, wipeE_len]) own nd, wipeE_get, wipeE_len, wipeE_get]
  by_cases h1 : j ∈ own
  · cases h2 : ρ[j]? with
    | none =>
      have : ¬ j < ρ.length := by
        intro z
        rw [List.getElem?_eq_getElem z] at h2; cases h2
      simp [h1, this]
    | some o =>
      have : j < ρ.length := (List.getElem?_eq_some_iff.mp h2).1
      cases o <;> simp [h1, this]
  · simp [h1]
/-- a comprehension whose turns only read -/
theorem comp_run {α : Type} {it : M (List D)} {own : List Nat} {a : D → Env → Option Env} {t : M Bool} {e : M O} {ρ ρ1 : Env} (f : α → D) (c : α → Bool) (g : α → O) {xs : List α} (hi : it ρ = .ok (xs.map f) ρ1) (hl : xs.length ≤ 1000000) (nd : own.Nodup)
    (h : ∀ x ∈ xs, cstep own a t e (f x) (wipeE ρ1 own) = if c x = true then .ok (some (g x)) (wipeE ρ1 own) else .ok none (wipeE ρ1 own)) : mComp it own a t e ρ = .ok (.lst ((xs.filter c).map g)) ρ1 := by
  rw [e_mComp, hi, e_coK _ _ _ _ _ (by simpa using hl), compL_fn f c g h, e_coK2, back_wipe ρ1 nd]
theorem filter_tt {α : Type} (xs : List α) : xs.filter (fun _ => true) = xs := by
  induction xs with
  | nil => rfl
  | cons x xs ih => simp
theorem comp_map {α : Type} {it : M (List D)} {own : List Nat} {a : D → Env → Option Env} {t : M Bool} {e : M O} {ρ ρ1 : Env} (f : α → D) (g : α → O) {xs : List α} (hi : it ρ = .ok (xs.map f) ρ1) (hl : xs.length ≤ 1000000) (nd : own.Nodup)
    (h : ∀ x ∈ xs, cstep own a t e (f x) (wipeE ρ1 own) = .ok (some (g x)) (wipeE ρ1 own)) : mComp it own a t e ρ = .ok (.lst (xs.map g)) ρ1 := by
  rw [comp_run f (fun _ => true) g hi hl nd (by simpa using h), filter_tt]
/-! ### loops -/
/-! ### dicts -/
end FB

/-! max of a list of pairs of ints. -/
namespace FB
open PySem PySem.Spec L2
open PyProof.Rows hiding St
section
variable {X : Cx} {K : PySem.W.Frag} {mg : Str → Option Value}
end
end FB

/-! repr of a thing made of texts, ints, truths, None, in lists and tuples. -/
namespace FB
open PySem PySem.Spec L2
open PyProof.Rows hiding St
theorem Okc.app {a b : Str} (ha : Okc a) (hb : Okc b) : Okc (a ++ b) := by
  intro c hc
  have e : (a ++ b).cps = a.cps ++ b.cps := rfl
  rw [e, Array.toList_append, List.mem_append] at hc
  exact hc.elim (ha c) (hb c)
theorem Okc.join {sep : Str} (hs : Okc sep) : ∀ {ts : List Str}, (∀ t ∈ ts, Okc t) → Okc (Str.join sep ts)
  | [], _ => fun c hc => by
    have hc : c ∈ (#[] : Array Nat).toList := hc
    simp at hc
  | [t], h => h t (by simp)
  | t :: u :: ts, h => by
    show Okc (t ++ sep ++ Str.join sep (u :: ts))
    exact ((h t (by simp)).app hs).app (Okc.join hs fun z hz => h z (List.mem_cons_of_mem _ hz))
theorem digits_ok (c : Nat) : ∀ d ∈ (Nat.toDigits 16 c).map Char.toNat, d < 1114112 := by
  intro d hd
  obtain ⟨e, _, rfl⟩ := List.mem_map.mp hd
  have := e.valid
  show e.val.toNat < 1114112
  rcases this with h | ⟨_, h⟩
  · have : e.val.toNat < 55296 := h
    omega
  · exact h
theorem reprChar_ok {q c : Nat} (hq : q < 1114112) (hc : c < 1114112) : ∀ d ∈ Builtin.Str.reprChar q c, d < 1114112 := by
  have hx : ∀ n, ∀ d ∈ List.replicate (n - ((Nat.toDigits 16 c).map Char.toNat).length) 48 ++ (Nat.toDigits 16 c).map Char.toNat, d < 1114112 := by
    intro n d hd
    rcases List.mem_append.mp hd with h | h
    · have := (List.mem_replicate.mp h).2; omega
    · exact digits_ok c d h
  intro d hd
  unfold Builtin.Str.reprChar at hd
  dsimp only at hd
  split at hd
  · simp at hd; omega
  · split at hd
    · simp at hd; omega
    · split at hd
      · simp at hd; omega
      · split at hd
        · simp at hd; omega
        · split at hd
          · simp at hd; omega
          · split at hd
            · rcases List.mem_append.mp hd with h | h
              · simp at h; omega
              · exact hx 2 d h
            · split at hd
              · rcases List.mem_append.mp hd with h | h
                · simp at h; omega
                · exact hx 4 d h
              · rcases List.mem_append.mp hd with h | h
                · simp at h; omega
                · exact hx 8 d h
theorem Okc.repr {x : Str} (h : Okc x) : Okc (reprText x) := by
  have hq : reprQuote x < 1114112 := by unfold reprQuote; split <;> omega
  have key : ∀ (l : List Nat) (acc : Array Nat), (∀ c ∈ l, c < 1114112) → (∀ c ∈ acc.toList, c < 1114112) → ∀ c ∈ (l.foldl (fun out c => out ++ (Builtin.Str.reprChar (reprQuote x) c).toArray) acc).toList, c < 1114112 := by
    intro l
    induction l with
    | nil => intro acc _ h2; exact h2
    | cons a l ih =>
      intro acc h1 h2
      rw [List.foldl_cons]
      refine ih _ (fun c hc => h1 c (List.mem_cons_of_mem _ hc)) fun c hc => ?_
      rw [Array.toList_append, List.mem_append] at hc
      exact hc.elim (h2 c) fun z => reprChar_ok hq (h1 a (List.mem_cons_self ..)) c (by simpa using z)
  intro c hc
  unfold reprText at hc
  rw [Array.toList_push, List.mem_append] at hc
  rcases hc with hc | hc
  · rw [← Array.foldl_toList] at hc
    exact key _ _ h (fun d hd => by simp at hd; omega) c hc
  · simp at hc; omega
section
variable {X : Cx} {K : PySem.W.Frag} {mg : Str → Option Value}
end
end FB

/-! The law's own def, looked at where the law is asked alone: there no text is being made. -/
namespace FB
open PySem PySem.Spec L2
open PyProof.Rows hiding St
section
variable {P : Program} {w : World} {K : PySem.W.Frag} {mg : Str → Option Value} {base : Heap}
end
end FB

/-! name.clear() of an own list. -/
namespace FB
open PySem PySem.Spec L2
open PyProof.Rows hiding St
section
variable {X : Cx} {K : PySem.W.Frag} {mg : Str → Option Value}
end
end FB

/-! try: ..; except Y: .. -/
namespace FB
open PySem PySem.Spec L2
open PyProof.Rows hiding St
section
variable {X : Cx} {K : PySem.W.Frag} {mg : Str → Option Value} {P : List Nat} {W : WX}
end
end FB

/-! Defs whose last parameter may be left out (None); objects that are shared. -/
namespace FB
open PySem PySem.Spec L2
open PyProof.Rows hiding St
section
variable {P : Program} {w : World} {K : PySem.W.Frag} {mg : Str → Option Value} {base : Heap}
end
section
variable {X : Cx} {K : PySem.W.Frag} {mg : Str → Option Value}
/-! ### objects that are shared -/
variable {ρ : Env}
end
end FB

/-! A dict one of whose keys may be None: it stands beside the environment (slot j holds its address; what it holds is told by a list of pairs). -/
namespace FB
open PySem PySem.Spec L2
open PyProof.Rows hiding St
abbrev NK := List (Option Key × V)
def nkφ (Pg : Program) (w : World) (a : Addr) (q : NK) : Heap → Prop := fun h => q.length ≤ sizeLine ∧ (a == sysModules) = false ∧ ∃ vs, KV q vs ∧ h.DictOf (noneKind Pg w) a vs
def dN (Pg : Program) (w : World) (a : Addr) (q : NK) : HO := .ext (nkφ Pg w a q)
/-! ### the three things that are done with it -/
section
variable {X : Cx}
end
/-! ### expressions beside it -/
def isN (ρ : Env) (j : Nat) : Bool := match ρ[j]? with
  | some none => true
  | _ => false
def nI : V → Option Int
  | .int i => some i
  | _ => none
section
variable {X : Cx} {K : PySem.W.Frag} {mg : Str → Option Value} {j : Nat}
end
/-! ### statements beside it -/
abbrev NM := NK → Env → Option (Fl × NK × Env)
def PostN (K : PySem.W.Frag) (mg : Str → Option Value) (Pg : Program) (w : World) (P : List Nat) (j : Nat) (p : Addr) (T : List Item) (D : Ends) (σ : L2.St) : Option (Fl × NK × Env) → Prop
  | some (.nx, q, ρ') => ∀ σ' H', Fix (j :: P) σ σ' → Cov σ' ρ' → ρ'[j]? = some none → Rep K mg H' (pairs σ' ρ' ++ (.raw p (dN Pg w p q) :: T)) [] → D.nx σ' H'
  | some (.ret o, q, ρ') => ∀ v σ' H', Fix (j :: P) σ σ' → Cov σ' ρ' → Rep K mg H' (.ov v o :: (pairs σ' ρ' ++ (.raw p (dN Pg w p q) :: T))) [] → D.rt v H'
  | _ => False
def nSK (j : Nat) (q : NK) : Res Fl → Option (Fl × NK × Env)
  | .ok .nx ρ => if isN ρ j = true then some (.nx, q, ρ) else none
  | .ok (.ret o) ρ => some (.ret o, q, ρ)
  | _ => none
def nS (j : Nat) (m : M Fl) : NM := fun q ρ => nSK j q (m ρ)
section
variable {X : Cx} {K : PySem.W.Frag} {mg : Str → Option Value} {P : List Nat} {j : Nat} {Pg : Program} {w : World}
theorem PostN.fix {p : Addr} {T : List Item} {D : Ends} {σ σ1 : L2.St} {r : Option (Fl × NK × Env)} (f : Fix (j :: P) σ σ1) (h : PostN K mg Pg w P j p T D σ r) : PostN K mg Pg w P j p T D σ1 r := by
  unfold PostN at h ⊢
  split at h
  · exact fun σ' H' f' => h σ' H' (f.trans f')
  · exact fun v σ' H' f' => h v σ' H' (f.trans f')
  · exact h.elim
theorem PostN.more {ks T : List Item} {D : Ends} {σ : L2.St} {p : Addr} {r : Option (Fl × NK × Env)} (h : PostN K mg Pg w P j p T D σ r) : PostN K mg Pg w P j p (ks ++ T) D σ r := by
  unfold PostN at h ⊢
  split at h
  · exact fun σ' H' f c hj R => h σ' H' f c hj (R.perm ((List.Perm.append_left _ (List.perm_middle (l₁ := ks)).symm).trans (rot _ _ _))).drops
  · exact fun v σ' H' f c R => h v σ' H' f c (R.perm ((((List.Perm.append_left _ (List.perm_middle (l₁ := ks)).symm).trans (rot _ _ _)).cons _).trans List.perm_middle.symm)).drops
  · exact h.elim
/-! ### rules for simp -/
variable {ρ : Env} {q : NK}
@[simp] theorem e_nS (m : M Fl) : nS j m q ρ = nSK j q (m ρ) := (rfl)
@[simp] theorem e_nSKn : nSK j q (.ok .nx ρ) = if isN ρ j = true then some (.nx, q, ρ) else none := (rfl)
@[simp] theorem e_nSKr (o : O) : nSK j q (.ok (.ret o) ρ) = some (.ret o, q, ρ) := (rfl)
end
end FB

/-! t[::-1] of a tuple. -/
namespace TR
open PySem PySem.Spec PyProof.Rows HT
section
variable {prog : Program} {w : World} {A : Around} {E : Value → Shared → Prop} {s : Shared}
end
end TR
namespace FB
open PySem PySem.Spec L2
open PyProof.Rows hiding St
section
variable {X : Cx} {K : PySem.W.Frag} {mg : Str → Option Value}
end
end FB

/-! A def that returns a tuple in which own things lie; its call, taken apart into names. -/
namespace FB
open PySem PySem.Spec L2
open PyProof.Rows hiding St
section
variable {X : Cx} {K : PySem.W.Frag} {mg : Str → Option Value} {P : List Nat}
/-! names, each told its thing -/
/-! rules -/
end
end FB

/-! A comprehension over an own dict whose element is a reading: the dict stays own. -/
namespace FB
open PySem PySem.Spec L2
open PyProof.Rows hiding St
section
variable {X : Cx} {K : PySem.W.Frag} {mg : Str → Option Value}
end
end FB

/-! An own flat dict shown as shared while one expression runs: it is own again behind it. -/
namespace FB
open PySem PySem.Spec L2
open PyProof.Rows hiding St
section
variable {X : Cx} {K : PySem.W.Frag} {mg : Str → Option Value}
mutual
/-- no dict within -/
def D.nd : D → Bool
  | .non => true
  | .bl _ => true
  | .int _ => true
  | .str _ => true
  | .tup ds => D.nds ds
  | .lst ds => D.nds ds
  | .scr _ => true
  | .fn _ => true
  | .exc _ _ _ => false
  | .dct _ _ => false
  | .ins _ _ ds => D.nds ds
def D.nds : List D → Bool
  | [] => true
  | d :: ds => d.nd && D.nds ds
end
mutual
def O.nd : O → Bool
  | .val d => d.nd
  | .lst os => O.nds os
  | .dct _ os => O.nds os
  | .ins _ _ os => O.nds os
def O.nds : List O → Bool
  | [] => true
  | o :: os => o.nd && O.nds os
end
theorem rd_ers {G : Hp} {d a : Addr} {u : HO} {od : Obj} {kvs : List (Key × V)} (hd : G d = some (.frz od (.dK kvs))) (h : Rd G a u) (h1 : u ≠ .dK kvs) (h2 : ∀ o w, u ≠ .frz o w) : Rd (ers d G) a u := by
  have e : a ≠ d := fun e => by
    subst e
    rcases h with h | ⟨o, h⟩
    · rw [hd] at h; cases h; exact h2 _ _ rfl
    · rw [hd] at h; cases h; exact h1 rfl
  rcases h with h | ⟨o, h⟩
  · exact .inl ((ers_ne e).trans h)
  · exact .inr ⟨o, (ers_ne e).trans h⟩
mutual
theorem Vw.ers {G : Hp} {d : Addr} {od : Obj} {kvs : List (Key × V)} (hd : G d = some (.frz od (.dK kvs))) : ∀ {v : V} {x : D}, Vw K mg G v x → x.nd = true → Vw K mg (ers d G) v x
  | _, _, .non, _ => .non
  | _, _, .bl b, _ => .bl b
  | _, _, .int i, _ => .int i
  | _, _, .str s h, _ => .str s h
  | _, _, .tup h hs, n => by
    refine .tup ?_ (Vws.ers hd hs n)
    rcases h with h | h
    · exact .inl (rd_ers hd h (fun z => by cases z) (fun _ _ z => by cases z))
    · exact .inr h
  | _, _, .lst h hs, n => .lst (rd_ers hd h (fun z => by cases z) (fun _ _ z => by cases z)) (Vws.ers hd hs n)
  | _, _, .fn h, _ => .fn h
  | _, _, .scr h, _ => by
    refine .scr ?_
    rcases h with h | h
    · exact .inl (rd_ers hd h (fun z => by cases z) (fun _ _ z => by cases z))
    · exact .inr h
  | _, _, .dct _ _ _, n => by cases n
  | _, _, .exc _ _ _ _ _, n => by cases n
  | _, _, .exn _ _, n => by cases n
  | _, _, .ins (a := a) h hm hn hs, n => by
    have e : a ≠ d := fun e => by subst e; rw [hd] at h; cases h
    exact .ins ((ers_ne e).trans h) hm hn (Vws.ers hd hs n)
theorem Vws.ers {G : Hp} {d : Addr} {od : Obj} {kvs : List (Key × V)} (hd : G d = some (.frz od (.dK kvs))) : ∀ {vs : List V} {ds : List D}, Vws K mg G vs ds → D.nds ds = true → Vws K mg (ers d G) vs ds
  | _, _, .nil, _ => .nil
  | _, _, .cons (d := x) (ds := xs) h t, n => by
    have n : (x.nd && D.nds xs) = true := n
    rw [Bool.and_eq_true] at n
    exact .cons (Vw.ers hd h n.1) (Vws.ers hd t n.2)
end
mutual
theorem VO.ers {G H : Hp} {d : Addr} {od : Obj} {kvs : List (Key × V)} (hd : G d = some (.frz od (.dK kvs))) : ∀ {v : V} {x : O} {as : List Addr}, VO K mg G H v x as → x.nd = true → VO K mg (ers d G) H v x as
  | _, _, _, .val h, n => .val (h.ers hd n)
  | _, _, _, .lst h hs, n => .lst h (VOs.ers hd hs n)
  | _, _, _, .dct h hk hs, n => .dct h hk (VOs.ers hd hs n)
  | _, _, _, .ins h hm hn hs, n => .ins h hm hn (VOs.ers hd hs n)
theorem VOs.ers {G H : Hp} {d : Addr} {od : Obj} {kvs : List (Key × V)} (hd : G d = some (.frz od (.dK kvs))) : ∀ {vs : List V} {xs : List O} {as : List Addr}, VOs K mg G H vs xs as → O.nds xs = true → VOs K mg (ers d G) H vs xs as
  | _, _, _, .nil, _ => .nil
  | _, _, _, .cons (o := x) (os := xs) h t, n => by
    have n : (x.nd && O.nds xs) = true := n
    rw [Bool.and_eq_true] at n
    exact .cons (VO.ers hd h n.1) (VOs.ers hd t n.2)
end
theorem IsOk.but {G H : Hp} {d : Addr} : ∀ {L : List Item} {as : List Addr}, IsOk K mg (ers d G) H L as → IsOk K mg G H (L.map (.but d)) as
  | _, _, .nil => .nil
  | _, _, .cons h t => .cons (.but h) (IsOk.but t)
end
end FB

/-! != between tuples that hold dicts, where both are alike. -/
namespace FB
open PySem PySem.Spec L2
open PyProof.Rows hiding St
/-! two tuples alike: != is False -/
section
open PySem.SeqAt
open AutoSeq1 (wpAny_loadPart')
open MeetsSeq MeetsSeq2 MeetsSeq3 SeqRoads2
variable {prog : Program} {w : World}
end
section
variable {X : Cx} {K : PySem.W.Frag} {mg : Str → Option Value}
end
end FB

/-! Defs handed in as arguments: a name of a def as a value, a call of a local name that holds one of two raising defs. -/
namespace FB
open PySem PySem.Spec L2
open PyProof.Rows hiding St
section
variable {X : Cx} {W : WX}
/-! name.clear() of an own dict -/
end
end FB

/-! isinstance of a caught error that has fields. -/
namespace FB
open PySem PySem.Spec L2
open PyProof.Rows hiding St
section
variable {X : Cx} {a D dd : Addr} {oe : Obj} {pn : List (Addr × Obj)}
theorem excC_cl {K : PySem.W.Frag} (C : ExcC K D) : (PySem.W.clsIn K D).isSome = true := by
  obtain ⟨cd, hc, _⟩ := PySem.W.any_some C.hd
  rw [hc]; rfl
end
section
variable {X : Cx} {a : Addr} {i : Nat} {I : List Item} {x : Exn} {cls : Value} {d : Option Addr} {oe : Obj} {pn : List (Addr × Obj)} {es : List Str}
/-- the fields' dict stands -/
theorem FrE.xd {K : PySem.W.Frag} {mg : Str → Option Value} {dd : Addr} {vs : List V} {fs : List (Str × V)} {ds : List D} {σ : L2.St} {ρ : Env} {T : List Item} {H : Hp} (f : FrE a i (.raw dd (.xd fs) :: zipI vs (ds.map O.val)) σ T) (R : Rep K mg H (pairs σ ρ ++ T) []) : H dd = some (.xd fs) := by
  obtain ⟨_, T0, p⟩ := f
  have q : (pairs σ ρ ++ T).Perm (.raw dd (.xd fs) :: ((zipI vs (ds.map O.val) ++ T0) ++ pairs σ ρ)) := by
    refine List.perm_append_comm.trans ?_
    exact p.append_right _
  exact (R.perm q).rawAt
end
end FB

/-! Making an object where __init__ may raise; a raising def with its last parameter left out. -/
namespace FB
open PySem PySem.Spec L2
open PyProof.Rows hiding St
section
variable {P : Program} {w : World} {K : PySem.W.Frag} {mg : Str → Option Value} {base : Heap}
end
section
variable {X : Cx} {W : WX}
variable {ρ : Env}
end
end FB

/-! sorted(..) of texts, also of a dict of texts; a method of a thing just made. -/
namespace FB
open PySem PySem.Spec L2
open PyProof.Rows hiding St
/-! texts in order -/
section
variable {X : Cx} {K : PySem.W.Frag} {mg : Str → Option Value}
theorem Rep.strs {H : Hp} {L : List Item} {B : List (V × O)} (R : Rep K mg H L B) : ∀ {ms : List Str}, (∀ m ∈ ms, PyData.strOk m = true) → Rep K mg H (zipI (ms.map V.str) ((ms.map D.str).map O.val) ++ L) B
  | [], _ => R
  | m :: ms, h => (Rep.strs R fun z hz => h z (List.mem_cons_of_mem _ hz)).scal fun _ => .str m (h m (List.mem_cons_self ..))
/-! e.m(..) of an own thing that no name holds -/
variable {ρ : Env}
end
end FB

/-! Dicts compared whose values are tuples, lists, scalars. -/
namespace FB
open PySem PySem.Spec L2
open PyProof.Rows hiding St

section
variable {X : Cx} {K : PySem.W.Frag} {mg : Str → Option Value}
end
end FB
/-! a new list of one's own: a + b -/
namespace FB
open PySem PySem.Spec L2
open PyProof.Rows hiding St
section
variable {X : Cx} {K : PySem.W.Frag} {mg : Str → Option Value}
variable {ρ : Env}
end
end FB
/-! an own thing compared with what is made behind it -/
namespace FB
open PySem PySem.Spec L2
open PyProof.Rows hiding St
section
variable {X : Cx} {K : PySem.W.Frag} {mg : Str → Option Value}
variable {ρ : Env}
end
end FB

/-! Methods that may raise. -/
namespace FB
open PySem PySem.Spec L2
open PyProof.Rows hiding St
section
variable {P : Program} {w : World} {K : PySem.W.Frag} {mg : Str → Option Value} {base : Heap}
end
section
variable {X : Cx} {W : WX}
variable {ρ : Env}
end
end FB
/-! name.f = e, e may raise -/
namespace FB
open PySem PySem.Spec L2
open PyProof.Rows hiding St
section
variable {X : Cx} {W : WX}
end
end FB

/-! Places within an own tree: name.f, name.f[k]; a method called there. -/
namespace FB
open PySem PySem.Spec L2
open PyProof.Rows hiding St
section
variable {X : Cx} {K : PySem.W.Frag} {mg : Str → Option Value}
/-! pure arguments -/
end
section
variable {X : Cx}
end
end FB

/-! append at a place: name.f.append(e), name.f[k].append(e); e is pure. -/
namespace FB
open PySem PySem.Spec L2
open PyProof.Rows hiding St
section
variable {X : Cx} {K : PySem.W.Frag} {mg : Str → Option Value}
end
section
variable {X : Cx}
variable {ρ : Env}
/-! as rules -/
end
end FB

/-! C(..) where __init__ has a last parameter that is None unless given. -/
namespace FB
open PySem PySem.Spec L2
open PyProof.Rows hiding St
section
variable {P : Program} {w : World} {K : PySem.W.Frag} {mg : Str → Option Value} {base : Heap}
end
section
variable {X : Cx}
end
end FB

/-! name.f[k] += e, f a dict; name.f += e: ints. -/
namespace FB
open PySem PySem.Spec L2
open PyProof.Rows hiding St
section
variable {X : Cx} {K : PySem.W.Frag} {mg : Str → Option Value}
end
end FB

/-! E.append(e), E a list just made. -/
namespace FB
open PySem PySem.Spec L2
open PyProof.Rows hiding St
section
variable {X : Cx}
variable {ρ : Env}
end
end FB

/-! A name for a list at a place, looked at and changed:
rows = name.f[k]; if TEST: rows[I] = E else: rows.append(E') -- where TEST, E, E' may read name.now, an int. -/
namespace FB
open PySem PySem.Spec L2
open PyProof.Rows hiding St
section
variable {X : Cx} {K : PySem.W.Frag} {mg : Str → Option Value}
variable {i : Nat} {F : Str}
end
end FB

/-! A tuple times 0, 1 or more. -/
namespace FB
open PySem PySem.Spec L2
open PyProof.Rows hiding St
section
variable {X : Cx}
end
section
variable {X : Cx} {K : PySem.W.Frag} {mg : Str → Option Value}
end
end FB

/-! Tests and ifs in a suite behind except. -/
namespace FB
open PySem PySem.Spec L2
open PyProof.Rows hiding St
section
variable {X : Cx} {P : List Nat} {a : Addr} {i : Nat} {I : List Item}
end
end FB

/-! == between tuples, and between lists, that hold dicts, where both are alike. -/
namespace FB
open PySem PySem.Spec L2
open PyProof.Rows hiding St
section
variable {X : Cx} {K : PySem.W.Frag} {mg : Str → Option Value}
end
end FB

/-! Displays of dicts with several text keys. -/
namespace FB
open PySem PySem.Spec L2
open PyProof.Rows hiding St
section
variable {X : Cx} {K : PySem.W.Frag} {mg : Str → Option Value}
end
end FB

/-! Places under text keys of an own dict: name["k"][e] = v, name["k"].append(e); an own name moved late into a display. -/
namespace FB
open PySem PySem.Spec L2
open PyProof.Rows hiding St
section
variable {X : Cx}
end
end FB

/-! What stands at a text key of an own dict, shown and shared from then on. -/
namespace FB
open PySem PySem.Spec L2
open PyProof.Rows hiding St
section
variable {X : Cx}
end
end FB

/-! Rules for simp: displays of dicts, places under text keys. -/
namespace FB
open PySem PySem.Spec L2
open PyProof.Rows hiding St
variable {ρ : Env}
end FB

/-! name.extend(e), e a tuple, name an own list. -/
namespace FB
open PySem PySem.Spec L2
open PyProof.Rows hiding St
section
variable {X : Cx}
end
section
variable {ρ : Env}
end
end FB

/-! for k in name.f: own[k] = name.f[k].m(): a dict of own things is walked (locked meanwhile), and what each tells is stored. -/
namespace FB
open PySem PySem.Spec L2
open PyProof.Rows hiding St
section
variable {X : Cx}
end
end FB

/-! repr of a truth. -/
namespace FB
open PySem PySem.Spec L2
open PyProof.Rows hiding St
section
variable {X : Cx} {K : PySem.W.Frag} {mg : Str → Option Value}
end
end FB

/-! str(n), n a whole number. -/
namespace FB
open PySem PySem.Spec L2
open PyProof.Rows hiding St
section
variable {K : PySem.W.Frag} {mg : Str → Option Value}
end
end FB

/-! f-strings of texts and whole numbers. -/
namespace FB
open PySem PySem.Spec L2
open PyProof.Rows hiding St
section
variable {X : Cx} {K : PySem.W.Frag} {mg : Str → Option Value}
end
section
variable {ρ : Env}
end
end FB

/-! A dict display of two texts that are reckoned. -/
namespace FB
open PySem PySem.Spec L2
open PyProof.Rows hiding St
section
variable {X : Cx} {K : PySem.W.Frag} {mg : Str → Option Value}
end
section
variable {ρ : Env}
end
end FB

/-! A name for a list at a place under a text key and a key, looked at and changed:
rows = name["k"][e]; if TEST: rows[I] = E else: rows.append(E') -- all readings. -/
namespace FB
open PySem PySem.Spec L2
open PyProof.Rows hiding St
section
variable {X : Cx} {K : PySem.W.Frag} {mg : Str → Option Value}
end
end FB

/-! Defs that are called where no text is being made (repr in a called def); text.split(sep). -/
namespace FB
open PySem PySem.Spec L2
open PyProof.Rows hiding St
section
variable {P : Program} {w : World} {K : PySem.W.Frag} {mg : Str → Option Value} {base : Heap}
end
section
variable {X : Cx} {K : PySem.W.Frag} {mg : Str → Option Value}
end
end FB

/-! int(text). -/
namespace FB
open PySem PySem.Spec L2
open PyProof.Rows hiding St
section
variable {K : PySem.W.Frag} {mg : Str → Option Value}
end
end FB

/-! min(a list of whole numbers, default=None). -/
namespace PySem
section
variable {prog : Program} {w : World} {A : Around} {R : Result → Shared → Prop} {I : Addr} {fp wr : List Addr} {n : Nat} {P : Nat → Value → Prop} {St : Nat → Heap → Prop}
end
section
variable {prog : Program} {w : World} {A : Around} {E : Value → Shared → Prop} {s : Shared} {l : Addr} {xs : Array (Int × Tok)}
end
end PySem
namespace FB
open PySem PySem.Spec L2
open PyProof.Rows hiding St
section
variable {X : Cx} {K : PySem.W.Frag} {mg : Str → Option Value}
end
end FB

/-! name[k].append(e): a list that stands in an own list. -/
namespace FB
open PySem PySem.Spec L2
open PyProof.Rows hiding St
section
variable {X : Cx} {K : PySem.W.Frag} {mg : Str → Option Value}
end
section
variable {ρ : Env}
end
end FB

/-! [.. for t in name[k]]: a list that stands in an own list, lent to a comprehension. -/
namespace FB
open PySem PySem.Spec L2
open PyProof.Rows hiding St
section
variable {X : Cx} {K : PySem.W.Frag} {mg : Str → Option Value}
end
end FB

/-! sorted(a list of tuples that are alike). -/
namespace FB
open PySem PySem.Spec L2
open PyProof.Rows hiding St
section
variable {X : Cx} {K : PySem.W.Frag} {mg : Str → Option Value}
end
end FB

/-! max(a list of whole numbers, default=a number). -/
namespace PySem
section
variable {prog : Program} {w : World} {A : Around} {R : Result → Shared → Prop} {I : Addr} {fp wr : List Addr} {n : Nat} {P : Nat → Value → Prop} {St : Nat → Heap → Prop}
end
section
variable {prog : Program} {w : World} {A : Around} {E : Value → Shared → Prop} {s : Shared} {l : Addr} {xs : Array (Int × Tok)}
end
end PySem
namespace FB
open PySem PySem.Spec L2
open PyProof.Rows hiding St
section
variable {X : Cx} {K : PySem.W.Frag} {mg : Str → Option Value}
end
end FB

/-! a list of texts .index(text). -/
namespace FB
open PySem PySem.Spec L2
open PyProof.Rows hiding St
section
variable {X : Cx} {K : PySem.W.Frag} {mg : Str → Option Value}
end
end FB

/-! name[k].clear() of an own list in an own list; C(e, name[k]): an own list in an own list handed to an `__init__` that gives it back. -/
namespace FB
open PySem PySem.Spec L2
open PyProof.Rows hiding St
section
variable {X : Cx} {K : PySem.W.Frag} {mg : Str → Option Value}
end
section
variable {ρ : Env}
end
end FB

/-! name[e].append(v), name["k"][e].append(v) of own dicts of own lists; name.update(d), d just made, keys apart. -/
namespace FB
open PySem PySem.Spec L2
open PyProof.Rows hiding St
section
variable {X : Cx} {K : PySem.W.Frag} {mg : Str → Option Value}
/-! d.update(e), keys apart -/
theorem KV.app {kvs more : List (Key × V)} {vs rs : List (Key × Value)} (r : KV kvs vs) (q : KV more rs) : KV (kvs ++ more) (vs ++ rs) := by
  induction r with
  | nil => exact q
  | cons h _ ih => exact .cons h ih
end
section
variable {ρ : Env}
end
end FB

/-! a comparison of what is made with what is only read (an own thing stays own). -/
namespace FB
open PySem PySem.Spec L2
open PyProof.Rows hiding St
section
variable {X : Cx} {K : PySem.W.Frag} {mg : Str → Option Value}
end
section
variable {ρ : Env}
end
end FB

/-! dict([(k, own) for ..]): a dict made of pairs in which own things lie. -/
namespace FB
open PySem PySem.Spec L2
open PyProof.Rows hiding St
section
variable {X : Cx} {K : PySem.W.Frag} {mg : Str → Option Value}
abbrev Blk := Addr × List V × List O
def blk (zs : List Blk) : List Item := zs.flatMap fun z => .raw z.1 (.tup z.2.1) :: zipI z.2.1 z.2.2
end
section
variable {ρ : Env}
end
end FB

/-! repr of a thing of tuples and dicts (no lists). -/
namespace FB
open PySem PySem.Spec L2
open PyProof.Rows hiding St
section
variable {X : Cx} {K : PySem.W.Frag} {mg : Str → Option Value}
end
end FB

/-! repr of any thing of tuples, lists and {}; `f(x) is True` where f may raise. -/
namespace FB
open PySem PySem.Spec L2
open PyProof.Rows hiding St
section
variable {X : Cx} {W : WX}
end
def RA (P : Program) (w : World) (h : Heap) (u : Value) (p : PyData) (n : Nat) : Prop :=
  ∃ as bs, Reads h u p as ∧ p.depth ≤ n + 1 ∧ Okc p.shown ∧ ReadAtMost h p.depth bs ∧ ReprK P w bs h p.depth u p.shown
def RAs (P : Program) (w : World) (h : Heap) (us : List Value) (ps : List PyData) (n : Nat) : Prop :=
  ∃ as bs, ReadsAll h us ps as ∧ PyData.depthAll ps ≤ n + 1 ∧ (∀ p ∈ ps, Okc p.shown) ∧ ReadAtMost h (PyData.depthAll ps) bs ∧ ReprAllK P w bs h (PyData.depthAll ps) us (PyData.shownAll ps)
theorem RAs.nil {P : Program} {w : World} {h : Heap} {n : Nat} : RAs P w h [] [] n :=
  ⟨[], [], .nil, Nat.zero_le _, by simp, (fun _ z => nomatch z), .nil⟩
theorem RAs.cons {P : Program} {w : World} {h : Heap} {n : Nat} {u : Value} {us : List Value} {p : PyData} {ps : List PyData} (a : RA P w h u p n) (b : RAs P w h us ps n) : RAs P w h (u :: us) (p :: ps) n := by
  obtain ⟨as1, bs1, r1, d1, o1, m1, k1⟩ := a
  obtain ⟨as2, bs2, r2, d2, o2, m2, k2⟩ := b
  have dd : PyData.depthAll (p :: ps) = max p.depth (PyData.depthAll ps) := by simp only [PyData.depthAll]
  have le1 : p.depth ≤ PyData.depthAll (p :: ps) := by omega
  have le2 : PyData.depthAll ps ≤ PyData.depthAll (p :: ps) := by omega
  refine ⟨as1 ++ as2, bs1 ++ bs2, .cons r1 r2, by omega, ?_, (m1.mono le1).append (m2.mono le2), ?_⟩
  · intro q hq
    rcases List.mem_cons.mp hq with rfl | hq
    · exact o1
    · exact o2 q hq
  · rw [PyData.shownAll_cons]
    exact .cons ((k1.more fun z hz => List.mem_append_left _ hz).level_le le1) (ReprAllK.more_le (fun z hz => List.mem_append_right _ hz) le2 k2)
section
variable {X : Cx} {K : PySem.W.Frag} {mg : Str → Option Value}
end
end FB

/-! text <= text. -/
namespace FB
open PySem PySem.Spec L2
open PyProof.Rows hiding St
section
variable {X : Cx} {K : PySem.W.Frag} {mg : Str → Option Value}
end
end FB

/-! Walks while an exception is handled. -/
namespace FB
open PySem PySem.Spec L2
open PyProof.Rows hiding St
open HotX L2H

section
variable {prog : Program} {w : World} {A : Around} {E : Value → Shared → Prop} {s : Shared}
theorem hot_keep {x1 : Addr} {h h' : Heap} (hot : HotAt A x1 h) (k : ∀ o, h.get? x1 = some o → h'.get? x1 = some o) : HotAt A x1 h' :=
  let ⟨hh, o1, vs1, h1, r⟩ := hot
  ⟨hh, o1, vs1, k _ h1, r⟩
end
end FB

/-! Loops over lists, tuples, texts while an exception is handled. -/
namespace FB
open PySem PySem.Spec L2
open PyProof.Rows hiding St
open HotX L2H

section
variable {P : Program} {w : World} {K : PySem.W.Frag} {tg : Expr}
end
section
variable {X : Cx} {tg : Expr} {K : PySem.W.Frag} {mg : Str → Option Value} {P : List Nat}
end
end FB

/-! A list comprehension while an exception is handled. -/
namespace FB
open PySem PySem.Spec L2
open PyProof.Rows hiding St
open HotX L2H

/-- a comprehension's block that knows of the handled exception -/
abbrev blkH (X : Cx) (s : Shared) (H : Hp) (scope : Scope) (ce : PySem.Env) (fp : List Addr) : Cx := { X.blk s H scope ce fp with pn := X.pn }
section
variable {X : Cx}
end
end FB

/-! dict() of a list of pairs while an exception is handled. -/
namespace FB
open PySem PySem.Spec L2
open PyProof.Rows hiding St
open HotX L2H
section
variable {prog : Program} {w : World} {A : Around} {E : Value → Shared → Prop} {s : Shared}
structure Apart (x1 S I l : Addr) : Prop where
  xS : x1 ≠ S
  xI : x1 ≠ I
  lI : l ≠ I
  SI : S ≠ I
  Sl : S ≠ l
theorem Fill.next {x1 S I l : Addr} {items : Array Value} {i : Nat} {acc rest : List (Key × Value)} {q : Key × Value} {h h1 h2 : Heap} (p : Apart x1 S I l) (f : Fill prog w A x1 S I l items i acc (q :: rest) h) (k1 : Heap.SameBut I h h1) (k2 : Heap.SameBut S h1 h2)
    (i1 : h1.IsListIter I l (i + 1)) (d2 : h2.DictOf (mixKind prog w) S (stored acc q.1 q.2)) : Fill prog w A x1 S I l items (i + 1) (stored acc q.1 q.2) rest h2 where
  hot := hot_keep f.hot fun o e => k2.extBut _ o p.xS (k1.extBut _ o p.xI e)
  it := i1.at fun o e => k2.extBut I o p.SI.symm e
  lst := (f.lst.extBut k1.extBut p.lI).extBut k2.extBut p.Sl.symm
  dct := d2
  prs := fun j z e => by
    obtain ⟨b, u, e1, nS, nI, t, k⟩ := f.prs (j + 1) z (by simpa using e)
    exact ⟨b, u, by rw [show i + 1 + j = i + (j + 1) by omega]; exact e1, nS, nI, (t.extBut k1.extBut nI).extBut k2.extBut nS, k⟩
end
end FB

/-! Calls of defs within an except suite. -/
namespace FB
open PySem PySem.Spec L2
open PyProof.Rows hiding St
open HotX L2H
section
variable {X : Cx}
end
end FB

/-! Defs called within an except suite: statements, displays, calls. -/
namespace FB
open PySem PySem.Spec L2
open PyProof.Rows hiding St
open HotX L2H
/-- what the plain rules ask of a context, in a suite or not -/
structure CxN (X : Cx) : Prop where
  units : X.A.units + 65 < cLine
  nd : X.N.Nodup
section
variable {X : Cx} {K : PySem.W.Frag} {mg : Str → Option Value} {P : List Nat} {Rl : L2.St → L2.St → Prop}
theorem CxN.blk {s : Shared} {H : Hp} {sc : Scope} {e : PySem.Env} {fp : List Addr} (ok : CxN X) : CxN (blkH X s H sc e fp) := ⟨ok.units, ok.nd⟩
end
section
variable {P : Program} {w : World} {K : PySem.W.Frag} {mg : Str → Option Value} {base : Heap}
end
section
variable {X : Cx}
end
end FB

/-! e.m(..) where what makes e's thing may raise. -/
namespace FB
open PySem PySem.Spec L2
open PyProof.Rows hiding St

section
variable {X : Cx} {W : WX}
end
variable {ρ : Env}
end FB

/-! d.get(k), d a dict just made. -/
namespace FB
open PySem PySem.Spec L2
open PyProof.Rows hiding St

section
variable {X : Cx}
end
variable {ρ : Env}
end FB

/-! a text .index(text), where it is found. -/
namespace FB
open PySem PySem.Spec L2
open PyProof.Rows hiding St
section
variable {X : Cx}
end
end FB

/-! Several except clauses, some with a name. -/
namespace FB
open PySem PySem.Spec L2
open PyProof.Rows hiding St
section
variable {X : Cx} {pins : List (Addr × Obj)} {B : Heap} {a : Addr} {cls : Value} {d : Option Addr} {σ : L2.St} {H : Hp} {sI s : Shared}
def wHd (K : PySem.W.Frag) (c : Cla) (Wout : WX) (D : Ends) : WX := match c.2.1 with
  | some i => wAs K c.1 i c.2.2 Wout D
  | none => fun cls d σ H => ∃ b, PySem.W.exmOne K cls c.1 = some b ∧ (b = true → ∀ a, H a = none → c.2.2 a cls d D σ H) ∧ (b = false → Wout cls d σ H)
def wHds (K : PySem.W.Frag) (Wout : WX) (D : Ends) : List Cla → WX
  | [] => Wout
  | c :: r => wHd K c (wHds K Wout D r) D
theorem Cgt.now (C : Cgt X pins B a cls d σ H sI s) : Inv X pins σ H s := C.inv.landed C.nb C.fl.1 C.up C.os C.ag
theorem Cgt.apart (C : Cgt X pins B a cls d σ H sI s) (hf : X.env.frame = some X.env.locals) : a ≠ X.env.locals ∧ a ∉ X.fs := by
  obtain ⟨oe, vs, he, _, hd⟩ := C.fl.there
  have no : a ∉ frs (X.env :: X.outer) := fun hm => by
    obtain ⟨_, o', e', hnf⟩ := C.fl.2.2.1.mem hm
    rw [he] at e'
    cases e'
    exact hnf _ hd
  refine ⟨fun z => no (List.mem_filterMap.mpr ⟨X.env, List.mem_cons_self, by rw [hf, z]⟩), fun hm => ?_⟩
  obtain ⟨e, h1, h2⟩ := List.mem_filterMap.mp hm
  exact no (List.mem_filterMap.mpr ⟨e, List.mem_cons_of_mem _ h1, h2⟩)
/-- a clause is asked -/
theorem Cgt.ask (C : Cgt X pins B a cls d σ H sI s) (hf : X.env.frame = some X.env.locals) {x : Str} {c : Value} {np pos : Pos} {nm : Option Str} {body : List Stmt} {hds : List ExceptHandler} {b : Bool} {Q : Flow → Shared → Prop} {E : Value → Shared → Prop}
    (hc : Names X x c) (hb : PySem.W.exmOne X.K cls c = some b)
    (yes : b = true → codeAny (model X.prog X.w) (X.A.mark (some (.ref a))) (.handlers (.ref a) [.ExceptHandler none nm body pos] X.env) (fun r s₂ => match r with
      | .ok f => (match nm with
        | none => Q f s₂
        | some n => wpAny (model X.prog X.w) X.A (do bindName X.env n .none; unbindBehindTheSuite X.env n pos) (fun _ s₃ => Q f s₃) E s₂)
      | .error y => cameBackBy (model X.prog X.w) X.A X.env E y s₂) s)
    (no : b = false → wpAny (model X.prog X.w) X.A (handleBy (.ref a) X.env hds) Q E s) :
    wpAny (model X.prog X.w) X.A (handleBy (.ref a) X.env (.ExceptHandler (some (.Name x np)) nm body pos :: hds)) Q E s := by
  obtain ⟨nL, nF⟩ := C.apart hf
  obtain ⟨oe, vs, he, hz, hd⟩ := C.fl.there
  have S := C.now.suite he hd C.na nL nF
  refine wpAny_handleBy_cons (codeAny_handlers_test ?_) (by intro q; cases q)
  have L : PySem.W.Looks (model X.prog X.w) s.heap (typeOf (.ref a)) cls := fun A Q E s k q => wpAny_typeOf_ref (k _ _ he) (by rw [hz.1]; exact q)
  have M := PySem.W.exm_one (M := model X.prog X.w) C.now.kIn L hb
  have name : ∀ {Q : Value → Shared → Prop} {E : Value → Shared → Prop}, Q c s → wpAny (model X.prog X.w) (X.A.mark (some (.ref a))) (eval (.Name x np) X.env) Q E s := fun {Q E} q => by
    obtain ⟨g, db, m | ⟨m, v, n⟩⟩ := hc
    · exact ld_glob (X := X.suite a ((a, oe) :: (X.pn ++ pins))) S g m q db
    · exact ld_blt (X := X.suite a ((a, oe) :: (X.pn ++ pins))) S g m v q n db
  refine name (M.here ?_)
  cases b with
  | true => exact yes rfl
  | false => exact no rfl
theorem Cgt.again (C : Cgt X pins B a cls d σ H sI s) {M : Model} {A : Around} {Q : Unit → Shared → Prop} {E : Value → Shared → Prop} (h : ∀ h', Cgt X pins B a cls d σ H sI { s with heap := h' } → Q () { s with heap := h' }) : wpAny M A (setFlight (.ref a) none) Q E s :=
  HandSPX.lands_againZ C.fl fun h' fl up => h h' ⟨C.inv, C.nb, C.up.trans up, fl, C.na, C.os, C.ag⟩
theorem Cgt.go {Wout : WX} {D : Ends} (ok : X.Ok) (hs : X.stack = X.env :: X.outer) (hf : X.env.frame = some X.env.locals) (hN : X.N.Nodup) (tk : Takes X Wout) {hds : List ExceptHandler} {l : List Cla} (hk : HdsN X hds l) :
    ∀ {s : Shared}, Cgt X pins B a cls d σ H sI s → wHds X.K Wout D l cls d σ H → wpAny (model X.prog X.w) X.A (handleBy (.ref a) X.env hds) (L2.SP X pins D) X.xe s := by
  induction hk with
  | nil =>
    intro s C w
    refine wpAny_handleBy_nil ?_
    obtain ⟨k1, k2, k3, oe, vs, T, oT, ts', he, hz, hd, h1, hr⟩ := id C.fl
    unfold PySem.passOn
    refine wpAny_bind (wpAny_field he hd h1 ?_)
    rw [if_neg (show ¬ ((Value.ref T == Value.none) = true) from by simp)]
    have out : wpAny (model X.prog X.w) X.A (setFlight (.ref a) X.env.frame) (fun _ s4 => wpAny (model X.prog X.w) X.A (throw (.ref a) : Sem Flow) (L2.SP X pins D) X.xe s4) X.xe s := by
      rw [hf]
      exact HandSPX.setFlight_upZ C.fl fun h4 hh up => wpAny_throw (tk _ _ ⟨a, B, sI, pins, σ, H, cls, d, rfl, C.inv, C.nb, C.up.trans up, .inr (.inr (by rw [hs]; exact hh)), C.na, C.os, C.ag, w⟩)
    first
      | exact wpAny_bind (wpAny_pure (wpAny_bind out))
      | exact wpAny_bind out
  | @plain x c ts b₀ suite np pos hds l hc hsu r ih =>
    intro s C w
    obtain ⟨b, hb, y, n⟩ := w
    refine C.ask hf hc hb (fun e => ?_) (fun e => ih C (n e))
    refine codeAny_handlers_suite (C.again fun h' C' => ?_)
    obtain ⟨nL, nF⟩ := C'.apart hf
    obtain ⟨oe, vs, he, hz, hd⟩ := C'.fl.there
    refine wpAny_mono ((hsu a oe cls d (X.pn ++ pins) hz ⟨_, hd⟩).run [] _ _ H D (C'.now.suite he hd C'.na nL nF) (y e a C'.na)) (fun f s6 hsp => ?_) (fun _ _ z => False.elim z)
    cases f with
    | next =>
      obtain ⟨σ6, H6, S6, q6⟩ := hsp
      exact ⟨_, _, S6.unsuite ok, q6⟩
    | brk =>
      obtain ⟨σ6, H6, S6, q6⟩ := hsp
      exact ⟨_, _, S6.unsuite ok, q6⟩
    | cont =>
      obtain ⟨σ6, H6, S6, q6⟩ := hsp
      exact ⟨_, _, S6.unsuite ok, q6⟩
    | ret u =>
      obtain ⟨v6, σ6, H6, S6, r6, q6⟩ := hsp
      exact ⟨_, _, _, S6.unsuite ok, r6, q6⟩
  | @named x n i c ts b₀ suite np pos hds l hc hi hln hsu r ih =>
    intro s C w
    obtain ⟨b, hb, y, no⟩ := w
    refine C.ask hf hc hb (fun e => ?_) (fun e => ih C (no e))
    refine codeAny_handlers_suite_as (C.again fun h' C' => ?_)
    obtain ⟨nL, nF⟩ := C'.apart hf
    obtain ⟨oe, vs, he, hz, hd⟩ := C'.fl.there
    refine store_ok (X := X.suite a ((a, oe) :: (X.pn ++ pins))) (v := .ref a) (C'.now.suite he hd C'.na nL nF) hN hi (.inl hln) rfl (fun s5 S5 => ?_) (.inr hln)
    refine wpAny_mono ((hsu a oe cls d (X.pn ++ pins) hz ⟨_, hd⟩).run [] s5 _ H _ S5 (y e a C'.na)) (fun f s6 hsp => ?_) (fun _ _ z => False.elim z)
    have gone : ∀ {σ6 : L2.St} {H6 : Hp} {Q : Shared → Prop}, Inv (X.suite a ((a, oe) :: (X.pn ++ pins))) [] σ6 H6 s6 → (∀ s7, Inv X pins (σ6.set i none) H6 s7 → Q s7) →
        wpAny (model X.prog X.w) X.A (do bindName X.env n .none; unbindBehindTheSuite X.env n pos) (fun _ s7 => Q s7) X.xe s6 := fun {σ6 H6 Q} S6 hq => gone_ok (S6.unsuite ok) hN hi hln hq
    cases f with
    | next =>
      obtain ⟨σ6, H6, S6, q6⟩ := hsp
      exact gone S6 fun s7 J7 => ⟨_, _, J7, q6⟩
    | brk =>
      obtain ⟨σ6, H6, S6, q6⟩ := hsp
      exact gone S6 fun s7 J7 => ⟨_, _, J7, q6⟩
    | cont =>
      obtain ⟨σ6, H6, S6, q6⟩ := hsp
      exact gone S6 fun s7 J7 => ⟨_, _, J7, q6⟩
    | ret u =>
      obtain ⟨v6, σ6, H6, S6, r6, q6⟩ := hsp
      exact gone S6 fun s7 J7 => ⟨_, _, _, J7, r6, q6⟩
theorem ps_try_hs {body : List Stmt} {h₀ : ExceptHandler} {hds : List ExceptHandler} {l : List Cla} {pos : Pos} {tb : WX → TS} {Wout : WX} (hs : X.stack = X.env :: X.outer) (hf : X.env.frame = some X.env.locals) (hN : X.N.Nodup) (tk : Takes X Wout)
    (hb : ∀ (W : WX) (pn : List (Addr × Obj)) (xe : Value → Shared → Prop), Takes (X.tr pn xe) W → PassesOwn (model X.prog X.w) X.A X.env xe → PSs (X.tr pn xe) body (tb W))
    (hk : HdsN X (h₀ :: hds) l) : PS X (.Try body (h₀ :: hds) [] [] pos) (fun D σ H => tb (wHds X.K Wout D l) D σ H) := by
  refine ⟨fun pins s σ H D I h => ?_⟩
  have ok := I.ok
  have hfr : X.A.frames = some (X.env :: X.outer) := by rw [ok.frames, hs]
  refine wpAny_Try_except ?_
  refine wpAny_mono ((hb (wHds X.K Wout D l) (X.pn ++ pins) (fun e s₁ => wpAny (model X.prog X.w) X.A (noteFrame e X.env) (fun _ s₂ => wpAny (model X.prog X.w) X.A (setFlight e none) (fun _ s₃ =>
    wpAny (model X.prog X.w) X.A (handleBy e X.env (h₀ :: hds)) (L2.SP X pins D) X.xe s₃) X.xe s₂) X.xe s₁) (fun u s' xx => ?_) PassesOwn.looking).run [] s σ H D (I.toTry _) h) (fun f s1 hsp => ?_) (fun e s1 he => he)
  · obtain ⟨a, B, sI, pins', σ', H', cls, d, rfl, J', nb, up, sky, na, os, ag, w⟩ := xx
    have sky' : Sky B (X.env :: X.outer) a (Zc cls d) X.env.locals s'.heap := by rw [← hs]; exact sky
    exact Sky.land Zc.steady hfr hf sky' fun h3 fl3 up3 => Cgt.go ok hs hf hN tk hk ⟨J'.ofTry ok, nb, up.trans up3, fl3, na, os, ag⟩ w
  · cases f with
    | next =>
      obtain ⟨σ', H', J', q⟩ := hsp
      exact wpAny_execs_nil ⟨σ', H', J'.ofTry ok, q⟩
    | brk =>
      obtain ⟨σ', H', J', q⟩ := hsp
      exact ⟨σ', H', J'.ofTry ok, q⟩
    | cont =>
      obtain ⟨σ', H', J', q⟩ := hsp
      exact ⟨σ', H', J'.ofTry ok, q⟩
    | ret u =>
      obtain ⟨v, σ', H', J', r, q⟩ := hsp
      exact ⟨v, σ', H', J'.ofTry ok, r, q⟩
end
end FB

/-! Several except clauses: the layer's rule. -/
namespace FB
open PySem PySem.Spec L2
open PyProof.Rows hiding St
section
variable {X : Cx} {P : List Nat} {W : WX}
def clzR (oi : Option Nat) (s : Exn → M Fl) (x : Exn) (ρ1 : Env) : Res Fl := match oi with
  | some i => if i < ρ1.length then (match s x (ρ1.set i none) with
    | .ok f ρ2 => if i < ρ2.length then .ok f (ρ2.set i none) else .no
    | _ => .no) else .no
  | none => (match s x ρ1 with
    | .ok f ρ2 => .ok f ρ2
    | _ => .no)
def hdR (es : List Str) : List Clz → Exn → Env → Res Fl
  | [], x, ρ1 => .exc x ρ1
  | c :: r, x, ρ1 => match subX es x.c c.1 with
    | some true => clzR c.2.1 c.2.2 x ρ1
    | some false => hdR es r x ρ1
    | none => .no
def hdK (es : List Str) (cs : List Clz) : Res Fl → Res Fl
  | .exc x ρ1 => hdR es cs x ρ1
  | .ok f ρ1 => .ok f ρ1
  | .no => .no
def mTryM (es : List Str) (cs : List Clz) (b : M Fl) : M Fl := fun ρ => hdK es cs (b ρ)
theorem ClsOk.hds {es : List Str} (E : ExAll X.K X.mg es) {hds : List ExceptHandler} {cs : List Clz} {l : List Cla} (h : ClsOk X P es hds cs l) : HdsN X hds l := by
  induction h with
  | nil => exact .nil
  | plain hg hy hdy hsu r ih => exact .plain ⟨hg, hdy, .inl (E.gl _ hy)⟩ (fun a oe cls d pn hz hfl => hsu a ((a, oe) :: pn)) ih
  | named hg hy hdy hi hln hP hsu r ih =>
    refine .named ⟨hg, hdy, .inl (E.gl _ hy)⟩ hi hln (fun a oe cls d pn hz hfl => ⟨fun pins s1 σ H D J w => ?_⟩) ih
    obtain ⟨x, I, h1, h2, w⟩ := w
    exact (hsu a oe cls d pn x I ⟨h1, h2, hz, hfl⟩).run pins s1 σ H D J w
theorem sub_em {es : List Str} (E : ExAll X.K X.mg es) {x : Exn} {y : Str} {cls : Value} (hm : X.mg x.c = some cls) {bb : Bool} (e : subX es x.c y = some bb) : PySem.W.exmOne X.K cls (.ref (He.ga X.K y)) = some bb := by
  unfold subX at e
  split at e
  · rename_i hx
    cases e
    have e2 := E.gl x.c hx.1
    rw [hm] at e2
    injection e2 with e2
    rw [e2]
    exact E.em x.c hx.1 y hx.2
  · cases e
theorem hdR_wish {es : List Str} (E : ExAll X.K X.mg es) {hds : List ExceptHandler} {cs : List Clz} {l : List Cla} (hk : ClsOk X P es hds cs l) {T : List Item} {D : Ends} {σ σ' : L2.St} {ρ1 : Env} {x : Exn} {cls : Value} {d : Option Addr} {I : List Item} {H' : Hp}
    (f' : Fix P σ σ') (c' : Cov σ' ρ1) (hm : X.mg x.c = some cls) (hI : ExI x d I) (R' : Rep X.K X.mg H' (I ++ (pairs σ' ρ1 ++ T)) []) :
    PostX X.K X.mg P T W D σ (hdR es cs x ρ1) → wHds X.K W D l cls d σ' H' := by
  induction hk with
  | nil =>
    intro h
    have h : ExP X.K X.mg P T W σ x ρ1 := h
    exact h cls d I σ' H' f' c' hm hI R'
  | @plain y s b₀ suite np pos hds cs l hg hy hdy hsu r ih =>
    intro h
    have h : PostX X.K X.mg P T W D σ (match subX es x.c y with
      | some true => clzR none (fun _ => s) x ρ1
      | some false => hdR es cs x ρ1
      | none => .no) := h
    cases e2 : subX es x.c y with
    | none => rw [e2] at h; exact h.elim
    | some bb =>
      rw [e2] at h
      refine ⟨bb, sub_em E hm e2, fun hbb a ha => ?_, fun hbb => ?_⟩
      · subst hbb
        have h : PostX X.K X.mg P T W D σ (match s ρ1 with | .ok f ρ2 => .ok f ρ2 | _ => .no) := h
        cases e3 : s ρ1 with
        | no => rw [e3] at h; exact h.elim
        | exc x2 ρ2 => rw [e3] at h; exact h.elim
        | ok fl ρ2 =>
          rw [e3] at h
          have h : Post X.K X.mg P T D σ (.ok fl ρ2) := h
          refine tS_iff.mpr ⟨ρ1, T, c', R'.drops, ?_⟩
          rw [e3]
          cases fl with
          | nx => exact fun σ2 H2 g c2 R2 => h _ H2 (f'.trans g) c2 R2
          | brk => exact fun σ2 H2 g c2 R2 => h _ H2 (f'.trans g) c2 R2
          | ct => exact fun σ2 H2 g c2 R2 => h _ H2 (f'.trans g) c2 R2
          | ret o => exact fun v σ2 H2 g c2 R2 => h v _ H2 (f'.trans g) c2 R2
      · subst hbb
        exact ih h
  | @named y n i s b₀ suite np pos hds cs l hg hy hdy hi hln hP hsu r ih =>
    intro h
    have h : PostX X.K X.mg P T W D σ (match subX es x.c y with
      | some true => clzR (some i) s x ρ1
      | some false => hdR es cs x ρ1
      | none => .no) := h
    cases e2 : subX es x.c y with
    | none => rw [e2] at h; exact h.elim
    | some bb =>
      rw [e2] at h
      refine ⟨bb, sub_em E hm e2, fun hbb a ha => ?_, fun hbb => ?_⟩
      · subst hbb
        have h : PostX X.K X.mg P T W D σ (if i < ρ1.length then (match s x (ρ1.set i none) with
          | .ok f ρ2 => if i < ρ2.length then .ok f (ρ2.set i none) else .no
          | _ => .no) else .no) := h
        split at h
        · rename_i hil
          have hi' : i < σ'.length := by rw [c'.len]; exact hil
          refine ⟨x, I, hm, hI, ρ1.set i none, I ++ T, ?_, ⟨by simp [hi'], T, List.Perm.refl _⟩, ?_, ?_⟩
          · exact ⟨by simp [c'.len], fun j q hj => by
              by_cases e : i = j
              · subst e; simp [hil] at hj
              · rw [List.getElem?_set_ne e] at hj ⊢
                exact c'.ex j q hj⟩
          · have R2 := Rep.slotDrop (M := I) c' i R'
            rw [pairs_clear hil]
            exact R2.perm (rot _ _ _)
          · cases e3 : s x (ρ1.set i none) with
            | no => rw [e3] at h; exact h.elim
            | exc x2 ρ2 => rw [e3] at h; exact h.elim
            | ok fl ρ2 =>
              rw [e3] at h
              have h : PostX X.K X.mg P T W D σ (if i < ρ2.length then .ok fl (ρ2.set i none) else .no) := h
              split at h
              · rename_i hil2
                have fx : ∀ {σ2 : L2.St}, Fix (i :: P) (σ'.set i (some (.ref a))) σ2 → Fix P σ (σ2.set i none) := fun {σ2} g => by
                  refine ⟨by rw [List.length_set, g.1, List.length_set, f'.1], fun j hj => ?_⟩
                  have hne : i ≠ j := fun e => hP (by rw [e]; exact hj)
                  rw [List.getElem?_set_ne hne, g.2 j (List.mem_cons_of_mem _ hj), List.getElem?_set_ne hne, f'.2 j hj]
                have h : Post X.K X.mg P T D σ (.ok fl (ρ2.set i none)) := h
                cases fl with
                | nx => exact fun σ2 H2 g c2 R2 => h _ H2 (fx g) (c2.clear i) (Rep.unheld (M := []) c2 hil2 R2)
                | brk => exact fun σ2 H2 g c2 R2 => h _ H2 (fx g) (c2.clear i) (Rep.unheld (M := []) c2 hil2 R2)
                | ct => exact fun σ2 H2 g c2 R2 => h _ H2 (fx g) (c2.clear i) (Rep.unheld (M := []) c2 hil2 R2)
                | ret o => exact fun v σ2 H2 g c2 R2 => h v _ H2 (fx g) (c2.clear i) (Rep.unheld (M := [.ov v o]) c2 hil2 R2)
              · exact h.elim
        · exact h.elim
      · subst hbb
        exact ih h
theorem ssX_tryM {body : List Stmt} {h₀ : ExceptHandler} {hds : List ExceptHandler} {cs : List Clz} {l : List Cla} {pos : Pos} {b : M Fl} {es : List Str} (ok : CxOk X) (E : ExAll X.K X.mg es) (hs : X.stack = X.env :: X.outer) (hf : X.env.frame = some X.env.locals) (tk : Takes X W)
    (hb : ∀ (W : WX) (pn : List (Addr × Obj)) (xe : Value → Shared → Prop), Takes (X.tr pn xe) W → PassesOwn (model X.prog X.w) X.A X.env xe → SSsX (X.tr pn xe) P W body b)
    (hk : ClsOk X P es (h₀ :: hds) cs l) : SSX X P W (.Try body (h₀ :: hds) [] [] pos) (mTryM es cs b) := by
  refine PS.imp (ps_try_hs (X := X) (body := body) (pos := pos) (tb := fun W => tSX X.K X.mg P W b) hs hf ok.nd tk hb (hk.hds E)) fun D σ H w => ?_
  obtain ⟨ρ, T, c, R, h⟩ := w
  refine ⟨ρ, T, c, R, ?_⟩
  have h : PostX X.K X.mg P T W D σ (hdK es cs (b ρ)) := h
  cases e1 : b ρ with
  | no => rw [e1] at h; exact h.elim
  | ok f ρ1 => rw [e1] at h; exact h
  | exc x ρ1 =>
    rw [e1] at h
    exact fun cls d I σ' H' f' c' hm hI R' => hdR_wish E hk f' c' hm hI R' h
end
variable {ρ : Env}
@[simp] theorem e_mTryM (es : List Str) (cs : List Clz) (b : M Fl) : mTryM es cs b ρ = hdK es cs (b ρ) := (rfl)
@[simp] theorem e_hdKo (es : List Str) (cs : List Clz) (f : Fl) : hdK es cs (.ok f ρ) = .ok f ρ := (rfl)
@[simp] theorem e_hdKx (es : List Str) (cs : List Clz) (x : Exn) : hdK es cs (.exc x ρ) = hdR es cs x ρ := (rfl)
end FB

/-! Dicts of the module (text keys, tuples of texts as values): .get; f-strings with calls; .replace behind a docstring. -/
namespace FB
open PySem PySem.Spec L2
open PyProof.Rows hiding St

/-! ### a dict of the module -/
/-! the head's hook with such dicts -/
abbrev AlW : Type := He.AlD × List (Option (List (Option (Str × Int))))
def obsW (px : List (PySem.W.Frag → Bool)) (fa : List He.Fa) (fn : List He.DefD) (ts : List (Str × List Str)) (K : PySem.W.Frag) : AlW := (obsP px fa fn K, ts.map fun t => He.dicW K (He.ga K t.1))
def valW (fn : List He.DefD) (ts : List (Str × List Str)) (w : World) : AlW := (He.valD fn, ts.map fun t => some (He.keysIn w.params t.2))
def SaysW (px : List (PySem.W.Frag → Bool)) (fa : List He.Fa) (fn : List He.DefD) (ts : List (Str × List Str)) (w : World) (K : PySem.W.Frag) : Prop := obsW px fa fn ts K = valW fn ts w
/-! the run's equation, look by look -/
section
variable {px : List (PySem.W.Frag → Bool)} {fa : List He.Fa} {fn : List He.DefD} {ts : List (Str × List Str)} {w : World} {K : PySem.W.Frag}
theorem SaysW.p (c : SaysW px fa fn ts w K) : SaysP px fa fn K := congrArg (fun z : AlW => z.1) c
end
section
variable {X : Cx} {K : PySem.W.Frag} {mg : Str → Option Value}
end
variable {ρ : Env}
/-! ### f-strings of what may be called -/
section
variable {X : Cx} {K : PySem.W.Frag} {mg : Str → Option Value}
end
end FB

/-! text.replace of written texts, where a token is out: behind a docstring. A def under another name. -/
namespace FB
open PySem PySem.Spec L2
open PyProof.Rows hiding St
section
variable {X : Cx} {K : PySem.W.Frag} {mg : Str → Option Value} {P : List Nat} {W : WX}
end
section
variable {P : Program} {w : World} {K : PySem.W.Frag} {mg : Str → Option Value} {base : Heap}
end
end FB

/-! Raising methods of fields; raising calls among a def's arguments, under a type's call. -/
namespace FB
open PySem PySem.Spec L2
open PyProof.Rows hiding St
section
variable {X : Cx} {K : PySem.W.Frag} {mg : Str → Option Value} {W : WX}
/-! ### f(e), f(a, e): e may raise -/
/-! ### name.f.m(..), m may raise -/
end
section
variable {X : Cx} {W : WX}
end
end FB

/-! x in t, t a tuple whose items are tuples or None. -/
namespace FB
open PySem PySem.Spec L2
open PyProof.Rows hiding St
section
variable {X : Cx} {K : PySem.W.Frag} {mg : Str → Option Value}
end
end FB

/-! a text .join(a tuple of texts). -/
namespace FB
open PySem PySem.Spec L2
open PyProof.Rows hiding St
section
variable {X : Cx}
end
variable {ρ : Env}
end FB

/-! what a name holds, walked: a list or a tuple. -/
namespace FB
open PySem PySem.Spec L2
open PyProof.Rows hiding St
section
variable {X : Cx}
end
end FB

/-! zip of a list and a text. -/
namespace MZS
open PySem PySem.Sem MZ
section
variable {prog : Program} {w : World} {A : Around} {E : Value → Shared → Prop} {s : Shared}
variable {z TI TO i j l m : Addr} {k n : Nat} {xs : Array Value} {ty : String} {tx : Str} {tk : Tok} {ch : Nat} {x a b : Value}
end
/-! ### it is made -/
abbrev n1 (h : Heap) (l : Addr) : Heap := h.push { cls := .type "list_iterator", data := .fields #[.ref l, .int 0 0] }
abbrev n2 (h : Heap) (l : Addr) (x : Str) (t : Tok) : Heap := (n1 h l).push { cls := .type (strIterType x), data := .fields #[.str x t, .int 0 0] }
abbrev n3 (h : Heap) (l : Addr) (x : Str) (t : Tok) : Heap := (n2 h l x t).push { cls := .type "tuple", data := .seq #[.ref h.objs.size, .ref (n1 h l).objs.size] }
end MZS
namespace MZS
open PySem PySem.Spec L2 MZ
open PyProof.Rows hiding St
end MZS
namespace FB
open PySem PySem.Spec L2
open PyProof.Rows hiding St
section
variable {X : Cx} {K : PySem.W.Frag} {mg : Str → Option Value}
end
end FB

/-! Exceptions as values: made, asked for their kind, read. -/
namespace FB
open PySem PySem.Spec L2
open PyProof.Rows hiding St
section
variable {X : Cx} {K : PySem.W.Frag} {mg : Str → Option Value}
theorem exf_ok {P : Program} {w : World} {H : Hp} {h : Heap} {a : Addr} {cls : Value} {d : Option Addr} {oe : Obj} {vs : Array Value} (e : h.get? a = some oe) (z : Zc cls d oe) (hd : oe.data = .fields vs) : ObjOk P w H h a (ExF cls d a) :=
  ⟨⟨oe, vs, e, z, hd⟩, ⟨oe, e⟩, fun _ _ ⟨o, v, q, r⟩ k => ⟨o, v, k o q, r⟩⟩
theorem exf_at {P : Program} {w : World} {H : Hp} {h : Heap} {a : Addr} {cls : Value} {d : Option Addr} (hok : HOk P w H h) (e : H a = some (ExF cls d a)) : ∃ (oe : Obj) (vs : Array Value), h.get? a = some oe ∧ Zc cls d oe ∧ oe.data = .fields vs := by
  obtain ⟨z, _, _⟩ := hok a _ e
  exact z
/-- what makes an exception gives it as a value -/
theorem pe_exv {e : Expr} {t : L2.St → Hp → XK → Prop} (h : PMk X e t) : PE X e (fun σ H Q => t σ H fun cls d H' => ∀ a, H' a = none → Q (.ref a) (upd H' a (ExF cls d a))) := by
  refine ⟨fun pins s σ H Q I w => ?_⟩
  refine wpAny_mono (h pins s σ H _ I w) (fun u s1 hu => ?_) fun _ _ x => x
  obtain ⟨a, oe, vs, sI, H', cls, d, rfl, J, k, hne, ha, hz, hd, h1, na, os, ag, r, q⟩ := hu
  have J1 := J.laidN (t' := s1.toks) (h' := s1.heap) k hne na (exf_ok (P := X.prog) (w := X.w) (H := upd H' a (ExF cls d a)) ha hz hd)
  exact ⟨.ref a, _, ⟨J1.ok, os.trans J.os, ag, J1.base, J1.loc, J1.cell, J1.free, J1.freeC, J1.pin, J1.hok, J1.len⟩, rfl, q a na⟩
theorem Rep.newX {H : Hp} {L : List Item} {a dx C : Addr} {fs : List (Str × V)} {c : Str} {ns : List Str} {vs : List V} {ds : List D} (h : Rep K mg H (.raw dx (.xd fs) :: (zipI vs (ds.map O.val) ++ L)) []) (e : vs.length = ds.length) (hv : fs.map (·.2) = vs) (hn : fs.map (·.1) = ns) (hm : mg c = some (.ref C)) (na : H a = none) :
    Rep K mg (upd H a (ExF (.ref C) (some dx) a)) (.ov (.ref a) (.val (.exc c ns ds)) :: L) [] := by
  have h1 := h.new (o := ExF (.ref C) (some dx) a) na
  obtain ⟨A, nd, ok, hb⟩ := h1
  cases ok with
  | cons q1 t =>
    cases q1 with
    | raw q1 =>
      cases t with
      | cons q2 t =>
        cases q2 with
        | raw q2 =>
          obtain ⟨bs, cs, e2, t1, t2⟩ := t.split
          subst e2
          obtain ⟨q, e3⟩ := VOs.of_vals (IsOk.unzip (by simpa using e) t1)
          subst e3
          have s : Same (hide (upd H a (ExF (.ref C) (some dx) a)) ([a] ++ ([dx] ++ ([] ++ cs)))) (hide (upd H a (ExF (.ref C) (some dx) a)) cs) := hide_same fun x o hx q => ⟨fun z => hx (by simp [z]), q⟩
          have n1 := List.nodup_cons.mp nd
          have n2 := List.nodup_cons.mp n1.2
          have ha : a ∉ cs := fun z => n1.1 (by simp [z])
          have hd : dx ∉ cs := fun z => n2.1 (by simp [z])
          refine ⟨cs, n2.2, .cons (as := []) (.ov (.val (.exc (C := C) (dx := dx) (fs := fs) ?_ ?_ hm hn (by rw [hv]; exact q.mono s)))) (t2.mono s fun _ _ => rfl), fun _ z => by simp at z⟩
          · rw [hide_out ha]; exact q1
          · rw [hide_out hd]; exact q2
theorem Rep.newX0 {H : Hp} {L : List Item} {a C : Addr} {c : Str} (h : Rep K mg H L []) (hm : mg c = some (.ref C)) (na : H a = none) : Rep K mg (upd H a (ExF (.ref C) none a)) (.ov (.ref a) (.val (.exc c [] [])) :: L) [] := by
  have h1 := h.new (o := ExF (.ref C) none a) na
  obtain ⟨A, nd, ok, hb⟩ := h1
  cases ok with
  | cons q1 t =>
    rename_i as cs
    cases q1 with
    | raw q1 =>
      have s : Same (hide (upd H a (ExF (.ref C) none a)) ([a] ++ cs)) (hide (upd H a (ExF (.ref C) none a)) cs) := hide_same fun x o hx q => ⟨fun z => hx (by simp [z]), q⟩
      have n1 := List.nodup_cons.mp nd
      refine ⟨cs, n1.2, .cons (as := []) (.ov (.val (.exn (C := C) ?_ hm))) (t.mono s fun _ _ => rfl), fun _ z => by simp at z⟩
      have ha : a ∉ cs := n1.1
      rw [hide_out ha]; exact q1
/-! made -/
def evK (c : Str) (fs : List Str) : Res (List O) → Res O
  | .ok os ρ => if os.length = fs.length ∧ 0 < fs.length ∧ os.length ≤ 1000 then .ok (.val (.exc c fs.reverse (O.toDs os).reverse)) ρ else .no
  | .exc x ρ => .exc x ρ
  | .no => .no
def mExcF (c : Str) (fs : List Str) (m : M (List O)) : M O := fun ρ => evK c fs (m ρ)
theorem se_excF {c : Str} {fs : List Str} {e : Expr} {es : List Expr} {m : M (List O)} {p pos : Pos} {j : Nat} (mk : MkX X.prog X.w X.K X.mg X.base c fs) (hr : Room j X.A) (hk : 2 ≤ j) (hg : Gl X c) (ha : SEs X (e :: es) m)
    (hdb : (c == ("__debug__" : Str)) = false := by decide) (he : starEach (e :: es) X.env = (false, eval e X.env) :: starEach es X.env := by rfl) (hpl : (backTo pos (starEach es X.env)).any (·.1) = false := by rfl) :
    SE X (.Call (.Name c p) (e :: es) [] pos) (mExcF c fs m) := by
  obtain ⟨fd, ps, F, bi⟩ := mk.ex
  have pm := pmk_oex (X := X) (p := p) (pos := pos) (dvs := []) (ds := []) mk.ow.ox mk.ow.ic mk.ow.ti F (hr.mono hk) bi .nil C8.pass0 hg mk.ow.mg ha hdb he hpl
  refine PE.imp (pe_exv pm) fun σ H Q w => ?_
  obtain ⟨ρ, T, o, ρ', cv, R, e0, k⟩ := w
  unfold mExcF at e0
  cases e1 : m ρ with
  | exc x ρ1 => rw [e1] at e0; cases e0
  | no => rw [e1] at e0; cases e0
  | ok os ρ1 =>
    rw [e1] at e0
    have e0 : (if os.length = fs.length ∧ 0 < fs.length ∧ os.length ≤ 1000 then Res.ok (O.val (.exc c fs.reverse (O.toDs os).reverse)) ρ1 else .no) = .ok o ρ' := e0
    split at e0
    · rename_i hl
      obtain ⟨hl1, hl2, hl3⟩ := hl
      cases e0
      refine ⟨ρ, T, os, _, cv, R, e1, fun vs H1 c1 hv R1 => ⟨by omega, fun a ha1 => ?_⟩⟩
      refine ⟨a, vs ++ [], rfl, by simp; omega, upd_same, fun d H2 hd1 hda h1 h2 h3 => ⟨rfl, d, _, h1, h2, ?_, ?_⟩⟩
      · rw [upd_ne hda] at hd1
        exact hd1
      · have hd : H1 d = none := by rw [upd_ne hda] at hd1; exact hd1
        have eH : upd (del H2 a) d (.xd (fs.zip (vs ++ [])).reverse) = upd H1 d (.xd (fs.zip (vs ++ [])).reverse) := by
          funext b
          by_cases hb : b = d
          · rw [hb, upd_same, upd_same]
          · rw [upd_ne hb, upd_ne hb]
            by_cases hba : b = a
            · rw [hba, del_same, ha1]
            · rw [del_ne hba, h3 b hba hb, upd_ne hba]
        rw [eH]
        have td : (O.toDs os).length = os.length := toDs_len os
        have R2 := (R1.frzs).new (o := .xd (fs.zip (vs ++ [])).reverse) hd
        rw [List.append_nil] at R2 ⊢
        have ez : (fs.zip vs).reverse = fs.reverse.zip vs.reverse := by
          rw [List.zip_eq_zipWith, List.zip_eq_zipWith, List.reverse_zipWith]
          omega
        have R3 : Rep X.K X.mg (upd H1 d (.xd (fs.zip vs).reverse)) (.raw d (.xd (fs.zip vs).reverse) :: (zipI vs.reverse ((O.toDs os).reverse.map O.val) ++ (pairs σ ρ' ++ T))) [] := R2.perm (by
          refine List.Perm.cons _ (List.Perm.append_right _ ?_)
          have : zipI vs.reverse ((O.toDs os).reverse.map O.val) = (zipI vs ((O.toDs os).map O.val)).reverse := by
            unfold zipI
            rw [List.map_reverse, List.reverse_zipWith]
            simp; omega
          rw [this]
          exact (List.reverse_perm _).symm)
        intro a2 ha2
        refine k _ _ c1 (Rep.newX (vs := vs.reverse) R3 (by simp; omega) ?_ ?_ mk.ow.mg ha2)
        · rw [ez, List.map_snd_zip]; simp; omega
        · rw [ez, List.map_fst_zip]; simp; omega
    · cases e0
def ev0K (c : Str) : Res (List O) → Res O
  | .ok os ρ => if os.length ≤ 1000 then .ok (.val (.exc c [] [])) ρ else .no
  | .exc x ρ => .exc x ρ
  | .no => .no
def mExc0 (c : Str) (m : M (List O)) : M O := fun ρ => ev0K c (m ρ)
theorem pmk_a {x : Str} {p pos : Pos} {C : Addr} {e : Expr} {es : List Expr} {t : TA} (q : PySem.W.excIn X.K C He.veBase "ValueError.__new__" = true ∧ PySem.W.keepIn X.K (.ref C) = true ∧ PySem.W.subIn X.K (.ref C) (.type "BaseException") = some true ∧ PySem.W.typeIn X.K (.ref C) = some (.type "type")) (gC : X.mg x = some (.ref C)) (hg : Gl X x) (ha : PA X (e :: es) t)
    (hdb : (x == ("__debug__" : Str)) = false := by decide) (he : starEach (e :: es) X.env = (false, eval e X.env) :: starEach es X.env := by rfl) (hpl : (backTo pos (starEach es X.env)).any (·.1) = false := by rfl) :
    PMk X (.Call (.Name x p) (e :: es) [] pos) (fun σ H Q => t σ H fun vs H1 => vs.length ≤ sizeLine ∧ Q (.ref C) none H1) := pmk_ownA F.excBase_ValueError q.1 gC q.2.1 (raises_own q.2.2.1 q.2.2.2) hg ha hdb he hpl
theorem se_exc0 {c : Str} {e : Expr} {es : List Expr} {m : M (List O)} {p pos : Pos} {C : Addr} (q : PySem.W.excIn X.K C He.veBase "ValueError.__new__" = true ∧ PySem.W.keepIn X.K (.ref C) = true ∧ PySem.W.subIn X.K (.ref C) (.type "BaseException") = some true ∧ PySem.W.typeIn X.K (.ref C) = some (.type "type")) (gC : X.mg c = some (.ref C)) (hg : Gl X c) (ha : SEs X (e :: es) m)
    (hdb : (c == ("__debug__" : Str)) = false := by decide) (he : starEach (e :: es) X.env = (false, eval e X.env) :: starEach es X.env := by rfl) (hpl : (backTo pos (starEach es X.env)).any (·.1) = false := by rfl) :
    SE X (.Call (.Name c p) (e :: es) [] pos) (mExc0 c m) := by
  refine PE.imp (pe_exv (pmk_a q gC hg ha hdb he hpl)) fun σ H Q w => ?_
  obtain ⟨ρ, T, o, ρ', cv, R, e0, k⟩ := w
  unfold mExc0 at e0
  cases e1 : m ρ with
  | exc x ρ1 => rw [e1] at e0; cases e0
  | no => rw [e1] at e0; cases e0
  | ok os ρ1 =>
    rw [e1] at e0
    have e0 : (if os.length ≤ 1000 then Res.ok (O.val (.exc c [] [])) ρ1 else .no) = .ok o ρ' := e0
    split at e0
    · rename_i hl
      cases e0
      refine ⟨ρ, T, os, _, cv, R, e1, fun vs H1 c1 hv R1 => ⟨by rw [sizeLine_eq]; omega, fun a2 ha2 => ?_⟩⟩
      exact k _ _ c1 (Rep.newX0 R1.drops gC ha2)
    · cases e0
/-- raise C(e), C without own __init__ -/
def rvAK (c : Str) : Res (List O) → Res Fl
  | .ok os ρ => if os.length ≤ 1000 then .exc ⟨c, [], []⟩ ρ else .no
  | _ => .no
def mRaiseA (c : Str) (m : M (List O)) : M Fl := fun ρ => rvAK c (m ρ)
theorem ssX_raiseA {P : List Nat} {W : WX} {c : Str} {e : Expr} {es : List Expr} {m : M (List O)} {p pos pos' : Pos} {C : Addr} (ok : CxOk X) (tk : Takes X W) (q : PySem.W.excIn X.K C He.veBase "ValueError.__new__" = true ∧ PySem.W.keepIn X.K (.ref C) = true ∧ PySem.W.subIn X.K (.ref C) (.type "BaseException") = some true ∧ PySem.W.typeIn X.K (.ref C) = some (.type "type")) (gC : X.mg c = some (.ref C)) (hg : Gl X c) (ha : SEs X (e :: es) m)
    (hdb : (c == ("__debug__" : Str)) = false := by decide) (he : starEach (e :: es) X.env = (false, eval e X.env) :: starEach es X.env := by rfl) (hpl : (backTo pos (starEach es X.env)).any (·.1) = false := by rfl) :
    SSX X P W (.Raise (some (.Call (.Name c p) (e :: es) [] pos)) none pos') (mRaiseA c m) := by
  refine PS.imp (ps_raise ok.calm tk (pmk_a q gC hg ha hdb he hpl)) fun D σ H w => ?_
  obtain ⟨ρ, T, cv, R, h⟩ := w
  unfold mRaiseA at h
  cases e1 : m ρ with
  | exc x ρ1 => rw [e1] at h; exact h.elim
  | no => rw [e1] at h; exact h.elim
  | ok os ρ1 =>
    rw [e1] at h
    have h : PostX X.K X.mg P T W D σ (if os.length ≤ 1000 then .exc ⟨c, [], []⟩ ρ1 else .no) := h
    split at h
    · rename_i hl
      have h : ExP X.K X.mg P T W σ ⟨c, [], []⟩ ρ1 := h
      refine ⟨ρ, T, os, ρ1, cv, R, e1, fun vs H1 c1 hv R1 => ⟨by rw [sizeLine_eq]; omega, ?_⟩⟩
      exact h (.ref C) none [] σ _ (Fix.refl _ _) c1 gC (.inl ⟨rfl, rfl, rfl⟩) R1.drops
    · exact h.elim
/-! asked for its kind -/
def rIsF (K : PySem.W.Frag) : List V → Hp → VK → Prop := fun xs H Q => ∃ (D a : Addr) (d : Option Addr) (c : V) (cv : Value) (b : Bool), ExcC K D ∧ xs = [.ref a, c] ∧ H a = some (ExF (.ref D) d a) ∧ (∀ dd, d = some dd → ∃ fs, H dd = some (.xd fs)) ∧ (∀ u, RelV c u → u = cv) ∧ PySem.W.kitOne K (.ref D) cv = some b ∧ Q (.bl b) H
theorem call_isF : CallR X (.builtin "isinstance") (rIsF X.K) := by
  intro pins s σ H xs us Q I r h
  obtain ⟨D, a, d, c, cv, b, C, rfl, ha, hdd, hcv, e, q⟩ := h
  obtain ⟨u1, u2, rfl, r1, r2⟩ := vals2 r
  cases (show u1 = Value.ref a from r1)
  have ec := hcv _ r2
  subst ec
  obtain ⟨oe, vs, hget, hz, hv⟩ := exf_at I.hok ha
  have hI : ∃ od, PySem.W.InstAt s.heap a oe D od := by
    cases d with
    | none =>
      refine ⟨none, ?_⟩
      obtain ⟨oc, od, oda, osl⟩ := oe
      obtain ⟨h1, h2⟩ := hz
      dsimp only at h1 h2 hv
      subst h1 h2 hv
      exact ⟨hget, rfl, rfl, trivial⟩
    | some dd =>
      obtain ⟨fs, hd⟩ := hdd dd rfl
      obtain ⟨mA, ⟨o, es, ep, ho, _⟩, _⟩ := (show ObjOk _ _ H s.heap dd (.xd fs) from I.hok dd _ hd)
      refine ⟨some o, ?_⟩
      obtain ⟨oc, od, oda, osl⟩ := oe
      obtain ⟨h1, h2⟩ := hz
      dsimp only at h1 h2 hv
      subst h1 h2 hv
      exact ⟨hget, rfl, rfl, ho⟩
  obtain ⟨od, J⟩ := hI
  exact PySem.W.kia_one (PySem.W.kitx_exc (excC_cl C) C.hg C.hk C.hs C.ha C.hn C.ht C.hm) I.kIn J e (fun z => nomatch z) fun tk => ⟨.bl b, H, I.tok tk, rfl, q⟩
def isxO (es : List Str) (y : Str) : O → Option O
  | .val (.exc c _ _) => if c ∈ es then some (.val (.bl (subB c y))) else none
  | _ => none
def isvO (es : List Str) : O → Option O
  | .val (.exc c _ _) => if c ∈ es then some (.val (.bl true)) else none
  | _ => none
theorem excf {es : List Str} (E : ExAll K mg es) {H : Hp} {x : V} {c : Str} {ns : List Str} {ds : List D} (q : Vw K mg H x (.exc c ns ds)) (hc : c ∈ es) : ∃ (a : Addr) (d : Option Addr), x = .ref a ∧ H a = some (ExF (.ref (He.ga K c)) d a) ∧ ∀ dd, d = some dd → ∃ fs, H dd = some (.xd fs) := by
  have e1 := E.gl c hc
  cases q with
  | exc h hd hm hn hs =>
    rw [hm] at e1
    cases e1
    exact ⟨_, _, rfl, h, fun dd z => by cases z; exact ⟨_, hd⟩⟩
  | exn h hm =>
    rw [hm] at e1
    cases e1
    exact ⟨_, _, rfl, h, fun dd z => by cases z⟩
theorem unv_isx {es : List Str} {y : Str} (E : ExAll K mg es) (hy : y ∈ es) : UnV K mg (fun x H Q => rIsF K [x, .ref (He.ga K y)] H Q) (isxO es y) := by
  intro H L B x ox o Q R hx e k
  unfold isxO at e
  split at e
  · rename_i c ns ds
    split at e
    · rename_i hc
      cases e
      obtain ⟨a, d, rfl, h, hd⟩ := excf E (R.view hx) hc
      exact ⟨He.ga K c, a, d, .ref (He.ga K y), .ref (He.ga K y), subB c y, E.cc c hc, rfl, h, hd, fun u r => r, E.kt c hc y hy, k _ _ (Same.refl _) (R.scalB fun _ => .bl _)⟩
    · cases e
  · cases e
theorem unv_isv {es : List Str} (E : ExAll K mg es) : UnV K mg (fun x H Q => rIsF K [x, .ty "ValueError"] H Q) (isvO es) := by
  intro H L B x ox o Q R hx e k
  unfold isvO at e
  split at e
  · rename_i c ns ds
    split at e
    · rename_i hc
      cases e
      obtain ⟨a, d, rfl, h, hd⟩ := excf E (R.view hx) hc
      exact ⟨He.ga K c, a, d, .ty "ValueError", .type "ValueError", true, E.cc c hc, rfl, h, hd, fun u r => r, E.kv c hc, k _ _ (Same.refl _) (R.scalB fun _ => .bl _)⟩
    · cases e
  · cases e
theorem sp_isx {es : List Str} {y : Str} {a : Expr} {f : Pf} {p r pos : Pos} (E : ExAll X.K X.mg es) (hg : Gl X "isinstance") (hm : X.mg "isinstance" = none) (hgy : Gl X y) (ha : SP X a f) (hy : y ∈ es := by decide) (hdy : (y == ("__debug__" : Str)) = false := by decide)
    (he : starEach (a :: [.Name y r]) X.env = (false, eval a X.env) :: starEach [.Name y r] X.env := by rfl) (hpl : (backTo pos (starEach [.Name y r] X.env)).any (·.1) = false := by rfl) :
    SP X (.Call (.Name "isinstance" p) [a, .Name y r] [] pos) (p1 (isxO es y) f) :=
  PE.imp (pe_callB call_isF hg hm (by rfl) (pa_cons ha (pa_cons (pe_glob (v := .ref (He.ga X.K y)) (u := .ref (He.ga X.K y)) hgy (E.gl y hy) rfl hdy) pa_nil) he) (he := he) (hpl := hpl)) (tUn_p (unv_isx E hy))
theorem sp_isv {es : List Str} {a : Expr} {f : Pf} {p r pos : Pos} (E : ExAll X.K X.mg es) (hg : Gl X "isinstance") (hm : X.mg "isinstance" = none) (hgy : Gl X "ValueError") (hmy : X.mg "ValueError" = none) (ha : SP X a f)
    (he : starEach (a :: [.Name "ValueError" r]) X.env = (false, eval a X.env) :: starEach [.Name "ValueError" r] X.env := by rfl) (hpl : (backTo pos (starEach [.Name "ValueError" r] X.env)).any (·.1) = false := by rfl) :
    SP X (.Call (.Name "isinstance" p) [a, .Name "ValueError" r] [] pos) (p1 (isvO es) f) :=
  PE.imp (pe_callB call_isF hg hm (by rfl) (pa_cons ha (pa_cons (pe_bltn (v := .ty "ValueError") (u := .type "ValueError") hgy hmy PyProof.Rows.Boot.«ValueError» rfl) pa_nil) he) (he := he) (hpl := hpl)) (tUn_p (unv_isv E))
/-! its fields -/
def rXf (K : PySem.W.Frag) (f : Str) : V → Hp → VK → Prop := fun x H Q => ∃ (C a dd : Addr) (fs : List (Str × V)) (v : V), x = .ref a ∧ XfC K C ∧ PySem.W.findIn K (.ref C) f = some none ∧ H a = some (ExF (.ref C) (some dd) a) ∧ H dd = some (.xd fs) ∧ fs.lookup f = some v ∧ Q v H
theorem pe_xfv {e : Expr} {te : TE} {pos : Pos} {n : Str} (he : PE X e te) (hb : attributeBase e n X.env (eval e X.env) = eval e X.env := by rfl) : PE X (.Attribute e n pos) (tUn (rXf X.K n) te) := by
  refine ⟨fun pins s σ H Q I h => ?_⟩
  refine attr_of hb (thn (he.run pins s σ H _ I h) fun u s1 hh => ?_)
  obtain ⟨x, H1, I1, rx, C, a, dd, fs, v, ex, T, hno, ha, ea, l, q⟩ := hh
  subst ex
  obtain rfl : u = Value.ref a := rx
  obtain ⟨oe, vs, hget, hz, hd⟩ := exf_at I1.hok ha
  have hx : ObjOk X.prog X.w H1 s1.heap dd (.xd fs) := I1.hok dd _ ea
  obtain ⟨mA, hns, hr⟩ := hx
  obtain ⟨od, ho, hl⟩ := lookIn_ns hns
  obtain ⟨u, hu, ru⟩ := RelO.some_of (v := v) (o := mA n) (by rw [← l]; exact hr n)
  have J : PySem.W.InstAt s1.heap a oe C (some od) := ⟨hget, hz.1, by unfold PySem.W.notCls; rw [hd] <;> rfl, by rw [hz.2]; exact ho⟩
  exact HandSPX.exc_get I1.kIn J T.ga T.gg T.exC (PySem.W.findObj_own T.hdC hno rfl (by rw [hl, hu])) (handed_of ru) ⟨v, H1, I1.tok _, ru, q⟩
def xfO (cs : List Str) (f : Str) : O → Option O
  | .val (.exc c ns ds) => if c ∈ cs then (fidx ns f).bind fun j => (ds[j]?).map O.val else none
  | _ => none
theorem unv_xf {es cs : List Str} {f : Str} (E : ExAll K mg es) (hcs : ∀ c ∈ cs, c ∈ es ∧ PySem.W.findIn K (.ref (He.ga K c)) f = some none) : UnV K mg (rXf K f) (xfO cs f) := by
  intro H L B x ox o Q R hx e k
  unfold xfO at e
  split at e
  · rename_i c ns ds
    split at e
    · rename_i hc
      have hes := (hcs c hc).1
      have C := E.cc c hes
      have e1 := E.gl c hes
      have XF : XfC K (He.ga K c) := ⟨C.hg, C.hk, C.hs, C.hd⟩
      obtain ⟨A, nd, ok, hb⟩ := R
      obtain ⟨as, h1, h2⟩ := hb _ hx
      cases h1 with
      | val q =>
        cases q with
        | exc h hd hm hn hs =>
          rename_i a C' dx fs
          rw [hm] at e1
          cases e1
          subst hn
          cases ej : fidx (fs.map (·.1)) f with
          | none => rw [ej] at e; cases e
          | some j =>
            rw [ej] at e
            have e : (ds[j]?).map O.val = some o := e
            obtain ⟨v, l1, l2⟩ := fidx_look ej
            cases ed : ds[j]? with
            | none => rw [ed] at e; cases e
            | some dj =>
              rw [ed] at e
              cases e
              obtain ⟨v', l3, vw⟩ := hs.get ed
              rw [l2] at l3
              cases l3
              refine ⟨He.ga K c, a, dx, fs, v, rfl, XF, (hcs c hc).2, (hide_some h).2, (hide_some hd).2, l1, k v H (Same.refl _) ⟨A, nd, ok, fun b hb' => ?_⟩⟩
              rcases List.mem_cons.mp hb' with q | q
              · subst q
                exact ⟨[], .val vw, fun _ z => by simp at z⟩
              · exact hb b q
        | exn h hm =>
          cases ej : fidx ([] : List Str) f with
          | none => rw [ej] at e; cases e
          | some j => cases ej
    · cases e
  · cases e
theorem sp_xf {es cs : List Str} {f : Str} {e : Expr} {g : Pf} {pos : Pos} (E : ExAll X.K X.mg es) (hcs : ∀ c ∈ cs, c ∈ es ∧ PySem.W.findIn X.K (.ref (He.ga X.K c)) f = some none) (he : SP X e g) (hb : attributeBase e f X.env (eval e X.env) = eval e X.env := by rfl) : SP X (.Attribute e f pos) (p1 (xfO cs f) g) :=
  PE.imp (pe_xfv he hb) (tUn_p (unv_xf E hcs))
@[simp] theorem e_mExcF {ρ : Env} (c : Str) (fs : List Str) (m : M (List O)) : mExcF c fs m ρ = evK c fs (m ρ) := (rfl)
@[simp] theorem e_mExc0 {ρ : Env} (c : Str) (m : M (List O)) : mExc0 c m ρ = ev0K c (m ρ) := (rfl)
end
end FB

namespace Wk
open PySem PySem.Spec L2 FB
open PyProof.Rows hiding St
noncomputable def b__law_stream : M Fl := mRet (mLst (mCons (mP (p1 listO (pSl (pVar 0) pNone (pInt (pC (.int 63)))))) (mCons (mP (pC (.int 0))) (mCons (mP (pC (.int 20011))) (mNil)))))
abbrev E__law_stream (v_script : Option O := none) : FB.Env := [v_script]
noncomputable def F__law_stream : FSem := runF 1 1 [] b__law_stream
theorem sc__law_stream : FnScope ["_law_script"] ["_law_script"] (C8.fnScope s__law_stream) := C8.fnScope_by (by decide +kernel)
noncomputable def t1__law_take : M Bool := mAnd (mB (mP (p2 (eqO) (p2 ixO (pVar 0) (pC (.int 1))) (pC (.int 0))))) (mB (mP (p2 (neO) (p2 ixO (pVar 0) (pC (.int 0))) (pLst (pNil)))))
noncomputable def b1__law_take : M Fl := mSeq (mSetP 2 (mP (p2 ixO (p2 ixO (pVar 0) (pC (.int 0))) (pC (.int 0))))) (mSeq (mSetIt 0 (mP (pC (.int 0))) (mP (pSl (p2 ixO (pVar 0) (pC (.int 0))) (pInt (pC (.int 1))) pNone))) (mSeq (mSetIt 0 (mP (pC (.int 2))) (mP (p2 (lift2 modD) (p2 (lift2 addD) (p2 (lift2 mulD) (p2 ixO (pVar 0) (pC (.int 2))) (pC (.int 1000003))) (pVar 2)) (pC (.int 2305843009213693951))))) (mIf (mB (mP (p2 (lift2 geD) (pVar 2) (p2 (lift2 powD) (pC (.int 10)) (pC (.int 18)))))) (mSetIt 0 (mP (pC (.int 1))) (mP (pVar 2))) (mSkip))))
noncomputable def b__law_take : M Fl := mSeq (mWhile (fun _ => fuel) t1__law_take b1__law_take) (mSeq (mIf (mB (mP (p2 (lift2 gtD) (p2 ixO (pVar 0) (pC (.int 1))) (pC (.int 0))))) (mSeq (mSetP 3 (mP (p2 (lift2 modD) (p2 ixO (pVar 0) (pC (.int 1))) (pVar 1)))) (mSeq (mSetIt 0 (mP (pC (.int 1))) (mP (p2 (lift2 fdivD) (p2 ixO (pVar 0) (pC (.int 1))) (pVar 1)))) (mRet (mP (pVar 3))))) (mSkip)) (mSeq (mSetIt 0 (mP (pC (.int 2))) (mP (p2 (lift2 modD) (p2 (lift2 addD) (p2 (lift2 mulD) (p2 ixO (pVar 0) (pC (.int 2))) (pC (.int 636413622384679300))) (pC (.int 1442695040888963407))) (pC (.int 2305843009213693951))))) (mRet (mP (p2 (lift2 modD) (p2 (lift2 fdivD) (p2 (lift2 addD) (p2 (lift2 modD) (p2 (lift2 mulD) (p2 (lift2 fdivD) (p2 ixO (pVar 0) (pC (.int 2))) (pC (.int 1048576))) (pC (.int 48271))) (pC (.int 2147483647))) (p2 (lift2 modD) (p2 ixO (pVar 0) (pC (.int 2))) (pC (.int 2147483629)))) (pC (.int 3))) (pVar 1))))))
abbrev E__law_take (v_stream_here v_many v_cell v_found : Option O := none) : FB.Env := [v_stream_here, v_many, v_cell, v_found]
noncomputable def F__law_take : FSem := runF 2 4 [0] b__law_take
theorem sc__law_take : FnScope ["_law_stream_here", "_law_many", "_law_cell", "_law_found"] ["_law_stream_here", "_law_many"] (C8.fnScope s__law_take) := C8.fnScope_by (by decide +kernel)
noncomputable def q1__law_word : M O := mComp (mR1 (mCall F__law_take [.io 0, .v (mP (pC (.int 9)))])) (own2 [("_law_k", 2)]) (aN 2) (mTrue) (m2 ixO (mP (pVar 1)) (mCall F__law_take [.io 0, .v (mP (pC (.int 26)))]))
noncomputable def b__law_word : M Fl := mSeq (mSetP 1 (mP (pC (.str "abcdefghijklmnopqrstuvwxyz")))) (mRet (mJoin "" (q1__law_word)))
abbrev E__law_word (v_stream_here v_letters v_k : Option O := none) : FB.Env := [v_stream_here, v_letters, v_k]
noncomputable def F__law_word : FSem := runF 1 3 [0] b__law_word
theorem sc__law_word : FnScope ["_law_stream_here", "_law_letters", "_law_k"] ["_law_stream_here"] (C8.fnScope s__law_word) := C8.fnScope_by (by decide +kernel)
noncomputable def b__law_kinds : M Fl := mSeq (mSetP 1 (mLst (mCons (mP (p1 (isxO es "NoBoard") (pVar 0))) (mCons (mP (p1 (isxO es "NoText") (pVar 0))) (mCons (mP (p1 (isxO es "NoEvent") (pVar 0))) (mCons (mP (p1 (isxO es "Loud") (pVar 0))) (mNil))))))) (mSeq (mSetP 1 (mP (p2 (lift2 addD) (pVar 1) (pLst (pCons (p1 (isxO es "Blind") (pVar 0)) (pCons (p1 (isxO es "NoPlace") (pVar 0)) (pCons (p1 (isxO es "NoDeed") (pVar 0)) (pNil)))))))) (mRet (mP (p2 (lift2 addD) (pVar 1) (pLst (pCons (p1 (isxO es "NoTurn") (pVar 0)) (pCons (p1 (isxO es "NoRow") (pVar 0)) (pNil))))))))
abbrev E__law_kinds (v_one v_found : Option O := none) : FB.Env := [v_one, v_found]
noncomputable def F__law_kinds : FSem := runF 1 2 [] b__law_kinds
theorem sc__law_kinds : FnScope ["_law_one", "_law_found"] ["_law_one"] (C8.fnScope s__law_kinds) := C8.fnScope_by (by decide +kernel)
noncomputable def b1__law_caught : M Fl := mSeq (mIf (nx (mB (mP (p2 (eqO) (pVar 0) (pC (.int 0)))))) (mRaiseF "NoText" ["line"] (mCons (mP (pVar 2)) (mNil))) (mSkip)) (mSeq (mIf (nx (mB (mP (p2 (eqO) (pVar 0) (pC (.int 1)))))) (mRaiseF "Loud" ["guard"] (mCons (mP (pVar 1)) (mNil))) (mSkip)) (mRaiseA "NoTurn" (mCons (mP (pVar 1)) (mNil))))
noncomputable def u1__law_caught : Exn → M Fl := fun x => mSetP 3 (mTup (mCons (mP (pC (.int 2))) (mCons (mIs es "NoTurn" x) (mNil))))
noncomputable def u2__law_caught : Exn → M Fl := fun x => mSetP 3 (mTup (mCons (mP (pC (.int 1))) (mCons (mXf ["Loud"] "guard" x) (mNil))))
noncomputable def u3__law_caught : Exn → M Fl := fun x => mSetP 3 (mTup (mCons (mP (pC (.int 0))) (mCons (mXf ["NoText"] "line" x) (mNil))))
noncomputable def b__law_caught : M Fl := mSeq (mSetP 3 (mP (pC (.int 0)))) (mSeq (nx (mTryM es [("NoText", some 4, u3__law_caught), ("Loud", some 4, u2__law_caught), ("BoardError", some 4, u1__law_caught)] b1__law_caught)) (mRet (mP (pVar 3))))
abbrev E__law_caught (v_way v_word_here v_number v_found v_e : Option O := none) : FB.Env := [v_way, v_word_here, v_number, v_found, v_e]
noncomputable def F__law_caught : FSem := runF 3 5 [] b__law_caught
theorem sc__law_caught : FnScope ["_law_way", "_law_word_here", "_law_number", "_law_found", "e"] ["_law_way", "_law_word_here", "_law_number"] (C8.fnScope s__law_caught) := C8.fnScope_by (by decide +kernel)
noncomputable def q1_law : M O := mComp (mR1 (mP (pC (.int 9)))) (own2 [("_law_j", 12)]) (aN 12) (mTrue) (mP (p2 (eqO) (pVar 12) (pVar 10)))
noncomputable def b1_law : M Fl := mSeq (mIf (mOr (mNot (mB (mP (p1 (isxO es "BoardError") (p2 ixO (pVar 9) (pVar 10)))))) (mNot (mB (mP (p1 (isvO es) (p2 ixO (pVar 9) (pVar 10))))))) (mRet (mP (pC (.bl false)))) (mSkip)) (mIf (mB (m2 (neO) (mCall F__law_kinds [.v (mP (p2 ixO (pVar 9) (pVar 10)))]) (q1_law))) (mRet (mP (pC (.bl false)))) (mSkip))
noncomputable def q2_law : M O := mComp (mR1 (mP (pC (.int 3)))) (own2 [("_law_way", 11)]) (aN 11) (mTrue) (mCall F__law_caught [.v (mP (pVar 11)), .v (mP (pVar 3)), .v (mP (pVar 5))])
noncomputable def b2_law : M Fl := mSeq (mSetP 3 (mCall F__law_word [.io 1])) (mSeq (mSetP 4 (mCall F__law_word [.io 1])) (mSeq (mSetP 5 (m2 ixO (mLst (mCons (mP (pC (.int 0))) (mCons (mCall F__law_take [.io 1, .v (mP (pC (.int 9)))]) (mCons (mCall F__law_take [.io 1, .v (mP (p2 (lift2 powD) (pC (.int 10)) (pC (.int 60))))]) (mNil))))) (mCall F__law_take [.io 1, .v (mP (pC (.int 3)))]))) (mSeq (mSetP 6 (mCall F__law_take [.io 1, .v (mP (p2 (lift2 powD) (pC (.int 10)) (pC (.int 60))))])) (mSeq (mSetP 7 (mExcF "NoBoard" ["word", "number"] (mCons (mP (pVar 3)) (mCons (mP (pVar 5)) (mNil))))) (mSeq (mSetP 8 (mExcF "Blind" ["lower", "upper", "greatness"] (mCons (mP (pVar 4)) (mCons (mP (pVar 3)) (mCons (mP (pVar 6)) (mNil)))))) (mSeq (mSetO 9 (mLst (mCons (mP (pVar 7)) (mCons (mExcF "NoText" ["line"] (mCons (mP (pVar 5)) (mNil))) (mCons (mExcF "NoEvent" ["number"] (mCons (mP (pVar 6)) (mNil))) (mCons (mExcF "Loud" ["guard"] (mCons (mP (pVar 4)) (mNil))) (mCons (mP (pVar 8)) (mCons (mExc0 "NoPlace" (mCons (mP (pVar 3)) (mNil))) (mCons (mExc0 "NoDeed" (mCons (mP (pVar 3)) (mNil))) (mCons (mExc0 "NoTurn" (mCons (mP (pVar 4)) (mNil))) (mNil))))))))))) (mSeq (mEx (mAppend 9 (mExc0 "NoRow" (mCons (mP (pVar 3)) (mNil))))) (mSeq (mFor (mR1 (mP (pC (.int 9)))) (aN 10) b1_law) (mSeq (mIf (mB (mP (p2 (neO) (pTup (pCons (p1 (xfO ["NoBoard"] "word") (pVar 7)) (pCons (p1 (xfO ["NoBoard", "NoEvent"] "number") (pVar 7)) (pCons (p1 (xfO ["Blind"] "lower") (pVar 8)) (pCons (p1 (xfO ["Blind"] "upper") (pVar 8)) (pCons (p1 (xfO ["Blind"] "greatness") (pVar 8)) (pNil))))))) (pTup (pCons (pVar 3) (pCons (pVar 5) (pCons (pVar 4) (pCons (pVar 3) (pCons (pVar 6) (pNil)))))))))) (mRet (mP (pC (.bl false)))) (mSkip)) (mSeq (mIf (mB (mP (p2 (neO) (pTup (pCons (p1 (xfO ["NoText"] "line") (p2 ixO (pVar 9) (pC (.int 1)))) (pCons (p1 (xfO ["NoBoard", "NoEvent"] "number") (p2 ixO (pVar 9) (pC (.int 2)))) (pCons (p1 (xfO ["Loud"] "guard") (p2 ixO (pVar 9) (pC (.int 3)))) (pNil))))) (pTup (pCons (pVar 5) (pCons (pVar 6) (pCons (pVar 4) (pNil)))))))) (mRet (mP (pC (.bl false)))) (mSkip)) (mIf (mB (m2 (neO) (q2_law) (mLst (mCons (mP (pTup (pCons (pC (.int 0)) (pCons (pVar 5) (pNil))))) (mCons (mP (pTup (pCons (pC (.int 1)) (pCons (pVar 3) (pNil))))) (mCons (mP (pTup (pCons (pC (.int 2)) (pCons (pC (.bl true)) (pNil))))) (mNil))))))) (mRet (mP (pC (.bl false)))) (mSkip))))))))))))
noncomputable def b_law : M Fl := mSeq (mSetO 1 (mCall F__law_stream [.v (mP (pVar 0))])) (mSeq (mFor (mR1 (mP (p2 (lift2 addD) (pC (.int 1)) (p1 lenO (pSl (pVar 0) pNone (pInt (pC (.int 63)))))))) (aN 2) b2_law) (mRet (mP (pC (.bl true)))))
abbrev E_law (v_script v_stream_here v_turn v_word_here v_name v_number v_more v_board v_unseen v_some v_k v_way v_j : Option O := none) : FB.Env := [v_script, v_stream_here, v_turn, v_word_here, v_name, v_number, v_more, v_board, v_unseen, v_some, v_k, v_way, v_j]
noncomputable def F_law : FSem := runF 1 13 [] b_law
theorem sc_law : FnScope ["_law_script", "_law_stream_here", "_law_turn", "_law_word_here", "_law_name", "_law_number", "_law_more", "_law_board", "_law_unseen", "_law_some", "_law_k", "_law_way", "_law_j"] ["_law_script"] (C8.fnScope s_law) := C8.fnScope_by (by decide +kernel)
theorem sc_Blind___init__ : FnScope ["self", "lower", "upper", "greatness"] ["self", "lower", "upper", "greatness"] (C8.fnScope s_Blind___init__) := C8.fnScope_by (by decide +kernel)
theorem sc_Loud___init__ : FnScope ["self", "guard"] ["self", "guard"] (C8.fnScope s_Loud___init__) := C8.fnScope_by (by decide +kernel)
theorem sc_NoBoard___init__ : FnScope ["self", "word", "number"] ["self", "word", "number"] (C8.fnScope s_NoBoard___init__) := C8.fnScope_by (by decide +kernel)
theorem sc_NoEvent___init__ : FnScope ["self", "number"] ["self", "number"] (C8.fnScope s_NoEvent___init__) := C8.fnScope_by (by decide +kernel)
theorem sc_NoText___init__ : FnScope ["self", "line"] ["self", "line"] (C8.fnScope s_NoText___init__) := C8.fnScope_by (by decide +kernel)
section
variable {P : Program} {w : World} {K : PySem.W.Frag} {mg : Str → Option Value} {base : Heap}
theorem x_Blind {fd : FuncData} (ow : OwnInit K mg "Blind" ["lower", "upper", "greatness"]) (bs : BaseC K mg "BoardError") (F : C8.Fun K "__init__" "Blind.__init__" s_Blind___init__ (He.ma K (He.ga K "Blind") "__init__") fd) (bi : Binds K fd ["self", "lower", "upper", "greatness"] []) : MkX P w K mg base "Blind" ["lower", "upper", "greatness"] :=
  mkX_of ow F bi sc_Blind___init__ rfl fun cdv A outer s H vs Q E h =>
    init3 (X := (cxOf C8.CX0 P w K mg base ["self", "lower", "upper", "greatness"] "Blind.__init__" (C8.fnScope s_Blind___init__) (He.ma K (He.ga K "Blind") "__init__") cdv A outer s H E).nox) (ps_expr (pe_beinit bs rfl (pa_cons (pe_var (i := 0) rfl (Or.inl rfl)) (pa_cons pe_str pa_nil)))) (fun _ _ _ q => q _) (ps_ost (pe_var (i := 0) rfl (Or.inl rfl)) (pe_var (i := 1) rfl (Or.inl rfl))) (ps_ost (pe_var (i := 0) rfl (Or.inl rfl)) (pe_var (i := 2) rfl (Or.inl rfl))) (ps_ost (pe_var (i := 0) rfl (Or.inl rfl)) (pe_var (i := 3) rfl (Or.inl rfl))) ow.ox (ow.no "lower" (by simp)) (ow.no "upper" (by simp)) (ow.no "greatness" (by simp)) h
theorem x_Loud {fd : FuncData} (ow : OwnInit K mg "Loud" ["guard"]) (bs : BaseC K mg "BoardError") (F : C8.Fun K "__init__" "Loud.__init__" s_Loud___init__ (He.ma K (He.ga K "Loud") "__init__") fd) (bi : Binds K fd ["self", "guard"] []) : MkX P w K mg base "Loud" ["guard"] :=
  mkX_of ow F bi sc_Loud___init__ rfl fun cdv A outer s H vs Q E h =>
    init1 (X := (cxOf C8.CX0 P w K mg base ["self", "guard"] "Loud.__init__" (C8.fnScope s_Loud___init__) (He.ma K (He.ga K "Loud") "__init__") cdv A outer s H E).nox) (ps_expr (pe_beinit bs rfl (pa_cons (pe_var (i := 0) rfl (Or.inl rfl)) (pa_cons pe_str pa_nil)))) (fun _ _ _ q => q _) (ps_ost (pe_var (i := 0) rfl (Or.inl rfl)) (pe_var (i := 1) rfl (Or.inl rfl))) ow.ox (ow.no "guard" (by simp)) (by decide) h
theorem x_NoBoard {fd : FuncData} (ow : OwnInit K mg "NoBoard" ["word", "number"]) (bs : BaseC K mg "BoardError") (F : C8.Fun K "__init__" "NoBoard.__init__" s_NoBoard___init__ (He.ma K (He.ga K "NoBoard") "__init__") fd) (bi : Binds K fd ["self", "word", "number"] []) : MkX P w K mg base "NoBoard" ["word", "number"] :=
  mkX_of ow F bi sc_NoBoard___init__ rfl fun cdv A outer s H vs Q E h =>
    init2 (X := (cxOf C8.CX0 P w K mg base ["self", "word", "number"] "NoBoard.__init__" (C8.fnScope s_NoBoard___init__) (He.ma K (He.ga K "NoBoard") "__init__") cdv A outer s H E).nox) (ps_expr (pe_beinit bs rfl (pa_cons (pe_var (i := 0) rfl (Or.inl rfl)) (pa_cons pe_str pa_nil)))) (fun _ _ _ q => q _) (ps_ost (pe_var (i := 0) rfl (Or.inl rfl)) (pe_var (i := 1) rfl (Or.inl rfl))) (ps_ost (pe_var (i := 0) rfl (Or.inl rfl)) (pe_var (i := 2) rfl (Or.inl rfl))) ow.ox (ow.no "word" (by simp)) (ow.no "number" (by simp)) h
theorem x_NoEvent {fd : FuncData} (ow : OwnInit K mg "NoEvent" ["number"]) (bs : BaseC K mg "BoardError") (F : C8.Fun K "__init__" "NoEvent.__init__" s_NoEvent___init__ (He.ma K (He.ga K "NoEvent") "__init__") fd) (bi : Binds K fd ["self", "number"] []) : MkX P w K mg base "NoEvent" ["number"] :=
  mkX_of ow F bi sc_NoEvent___init__ rfl fun cdv A outer s H vs Q E h =>
    init1 (X := (cxOf C8.CX0 P w K mg base ["self", "number"] "NoEvent.__init__" (C8.fnScope s_NoEvent___init__) (He.ma K (He.ga K "NoEvent") "__init__") cdv A outer s H E).nox) (ps_expr (pe_beinit bs rfl (pa_cons (pe_var (i := 0) rfl (Or.inl rfl)) (pa_cons pe_str pa_nil)))) (fun _ _ _ q => q _) (ps_ost (pe_var (i := 0) rfl (Or.inl rfl)) (pe_var (i := 1) rfl (Or.inl rfl))) ow.ox (ow.no "number" (by simp)) (by decide) h
theorem x_NoText {fd : FuncData} (ow : OwnInit K mg "NoText" ["line"]) (bs : BaseC K mg "BoardError") (F : C8.Fun K "__init__" "NoText.__init__" s_NoText___init__ (He.ma K (He.ga K "NoText") "__init__") fd) (bi : Binds K fd ["self", "line"] []) : MkX P w K mg base "NoText" ["line"] :=
  mkX_of ow F bi sc_NoText___init__ rfl fun cdv A outer s H vs Q E h =>
    init1 (X := (cxOf C8.CX0 P w K mg base ["self", "line"] "NoText.__init__" (C8.fnScope s_NoText___init__) (He.ma K (He.ga K "NoText") "__init__") cdv A outer s H E).nox) (ps_expr (pe_beinit bs rfl (pa_cons (pe_var (i := 0) rfl (Or.inl rfl)) (pa_cons pe_str pa_nil)))) (fun _ _ _ q => q _) (ps_ost (pe_var (i := 0) rfl (Or.inl rfl)) (pe_var (i := 1) rfl (Or.inl rfl))) ow.ox (ow.no "line" (by simp)) (by decide) h
theorem c__law_stream {f : Addr} {fd : FuncData} (F : C8.Def K mg "_law_stream" s__law_stream f fd) (bi : Binds K fd ["_law_script"] []) (Z : Fr K mg)   : C8.Cal P w K mg base 1 "_law_stream" (spF K mg 1 F__law_stream) [] :=
  cal_sem F bi sc__law_stream rfl rfl (by decide) fun cdv A outer s H E hr => by
    have ok := bodyOk (P := P) (w := w) (K := K) (mg := mg) (base := base) (qual := "_law_stream") (cdv := cdv) (A := A) (outer := outer) (s := s) (H := H) (E := E) sc__law_stream hr
    exact (sss_one (ss_ret (se_lst (ses_cons (se_p (sp_t1 call_list_of unv_list rfl Z.n_list (by rfl) (sp_sl (sp_var 0) spo_none (spo_some sp_int)))) (ses_cons (se_p sp_int) (ses_cons (se_p sp_int) ses_nil))))))
theorem c__law_take {f : Addr} {fd : FuncData} (F : C8.Def K mg "_law_take" s__law_take f fd) (bi : Binds K fd ["_law_stream_here", "_law_many"] []) (Z : Fr K mg)   : C8.Cal P w K mg base 1 "_law_take" (spF K mg 2 F__law_take) [] :=
  cal_sem F bi sc__law_take rfl rfl (by decide) fun cdv A outer s H E hr => by
    have ok := bodyOk (P := P) (w := w) (K := K) (mg := mg) (base := base) (qual := "_law_take") (cdv := cdv) (A := A) (outer := outer) (s := s) (H := H) (E := E) sc__law_take hr
    exact (sss_cons (ss_while (fun _ => fuel) .never (sew_t (sew_and (set_cmpP (op_eqD ok.u64) opv_eq (sp_ix ix_seq opv_ix (sp_var 0) sp_int) sp_int rfl) (sew_and1 (set_cmpP (op_neD ok.u64) opv_ne (sp_ix ix_seq opv_ix (sp_var 0) sp_int) (sp_lst sps_nil) rfl)))) (sss_cons (ss_setP 2 ok rfl (by first | exact Or.inl rfl | exact Or.inr rfl) (se_p (sp_ix ix_seq opv_ix (sp_ix ix_seq opv_ix (sp_var 0) sp_int) sp_int))) (sss_cons (ss_setIt 0 ok (se_p sp_int) (se_p (sp_sl (sp_ix ix_seq opv_ix (sp_var 0) sp_int) (spo_some sp_int) spo_none))) (sss_cons (ss_setIt 0 ok (se_p sp_int) (se_p (sp_bin op_mod opv_mod (sp_bin op_addF opv_add (sp_bin op_mulF opv_mul (sp_ix ix_seq opv_ix (sp_var 0) sp_int) sp_int) (sp_var 2)) sp_int))) (sss_one (ss_if (set_cmpP op_ge opv_ge (sp_var 2) (sp_bin op_pow opv_pow sp_int sp_int) rfl) (sss_one (ss_setIt 0 ok (se_p sp_int) (se_p (sp_var 2)))) sss_nil)))))) (sss_cons (ss_if (set_cmpP op_gt opv_gt (sp_ix ix_seq opv_ix (sp_var 0) sp_int) sp_int rfl) (sss_cons (ss_setP 3 ok rfl (by first | exact Or.inl rfl | exact Or.inr rfl) (se_p (sp_bin op_mod opv_mod (sp_ix ix_seq opv_ix (sp_var 0) sp_int) (sp_var 1)))) (sss_cons (ss_setIt 0 ok (se_p sp_int) (se_p (sp_bin op_fdivW opv_fdiv (sp_ix ix_seq opv_ix (sp_var 0) sp_int) (sp_var 1)))) (sss_one (ss_ret (se_p (sp_var 3)))))) sss_nil) (sss_cons (ss_setIt 0 ok (se_p sp_int) (se_p (sp_bin op_mod opv_mod (sp_bin op_addF opv_add (sp_bin op_mulF opv_mul (sp_ix ix_seq opv_ix (sp_var 0) sp_int) sp_int) sp_int) sp_int))) (sss_one (ss_ret (se_p (sp_bin op_mod opv_mod (sp_bin op_fdivW opv_fdiv (sp_bin op_addF opv_add (sp_bin op_mod opv_mod (sp_bin op_mulF opv_mul (sp_bin op_fdivW opv_fdiv (sp_ix ix_seq opv_ix (sp_var 0) sp_int) sp_int) sp_int) sp_int) (sp_bin op_mod opv_mod (sp_ix ix_seq opv_ix (sp_var 0) sp_int) sp_int)) sp_int) (sp_var 1))))))))
theorem c__law_word {f : Addr} {fd : FuncData} (F : C8.Def K mg "_law_word" s__law_word f fd) (bi : Binds K fd ["_law_stream_here"] []) (Z : Fr K mg)  (c__law_take : C8.Cal P w K mg base 1 "_law_take" (spF K mg 2 F__law_take) []) : C8.Cal P w K mg base 2 "_law_word" (spF K mg 1 F__law_word) [] :=
  cal_sem F bi sc__law_word rfl rfl (by decide) fun cdv A outer s H E hr => by
    have ok := bodyOk (P := P) (w := w) (K := K) (mg := mg) (base := base) (qual := "_law_word") (cdv := cdv) (A := A) (outer := outer) (s := s) (H := H) (E := E) sc__law_word hr
    exact (sss_cons (ss_setP 1 ok rfl (by first | exact Or.inl rfl | exact Or.inr rfl) (se_p sp_str)) (sss_one (ss_ret (se_join (se_comp ok (si_range1 rfl Z.n_range (se_call c__law_take hr (by decide) rfl (sas_io 0 (sas_v (se_p sp_int) sas_nil)))) (blkOk_by (by first | rfl | decide +kernel)) (own := [("_law_k", 2)]) (fun _ _ _ _ _ => (sg_n 2 ok.blk rfl (by first | exact Or.inl rfl | exact Or.inr rfl) wipSet)) (fun _ _ _ _ _ => sets_nil) (fun _ _ _ _ _ => (se_ix ix_seq opv_ix (se_p (sp_var 1)) (se_call c__law_take hr (by decide) rfl (sas_io 0 (sas_v (se_p sp_int) sas_nil))))))))))
theorem c__law_kinds {f : Addr} {fd : FuncData} (F : C8.Def K mg "_law_kinds" s__law_kinds f fd) (bi : Binds K fd ["_law_one"] []) (Z : Fr K mg)   : C8.Cal P w K mg base 1 "_law_kinds" (spF K mg 1 F__law_kinds) [] :=
  cal_sem F bi sc__law_kinds rfl rfl (by decide) fun cdv A outer s H E hr => by
    have ok := bodyOk (P := P) (w := w) (K := K) (mg := mg) (base := base) (qual := "_law_kinds") (cdv := cdv) (A := A) (outer := outer) (s := s) (H := H) (E := E) sc__law_kinds hr
    exact (sss_cons (ss_setP 1 ok rfl (by first | exact Or.inl rfl | exact Or.inr rfl) (se_lst (ses_cons (se_p (sp_isx Z.ex rfl Z.n_isinstance rfl (sp_var 0) (hy := by decide +kernel))) (ses_cons (se_p (sp_isx Z.ex rfl Z.n_isinstance rfl (sp_var 0) (hy := by decide +kernel))) (ses_cons (se_p (sp_isx Z.ex rfl Z.n_isinstance rfl (sp_var 0) (hy := by decide +kernel))) (ses_cons (se_p (sp_isx Z.ex rfl Z.n_isinstance rfl (sp_var 0) (hy := by decide +kernel))) ses_nil)))))) (sss_cons (ss_setP 1 ok rfl (by first | exact Or.inl rfl | exact Or.inr rfl) (se_p (sp_bin op_addF opv_add (sp_var 1) (sp_lst (sps_cons (sp_isx Z.ex rfl Z.n_isinstance rfl (sp_var 0) (hy := by decide +kernel)) (sps_cons (sp_isx Z.ex rfl Z.n_isinstance rfl (sp_var 0) (hy := by decide +kernel)) (sps_cons (sp_isx Z.ex rfl Z.n_isinstance rfl (sp_var 0) (hy := by decide +kernel)) sps_nil))))))) (sss_one (ss_ret (se_p (sp_bin op_addF opv_add (sp_var 1) (sp_lst (sps_cons (sp_isx Z.ex rfl Z.n_isinstance rfl (sp_var 0) (hy := by decide +kernel)) (sps_cons (sp_isx Z.ex rfl Z.n_isinstance rfl (sp_var 0) (hy := by decide +kernel)) sps_nil)))))))))
theorem c__law_caught {f : Addr} {fd : FuncData} (F : C8.Def K mg "_law_caught" s__law_caught f fd) (bi : Binds K fd ["_law_way", "_law_word_here", "_law_number"] []) (Z : Fr K mg)  (x_Loud : MkX P w K mg base "Loud" ["guard"]) (x_NoText : MkX P w K mg base "NoText" ["line"]) : C8.Cal P w K mg base 3 "_law_caught" (spF K mg 3 F__law_caught) [] :=
  cal_sem F bi sc__law_caught rfl rfl (by decide) fun cdv A outer s H E hr => by
    have ok := bodyOk (P := P) (w := w) (K := K) (mg := mg) (base := base) (qual := "_law_caught") (cdv := cdv) (A := A) (outer := outer) (s := s) (H := H) (E := E) sc__law_caught hr
    exact (sss_cons (ss_setP 3 ok rfl (by first | exact Or.inl rfl | exact Or.inr rfl) (se_p sp_int)) (sss_cons (ss_ofX (ssX_tryM ok Z.ex rfl rfl takes_no (fun W pn xe tk hp => by have ok := ok.tr (pn := pn) (xe := xe); exact (sssX_cons (ssX_if (set_cmpP (op_eqD ok.u64) opv_eq (sp_var 0) sp_int rfl) (sssX_one (ssX_raiseF ok tk x_NoText hr (by decide) rfl (ses_cons (se_p (sp_var 2)) ses_nil))) sssX_nil) (sssX_cons (ssX_if (set_cmpP (op_eqD ok.u64) opv_eq (sp_var 0) sp_int rfl) (sssX_one (ssX_raiseF ok tk x_Loud hr (by decide) rfl (ses_cons (se_p (sp_var 1)) ses_nil))) sssX_nil) (sssX_one (ssX_raiseA ok tk Z.xx_NoTurn (Z.ex.gl "NoTurn" (by decide +kernel)) rfl (ses_cons (se_p (sp_var 1)) ses_nil)))))) (ClsOk.named (i := 4) rfl (by decide +kernel) (by decide) rfl rfl (by decide) (fun a oe cls d pn x I h => (sssF_one (ssF_setP 3 ok.nd rfl (by first | exact Or.inl rfl | exact Or.inr rfl) (sef_tup (sesf_cons (sef_of (se_p sp_int)) (sesf_cons (sef_fld Z.ex h Z.xf_line rfl (by first | exact Or.inl rfl | exact Or.inr (Or.inl rfl) | exact Or.inr (Or.inr rfl))) sesf_nil)))))) (ClsOk.named (i := 4) rfl (by decide +kernel) (by decide) rfl rfl (by decide) (fun a oe cls d pn x I h => (sssF_one (ssF_setP 3 ok.nd rfl (by first | exact Or.inl rfl | exact Or.inr rfl) (sef_tup (sesf_cons (sef_of (se_p sp_int)) (sesf_cons (sef_fld Z.ex h Z.xf_guard rfl (by first | exact Or.inl rfl | exact Or.inr (Or.inl rfl) | exact Or.inr (Or.inr rfl))) sesf_nil)))))) (ClsOk.named (i := 4) rfl (by decide +kernel) (by decide) rfl rfl (by decide) (fun a oe cls d pn x I h => (sssF_one (ssF_setP 3 ok.nd rfl (by first | exact Or.inl rfl | exact Or.inr rfl) (sef_tup (sesf_cons (sef_of (se_p sp_int)) (sesf_cons (sef_is Z.ex h rfl (by first | exact Or.inl rfl | exact Or.inr (Or.inl rfl) | exact Or.inr (Or.inr rfl)) rfl Z.n_isinstance rfl (hy := by decide +kernel)) sesf_nil)))))) ClsOk.nil))))) (sss_one (ss_ret (se_p (sp_var 3))))))
theorem c_law {f : Addr} {fd : FuncData} (F : C8.Fun K "law" "law" s_law f fd) (Z : Fr K mg)  (c__law_stream : C8.Cal P w K mg base 1 "_law_stream" (spF K mg 1 F__law_stream) []) (c__law_take : C8.Cal P w K mg base 1 "_law_take" (spF K mg 2 F__law_take) []) (c__law_word : C8.Cal P w K mg base 2 "_law_word" (spF K mg 1 F__law_word) []) (c__law_kinds : C8.Cal P w K mg base 1 "_law_kinds" (spF K mg 1 F__law_kinds) []) (c__law_caught : C8.Cal P w K mg base 3 "_law_caught" (spF K mg 3 F__law_caught) []) (x_Blind : MkX P w K mg base "Blind" ["lower", "upper", "greatness"]) (x_Loud : MkX P w K mg base "Loud" ["guard"]) (x_NoBoard : MkX P w K mg base "NoBoard" ["word", "number"]) (x_NoEvent : MkX P w K mg base "NoEvent" ["number"]) (x_NoText : MkX P w K mg base "NoText" ["line"]) : FnOk P w K mg base C8.CX0 4 f fd ["_law_script"] (spF K mg 1 F_law) :=
  fn_sem F sc_law rfl rfl (by decide) fun cdv A outer s H E hr => by
    have ok := bodyOk (P := P) (w := w) (K := K) (mg := mg) (base := base) (qual := "law") (cdv := cdv) (A := A) (outer := outer) (s := s) (H := H) (E := E) sc_law hr
    exact (sss_cons (ss_setO 1 ok rfl (by first | exact Or.inl rfl | exact Or.inr rfl) (se_call c__law_stream hr (by decide) rfl (sas_v (se_p (sp_var 0)) sas_nil))) (sss_cons (ss_for ok .never (si_range1 rfl Z.n_range (se_p (sp_bin op_addF opv_add sp_int (sp_b1 call_lenF unv_len rfl Z.n_len (by rfl) (sp_sl (sp_var 0) spo_none (spo_some sp_int)))))) (sg_n 2 ok rfl (by first | exact Or.inl rfl | exact Or.inr rfl) fixSet) (sss_cons (ss_setP 3 ok rfl (by first | exact Or.inl rfl | exact Or.inr rfl) (se_call c__law_word hr (by decide) rfl (sas_io 1 sas_nil))) (sss_cons (ss_setP 4 ok rfl (by first | exact Or.inl rfl | exact Or.inr rfl) (se_call c__law_word hr (by decide) rfl (sas_io 1 sas_nil))) (sss_cons (ss_setP 5 ok rfl (by first | exact Or.inl rfl | exact Or.inr rfl) (se_ix ix_seq opv_ix (se_lst (ses_cons (se_p sp_int) (ses_cons (se_call c__law_take hr (by decide) rfl (sas_io 1 (sas_v (se_p sp_int) sas_nil))) (ses_cons (se_call c__law_take hr (by decide) rfl (sas_io 1 (sas_v (se_p (sp_bin op_pow opv_pow sp_int sp_int)) sas_nil))) ses_nil)))) (se_call c__law_take hr (by decide) rfl (sas_io 1 (sas_v (se_p sp_int) sas_nil))))) (sss_cons (ss_setP 6 ok rfl (by first | exact Or.inl rfl | exact Or.inr rfl) (se_call c__law_take hr (by decide) rfl (sas_io 1 (sas_v (se_p (sp_bin op_pow opv_pow sp_int sp_int)) sas_nil)))) (sss_cons (ss_setP 7 ok rfl (by first | exact Or.inl rfl | exact Or.inr rfl) (se_excF x_NoBoard hr (by decide) rfl (ses_cons (se_p (sp_var 3)) (ses_cons (se_p (sp_var 5)) ses_nil)))) (sss_cons (ss_setP 8 ok rfl (by first | exact Or.inl rfl | exact Or.inr rfl) (se_excF x_Blind hr (by decide) rfl (ses_cons (se_p (sp_var 4)) (ses_cons (se_p (sp_var 3)) (ses_cons (se_p (sp_var 6)) ses_nil))))) (sss_cons (ss_setO 9 ok rfl (by first | exact Or.inl rfl | exact Or.inr rfl) (se_lst (ses_cons (se_p (sp_var 7)) (ses_cons (se_excF x_NoText hr (by decide) rfl (ses_cons (se_p (sp_var 5)) ses_nil)) (ses_cons (se_excF x_NoEvent hr (by decide) rfl (ses_cons (se_p (sp_var 6)) ses_nil)) (ses_cons (se_excF x_Loud hr (by decide) rfl (ses_cons (se_p (sp_var 4)) ses_nil)) (ses_cons (se_p (sp_var 8)) (ses_cons (se_exc0 Z.xx_NoPlace (Z.ex.gl "NoPlace" (by decide +kernel)) rfl (ses_cons (se_p (sp_var 3)) ses_nil)) (ses_cons (se_exc0 Z.xx_NoDeed (Z.ex.gl "NoDeed" (by decide +kernel)) rfl (ses_cons (se_p (sp_var 3)) ses_nil)) (ses_cons (se_exc0 Z.xx_NoTurn (Z.ex.gl "NoTurn" (by decide +kernel)) rfl (ses_cons (se_p (sp_var 4)) ses_nil)) ses_nil)))))))))) (sss_cons (ss_expr (se_append 9 (se_exc0 Z.xx_NoRow (Z.ex.gl "NoRow" (by decide +kernel)) rfl (ses_cons (se_p (sp_var 3)) ses_nil)))) (sss_cons (ss_for ok .never (si_range1 rfl Z.n_range (se_p sp_int)) (sg_n 10 ok rfl (by first | exact Or.inl rfl | exact Or.inr rfl) fixSet) (sss_cons (ss_if (sew_t (sew_or (set_not (set_val (se_p (sp_isx Z.ex rfl Z.n_isinstance rfl (sp_ix ix_seq opv_ix (sp_var 9) (sp_var 10)) (hy := by decide +kernel))))) (sew_or1 (set_not (set_val (se_p (sp_isv Z.ex rfl Z.n_isinstance rfl Z.n_ValueError (sp_ix ix_seq opv_ix (sp_var 9) (sp_var 10))))))))) (sss_one (ss_ret (se_p sp_bl))) sss_nil) (sss_one (ss_if (set_cmp (op_neD ok.u64) opv_ne (se_call c__law_kinds hr (by decide) rfl (sas_v (se_p (sp_ix ix_seq opv_ix (sp_var 9) (sp_var 10))) sas_nil)) (se_comp ok (si_range1 rfl Z.n_range (se_p sp_int)) (blkOk_by (by first | rfl | decide +kernel)) (own := [("_law_j", 12)]) (fun _ _ _ _ _ => (sg_n 12 ok.blk rfl (by first | exact Or.inl rfl | exact Or.inr rfl) wipSet)) (fun _ _ _ _ _ => sets_nil) (fun _ _ _ _ _ => (se_p (sp_cmp (op_eqD ok.blk.u64) opv_eq (sp_var 12) (sp_var 10) rfl)))) rfl) (sss_one (ss_ret (se_p sp_bl))) sss_nil)))) (sss_cons (ss_if (set_cmpP (op_neD ok.u64) opv_ne (sp_tup (sps_cons (sp_xf Z.ex Z.xf_word (sp_var 7)) (sps_cons (sp_xf Z.ex Z.xf_number (sp_var 7)) (sps_cons (sp_xf Z.ex Z.xf_lower (sp_var 8)) (sps_cons (sp_xf Z.ex Z.xf_upper (sp_var 8)) (sps_cons (sp_xf Z.ex Z.xf_greatness (sp_var 8)) sps_nil)))))) (sp_tup (sps_cons (sp_var 3) (sps_cons (sp_var 5) (sps_cons (sp_var 4) (sps_cons (sp_var 3) (sps_cons (sp_var 6) sps_nil)))))) rfl) (sss_one (ss_ret (se_p sp_bl))) sss_nil) (sss_cons (ss_if (set_cmpP (op_neD ok.u64) opv_ne (sp_tup (sps_cons (sp_xf Z.ex Z.xf_line (sp_ix ix_seq opv_ix (sp_var 9) sp_int)) (sps_cons (sp_xf Z.ex Z.xf_number (sp_ix ix_seq opv_ix (sp_var 9) sp_int)) (sps_cons (sp_xf Z.ex Z.xf_guard (sp_ix ix_seq opv_ix (sp_var 9) sp_int)) sps_nil)))) (sp_tup (sps_cons (sp_var 5) (sps_cons (sp_var 6) (sps_cons (sp_var 4) sps_nil)))) rfl) (sss_one (ss_ret (se_p sp_bl))) sss_nil) (sss_one (ss_if (set_cmp (op_neD ok.u64) opv_ne (se_comp ok (si_range1 rfl Z.n_range (se_p sp_int)) (blkOk_by (by first | rfl | decide +kernel)) (own := [("_law_way", 11)]) (fun _ _ _ _ _ => (sg_n 11 ok.blk rfl (by first | exact Or.inl rfl | exact Or.inr rfl) wipSet)) (fun _ _ _ _ _ => sets_nil) (fun _ _ _ _ _ => (se_call c__law_caught hr (by decide) rfl (sas_v (se_p (sp_var 11)) (sas_v (se_p (sp_var 3)) (sas_v (se_p (sp_var 5)) sas_nil)))))) (se_lst (ses_cons (se_p (sp_tup (sps_cons sp_int (sps_cons (sp_var 5) sps_nil)))) (ses_cons (se_p (sp_tup (sps_cons sp_int (sps_cons (sp_var 3) sps_nil)))) (ses_cons (se_p (sp_tup (sps_cons sp_int (sps_cons sp_bl sps_nil)))) ses_nil)))) rfl) (sss_one (ss_ret (se_p sp_bl))) sss_nil)))))))))))))) (sss_one (ss_ret (se_p sp_bl)))))
end
theorem ob_eq (s : PySem.W.SharedT) : ob s = hk.obs s.abs := obsSG_eq (HandSHeadRun.getT_eq s)
theorem facts {P : Program} {w : World} {K : PySem.W.Frag} {h : Heap} {mg : Str → Option Value} {f : Addr} (X : K.In h) (G : h.Ns mainGlobals mg) (hfa : mg ("law" : Str) = some (.ref f)) (c : SaysP px fa fn K) :
    ∃ fd : FuncData, (∀ (s : Shared) (v : Value), BindsTo s fd ⟨[v], []⟩ [("_law_script", v)]) ∧ ∀ base : Heap, K.In base → base.Ns mainGlobals mg → FnOk P w K mg base C8.CX0 4 f fd ["_law_script"] (spF K mg 1 F_law) := by
  obtain ⟨c, cpx⟩ := c.says
  have Z : Fr K mg := ⟨trivial, exAll_ok X G (cpx (exAllB es) (List.mem_cons_self ..)), xfB_ok2 (cpx (xfB2 es ["Blind"] "greatness") (by simp [px])), xfB_ok2 (cpx (xfB2 es ["Loud"] "guard") (by simp [px])), xfB_ok2 (cpx (xfB2 es ["NoText"] "line") (by simp [px])), xfB_ok2 (cpx (xfB2 es ["Blind"] "lower") (by simp [px])), xfB_ok2 (cpx (xfB2 es ["NoBoard", "NoEvent"] "number") (by simp [px])), xfB_ok2 (cpx (xfB2 es ["Blind"] "upper") (by simp [px])), xfB_ok2 (cpx (xfB2 es ["NoBoard"] "word") (by simp [px])), He.exc_ok (c.fact 11 (f := .exc "NoDeed") rfl), He.exc_ok (c.fact 12 (f := .exc "NoPlace") rfl), He.exc_ok (c.fact 13 (f := .exc "NoRow") rfl), He.exc_ok (c.fact 14 (f := .exc "NoTurn") rfl), He.free_ok X G (c.fact 6 (f := .free "ValueError") rfl), He.free_ok X G (c.fact 7 (f := .free "isinstance") rfl), He.free_ok X G (c.fact 8 (f := .free "len") rfl), He.free_ok X G (c.fact 9 (f := .free "list") rfl), He.free_ok X G (c.fact 10 (f := .free "range") rfl)⟩
  obtain ⟨fd__law_stream, D__law_stream⟩ := c.def_ 0 (d := d__law_stream) rfl
  have bi__law_stream := FunD.bindsN (ps := ["_law_script"]) D__law_stream fun _ _ _ _ _ _ us hl => match us, hl with | [_], _ => rfl
  have g__law_stream := He.glo_ok X G (c.fact 0 (f := .glo "_law_stream") rfl)
  obtain ⟨fd__law_take, D__law_take⟩ := c.def_ 1 (d := d__law_take) rfl
  have bi__law_take := FunD.bindsN (ps := ["_law_stream_here", "_law_many"]) D__law_take fun _ _ _ _ _ _ us hl => match us, hl with | [_, _], _ => rfl
  have g__law_take := He.glo_ok X G (c.fact 1 (f := .glo "_law_take") rfl)
  obtain ⟨fd__law_word, D__law_word⟩ := c.def_ 2 (d := d__law_word) rfl
  have bi__law_word := FunD.bindsN (ps := ["_law_stream_here"]) D__law_word fun _ _ _ _ _ _ us hl => match us, hl with | [_], _ => rfl
  have g__law_word := He.glo_ok X G (c.fact 2 (f := .glo "_law_word") rfl)
  obtain ⟨fd__law_kinds, D__law_kinds⟩ := c.def_ 3 (d := d__law_kinds) rfl
  have bi__law_kinds := FunD.bindsN (ps := ["_law_one"]) D__law_kinds fun _ _ _ _ _ _ us hl => match us, hl with | [_], _ => rfl
  have g__law_kinds := He.glo_ok X G (c.fact 3 (f := .glo "_law_kinds") rfl)
  obtain ⟨fd__law_caught, D__law_caught⟩ := c.def_ 4 (d := d__law_caught) rfl
  have bi__law_caught := FunD.bindsN (ps := ["_law_way", "_law_word_here", "_law_number"]) D__law_caught fun _ _ _ _ _ _ us hl => match us, hl with | [_, _, _], _ => rfl
  have g__law_caught := He.glo_ok X G (c.fact 4 (f := .glo "_law_caught") rfl)
  obtain ⟨fd_law, D_law⟩ := c.def_ 5 (d := d_law) rfl
  obtain ⟨fd_Blind___init__, D_Blind___init__⟩ := c.def_ 6 (d := d_Blind___init__) rfl
  have bi_Blind___init__ := FunD.bindsN (ps := ["self", "lower", "upper", "greatness"]) D_Blind___init__ fun _ _ _ _ _ _ us hl => match us, hl with | [_, _, _, _], _ => rfl
  have ow_Blind := ownInit_ok X G (cpx (ownInitB "Blind" ["lower", "upper", "greatness"]) (by simp [px]))
  obtain ⟨fd_Loud___init__, D_Loud___init__⟩ := c.def_ 7 (d := d_Loud___init__) rfl
  have bi_Loud___init__ := FunD.bindsN (ps := ["self", "guard"]) D_Loud___init__ fun _ _ _ _ _ _ us hl => match us, hl with | [_, _], _ => rfl
  have ow_Loud := ownInit_ok X G (cpx (ownInitB "Loud" ["guard"]) (by simp [px]))
  obtain ⟨fd_NoBoard___init__, D_NoBoard___init__⟩ := c.def_ 8 (d := d_NoBoard___init__) rfl
  have bi_NoBoard___init__ := FunD.bindsN (ps := ["self", "word", "number"]) D_NoBoard___init__ fun _ _ _ _ _ _ us hl => match us, hl with | [_, _, _], _ => rfl
  have ow_NoBoard := ownInit_ok X G (cpx (ownInitB "NoBoard" ["word", "number"]) (by simp [px]))
  obtain ⟨fd_NoEvent___init__, D_NoEvent___init__⟩ := c.def_ 9 (d := d_NoEvent___init__) rfl
  have bi_NoEvent___init__ := FunD.bindsN (ps := ["self", "number"]) D_NoEvent___init__ fun _ _ _ _ _ _ us hl => match us, hl with | [_, _], _ => rfl
  have ow_NoEvent := ownInit_ok X G (cpx (ownInitB "NoEvent" ["number"]) (by simp [px]))
  obtain ⟨fd_NoText___init__, D_NoText___init__⟩ := c.def_ 10 (d := d_NoText___init__) rfl
  have bi_NoText___init__ := FunD.bindsN (ps := ["self", "line"]) D_NoText___init__ fun _ _ _ _ _ _ us hl => match us, hl with | [_, _], _ => rfl
  have ow_NoText := ownInit_ok X G (cpx (ownInitB "NoText" ["line"]) (by simp [px]))
  have bs := baseB_ok X G (cpx (baseB "BoardError") (by simp [px]))
  have e := hfa.symm.trans (He.glo_ok X G (c.fact 5 (f := .glo "law") rfl))
  cases e
  have b := FunD.bindsA (ps := ["_law_script"]) D_law fun _ _ _ _ _ _ us hl => match us, hl with | [_], _ => rfl
  refine ⟨fd_law, fun s v => b s [v] rfl, fun base _ _ => ?_⟩
  have x_Blind := x_Blind (P := P) (w := w) (base := base) ow_Blind bs (fun_of D_Blind___init__) bi_Blind___init__
  have x_Loud := x_Loud (P := P) (w := w) (base := base) ow_Loud bs (fun_of D_Loud___init__) bi_Loud___init__
  have x_NoBoard := x_NoBoard (P := P) (w := w) (base := base) ow_NoBoard bs (fun_of D_NoBoard___init__) bi_NoBoard___init__
  have x_NoEvent := x_NoEvent (P := P) (w := w) (base := base) ow_NoEvent bs (fun_of D_NoEvent___init__) bi_NoEvent___init__
  have x_NoText := x_NoText (P := P) (w := w) (base := base) ow_NoText bs (fun_of D_NoText___init__) bi_NoText___init__
  have k__law_stream := c__law_stream (P := P) (w := w) (base := base) ⟨fun_of D__law_stream, g__law_stream, D__law_stream.kp⟩ bi__law_stream Z  
  have k__law_take := c__law_take (P := P) (w := w) (base := base) ⟨fun_of D__law_take, g__law_take, D__law_take.kp⟩ bi__law_take Z  
  have k__law_word := c__law_word (P := P) (w := w) (base := base) ⟨fun_of D__law_word, g__law_word, D__law_word.kp⟩ bi__law_word Z  k__law_take
  have k__law_kinds := c__law_kinds (P := P) (w := w) (base := base) ⟨fun_of D__law_kinds, g__law_kinds, D__law_kinds.kp⟩ bi__law_kinds Z  
  have k__law_caught := c__law_caught (P := P) (w := w) (base := base) ⟨fun_of D__law_caught, g__law_caught, D__law_caught.kp⟩ bi__law_caught Z  x_Loud x_NoText
  exact c_law (fun_of D_law) Z  k__law_stream k__law_take k__law_word k__law_kinds k__law_caught x_Blind x_Loud x_NoBoard x_NoEvent x_NoText
end Wk

namespace Lw
open PySem PySem.Spec L2 FB Wk
open PyProof.Rows hiding St
def sm (cells : List Int) (big seed : Int) : O := .lst [.val (.lst (cells.map .int)), .val (.int big), .val (.int seed)]
theorem stream (ns : List Int) (hl : ns.length ≤ 63) : F__law_stream [.val (.scr ns)] = some (sm ns 0 20011, [none]) := by
  unfold F__law_stream
  rw [runF_eq]
  have e : cutL ns none (some 63) = ns := by
    rw [show (63 : Int) = ((63 : Nat) : Int) from rfl, cut_to, List.take_of_length_le hl]
  simp [b__law_stream, e, sm]
  rfl
def Sok (o : O) : Prop := ∃ cells big seed, o = sm cells big seed ∧ 0 ≤ big ∧ 0 ≤ seed ∧ seed < 2305843009213693951 ∧ cells.length ≤ 63
theorem take_t (cells : List Int) (big seed m : Int) (c f : Option O) : t1__law_take [some (sm cells big seed), some (.val (.int m)), c, f] = .ok (decide (big = 0) && !cells.isEmpty) [some (sm cells big seed), some (.val (.int m)), c, f] := by
  by_cases h : big = 0 <;> simp [t1__law_take, sm, neO_ints, h]
theorem take_b (a : Int) (cells : List Int) (seed m : Int) (c f : Option O) : b1__law_take [some (sm (a :: cells) 0 seed), some (.val (.int m)), c, f] = .ok .nx [some (sm cells (if 10 ^ 18 ≤ a then a else 0) ((seed * 1000003 + a) % 2305843009213693951)), some (.val (.int m)), some (.val (.int a)), f] := by
  have e1 : cutL (D.int a :: cells.map D.int) (some 1) none = cells.map D.int := by
    rw [show (1 : Int) = ((1 : Nat) : Int) from rfl, cut_from]; rfl
  by_cases ha : 1000000000000000000 ≤ a <;> simp [b1__law_take, sm, e1, e_mulr, e_mod, e_pow, ha]
theorem take_loop (o : O) (m : Int) (h : Sok o) : ∃ ρ', whileN t1__law_take b1__law_take fuel [some o, some (.val (.int m)), none, none] = .ok .nx ρ' ∧ ∃ o c f, ρ' = [some o, some (.val (.int m)), c, f] ∧ Sok o := by
  refine while_inv (fun ρ => ∃ o c f, ρ = [some o, some (.val (.int m)), c, f] ∧ Sok o) _
    (fun ρ => match ρ with | some (.lst (.val (.lst ds) :: _)) :: _ => ds.length | _ => 0) ?_ fuel [some o, some (.val (.int m)), none, none] ⟨o, none, none, rfl, h⟩ ?_
  · rintro ρ ⟨o, c, f, rfl, cells, big, seed, rfl, hb, hs0, hs1, hc⟩
    have ht := take_t cells big seed m c f
    by_cases hbig : big = 0
    · subst hbig
      cases cells with
      | nil => exact .inl ⟨_, ht, _, _, _, rfl, [], 0, seed, rfl, hb, hs0, hs1, hc⟩
      | cons a cells =>
        refine .inr ⟨_, _, ht, .inl (take_b a cells seed m c f), ⟨_, _, _, rfl, _, _, _, rfl, ?_, by omega, by omega, by simp at hc; omega⟩, by simp [sm]⟩
        split <;> omega
    · refine .inl ⟨[some (sm cells big seed), some (.val (.int m)), c, f], by rw [ht]; simp [hbig], _, _, _, rfl, cells, big, seed, rfl, hb, hs0, hs1, hc⟩
  · obtain ⟨cells, big, seed, rfl, hb, hs0, hs1, hc⟩ := h
    rw [fuel_eq]
    simp [sm]; omega
theorem take (o : O) (m : Int) (h : Sok o) (h0 : 0 < m) (hl : m.natAbs.log2 < 9000) : ∃ r o', F__law_take [o, .val (.int m)] = some (.val (.int r), [some o', none]) ∧ Sok o' ∧ 0 ≤ r ∧ r < m := by
  unfold F__law_take
  rw [runF_eq]
  obtain ⟨ρ', e, o', c, f, rfl, cells, big, seed, rfl, hb, hs0, hs1, hc⟩ := take_loop o m h
  have e : whileN t1__law_take b1__law_take fuel ([o, O.val (D.int m)].map some ++ List.replicate (4 - [o, O.val (D.int m)].length) none) = _ := e
  by_cases hbig : 0 < big
  · refine ⟨big % m, sm cells (big / m) seed, ?_, ⟨_, _, _, rfl, Int.ediv_nonneg hb (by omega), hs0, hs1, hc⟩, Int.emod_nonneg _ (by omega), Int.emod_lt_of_pos _ h0⟩
    simp only [b__law_take, e_mSeq, e_mWhile, e]
    simp [sm, hbig, e_mod, e_fdiv, h0, hl]
    rfl
  · have l1 : Nat.log2 1048576 < 9000 := by decide
    have l3 : Nat.log2 3 < 9000 := by decide
    refine ⟨((seed * 636413622384679300 + 1442695040888963407) % 2305843009213693951 / 1048576 * 48271 % 2147483647 + (seed * 636413622384679300 + 1442695040888963407) % 2305843009213693951 % 2147483629) / 3 % m, sm cells big ((seed * 636413622384679300 + 1442695040888963407) % 2305843009213693951), ?_, ⟨_, _, _, rfl, hb, by omega, by omega, hc⟩, Int.emod_nonneg _ (by omega), Int.emod_lt_of_pos _ h0⟩
    simp only [b__law_take, e_mSeq, e_mWhile, e]
    simp [sm, hbig, e_mod, e_fdiv, e_mulr, h0, hl, l1, l3]
    rfl
/-! ### curves -/
def top' (ls : List Int) : Int := ls.getLast?.getD 0
theorem top'_app (ls : List Int) (v : Int) : top' (ls ++ [v]) = v := by unfold top'; simp
def Up (b : Int) (ls : List Int) : Prop := ls.Pairwise (· < ·) ∧ (∀ x ∈ ls, x ≤ top' ls ∧ 1 ≤ x) ∧ 0 ≤ top' ls ∧ top' ls ≤ b * ls.length
theorem Up.nil (b : Int) : Up b [] := ⟨List.Pairwise.nil, by simp, by simp [top'], by simp [top']⟩
theorem Up.app {b : Int} {ls : List Int} {r : Int} (h : Up b ls) (hr : 0 ≤ r) (hb : r < b) : Up b (ls ++ [top' ls + 1 + r]) := by
  obtain ⟨h1, h2, h3, h4⟩ := h
  refine ⟨List.pairwise_append.mpr ⟨h1, by simp, fun a ha b hb => ?_⟩, fun x hx => ?_, by rw [top'_app]; omega, ?_⟩
  · have := (h2 a ha).1
    simp at hb
    omega
  · rw [top'_app]
    rcases List.mem_append.mp hx with hx | hx
    · have := h2 x hx
      omega
    · simp at hx
      omega
  · rw [top'_app, List.length_append, List.length_singleton]
    push_cast
    rw [Int.mul_add]
    omega
theorem Up.pos {b : Int} {ls : List Int} (h : Up b ls) {k : Nat} (hk : k < ls.length) : 1 ≤ ls.getD k 0 := by
  rw [List.getD_eq_getElem?_getD, List.getElem?_eq_getElem hk]
  exact (h.2.1 _ (List.getElem_mem hk)).2
def pD (p : Int × Int) : D := .tup [.int p.1, .int p.2]
def cv (C : List (Int × Int)) : D := .tup (C.map pD)
end Lw

namespace Lw
open PySem PySem.Spec L2 FB Wk
open PyProof.Rows hiding St

end Lw

namespace Lw
open PySem PySem.Spec L2 FB Wk
open PyProof.Rows hiding St
end Lw

namespace Lw
open PySem PySem.Spec L2 FB Wk
open PyProof.Rows hiding St
def sD (l : List Nat) : D := .str (SL l)
theorem addD_lst (xs ys : List D) (h : xs.length + ys.length ≤ 1000000) : addD (.lst xs) (.lst ys) = some (.lst (xs ++ ys)) := if_pos h
/-! the words -/
end Lw

namespace Lw
open PySem PySem.Spec L2 FB Wk
open PyProof.Rows hiding St
/-! comparisons of keepers' things -/
theorem eqv_self : ∀ (n : Nat) (d : D), d.okE n = true → D.eqv d d = true := by
  intro n
  induction n with
  | zero =>
    intro d h
    cases d with
    | non => rfl
    | bl b => cases b <;> rfl
    | int i => rw [eqv_int]; simp
    | str s => rw [eqv_str]; simp
    | tup ds => cases h
    | lst ds => cases h
    | dct _ _ => cases h
    | ins _ _ _ => cases h
    | scr _ => cases h
    | fn _ => cases h
    | exc _ _ _ => cases h
  | succ n ih =>
    have hs : ∀ ds : List D, ds.all (D.okE n) = true → eqvs ds ds = true := by
      intro ds
      induction ds with
      | nil => intro _; rfl
      | cons d ds ih2 =>
        intro h
        rw [List.all_cons, Bool.and_eq_true] at h
        rw [eqvs_cc, ih d h.1, ih2 h.2]; rfl
    intro d h
    cases d with
    | non => rfl
    | bl b => cases b <;> rfl
    | int i => rw [eqv_int]; simp
    | str s => rw [eqv_str]; simp
    | tup ds => rw [eqv_tup]; exact hs ds (by rw [okE_tup] at h; exact h)
    | lst ds => rw [eqv_lst]; exact hs ds (by rw [okE_lst] at h; exact h)
    | dct _ _ => cases h
    | ins _ _ _ => cases h
    | scr _ => cases h
    | fn _ => cases h
    | exc _ _ _ => cases h
theorem ne_selfD {x y : O} {d : D} (hx : x.toD = d) (hy : y.toD = d) (h : d.okE 9 = true) : neO x y = some (.val (.bl false)) := by
  rw [e_neO (by rw [hx]; exact h) (by rw [hy]; exact h), hx, hy, eqv_self 9 d h]; rfl
end Lw

namespace Lw
open PySem PySem.Spec L2 FB Wk
open PyProof.Rows hiding St
/-! words drawn -/
theorem word_q1 (o : O) (n : Nat) (h : Sok o) (hn : n ≤ 8) : ∃ (o' : O) (bs : List Nat), compL [2] (aN 2) mTrue (m2 ixO (mP (pVar 1)) (mCall F__law_take [.io 0, .v (mP (pC (.int 26)))])) (rangeL 0 n) [some o, some (.val (.str "abcdefghijklmnopqrstuvwxyz")), none] =
    .ok (bs.map fun b => O.val (sD [b])) [some o', some (.val (.str "abcdefghijklmnopqrstuvwxyz")), none] ∧ Sok o' ∧ bs.length = n := by
  obtain ⟨os, ρ', hc, hl, hp, o', e, s'⟩ := compL_inv (own := [2]) (a := aN 2) (e := m2 ixO (mP (pVar 1)) (mCall F__law_take [.io 0, .v (mP (pC (.int 26)))])) (ds := rangeL 0 n) (ρ := [some o, some (.val (.str "abcdefghijklmnopqrstuvwxyz")), none])
    (fun i ρ => ∃ o, ρ = [some o, some (.val (.str "abcdefghijklmnopqrstuvwxyz")), none] ∧ Sok o) (fun _ o => ∃ b : Nat, b < 26 ∧ o = .val (sD [b])) ⟨o, rfl, h⟩ (by
      rintro i d ρ hd ⟨o, rfl, so⟩
      obtain ⟨hi, rfl⟩ := rangeL_get hd
      obtain ⟨r, o', e, s', p, q⟩ := take o 26 so (by decide) (by decide)
      obtain ⟨k, rfl⟩ : ∃ k : Nat, r = (k : Int) := ⟨r.toNat, by omega⟩
      have lt := letter_at k (by omega)
      exact ⟨[some o, some (.val (.str "abcdefghijklmnopqrstuvwxyz")), some (.val (.int (0 + (i : Int))))], .val (sD [k]), [some o', some (.val (.str "abcdefghijklmnopqrstuvwxyz")), some (.val (.int (0 + (i : Int))))], by simp, by simp [e, lt, sD], ⟨k, by omega, rfl⟩, o', by simp, s'⟩)
  subst e
  rw [rangeL_len] at hl
  obtain ⟨bs, e2, hb⟩ := list_of (fun b : Nat => O.val (sD [b])) (fun b => b < 26) hp
  subst e2
  exact ⟨o', bs, hc, s', by simpa using hl⟩
theorem law_word (o : O) (h : Sok o) : ∃ (w : Str) (o' : O), F__law_word [o] = some (.val (.str w), [some o']) ∧ Sok o' := by
  obtain ⟨r, o1, e1, s1, p1, q1⟩ := take o 9 h (by decide) (by decide)
  obtain ⟨n, rfl⟩ : ∃ n : Nat, r = (n : Int) := ⟨r.toNat, by omega⟩
  obtain ⟨o2, bs, hc, s2, hl⟩ := word_q1 o1 n s1 (by omega)
  have sn := small_nat (n := n) (by omega)
  have tq : (O.lst (bs.map fun b => O.val (sD [b]))).toD = .lst ((bs.map fun b => SL [b]).map D.str) := by
    rw [show (O.lst (bs.map fun b => O.val (sD [b]))) = vO ((bs.map fun b => SL [b]).map D.str) from by unfold vO; rw [List.map_map, List.map_map]; rfl]
    exact vO_toD _
  have jn := joinD_strs "" (bs.map fun b => SL [b]) (by
    have a : ∀ xs : List Nat, ((xs.map fun b => SL [b]).map (·.length)).sum = xs.length := fun xs => by
      induction xs with
      | nil => rfl
      | cons x xs ih => rw [List.map_cons, List.map_cons, List.sum_cons, ih, SL_len, List.length_cons]; simp; omega
    have e0 : (("" : Str)).length = 0 := rfl
    rw [a, e0]; omega)
  refine ⟨Txt.join "" (bs.map fun b => SL [b]), o2, ?_, s2⟩
  unfold F__law_word
  rw [runF_eq]
  generalize Txt.join "" (bs.map fun b => SL [b]) = TT at *
  generalize D.lst ((bs.map fun b => SL [b]).map D.str) = LT at *
  generalize hOL : bs.map (fun b => O.val (sD [b])) = OL at *
  simp [b__law_word, q1__law_word, e1, sn, rangeL_len, show n ≤ 1000000 by omega]
  rw [hc]
  simp [bkK_eta, tq, jn]
  first | rfl | skip
/-! kinds -/
def CL : List Str := ["NoBoard", "NoText", "NoEvent", "Loud", "Blind", "NoPlace", "NoDeed", "NoTurn", "NoRow"]
def KV (c : Str) : D := .lst (CL.map fun y => D.bl (FB.subB c y))
theorem isx_at {c : Str} (hc : c ∈ es) (ns : List Str) (ds : List D) (y : Str) : isxO es y (.val (.exc c ns ds)) = some (.val (.bl (FB.subB c y))) := if_pos hc
theorem isv_at {c : Str} (hc : c ∈ es) (ns : List Str) (ds : List D) : isvO es (.val (.exc c ns ds)) = some (.val (.bl true)) := if_pos hc
theorem law_kinds {c : Str} (hc : c ∈ es) (ns : List Str) (ds : List D) : F__law_kinds [.val (.exc c ns ds)] = some (.val (KV c), [none]) := by
  have i := isx_at hc ns ds
  have a1 : ∀ a b c d e f g : D, addD (.lst [a, b, c, d]) (.lst [e, f, g]) = some (.lst [a, b, c, d, e, f, g]) := fun a b c d e f g => addD_lst [a, b, c, d] [e, f, g] (by simp)
  have a2 : ∀ a b c d e f g h i : D, addD (.lst [a, b, c, d, e, f, g]) (.lst [h, i]) = some (.lst [a, b, c, d, e, f, g, h, i]) := fun a b c d e f g h i => addD_lst [a, b, c, d, e, f, g] [h, i] (by simp)
  have kv : KV c = .lst [.bl (FB.subB c "NoBoard"), .bl (FB.subB c "NoText"), .bl (FB.subB c "NoEvent"), .bl (FB.subB c "Loud"), .bl (FB.subB c "Blind"), .bl (FB.subB c "NoPlace"), .bl (FB.subB c "NoDeed"), .bl (FB.subB c "NoTurn"), .bl (FB.subB c "NoRow")] := rfl
  rw [kv]
  unfold F__law_kinds
  rw [runF_eq]
  have i1 := i "NoBoard"
  have i2 := i "NoText"
  have i3 := i "NoEvent"
  have i4 := i "Loud"
  have i5 := i "Blind"
  have i6 := i "NoPlace"
  have i7 := i "NoDeed"
  have i8 := i "NoTurn"
  have i9 := i "NoRow"
  clear i
  generalize FB.subB c "NoBoard" = z1 at *
  generalize FB.subB c "NoText" = z2 at *
  generalize FB.subB c "NoEvent" = z3 at *
  generalize FB.subB c "Loud" = z4 at *
  generalize FB.subB c "Blind" = z5 at *
  generalize FB.subB c "NoPlace" = z6 at *
  generalize FB.subB c "NoDeed" = z7 at *
  generalize FB.subB c "NoTurn" = z8 at *
  generalize FB.subB c "NoRow" = z9 at *
  generalize D.exc c ns ds = EX at *
  simp [b__law_kinds, i1, i2, i3, i4, i5, i6, i7, i8, i9, a1, a2]
  first | rfl | skip
/-! caught -/
theorem caught0 (w : Str) (n : Int) : F__law_caught [.val (.int 0), .val (.str w), .val (.int n)] = some (.val (.tup [.int 0, .int n]), [none, none, none]) := by
  have h1 : subX es "NoText" "NoText" = some true := by decide +kernel
  have fl : ∀ ρ : FB.Env, mXf ["NoText"] "line" ⟨"NoText", ["line"], [.int n]⟩ ρ = .ok (.val (.int n)) ρ := fun ρ => rfl
  have hd : ∀ ρ : FB.Env, hdR es [("NoText", some 4, u3__law_caught), ("Loud", some 4, u2__law_caught), ("BoardError", some 4, u1__law_caught)] (⟨"NoText", ["line"], [.int n]⟩ : Exn) ρ = clzR (some 4) u3__law_caught (⟨"NoText", ["line"], [.int n]⟩ : Exn) ρ := fun ρ => by
    simp only [hdR, h1]
  have cz : ∀ a b c d e : Option O, clzR (some 4) u3__law_caught (⟨"NoText", ["line"], [.int n]⟩ : Exn) [a, b, c, d, e] = .ok .nx [a, b, c, some (.val (.tup [.int 0, .int n])), none] := fun a b c d e => by
    unfold clzR
    simp [u3__law_caught, fl]
  have rf : ∀ ρ : FB.Env, rfK "NoText" ["line"] (.ok [.val (.int n)] ρ) = .exc ⟨"NoText", ["line"], [.int n]⟩ ρ := fun ρ => rfl
  unfold F__law_caught
  rw [runF_eq]
  simp [b__law_caught, b1__law_caught, rf, hd, cz]
  first | rfl | skip
theorem caught1 (w : Str) (n : Int) : F__law_caught [.val (.int 1), .val (.str w), .val (.int n)] = some (.val (.tup [.int 1, .str w]), [none, none, none]) := by
  have h1 : subX es "Loud" "NoText" = some false := by decide +kernel
  have h2 : subX es "Loud" "Loud" = some true := by decide +kernel
  have fl : ∀ ρ : FB.Env, mXf ["Loud"] "guard" ⟨"Loud", ["guard"], [.str w]⟩ ρ = .ok (.val (.str w)) ρ := fun ρ => rfl
  have hd : ∀ ρ : FB.Env, hdR es [("NoText", some 4, u3__law_caught), ("Loud", some 4, u2__law_caught), ("BoardError", some 4, u1__law_caught)] (⟨"Loud", ["guard"], [.str w]⟩ : Exn) ρ = clzR (some 4) u2__law_caught (⟨"Loud", ["guard"], [.str w]⟩ : Exn) ρ := fun ρ => by
    simp only [hdR, h1, h2]
  have cz : ∀ a b c d e : Option O, clzR (some 4) u2__law_caught (⟨"Loud", ["guard"], [.str w]⟩ : Exn) [a, b, c, d, e] = .ok .nx [a, b, c, some (.val (.tup [.int 1, .str w])), none] := fun a b c d e => by
    unfold clzR
    simp [u2__law_caught, fl]
  have rf : ∀ ρ : FB.Env, rfK "Loud" ["guard"] (.ok [.val (.str w)] ρ) = .exc ⟨"Loud", ["guard"], [.str w]⟩ ρ := fun ρ => rfl
  unfold F__law_caught
  rw [runF_eq]
  simp [b__law_caught, b1__law_caught, rf, hd, cz]
  first | rfl | skip
theorem caught2 (w : Str) (n : Int) : F__law_caught [.val (.int 2), .val (.str w), .val (.int n)] = some (.val (.tup [.int 2, .bl true]), [none, none, none]) := by
  have h1 : subX es "NoTurn" "NoText" = some false := by decide +kernel
  have h2 : subX es "NoTurn" "Loud" = some false := by decide +kernel
  have h3 : subX es "NoTurn" "BoardError" = some true := by decide +kernel
  have m : ("NoTurn" : Str) ∈ es := by decide +kernel
  have fl : ∀ ρ : FB.Env, mIs es "NoTurn" (⟨"NoTurn", [], []⟩ : Exn) ρ = .ok (.val (.bl true)) ρ := fun ρ => by
    unfold mIs
    rw [if_pos ⟨rfl, m⟩, show FB.subB "NoTurn" "NoTurn" = true from by decide +kernel]
  have hd : ∀ ρ : FB.Env, hdR es [("NoText", some 4, u3__law_caught), ("Loud", some 4, u2__law_caught), ("BoardError", some 4, u1__law_caught)] (⟨"NoTurn", [], []⟩ : Exn) ρ = clzR (some 4) u1__law_caught (⟨"NoTurn", [], []⟩ : Exn) ρ := fun ρ => by
    simp only [hdR, h1, h2, h3]
  have cz : ∀ a b c d e : Option O, clzR (some 4) u1__law_caught (⟨"NoTurn", [], []⟩ : Exn) [a, b, c, d, e] = .ok .nx [a, b, c, some (.val (.tup [.int 2, .bl true])), none] := fun a b c d e => by
    unfold clzR
    simp [u1__law_caught, fl]
  have ra : ∀ ρ : FB.Env, mRaiseA "NoTurn" (mCons (mP (pVar 1)) mNil) ρ = rvAK "NoTurn" (mCons (mP (pVar 1)) mNil ρ) := fun ρ => rfl
  have rf : ∀ ρ : FB.Env, rvAK "NoTurn" (.ok [.val (.str w)] ρ) = .exc ⟨"NoTurn", [], []⟩ ρ := fun ρ => rfl
  unfold F__law_caught
  rw [runF_eq]
  simp [b__law_caught, b1__law_caught, ra, rf, hd, cz]
  first | rfl | skip
/-! the nine -/
def exL (w nm : Str) (n m : Int) : List D := [.exc "NoBoard" ["number", "word"] [.int n, .str w], .exc "NoText" ["line"] [.int n], .exc "NoEvent" ["number"] [.int m], .exc "Loud" ["guard"] [.str nm], .exc "Blind" ["greatness", "upper", "lower"] [.int m, .str w, .str nm], .exc "NoPlace" [] [], .exc "NoDeed" [] [], .exc "NoTurn" [] [], .exc "NoRow" [] []]
def RVl (i : Nat) : List D := (List.range 9).map fun j : Nat => D.bl (decide ((0 + (j : Int)) = (i : Int)))
theorem kv_rv {c : Str} {i : Nat} (h : D.eqv (KV c) (.lst (RVl i)) = true) (k : (KV c).okE 9 = true) (r : (D.lst (RVl i)).okE 9 = true) : neO (.val (KV c)) (vO (RVl i)) = some (.val (.bl false)) := by
  have e : (vO (RVl i)).toD = .lst (RVl i) := vO_toD _
  rw [e_neO (a := .val (KV c)) (b := vO (RVl i)) k (by rw [e]; exact r), e]
  show some (O.val (.bl (!D.eqv (KV c) (.lst (RVl i))))) = _
  rw [h]; rfl
theorem nine (w nm : Str) (n m : Int) (i : Nat) (hi : i < 9) : ∃ c ns ds, (exL w nm n m)[i]? = some (.exc c ns ds) ∧ c ∈ es ∧ FB.subB c "BoardError" = true ∧ neO (.val (KV c)) (vO (RVl i)) = some (.val (.bl false)) := by
  match i, hi with
  | 0, _ => exact ⟨"NoBoard", _, _, rfl, by decide +kernel, by decide +kernel, kv_rv (by decide +kernel) (by decide +kernel) (by decide +kernel)⟩
  | 1, _ => exact ⟨"NoText", _, _, rfl, by decide +kernel, by decide +kernel, kv_rv (by decide +kernel) (by decide +kernel) (by decide +kernel)⟩
  | 2, _ => exact ⟨"NoEvent", _, _, rfl, by decide +kernel, by decide +kernel, kv_rv (by decide +kernel) (by decide +kernel) (by decide +kernel)⟩
  | 3, _ => exact ⟨"Loud", _, _, rfl, by decide +kernel, by decide +kernel, kv_rv (by decide +kernel) (by decide +kernel) (by decide +kernel)⟩
  | 4, _ => exact ⟨"Blind", _, _, rfl, by decide +kernel, by decide +kernel, kv_rv (by decide +kernel) (by decide +kernel) (by decide +kernel)⟩
  | 5, _ => exact ⟨"NoPlace", _, _, rfl, by decide +kernel, by decide +kernel, kv_rv (by decide +kernel) (by decide +kernel) (by decide +kernel)⟩
  | 6, _ => exact ⟨"NoDeed", _, _, rfl, by decide +kernel, by decide +kernel, kv_rv (by decide +kernel) (by decide +kernel) (by decide +kernel)⟩
  | 7, _ => exact ⟨"NoTurn", _, _, rfl, by decide +kernel, by decide +kernel, kv_rv (by decide +kernel) (by decide +kernel) (by decide +kernel)⟩
  | 8, _ => exact ⟨"NoRow", _, _, rfl, by decide +kernel, by decide +kernel, kv_rv (by decide +kernel) (by decide +kernel) (by decide +kernel)⟩
theorem range_q (i : Nat) (x0 x1 x2 x3 x4 x5 x6 x7 x8 x9 x11 x12 : Option O) : q1_law (E_law x0 x1 x2 x3 x4 x5 x6 x7 x8 x9 (some (.val (.int (i : Int)))) x11 x12) = .ok (vO (RVl i)) (E_law x0 x1 x2 x3 x4 x5 x6 x7 x8 x9 (some (.val (.int (i : Int)))) x11 x12) := by
  rw [show vO (RVl i) = .lst ((List.range 9).map fun j : Nat => O.val (.bl (decide ((0 + (j : Int)) = (i : Int))))) from by unfold vO RVl; rw [List.map_map]; rfl]
  refine comp_map (fun j : Nat => D.int (0 + (j : Int))) _ (by simp [rangeL]; try rfl) (by decide) (by decide) fun j hj => ?_
  simp
theorem inner_b (w nm : Str) (n m : Int) (i : Nat) (hi : i < 9) (x0 x1 x2 x3 x4 x5 x6 x7 x8 x11 x12 : Option O) : b1_law (E_law x0 x1 x2 x3 x4 x5 x6 x7 x8 (some (vO (exL w nm n m))) (some (.val (.int (i : Int)))) x11 x12) = .ok .nx (E_law x0 x1 x2 x3 x4 x5 x6 x7 x8 (some (vO (exL w nm n m))) (some (.val (.int (i : Int)))) x11 x12) := by
  obtain ⟨c, ns, ds, el, hc, hs, ne⟩ := nine w nm n m i hi
  have ix : ixO (vO (exL w nm n m)) (.val (.int (i : Int))) = some (.val (.exc c ns ds)) := by
    show (atI ((exL w nm n m).map O.val) (i : Int)) = _
    rw [atN, List.getElem?_map, el]; rfl
  have i1 := isx_at hc ns ds "BoardError"
  rw [hs] at i1
  have i2 := isv_at hc ns ds
  have lk := law_kinds hc ns ds
  have q := range_q i x0 x1 x2 x3 x4 x5 x6 x7 x8 (some (vO (exL w nm n m))) x11 x12
  generalize vO (exL w nm n m) = LL at *
  generalize vO (RVl i) = RR at *
  generalize KV c = KK at *
  generalize D.exc c ns ds = EX at *
  generalize (i : Int) = ii at *
  simp [b1_law, ix, i1, i2, lk, q, ne]
theorem inner (w nm : Str) (n m : Int) (x0 x1 x2 x3 x4 x5 x6 x7 x8 x10 x11 x12 : Option O) : ∃ y10, forL (aN 10) b1_law (rangeL 0 9) (E_law x0 x1 x2 x3 x4 x5 x6 x7 x8 (some (vO (exL w nm n m))) x10 x11 x12) = .ok .nx (E_law x0 x1 x2 x3 x4 x5 x6 x7 x8 (some (vO (exL w nm n m))) y10 x11 x12) := by
  obtain ⟨ρ', f1, y, rfl⟩ := forL_inv (a := aN 10) (b := b1_law) (ds := rangeL 0 9) (fun _ ρ => ∃ y, ρ = E_law x0 x1 x2 x3 x4 x5 x6 x7 x8 (some (vO (exL w nm n m))) y x11 x12)
    (ρ := E_law x0 x1 x2 x3 x4 x5 x6 x7 x8 (some (vO (exL w nm n m))) x10 x11 x12) ⟨x10, rfl⟩ (by
      rintro i d ρ hd ⟨y, rfl⟩
      obtain ⟨hi, rfl⟩ := rangeL_get hd
      have st := inner_b w nm n m i hi x0 x1 x2 x3 x4 x5 x6 x7 x8 x11 x12
      rw [show (i : Int) = 0 + (i : Int) by omega] at st
      exact ⟨_, _, rfl, .inl st, _, rfl⟩)
  exact ⟨y, f1⟩
def CV (w : Str) (n : Int) : Nat → D
  | 0 => .tup [.int 0, .int n]
  | 1 => .tup [.int 1, .str w]
  | _ => .tup [.int 2, .bl true]
theorem caught_q (w : Str) (n : Int) (x0 x1 x2 x4 x6 x7 x8 x9 x10 x11 x12 : Option O) : q2_law (E_law x0 x1 x2 (some (.val (.str w))) x4 (some (.val (.int n))) x6 x7 x8 x9 x10 x11 x12) = .ok (vO [CV w n 0, CV w n 1, CV w n 2]) (E_law x0 x1 x2 (some (.val (.str w))) x4 (some (.val (.int n))) x6 x7 x8 x9 x10 x11 x12) := by
  have c0 := caught0 w n
  have c1 := caught1 w n
  have c2 := caught2 w n
  rw [show vO [CV w n 0, CV w n 1, CV w n 2] = .lst ((List.range 3).map fun j : Nat => O.val (CV w n j)) from rfl]
  refine comp_map (fun j : Nat => D.int (0 + (j : Int))) _ (by simp [rangeL]; try rfl) (by decide) (by decide) fun j hj => ?_
  have hj := List.mem_range.mp hj
  match j, hj with
  | 0, _ => simp [c0, CV]
  | 1, _ => simp [c1, CV]
  | 2, _ => simp [c2, CV]
theorem p60 : powD (.int 10) (.int 60) = some (.int 1000000000000000000000000000000000000000000000000000000000000) := by rw [e_pow (by decide) (by decide) (by decide)]; rfl
theorem turn07 (ns : List Int) (o : O) (h : Sok o) (t : Int) (x3 x4 x5 x6 x7 x8 x9 x10 x11 x12 : Option O) : ∃ o' y3 y4 y5 y6 y7 y8 y9 y10, b2_law (E_law (some (.val (.scr ns))) (some o) (some (.val (.int t))) x3 x4 x5 x6 x7 x8 x9 x10 x11 x12) = .ok .nx (E_law (some (.val (.scr ns))) (some o') (some (.val (.int t))) y3 y4 y5 y6 y7 y8 y9 y10 x11 x12) ∧ Sok o' := by
  obtain ⟨w, o1, e1, s1⟩ := law_word o h
  obtain ⟨nm, o2, e2, s2⟩ := law_word o1 s1
  obtain ⟨r3, o3, e3, s3, p3, q3⟩ := take o2 9 s2 (by decide) (by decide)
  obtain ⟨r4, o4, e4, s4, p4, q4⟩ := take o3 1000000000000000000000000000000000000000000000000000000000000 s3 (by decide) (by decide)
  obtain ⟨r5, o5, e5, s5, p5, q5⟩ := take o4 3 s4 (by decide) (by decide)
  obtain ⟨n, en⟩ : ∃ n : Int, atI [O.val (.int 0), O.val (.int r3), O.val (.int r4)] r5 = some (.val (.int n)) := by
    have : r5 = 0 ∨ r5 = 1 ∨ r5 = 2 := by omega
    rcases this with rfl | rfl | rfl
    · exact ⟨0, rfl⟩
    · exact ⟨r3, rfl⟩
    · exact ⟨r4, rfl⟩
  obtain ⟨m, o6, e6, s6, p6, q6⟩ := take o5 1000000000000000000000000000000000000000000000000000000000000 s5 (by decide) (by decide)
  obtain ⟨y10, fi⟩ := inner w nm n m (some (.val (.scr ns))) (some o6) (some (.val (.int t))) (some (.val (.str w))) (some (.val (.str nm))) (some (.val (.int n))) (some (.val (.int m))) (some (.val (.exc "NoBoard" ["number", "word"] [.int n, .str w]))) (some (.val (.exc "Blind" ["greatness", "upper", "lower"] [.int m, .str w, .str nm]))) x10 x11 x12
  have p := p60
  have v1 : ∀ ρ : FB.Env, evK "NoBoard" ["word", "number"] (.ok [.val (.str w), .val (.int n)] ρ) = .ok (.val (.exc "NoBoard" ["number", "word"] [.int n, .str w])) ρ := fun _ => rfl
  have v2 : ∀ ρ : FB.Env, evK "Blind" ["lower", "upper", "greatness"] (.ok [.val (.str nm), .val (.str w), .val (.int m)] ρ) = .ok (.val (.exc "Blind" ["greatness", "upper", "lower"] [.int m, .str w, .str nm])) ρ := fun _ => rfl
  have v3 : ∀ ρ : FB.Env, evK "NoText" ["line"] (.ok [.val (.int n)] ρ) = .ok (.val (.exc "NoText" ["line"] [.int n])) ρ := fun _ => rfl
  have v4 : ∀ ρ : FB.Env, evK "NoEvent" ["number"] (.ok [.val (.int m)] ρ) = .ok (.val (.exc "NoEvent" ["number"] [.int m])) ρ := fun _ => rfl
  have v5 : ∀ ρ : FB.Env, evK "Loud" ["guard"] (.ok [.val (.str nm)] ρ) = .ok (.val (.exc "Loud" ["guard"] [.str nm])) ρ := fun _ => rfl
  have v6 : ∀ (c x : Str) (ρ : FB.Env), ev0K c (.ok [.val (.str x)] ρ) = .ok (.val (.exc c [] [])) ρ := fun _ _ _ => rfl
  have exl : O.lst [.val (.exc "NoBoard" ["number", "word"] [.int n, .str w]), .val (.exc "NoText" ["line"] [.int n]), .val (.exc "NoEvent" ["number"] [.int m]), .val (.exc "Loud" ["guard"] [.str nm]), .val (.exc "Blind" ["greatness", "upper", "lower"] [.int m, .str w, .str nm]), .val (.exc "NoPlace" [] []), .val (.exc "NoDeed" [] []), .val (.exc "NoTurn" [] []), .val (.exc "NoRow" [] [])] = vO (exL w nm n m) := rfl
  have s9 : small (9 : Int) = true := by decide
  have g1 : xfO ["NoBoard"] "word" (.val (.exc "NoBoard" ["number", "word"] [.int n, .str w])) = some (.val (.str w)) := rfl
  have g2 : xfO ["NoBoard", "NoEvent"] "number" (.val (.exc "NoBoard" ["number", "word"] [.int n, .str w])) = some (.val (.int n)) := rfl
  have g3 : xfO ["Blind"] "lower" (.val (.exc "Blind" ["greatness", "upper", "lower"] [.int m, .str w, .str nm])) = some (.val (.str nm)) := rfl
  have g4 : xfO ["Blind"] "upper" (.val (.exc "Blind" ["greatness", "upper", "lower"] [.int m, .str w, .str nm])) = some (.val (.str w)) := rfl
  have g5 : xfO ["Blind"] "greatness" (.val (.exc "Blind" ["greatness", "upper", "lower"] [.int m, .str w, .str nm])) = some (.val (.int m)) := rfl
  have g6 : xfO ["NoText"] "line" (.val (.exc "NoText" ["line"] [.int n])) = some (.val (.int n)) := rfl
  have g7 : xfO ["NoBoard", "NoEvent"] "number" (.val (.exc "NoEvent" ["number"] [.int m])) = some (.val (.int m)) := rfl
  have g8 : xfO ["Loud"] "guard" (.val (.exc "Loud" ["guard"] [.str nm])) = some (.val (.str nm)) := rfl
  have i1 : ixO (vO (exL w nm n m)) (.val (.int 1)) = some (.val (.exc "NoText" ["line"] [.int n])) := rfl
  have i2 : ixO (vO (exL w nm n m)) (.val (.int 2)) = some (.val (.exc "NoEvent" ["number"] [.int m])) := rfl
  have i3 : ixO (vO (exL w nm n m)) (.val (.int 3)) = some (.val (.exc "Loud" ["guard"] [.str nm])) := rfl
  have n1 : neO (.val (.tup [.str w, .int n, .str nm, .str w, .int m])) (.val (.tup [.str w, .int n, .str nm, .str w, .int m])) = some (.val (.bl false)) := ne_selfD (d := .tup [.str w, .int n, .str nm, .str w, .int m]) rfl rfl rfl
  have n2 : neO (.val (.tup [.int n, .int m, .str nm])) (.val (.tup [.int n, .int m, .str nm])) = some (.val (.bl false)) := ne_selfD (d := .tup [.int n, .int m, .str nm]) rfl rfl rfl
  have n3 : neO (vO [CV w n 0, CV w n 1, CV w n 2]) (.lst [.val (.tup [.int 0, .int n]), .val (.tup [.int 1, .str w]), .val (.tup [.int 2, .bl true])]) = some (.val (.bl false)) := ne_selfD (d := .lst [CV w n 0, CV w n 1, CV w n 2]) (vO_toD _) rfl rfl
  have q2 := caught_q w n
  refine ⟨o6, some (.val (.str w)), some (.val (.str nm)), some (.val (.int n)), some (.val (.int m)), some (.val (.exc "NoBoard" ["number", "word"] [.int n, .str w])), some (.val (.exc "Blind" ["greatness", "upper", "lower"] [.int m, .str w, .str nm])), some (vO (exL w nm n m)), y10, ?_, s6⟩
  generalize vO (exL w nm n m) = LL at *
  generalize vO [CV w n 0, CV w n 1, CV w n 2] = CC at *
  simp [-eqO_int, b2_law, e1, e2, e3, p, e4, e5, en, e6, v1, v2, v3, v4, v5, v6, exl, s9, fi, g1, g2, g3, g4, g5, n1, i1, i2, i3, g6, g7, g8, n2, q2, n3]
theorem law07 (ns : List Int) (hl : ns.length ≤ 63) : ∃ r, F_law [.val (.scr ns)] = some (.val (.bl true), r) := by
  have st := stream ns hl
  have so : Sok (sm ns 0 20011) := ⟨ns, 0, 20011, rfl, by decide, by decide, by decide, hl⟩
  have sl : slO (.val (.scr ns)) none (some 63) = some (.val (.lst ((ns.take 63).map D.int))) := by
    rw [slO_val_scr, show (63 : Int) = ((63 : Nat) : Int) from rfl, cut_to]
  have ll : lenO (.val (.lst ((ns.take 63).map D.int))) = some (.val (.int (ns.length : Int))) := by
    rw [List.take_of_length_le hl]; simp
  obtain ⟨n, hn⟩ : ∃ n : Nat, (1 : Int) + (ns.length : Int) = (n : Int) := ⟨1 + ns.length, by push_cast; rfl⟩
  have sn := small_nat (n := n) (by omega)
  obtain ⟨ρ', f1, o', y2, y3, y4, y5, y6, y7, y8, y9, y10, rfl, so'⟩ := forL_inv (a := aN 2) (b := b2_law) (ds := rangeL 0 n) (fun _ ρ => ∃ o x2 x3 x4 x5 x6 x7 x8 x9 x10, ρ = E_law (some (.val (.scr ns))) (some o) x2 x3 x4 x5 x6 x7 x8 x9 x10 none none ∧ Sok o)
    (ρ := E_law (some (.val (.scr ns))) (some (sm ns 0 20011))) ⟨_, none, none, none, none, none, none, none, none, none, rfl, so⟩ (by
      rintro j d ρ hd ⟨o, x2, x3, x4, x5, x6, x7, x8, x9, x10, rfl, so⟩
      obtain ⟨hj, rfl⟩ := rangeL_get hd
      obtain ⟨o', y3, y4, y5, y6, y7, y8, y9, y10, e, so'⟩ := turn07 ns o so (0 + (j : Int)) x3 x4 x5 x6 x7 x8 x9 x10 none none
      exact ⟨E_law (some (.val (.scr ns))) (some o) (some (.val (.int (0 + (j : Int))))) x3 x4 x5 x6 x7 x8 x9 x10 none none, _, rfl, .inl e, o', _, y3, y4, y5, y6, y7, y8, y9, y10, rfl, so'⟩)
  refine ⟨[none], ?_⟩
  unfold F_law
  rw [runF_eq]
  generalize (ns.take 63).map D.int = N63 at *
  generalize sm ns 0 20011 = S0 at *
  simp [b_law, st, sl, ll, hn, sn, f1]
  try rfl
theorem law_true (ns : List Int) (hl : ns.length ≤ 63) : ∃ r, F_law [.val (.scr ns)] = some (.val (.bl true), r) := law07 ns hl

end Lw

open PySem PySem.W PySem.Calls PyProof.Rows in
set_option maxRecDepth 100000 in
set_option maxHeartbeats 0 in
theorem PySem.Challenge.cw_fuseboard_k07_refusals_made_holds : PySem.Challenge.rw_fuseboard_k07_refusals_made.Holds := by
  w_on; o_law
  refine HandSHeadRun.head_any (r := OpenLaw.row PySem.Challenge.rw_fuseboard_k07_refusals_made) (q := view (OpenLaw.row PySem.Challenge.rw_fuseboard_k07_refusals_made).prog [17]) (H := Wk.hk) (ob := Wk.ob) (M := 4000) (loose := Wk.loose) (d := HandSHeadRun.topDef (OpenLaw.row PySem.Challenge.rw_fuseboard_k07_refusals_made).prog 17) (kwd := []) Wk.ob_eq
    (by kernel_rfl) (fun s => by kernel_rfl) Wk.run (by kernel_rfl) (by kernel_rfl) (by kernel_rfl) (by rfl) (by first | assumption | decide +kernel) (by decide +kernel) ⟨rfl, rfl, rfl, rfl, rfl, by decide +kernel⟩ ?hw ?hc
  case hw => w_witness2
  case hc =>
    refine L2.walk_ofE (l := PySem.Challenge.rw_fuseboard_k07_refusals_made) (n := 63) (k := 4) (x := "_law_script") (CX := C8.CX0) rfl (by decide) (by kernel_rfl) ⟨rfl, by decide, by decide⟩ ?F (fun _ _ _ _ z => z)
    intro w mg fa h Y G hmg0
    obtain ⟨K, KX, c⟩ := Y
    have hmg : mg ("law" : PySem.Str) = some (.ref fa) := by
      have e : (HandSHeadRun.topDef (OpenLaw.row PySem.Challenge.rw_fuseboard_k07_refusals_made).prog 17).name = ("law" : PySem.Str) := by kernel_rfl
      rw [← e]
      exact hmg0
    obtain ⟨fd, hb, hF⟩ := Wk.facts (P := (PySem.Challenge.rw_fuseboard_k07_refusals_made).prog) (w := w) KX G hmg c
    exact ⟨K, fd, _, KX, hb, fun H a ns hl _ hS => FB.law_end (Lw.law_true ns hl) hS, hF⟩
#print axioms PySem.Challenge.cw_fuseboard_k07_refusals_made_holds


