import PyProof.Rows.All
import Wide.All
import OpenK.AllK
import Wide.FinOn
import HandS.ForMost
import HandS.Wide
import HandS.TupAny
import HandS.Deep
import HandS.IsInst
import HandS.SortInts
import HandS.Sort
import KE.KSortedM
import HandS.Zip
import HandS.Rev
import HandS.Codes
import KE.KStateDown
import HandS.Head0
import HandS.Head1
import HandS.Head2
import HandS.HeadEnd
import HandS.HeadHook1
import HandS.HeadHook2
import HandS.Dict
import HandS.Text
import HandS.NoneIn
import HandS.ExcOwn
import HandS.ExcIs
import HandS.ExcField
import HandS.TryMany
import PyProof.EqKinds
import HandS.Iter
import HandS.TupMul
import PyProof.EnumMake
import PyProof.Draws
import HandS.ExcInit
import HandS.ClsMeth
import HandS.TupLe
import HandS.Style
import HandS.DictComp
import KE.DataMinMax
import PyProof.ReprRoads
import PyProof.ReprText
import PyProof.ReprLen
import PyProof.CallFns
import HandS.TryOnly
import PySem.Challenge.RW_fuseboard_k20_rest_awake_held
set_option Elab.async false
set_option linter.all false
set_option maxRecDepth 100000
set_option maxHeartbeats 0
/-! Data trees (D: shared, never changed; O: owned, may be changed) and what it means that a heap holds them. -/
namespace FB
open PySem PySem.Spec L2
open PyProof.Rows hiding St

inductive D where
  | non
  | bl (b : Bool)
  | int (i : Int)
  | str (s : Str)
  | tup (ds : List D)
  | lst (ds : List D)
  | dct (ks : List Key) (ds : List D)
  | ins (c : Str) (ns : List Str) (ds : List D)
  /-- the script: a list of ints that is read alone -/
  | scr (ns : List Int)
  deriving Inhabited

inductive O where
  | val (d : D)
  | lst (os : List O)
  | dct (ks : List Key) (os : List O)
  | ins (c : Str) (ns : List Str) (os : List O)
  deriving Inhabited

mutual
def O.toD : O → D
  | .val d => d
  | .lst os => .lst (O.toDs os)
  | .dct ks os => .dct ks (O.toDs os)
  | .ins c ns os => .ins c ns (O.toDs os)
def O.toDs : List O → List D
  | [] => []
  | o :: os => o.toD :: O.toDs os
end
theorem toDs_map : ∀ os : List O, O.toDs os = os.map O.toD
  | [] => rfl
  | o :: os => by show o.toD :: O.toDs os = _; rw [toDs_map os]; rfl
theorem toDs_vals : ∀ ds : List D, O.toDs (ds.map O.val) = ds
  | [] => rfl
  | d :: ds => by show d :: O.toDs (ds.map O.val) = _; rw [toDs_vals ds]

/-! ### what a heap shows -/
mutual
inductive Vw (K : PySem.W.Frag) (mg : Str → Option Value) (G : Hp) : V → D → Prop
  | non : Vw K mg G .non .non
  | bl (b : Bool) : Vw K mg G (.bl b) (.bl b)
  | int (i : Int) : Vw K mg G (.int i) (.int i)
  | str (s : Str) : PyData.strOk s = true → Vw K mg G (.str s) (.str s)
  | tup {a : Addr} {xs : List V} {ds : List D} : SqT K G a xs → Vws K mg G xs ds → Vw K mg G (.ref a) (.tup ds)
  | lst {a : Addr} {xs : List V} {ds : List D} : Rd G a (.lst xs) → Vws K mg G xs ds → Vw K mg G (.ref a) (.lst ds)
  | scr {a : Addr} {ns : List Int} : SqL K G a (ns.map V.int) → Vw K mg G (.ref a) (.scr ns)
  | dct {a : Addr} {kvs : List (Key × V)} {ks : List Key} {ds : List D} : Rd G a (.dK kvs) → kvs.map (·.1) = ks ∧ ks.Nodup → Vws K mg G (kvs.map (·.2)) ds → Vw K mg G (.ref a) (.dct ks ds)
  | ins {a C dx : Addr} {fs : List (Str × V)} {c : Str} {ns : List Str} {ds : List D} : G a = some (.ins C dx fs) → mg c = some (.ref C) → fs.map (·.1) = ns → Vws K mg G (fs.map (·.2)) ds → Vw K mg G (.ref a) (.ins c ns ds)
inductive Vws (K : PySem.W.Frag) (mg : Str → Option Value) (G : Hp) : List V → List D → Prop
  | nil : Vws K mg G [] []
  | cons {v : V} {vs : List V} {d : D} {ds : List D} : Vw K mg G v d → Vws K mg G vs ds → Vws K mg G (v :: vs) (d :: ds)
end

theorem sameNew {H : Hp} {p : Addr} {o : HO} (h : H p = none) : Same H (upd H p o) := fun a u e => by rw [upd_ne (ne_of_none e h)]; exact e
theorem Same.rd {H H' : Hp} {a : Addr} {u : HO} (e : Same H H') (h : Rd H a u) : Rd H' a u := by
  rcases h with h | ⟨o, h⟩
  · exact .inl (e _ _ h)
  · exact .inr ⟨o, e _ _ h⟩
theorem Same.seqT {K : PySem.W.Frag} {H H' : Hp} {a : Addr} {xs : List V} (e : Same H H') (h : SqT K H a xs) : SqT K H' a xs := by
  rcases h with h | h
  · exact .inl (FB.Same.rd e h)
  · exact .inr h

section
variable {K : PySem.W.Frag} {mg : Str → Option Value}
mutual
theorem Vw.mono {G G' : Hp} (e : Same G G') : ∀ {v : V} {d : D}, Vw K mg G v d → Vw K mg G' v d
  | _, _, .non => .non
  | _, _, .bl b => .bl b
  | _, _, .int i => .int i
  | _, _, .str s h => .str s h
  | _, _, .tup h hs => .tup (FB.Same.seqT e h) (Vws.mono e hs)
  | _, _, .lst h hs => .lst (FB.Same.rd e h) (Vws.mono e hs)
  | _, _, .scr h => .scr (Same.seq e h)
  | _, _, .dct h hk hs => .dct (FB.Same.rd e h) hk (Vws.mono e hs)
  | _, _, .ins h hm hn hs => .ins (e _ _ h) hm hn (Vws.mono e hs)
theorem Vws.mono {G G' : Hp} (e : Same G G') : ∀ {vs : List V} {ds : List D}, Vws K mg G vs ds → Vws K mg G' vs ds
  | _, _, .nil => .nil
  | _, _, .cons h t => .cons (Vw.mono e h) (Vws.mono e t)
end
theorem Vws.length {G : Hp} : ∀ {vs : List V} {ds : List D}, Vws K mg G vs ds → vs.length = ds.length
  | _, _, .nil => rfl
  | _, _, .cons _ t => by simp [Vws.length t]
theorem Vws.get {G : Hp} : ∀ {vs : List V} {ds : List D} {i : Nat} {d : D}, Vws K mg G vs ds → ds[i]? = some d → ∃ v, vs[i]? = some v ∧ Vw K mg G v d
  | _, _, _, _, .nil, e => by simp at e
  | _, _, 0, _, .cons h _, e => by simp at e; subst e; exact ⟨_, rfl, h⟩
  | _, _, i + 1, _, .cons _ t, e => by
    obtain ⟨v, h1, h2⟩ := Vws.get (i := i) t (by simpa using e)
    exact ⟨v, by simpa using h1, h2⟩
theorem Vws.getV {G : Hp} : ∀ {vs : List V} {ds : List D} {i : Nat} {v : V}, Vws K mg G vs ds → vs[i]? = some v → ∃ d, ds[i]? = some d ∧ Vw K mg G v d
  | _, _, _, _, .nil, e => by simp at e
  | _, _, 0, _, .cons h _, e => by simp at e; subst e; exact ⟨_, rfl, h⟩
  | _, _, i + 1, _, .cons _ t, e => by
    obtain ⟨v, h1, h2⟩ := Vws.getV (i := i) t (by simpa using e)
    exact ⟨v, by simpa using h1, h2⟩
theorem Vws.append {G : Hp} : ∀ {vs ws : List V} {ds es : List D}, Vws K mg G vs ds → Vws K mg G ws es → Vws K mg G (vs ++ ws) (ds ++ es)
  | _, _, _, _, .nil, h => h
  | _, _, _, _, .cons h t, q => .cons h (Vws.append t q)
theorem Vws.take {G : Hp} : ∀ {vs : List V} {ds : List D} (n : Nat), Vws K mg G vs ds → Vws K mg G (vs.take n) (ds.take n)
  | _, _, 0, _ => by simp; exact .nil
  | _, _, _ + 1, .nil => .nil
  | _, _, n + 1, .cons h t => .cons h (Vws.take n t)
theorem Vws.drop {G : Hp} : ∀ {vs : List V} {ds : List D} (n : Nat), Vws K mg G vs ds → Vws K mg G (vs.drop n) (ds.drop n)
  | _, _, 0, h => h
  | _, _, _ + 1, .nil => .nil
  | _, _, n + 1, .cons _ t => Vws.drop n t
theorem Vws.reverse {G : Hp} : ∀ {vs : List V} {ds : List D}, Vws K mg G vs ds → Vws K mg G vs.reverse ds.reverse
  | _, _, .nil => .nil
  | _, _, .cons h t => by
    rw [List.reverse_cons, List.reverse_cons]
    exact Vws.append (Vws.reverse t) (.cons h .nil)
theorem Vws.set {G : Hp} {x : V} {e : D} (h : Vw K mg G x e) : ∀ {vs : List V} {ds : List D} (n : Nat), Vws K mg G vs ds → Vws K mg G (vs.set n x) (ds.set n e)
  | _, _, _, .nil => .nil
  | _, _, 0, .cons _ t => .cons h t
  | _, _, n + 1, .cons q t => .cons q (Vws.set h n t)
theorem Vws.ints {G : Hp} : ∀ ns : List Int, Vws K mg G (ns.map V.int) (ns.map D.int)
  | [] => .nil
  | n :: ns => .cons (.int n) (Vws.ints ns)

/-! ### owned trees -/
mutual
inductive VO (K : PySem.W.Frag) (mg : Str → Option Value) (G H : Hp) : V → O → List Addr → Prop
  | val {v : V} {d : D} : Vw K mg G v d → VO K mg G H v (.val d) []
  | lst {p : Addr} {vs : List V} {os : List O} {as : List Addr} : H p = some (.lst vs) → VOs K mg G H vs os as → VO K mg G H (.ref p) (.lst os) (p :: as)
  | dct {p : Addr} {kvs : List (Key × V)} {ks : List Key} {os : List O} {as : List Addr} : H p = some (.dK kvs) → kvs.map (·.1) = ks ∧ ks.Nodup → VOs K mg G H (kvs.map (·.2)) os as → VO K mg G H (.ref p) (.dct ks os) (p :: as)
  | ins {p C dx : Addr} {fs : List (Str × V)} {c : Str} {ns : List Str} {os : List O} {as : List Addr} : H p = some (.ins C dx fs) → mg c = some (.ref C) → fs.map (·.1) = ns → VOs K mg G H (fs.map (·.2)) os as → VO K mg G H (.ref p) (.ins c ns os) (p :: as)
inductive VOs (K : PySem.W.Frag) (mg : Str → Option Value) (G H : Hp) : List V → List O → List Addr → Prop
  | nil : VOs K mg G H [] [] []
  | cons {v : V} {vs : List V} {o : O} {os : List O} {as bs : List Addr} : VO K mg G H v o as → VOs K mg G H vs os bs → VOs K mg G H (v :: vs) (o :: os) (as ++ bs)
end
mutual
theorem VO.mono {G G' H H' : Hp} (e : Same G G') : ∀ {v : V} {o : O} {as : List Addr}, VO K mg G H v o as → (∀ a ∈ as, H' a = H a) → VO K mg G' H' v o as
  | _, _, _, .val h, _ => .val (h.mono e)
  | _, _, _, .lst h hs, q => .lst ((q _ (by simp)).trans h) (VOs.mono e hs fun a ha => q a (by simp [ha]))
  | _, _, _, .dct h hk hs, q => .dct ((q _ (by simp)).trans h) hk (VOs.mono e hs fun a ha => q a (by simp [ha]))
  | _, _, _, .ins h hm hn hs, q => .ins ((q _ (by simp)).trans h) hm hn (VOs.mono e hs fun a ha => q a (by simp [ha]))
theorem VOs.mono {G G' H H' : Hp} (e : Same G G') : ∀ {vs : List V} {os : List O} {as : List Addr}, VOs K mg G H vs os as → (∀ a ∈ as, H' a = H a) → VOs K mg G' H' vs os as
  | _, _, _, .nil, _ => .nil
  | _, _, _, .cons h t, q => .cons (VO.mono e h fun a ha => q a (by simp [ha])) (VOs.mono e t fun a ha => q a (by simp [ha]))
end
mutual
theorem VO.frz {G G' H : Hp} (e : Same G G') : ∀ {v : V} {o : O} {as : List Addr}, VO K mg G H v o as → (∀ a ∈ as, G' a = H a) → Vw K mg G' v o.toD
  | _, _, _, .val h, _ => h.mono e
  | _, _, _, .lst h hs, q => .lst (.inl ((q _ (by simp)).trans h)) (VOs.frz e hs fun a ha => q a (by simp [ha]))
  | _, _, _, .dct h hk hs, q => .dct (.inl ((q _ (by simp)).trans h)) hk (VOs.frz e hs fun a ha => q a (by simp [ha]))
  | _, _, _, .ins h hm hn hs, q => .ins ((q _ (by simp)).trans h) hm hn (VOs.frz e hs fun a ha => q a (by simp [ha]))
theorem VOs.frz {G G' H : Hp} (e : Same G G') : ∀ {vs : List V} {os : List O} {as : List Addr}, VOs K mg G H vs os as → (∀ a ∈ as, G' a = H a) → Vws K mg G' vs (O.toDs os)
  | _, _, _, .nil, _ => .nil
  | _, _, _, .cons h t, q => .cons (VO.frz e h fun a ha => q a (by simp [ha])) (VOs.frz e t fun a ha => q a (by simp [ha]))
end
mutual
theorem VO.dom {G H : Hp} : ∀ {v : V} {o : O} {as : List Addr}, VO K mg G H v o as → ∀ a ∈ as, ∃ u, H a = some u
  | _, _, _, .val _, a, ha => by simp at ha
  | _, _, _, .lst h hs, a, ha => by
    rcases List.mem_cons.mp ha with e | ha
    · exact ⟨_, e ▸ h⟩
    · exact VOs.dom hs a ha
  | _, _, _, .dct h hk hs, a, ha => by
    rcases List.mem_cons.mp ha with e | ha
    · exact ⟨_, e ▸ h⟩
    · exact VOs.dom hs a ha
  | _, _, _, .ins h hm hn hs, a, ha => by
    rcases List.mem_cons.mp ha with e | ha
    · exact ⟨_, e ▸ h⟩
    · exact VOs.dom hs a ha
theorem VOs.dom {G H : Hp} : ∀ {vs : List V} {os : List O} {as : List Addr}, VOs K mg G H vs os as → ∀ a ∈ as, ∃ u, H a = some u
  | _, _, _, .nil, a, ha => by simp at ha
  | _, _, _, .cons h t, a, ha => by
    rcases List.mem_append.mp ha with ha | ha
    · exact VO.dom h a ha
    · exact VOs.dom t a ha
end
theorem VOs.length {G H : Hp} : ∀ {vs : List V} {os : List O} {as : List Addr}, VOs K mg G H vs os as → vs.length = os.length
  | _, _, _, .nil => rfl
  | _, _, _, .cons _ t => by simp [VOs.length t]
theorem VOs.get {G H : Hp} : ∀ {vs : List V} {os : List O} {as : List Addr} {i : Nat} {o : O}, VOs K mg G H vs os as → os[i]? = some o → ∃ v bs, vs[i]? = some v ∧ VO K mg G H v o bs
  | _, _, _, _, _, .nil, e => by simp at e
  | _, _, _, 0, _, .cons h _, e => by simp at e; subst e; exact ⟨_, _, rfl, h⟩
  | _, _, _, i + 1, _, .cons _ t, e => by
    obtain ⟨v, bs, h1, h2⟩ := VOs.get (i := i) t (by simpa using e)
    exact ⟨v, bs, by simpa using h1, h2⟩
theorem VOs.vals {G H : Hp} : ∀ {vs : List V} {ds : List D}, Vws K mg G vs ds → VOs K mg G H vs (ds.map O.val) []
  | _, _, .nil => .nil
  | _, _, .cons h t => .cons (as := []) (.val h) (VOs.vals t)
theorem VOs.of_vals {G H : Hp} : ∀ {vs : List V} {ds : List D} {as : List Addr}, VOs K mg G H vs (ds.map O.val) as → Vws K mg G vs ds ∧ as = []
  | _, [], _, .nil => ⟨.nil, rfl⟩
  | _, d :: ds, _, .cons (.val h) t => by
    obtain ⟨q, e⟩ := VOs.of_vals (ds := ds) t
    subst e
    exact ⟨.cons h q, rfl⟩

/-! ### items, and a heap that holds them apart -/
inductive Item where
  | ov (v : V) (o : O)
  | raw (p : Addr) (h : HO)
  /-- a shared thing that is locked -/
  | pin (p : Addr) (od : Obj) (u : HO)
def hide (H : Hp) (A : List Addr) : Hp := fun a => if a ∈ A then none else H a
theorem hide_in {H : Hp} {A : List Addr} {a : Addr} (h : a ∈ A) : hide H A a = none := if_pos h
theorem hide_out {H : Hp} {A : List Addr} {a : Addr} (h : a ∉ A) : hide H A a = H a := if_neg h
theorem hide_some {H : Hp} {A : List Addr} {a : Addr} {o : HO} (h : hide H A a = some o) : a ∉ A ∧ H a = some o := by
  by_cases ha : a ∈ A
  · rw [hide_in ha] at h; cases h
  · exact ⟨ha, by rw [hide_out ha] at h; exact h⟩
theorem hide_same {H H' : Hp} {A A' : List Addr} (h : ∀ a o, a ∉ A → H a = some o → a ∉ A' ∧ H' a = some o) : Same (hide H A) (hide H' A') := fun a o e => by
  obtain ⟨h1, h2⟩ := hide_some e
  obtain ⟨h3, h4⟩ := h a o h1 h2
  rw [hide_out h3]; exact h4
theorem hide_sub {H : Hp} {A : List Addr} : Same (hide H A) H := fun a o e => (hide_some e).2
theorem hide_congr {H : Hp} {A B : List Addr} (h : ∀ a, a ∈ A ↔ a ∈ B) : hide H A = hide H B := by
  funext a
  unfold hide
  by_cases ha : a ∈ A
  · rw [if_pos ha, if_pos ((h a).mp ha)]
  · rw [if_neg ha, if_neg fun z => ha ((h a).mpr z)]

inductive IOk (K : PySem.W.Frag) (mg : Str → Option Value) (G H : Hp) : Item → List Addr → Prop
  | ov {v : V} {o : O} {as : List Addr} : VO K mg G H v o as → IOk K mg G H (.ov v o) as
  | raw {p : Addr} {h : HO} : H p = some h → IOk K mg G H (.raw p h) [p]
  | pin {p : Addr} {od : Obj} {u : HO} : G p = some (.frz od u) → IOk K mg G H (.pin p od u) []
inductive IsOk (K : PySem.W.Frag) (mg : Str → Option Value) (G H : Hp) : List Item → List Addr → Prop
  | nil : IsOk K mg G H [] []
  | cons {x : Item} {L : List Item} {as bs : List Addr} : IOk K mg G H x as → IsOk K mg G H L bs → IsOk K mg G H (x :: L) (as ++ bs)
theorem IOk.mono {G G' H H' : Hp} (e : Same G G') {x : Item} {as : List Addr} (h : IOk K mg G H x as) (q : ∀ a ∈ as, H' a = H a) : IOk K mg G' H' x as := by
  cases h with
  | ov h => exact .ov (h.mono e q)
  | raw h => exact .raw ((q _ (by simp)).trans h)
  | pin h => exact .pin (e _ _ h)
theorem IsOk.mono {G G' H H' : Hp} (e : Same G G') : ∀ {L : List Item} {as : List Addr}, IsOk K mg G H L as → (∀ a ∈ as, H' a = H a) → IsOk K mg G' H' L as
  | _, _, .nil, _ => .nil
  | _, _, .cons h t, q => .cons (h.mono e fun a ha => q a (by simp [ha])) (IsOk.mono e t fun a ha => q a (by simp [ha]))
theorem IOk.dom {G H : Hp} {x : Item} {as : List Addr} (h : IOk K mg G H x as) : ∀ a ∈ as, ∃ u, H a = some u := by
  cases h with
  | ov h => exact h.dom
  | raw h => intro a ha; simp at ha; subst ha; exact ⟨_, h⟩
  | pin h => intro a ha; simp at ha
theorem IsOk.dom {G H : Hp} : ∀ {L : List Item} {as : List Addr}, IsOk K mg G H L as → ∀ a ∈ as, ∃ u, H a = some u
  | _, _, .nil, a, ha => by simp at ha
  | _, _, .cons h t, a, ha => by
    rcases List.mem_append.mp ha with ha | ha
    · exact h.dom a ha
    · exact IsOk.dom t a ha
theorem IsOk.append {G H : Hp} : ∀ {L M : List Item} {as bs : List Addr}, IsOk K mg G H L as → IsOk K mg G H M bs → IsOk K mg G H (L ++ M) (as ++ bs)
  | _, _, _, _, .nil, h => h
  | _, _, _, _, .cons (as := as) (bs := cs) h t, q => by
    rw [List.append_assoc]
    exact .cons h (IsOk.append t q)
theorem IsOk.split {G H : Hp} : ∀ {L M : List Item} {as : List Addr}, IsOk K mg G H (L ++ M) as → ∃ bs cs, as = bs ++ cs ∧ IsOk K mg G H L bs ∧ IsOk K mg G H M cs
  | [], M, as, h => ⟨[], as, rfl, .nil, h⟩
  | x :: L, M, _, .cons (as := as) h t => by
    obtain ⟨bs, cs, e, h1, h2⟩ := IsOk.split (L := L) t
    subst e
    exact ⟨as ++ bs, cs, (List.append_assoc _ _ _).symm, .cons h h1, h2⟩
theorem IsOk.perm {G H : Hp} {L L' : List Item} (p : L.Perm L') : ∀ {as : List Addr}, IsOk K mg G H L as → ∃ bs, as.Perm bs ∧ IsOk K mg G H L' bs := by
  induction p with
  | nil => intro as h; exact ⟨as, .refl _, h⟩
  | cons x _ ih =>
    intro as h
    cases h with
    | cons h t =>
      obtain ⟨bs, q, t'⟩ := ih t
      exact ⟨_, q.append_left _, .cons h t'⟩
  | swap x y L =>
    intro as h
    cases h with
    | cons h t =>
      cases t with
      | cons h2 t =>
        rename_i a1 a2 a3
        refine ⟨a2 ++ (a1 ++ a3), ?_, .cons h2 (.cons h t)⟩
        rw [← List.append_assoc, ← List.append_assoc]
        exact List.perm_append_comm.append_right _
  | trans _ _ ih1 ih2 =>
    intro as h
    obtain ⟨bs, q, h1⟩ := ih1 h
    obtain ⟨cs, q2, h2⟩ := ih2 h1
    exact ⟨cs, q.trans q2, h2⟩

/-- the heap holds the items apart; B: what is borrowed from them, for the time being -/
def Rep (K : PySem.W.Frag) (mg : Str → Option Value) (H : Hp) (L : List Item) (B : List (V × O)) : Prop :=
  ∃ A : List Addr, A.Nodup ∧ IsOk K mg (hide H A) H L A ∧ ∀ b ∈ B, ∃ as, VO K mg (hide H A) H b.1 b.2 as ∧ ∀ a ∈ as, a ∈ A
variable {H H' : Hp} {L L' M : List Item} {B B' : List (V × O)}
theorem Rep.perm (h : Rep K mg H L B) (p : L.Perm L') : Rep K mg H L' B := by
  obtain ⟨A, nd, ok, hb⟩ := h
  obtain ⟨A', q, ok'⟩ := ok.perm p
  have e : hide H A = hide H A' := hide_congr fun a => q.mem_iff
  rw [e] at ok'
  refine ⟨A', q.nodup nd, ok', fun b hb' => ?_⟩
  obtain ⟨as, h1, h2⟩ := hb b hb'
  rw [e] at h1
  exact ⟨as, h1, fun a ha => q.mem_iff.mp (h2 a ha)⟩
theorem Rep.grow (h : Rep K mg H L B) (s : Same H H') : Rep K mg H' L B := by
  obtain ⟨A, nd, ok, hb⟩ := h
  have e : Same (hide H A) (hide H' A) := hide_same fun a o ha q => ⟨ha, s a o q⟩
  have ha : ∀ a ∈ A, H' a = H a := fun a ha => by
    obtain ⟨u, q⟩ := ok.dom a ha
    rw [q, s a u q]
  refine ⟨A, nd, ok.mono e ha, fun b hb' => ?_⟩
  obtain ⟨as, h1, h2⟩ := hb b hb'
  exact ⟨as, h1.mono e fun a q => ha a (h2 a q), h2⟩
theorem Rep.bsub (h : Rep K mg H L B) (s : ∀ b ∈ B', b ∈ B) : Rep K mg H L B' := by
  obtain ⟨A, nd, ok, hb⟩ := h
  exact ⟨A, nd, ok, fun b hb' => hb b (s b hb')⟩
theorem Rep.nob (h : Rep K mg H L B) : Rep K mg H L [] := h.bsub fun _ z => by simp at z
theorem Rep.bdrop {b : V × O} (h : Rep K mg H L (b :: B)) : Rep K mg H L B := h.bsub fun _ z => List.mem_cons_of_mem _ z
theorem Rep.drop {x : Item} (h : Rep K mg H (x :: L) []) : Rep K mg H L [] := by
  obtain ⟨A, nd, ok, hb⟩ := h
  cases ok with
  | cons h t =>
    rename_i as bs
    have e : Same (hide H (as ++ bs)) (hide H bs) := hide_same fun a o ha q => ⟨fun z => ha (by simp [z]), q⟩
    exact ⟨bs, (List.nodup_append.mp nd).2.1, t.mono e fun _ _ => rfl, fun _ z => by simp at z⟩
theorem Rep.frz {v : V} {o : O} (h : Rep K mg H (.ov v o :: L) []) : Rep K mg H (.ov v (.val o.toD) :: L) [] := by
  obtain ⟨A, nd, ok, hb⟩ := h
  cases ok with
  | cons h t =>
    rename_i as bs
    cases h with
    | ov h =>
      have e : Same (hide H (as ++ bs)) (hide H bs) := hide_same fun a o ha q => ⟨fun z => ha (by simp [z]), q⟩
      have dj := (List.nodup_append.mp nd).2.2
      refine ⟨bs, (List.nodup_append.mp nd).2.1, ?_, fun _ z => by simp at z⟩
      refine .cons (as := []) (.ov (.val (h.frz e fun a ha => ?_))) (t.mono e fun _ _ => rfl)
      exact hide_out fun z => dj a ha a z rfl
theorem Rep.lend {v : V} {o : O} (h : Rep K mg H (.ov v o :: L) B) : Rep K mg H (.ov v o :: L) ((v, o) :: B) := by
  obtain ⟨A, nd, ok, hb⟩ := h
  refine ⟨A, nd, ok, fun b q => ?_⟩
  rcases List.mem_cons.mp q with e | q
  · subst e
    cases ok with
    | cons h t =>
      cases h with
      | ov h => exact ⟨_, h, fun a ha => by simp [ha]⟩
  · exact hb b q
theorem Rep.keep {v : V} {d : D} (h : Rep K mg H L ((v, .val d) :: B)) : Rep K mg H (.ov v (.val d) :: L) B := by
  obtain ⟨A, nd, ok, hb⟩ := h
  obtain ⟨as, h1, _⟩ := hb _ (List.mem_cons_self ..)
  cases h1 with
  | val h1 => exact ⟨A, nd, .cons (as := []) (.ov (.val h1)) ok, fun b q => hb b (by simp [q])⟩
theorem Rep.scal {v : V} {d : D} (h : Rep K mg H L B) (hv : ∀ G, Vw K mg G v d) : Rep K mg H (.ov v (.val d) :: L) B := by
  obtain ⟨A, nd, ok, hb⟩ := h
  exact ⟨A, nd, .cons (as := []) (.ov (.val (hv _))) ok, hb⟩
theorem Rep.scalB {v : V} {d : D} (h : Rep K mg H L B) (hv : ∀ G, Vw K mg G v d) : Rep K mg H L ((v, .val d) :: B) := by
  obtain ⟨A, nd, ok, hb⟩ := h
  refine ⟨A, nd, ok, fun b q => ?_⟩
  rcases List.mem_cons.mp q with e | q
  · subst e; exact ⟨[], .val (hv _), by simp⟩
  · exact hb b q
theorem Rep.rawAt {p : Addr} {o : HO} (h : Rep K mg H (.raw p o :: L) B) : H p = some o := by
  obtain ⟨A, nd, ok, hb⟩ := h
  cases ok with
  | cons h t =>
    cases h with
    | raw h => exact h
theorem Rep.write {p : Addr} {o o' : HO} (h : Rep K mg H (.raw p o :: L) B) : Rep K mg (upd H p o') (.raw p o' :: L) [] := by
  obtain ⟨A, nd, ok, hb⟩ := h
  cases ok with
  | cons h t =>
    rename_i as bs
    cases h with
    | raw h =>
      have hp : p ∉ bs := (List.nodup_cons.mp nd).1
      have e : Same (hide H (p :: bs)) (hide (upd H p o') (p :: bs)) := hide_same fun a u ha q => ⟨ha, by rw [upd_ne fun z => ha (by simp [z])]; exact q⟩
      refine ⟨p :: bs, nd, .cons (as := [p]) (.raw upd_same) (t.mono e fun a ha => ?_), fun _ z => by simp at z⟩
      exact upd_ne fun z => hp (z ▸ ha)
theorem Rep.new {p : Addr} {o : HO} (h : Rep K mg H L B) (hp : H p = none) : Rep K mg (upd H p o) (.raw p o :: L) B := by
  obtain ⟨A, nd, ok, hb⟩ := h
  have hA : p ∉ A := fun z => by
    obtain ⟨u, q⟩ := ok.dom p z
    rw [hp] at q; cases q
  have e : Same (hide H A) (hide (upd H p o) (p :: A)) := hide_same fun a u ha q => by
    have : a ≠ p := fun z => by rw [z, hp] at q; cases q
    exact ⟨by simp [this, ha], by rw [upd_ne this]; exact q⟩
  have hu : ∀ a ∈ A, upd H p o a = H a := fun a ha => upd_ne fun z => hA (z ▸ ha)
  refine ⟨p :: A, List.nodup_cons.mpr ⟨hA, nd⟩, .cons (as := [p]) (.raw upd_same) (ok.mono e hu), fun b q => ?_⟩
  obtain ⟨as, h1, h2⟩ := hb b q
  exact ⟨as, h1.mono e fun a ha => hu a (h2 a ha), fun a ha => by simp [h2 a ha]⟩

/-! ### opening and closing -/
def zipI (vs : List V) (os : List O) : List Item := List.zipWith Item.ov vs os
theorem IsOk.zip {G : Hp} : ∀ {vs : List V} {os : List O} {as : List Addr}, VOs K mg G H vs os as → IsOk K mg G H (zipI vs os) as
  | _, _, _, .nil => .nil
  | _, _, _, .cons h t => .cons (.ov h) (IsOk.zip t)
theorem IsOk.unzip {G : Hp} : ∀ {vs : List V} {os : List O} {as : List Addr}, vs.length = os.length → IsOk K mg G H (zipI vs os) as → VOs K mg G H vs os as
  | [], [], _, _, .nil => .nil
  | [], _ :: _, _, e, _ => by simp at e
  | _ :: _, [], _, e, _ => by simp at e
  | v :: vs, o :: os, _, e, .cons (.ov h) t => .cons h (IsOk.unzip (by simpa using e) t)
theorem Rep.openL {v : V} {os : List O} (h : Rep K mg H (.ov v (.lst os) :: L) B) : ∃ p vs, v = .ref p ∧ vs.length = os.length ∧ Rep K mg H (.raw p (.lst vs) :: (zipI vs os ++ L)) B := by
  obtain ⟨A, nd, ok, hb⟩ := h
  cases ok with
  | cons h t =>
    cases h with
    | ov h =>
      cases h with
      | lst h hs => exact ⟨_, _, rfl, hs.length, _, nd, .cons (as := [_]) (.raw h) (IsOk.append (IsOk.zip hs) t), hb⟩
theorem Rep.closeL {p : Addr} {vs : List V} {os : List O} (h : Rep K mg H (.raw p (.lst vs) :: (zipI vs os ++ L)) B) (e : vs.length = os.length) : Rep K mg H (.ov (.ref p) (.lst os) :: L) B := by
  obtain ⟨A, nd, ok, hb⟩ := h
  cases ok with
  | cons h t =>
    cases h with
    | raw h =>
      obtain ⟨bs, cs, e2, t1, t2⟩ := t.split
      subst e2
      exact ⟨_, nd, .cons (as := _ :: bs) (.ov (.lst h (IsOk.unzip e t1))) t2, hb⟩
theorem Rep.openD {v : V} {ks : List Key} {os : List O} (h : Rep K mg H (.ov v (.dct ks os) :: L) B) : ∃ p kvs, v = .ref p ∧ kvs.length = os.length ∧ (kvs.map (·.1) = ks ∧ ks.Nodup) ∧ Rep K mg H (.raw p (.dK kvs) :: (zipI (kvs.map (·.2)) os ++ L)) B := by
  obtain ⟨A, nd, ok, hb⟩ := h
  cases ok with
  | cons h t =>
    cases h with
    | ov h =>
      cases h with
      | dct h hk hs => exact ⟨_, _, rfl, by have := hs.length; simpa using this, hk, _, nd, .cons (as := [_]) (.raw h) (IsOk.append (IsOk.zip hs) t), hb⟩
theorem Rep.closeD {p : Addr} {kvs : List (Key × V)} {ks : List Key} {os : List O} (h : Rep K mg H (.raw p (.dK kvs) :: (zipI (kvs.map (·.2)) os ++ L)) B) (e : kvs.length = os.length) (hk : kvs.map (·.1) = ks ∧ ks.Nodup) : Rep K mg H (.ov (.ref p) (.dct ks os) :: L) B := by
  obtain ⟨A, nd, ok, hb⟩ := h
  cases ok with
  | cons h t =>
    cases h with
    | raw h =>
      obtain ⟨bs, cs, e2, t1, t2⟩ := t.split
      subst e2
      exact ⟨_, nd, .cons (as := _ :: bs) (.ov (.dct h hk (IsOk.unzip (by simpa using e) t1))) t2, hb⟩
theorem Rep.openI {v : V} {c : Str} {ns : List Str} {os : List O} (h : Rep K mg H (.ov v (.ins c ns os) :: L) B) :
    ∃ p C dx fs, v = .ref p ∧ mg c = some (.ref C) ∧ fs.length = os.length ∧ fs.map (·.1) = ns ∧ Rep K mg H (.raw p (.ins C dx fs) :: (zipI (fs.map (·.2)) os ++ L)) B := by
  obtain ⟨A, nd, ok, hb⟩ := h
  cases ok with
  | cons h t =>
    cases h with
    | ov h =>
      cases h with
      | ins h hm hn hs => exact ⟨_, _, _, _, rfl, hm, by have := hs.length; simpa using this, hn, _, nd, .cons (as := [_]) (.raw h) (IsOk.append (IsOk.zip hs) t), hb⟩
theorem Rep.closeI {p C dx : Addr} {fs : List (Str × V)} {c : Str} {ns : List Str} {os : List O} (h : Rep K mg H (.raw p (.ins C dx fs) :: (zipI (fs.map (·.2)) os ++ L)) B) (e : fs.length = os.length) (hm : mg c = some (.ref C)) (hn : fs.map (·.1) = ns) :
    Rep K mg H (.ov (.ref p) (.ins c ns os) :: L) B := by
  obtain ⟨A, nd, ok, hb⟩ := h
  cases ok with
  | cons h t =>
    cases h with
    | raw h =>
      obtain ⟨bs, cs, e2, t1, t2⟩ := t.split
      subst e2
      exact ⟨_, nd, .cons (as := _ :: bs) (.ov (.ins h hm hn (IsOk.unzip (by simpa using e) t1))) t2, hb⟩
/-- a tuple of shared things is shared -/
theorem Rep.closeT {p : Addr} {vs : List V} {ds : List D} (h : Rep K mg H (.raw p (.tup vs) :: (zipI vs (ds.map O.val) ++ L)) []) (e : vs.length = ds.length) : Rep K mg H (.ov (.ref p) (.val (.tup ds)) :: L) [] := by
  obtain ⟨A, nd, ok, hb⟩ := h
  cases ok with
  | cons h t =>
    cases h with
    | raw h =>
      obtain ⟨bs, cs, e2, t1, t2⟩ := t.split
      subst e2
      obtain ⟨q, e3⟩ := VOs.of_vals (IsOk.unzip (by simpa using e) t1)
      subst e3
      have s : Same (hide H ([p] ++ ([] ++ cs))) (hide H cs) := hide_same fun a o ha q => ⟨fun z => ha (by simp [z]), q⟩
      have hp : p ∉ cs := (List.nodup_cons.mp nd).1
      refine ⟨cs, (List.nodup_cons.mp nd).2, .cons (as := []) (.ov (.val (.tup (SqT.of ?_) (q.mono s)))) (t2.mono s fun _ _ => rfl), fun _ z => by simp at z⟩
      rw [hide_out hp]; exact h
/-- the whole heap shows what is borrowed -/
theorem Rep.view {b : V × O} (h : Rep K mg H L B) (q : b ∈ B) : Vw K mg H b.1 b.2.toD := by
  obtain ⟨A, nd, ok, hb⟩ := h
  obtain ⟨as, h1, h2⟩ := hb b q
  exact h1.frz hide_sub fun _ _ => rfl
end
end FB

/-! The environment, the meaning of expressions and statements over it, the judgements. -/
namespace FB
open PySem PySem.Spec L2
open PyProof.Rows hiding St

abbrev Env := List (Option O)
structure Exn where
  c : Str
  ns : List Str
  ds : List D
inductive Res (α : Type) where
  | ok (a : α) (ρ : Env)
  | exc (x : Exn) (ρ : Env)
  | no
abbrev M (α : Type) := Env → Res α
def Res.bind {α β : Type} (r : Res α) (f : α → Env → Res β) : Res β :=
  match r with
  | .ok a ρ => f a ρ
  | .exc x ρ => .exc x ρ
  | .no => .no
@[simp] theorem Res.bind_ok {α β : Type} (a : α) (ρ : Env) (f : α → Env → Res β) : (Res.ok a ρ).bind f = f a ρ := rfl
@[simp] theorem Res.bind_no {α β : Type} (f : α → Env → Res β) : (Res.no : Res α).bind f = .no := rfl
theorem Res.bind_eq {α β : Type} {r : Res α} {f : α → Env → Res β} {b : β} {ρ' : Env} (h : r.bind f = .ok b ρ') : ∃ a ρ, r = .ok a ρ ∧ f a ρ = .ok b ρ' := by
  cases r with
  | ok a ρ => exact ⟨a, ρ, rfl, h⟩
  | exc x ρ => cases h
  | no => cases h
abbrev Pf := Env → Option O
inductive Fl where
  | nx | ret (o : O) | brk | ct

def pairs : St → Env → List Item
  | some v :: σ, some o :: ρ => .ov v o :: pairs σ ρ
  | _ :: σ, _ :: ρ => pairs σ ρ
  | _, _ => []
theorem pairs_ss (v : V) (o : O) (σ : St) (ρ : Env) : pairs (some v :: σ) (some o :: ρ) = .ov v o :: pairs σ ρ := rfl
theorem pairs_sn (v : Option V) (σ : St) (ρ : Env) : pairs (v :: σ) (none :: ρ) = pairs σ ρ := by cases v <;> rfl
theorem pairs_ns (o : Option O) (σ : St) (ρ : Env) : pairs (none :: σ) (o :: ρ) = pairs σ ρ := by cases o <;> rfl
theorem pairs_nil (ρ : Env) : pairs [] ρ = [] := by cases ρ <;> rfl
theorem pairs_nil' (σ : St) : pairs σ [] = [] := by cases σ with
  | nil => rfl
  | cons v σ => cases v <;> rfl
theorem pairs_take : ∀ {σ : St} {ρ : Env} {i : Nat} {v : V} {o : O}, σ[i]? = some (some v) → ρ[i]? = some (some o) → (pairs σ ρ).Perm (.ov v o :: pairs σ (ρ.set i none))
  | [], _, _, _, _, h, _ => by simp at h
  | _ :: _, [], _, _, _, _, h => by simp at h
  | w :: σ, u :: ρ, 0, v, o, h1, h2 => by
    simp at h1 h2
    subst h1 h2
    rw [List.set_cons_zero, pairs_ss, pairs_sn]
  | w :: σ, u :: ρ, i + 1, v, o, h1, h2 => by
    have ih := pairs_take (σ := σ) (ρ := ρ) (i := i) (v := v) (o := o) (by simpa using h1) (by simpa using h2)
    rw [List.set_cons_succ]
    cases w with
    | none => rw [pairs_ns, pairs_ns]; exact ih
    | some w =>
      cases u with
      | none => rw [pairs_sn, pairs_sn]; exact ih
      | some u =>
        rw [pairs_ss, pairs_ss]
        exact (ih.cons _).trans (.swap _ _ _)
theorem pairs_setn : ∀ {σ : St} {ρ : Env} {i : Nat} {v : Option V}, ρ[i]? = some none → pairs (σ.set i v) ρ = pairs σ ρ
  | [], ρ, i, v, _ => by simp [pairs_nil]
  | w :: σ, [], i, v, h => by simp at h
  | w :: σ, u :: ρ, 0, v, h => by
    simp at h
    subst h
    rw [List.set_cons_zero, pairs_sn, pairs_sn]
  | w :: σ, u :: ρ, i + 1, v, h => by
    have ih := pairs_setn (σ := σ) (ρ := ρ) (i := i) (v := v) (by simpa using h)
    rw [List.set_cons_succ]
    cases w with
    | none => rw [pairs_ns, pairs_ns, ih]
    | some w =>
      cases u with
      | none => rw [pairs_sn, pairs_sn, ih]
      | some u => rw [pairs_ss, pairs_ss, ih]
theorem pairs_put {σ : St} {ρ : Env} {i : Nat} {v : V} {o : O} (h1 : i < σ.length) (h2 : i < ρ.length) : (.ov v o :: pairs σ (ρ.set i none) : List Item).Perm (pairs (σ.set i (some v)) (ρ.set i (some o))) := by
  have e1 : (σ.set i (some v))[i]? = some (some v) := by simp [h1]
  have e2 : (ρ.set i (some o))[i]? = some (some o) := by simp [h2]
  have := pairs_take e1 e2
  rw [List.set_set] at this
  have e3 : pairs (σ.set i (some v)) (ρ.set i none) = pairs σ (ρ.set i none) := pairs_setn (by simp [h2])
  rw [e3] at this
  exact this.symm
/-- the value stands, what is known of it is another thing -/
theorem pairs_back {σ : St} {ρ : Env} {i : Nat} {v : V} {o : O} (h1 : σ[i]? = some (some v)) (h2 : i < ρ.length) : (.ov v o :: pairs σ (ρ.set i none) : List Item).Perm (pairs σ (ρ.set i (some o))) := by
  have e2 : (ρ.set i (some o))[i]? = some (some o) := by simp [h2]
  have := pairs_take h1 e2
  rw [List.set_set] at this
  exact this.symm

structure Cov (σ : St) (ρ : Env) : Prop where
  len : σ.length = ρ.length
  ex : ∀ (i : Nat) (o : O), ρ[i]? = some (some o) → ∃ v, σ[i]? = some (some v)
theorem Cov.set {σ : St} {ρ : Env} (c : Cov σ ρ) (i : Nat) (v : V) (o : O) : Cov (σ.set i (some v)) (ρ.set i (some o)) := by
  refine ⟨by simp [c.len], fun j q h => ?_⟩
  by_cases e : i = j
  · subst e
    have hj : i < ρ.length := by
      have := (List.getElem?_eq_some_iff.mp h).1
      simpa using this
    exact ⟨v, by simp [c.len, hj]⟩
  · rw [List.getElem?_set_ne e] at h ⊢
    exact c.ex j q h
theorem Cov.setn {σ : St} {ρ : Env} (c : Cov σ ρ) (i : Nat) : Cov σ (ρ.set i none) := by
  refine ⟨by simp [c.len], fun j q h => ?_⟩
  by_cases e : i = j
  · subst e
    have hj : i < ρ.length := by
      have := (List.getElem?_eq_some_iff.mp h).1
      simpa using this
    simp [hj] at h
  · rw [List.getElem?_set_ne e] at h
    exact c.ex j q h
theorem Cov.put {σ : St} {ρ : Env} {i : Nat} {v : V} (c : Cov σ ρ) (hv : σ[i]? = some (some v)) (o : O) : Cov σ (ρ.set i (some o)) := by
  refine ⟨by simp [c.len], fun j q h => ?_⟩
  by_cases e : i = j
  · subst e; exact ⟨v, hv⟩
  · rw [List.getElem?_set_ne e] at h
    exact c.ex j q h

/-! ### the judgements -/
section
variable (K : PySem.W.Frag) (mg : Str → Option Value)
/-- a reading that changes nothing: its value is lent -/
def tP (f : Pf) : TE := fun σ H Q => ∃ ρ T B o, Cov σ ρ ∧ Rep K mg H (pairs σ ρ ++ T) B ∧ f ρ = some o ∧ ∀ v H', Same H H' → Rep K mg H' (pairs σ ρ ++ T) ((v, o) :: B) → Q v H'
/-- an expression that may change what the environment owns -/
def tM (m : M O) : TE := fun σ H Q => ∃ ρ T o ρ', Cov σ ρ ∧ Rep K mg H (pairs σ ρ ++ T) [] ∧ m ρ = .ok o ρ' ∧ ∀ v H', Cov σ ρ' → Rep K mg H' (.ov v o :: (pairs σ ρ' ++ T)) [] → Q v H'
/-- a test -/
def tPT (f : Env → Option Bool) : TT := fun σ H Q => ∃ ρ T B b, Cov σ ρ ∧ Rep K mg H (pairs σ ρ ++ T) B ∧ f ρ = some b ∧ ∀ H', Rep K mg H' (pairs σ ρ ++ T) B → Q b H'
def tMT (m : M Bool) : TT := fun σ H Q => ∃ ρ T b ρ', Cov σ ρ ∧ Rep K mg H (pairs σ ρ ++ T) [] ∧ m ρ = .ok b ρ' ∧ ∀ H', Cov σ ρ' → Rep K mg H' (pairs σ ρ' ++ T) [] → Q b H'
/-- the slots P stand -/
def Fix (P : List Nat) (σ σ' : St) : Prop := σ'.length = σ.length ∧ ∀ i ∈ P, σ'[i]? = σ[i]?
def tS (P : List Nat) (m : M Fl) : TS := fun D σ H => ∃ ρ T, Cov σ ρ ∧ Rep K mg H (pairs σ ρ ++ T) [] ∧
  match m ρ with
  | .ok .nx ρ' => ∀ σ' H', Fix P σ σ' → Cov σ' ρ' → Rep K mg H' (pairs σ' ρ' ++ T) [] → D.nx σ' H'
  | .ok .brk ρ' => ∀ σ' H', Fix P σ σ' → Cov σ' ρ' → Rep K mg H' (pairs σ' ρ' ++ T) [] → D.bk σ' H'
  | .ok .ct ρ' => ∀ σ' H', Fix P σ σ' → Cov σ' ρ' → Rep K mg H' (pairs σ' ρ' ++ T) [] → D.ct σ' H'
  | .ok (.ret o) ρ' => ∀ v σ' H', Fix P σ σ' → Cov σ' ρ' → Rep K mg H' (.ov v o :: (pairs σ' ρ' ++ T)) [] → D.rt v H'
  | .exc _ _ => False
  | .no => False
end
theorem Fix.refl (P : List Nat) (σ : St) : Fix P σ σ := ⟨rfl, fun _ _ => rfl⟩
theorem Fix.trans {P : List Nat} {a b c : St} (h : Fix P a b) (q : Fix P b c) : Fix P a c := ⟨q.1.trans h.1, fun i hi => (q.2 i hi).trans (h.2 i hi)⟩
theorem Fix.set {P : List Nat} {σ : St} {i : Nat} {v : Option V} (h : i ∉ P) : Fix P σ (σ.set i v) := ⟨by simp, fun j hj => List.getElem?_set_ne fun e : i = j => h (by rw [e]; exact hj)⟩
theorem PE.imp {X : Cx} {e : Expr} {t t' : TE} (h : PE X e t) (q : ∀ σ H Q, t' σ H Q → t σ H Q) : PE X e t' := ⟨fun pins s σ H Q I w => h.run pins s σ H Q I (q σ H Q w)⟩
theorem PT.imp {X : Cx} {e : Expr} {t t' : TT} (h : PT X e t) (q : ∀ σ H Q, t' σ H Q → t σ H Q) : PT X e t' := ⟨fun pins s σ H Q I w => h.run pins s σ H Q I (q σ H Q w)⟩
theorem PS.imp {X : Cx} {e : Stmt} {t t' : TS} (h : PS X e t) (q : ∀ D σ H, t' D σ H → t D σ H) : PS X e t' := ⟨fun pins s σ H D I w => h.run pins s σ H D I (q D σ H w)⟩
theorem PSs.imp {X : Cx} {e : List Stmt} {t t' : TS} (h : PSs X e t) (q : ∀ D σ H, t' D σ H → t D σ H) : PSs X e t' := ⟨fun pins s σ H D I w => h.run pins s σ H D I (q D σ H w)⟩

def SP (X : Cx) (e : Expr) (f : Pf) : Prop := PE X e (tP X.K X.mg f)
def SE (X : Cx) (e : Expr) (m : M O) : Prop := PE X e (tM X.K X.mg m)
def SPT (X : Cx) (e : Expr) (f : Env → Option Bool) : Prop := PT X e (tPT X.K X.mg f)
def SET (X : Cx) (e : Expr) (m : M Bool) : Prop := PT X e (tMT X.K X.mg m)
def SS (X : Cx) (P : List Nat) (st : Stmt) (m : M Fl) : Prop := PS X st (tS X.K X.mg P m)
def SSs (X : Cx) (P : List Nat) (st : List Stmt) (m : M Fl) : Prop := PSs X st (tS X.K X.mg P m)
/-- what every body stands in -/
structure CxOk (X : Cx) : Prop where
  calm : X.calm = true
  units : X.A.units + 65 < cLine
  nd : X.N.Nodup

/-! ### what is read of an owned tree whose parts are shared -/
def vals? : List O → Option (List D)
  | [] => some []
  | .val d :: os => (vals? os).map (d :: ·)
  | _ :: _ => none
theorem vals?_map : ∀ ds : List D, vals? (ds.map O.val) = some ds
  | [] => rfl
  | d :: ds => by show (vals? (ds.map O.val)).map _ = _; rw [vals?_map ds]; rfl
theorem vals?_eq : ∀ {os : List O} {ds : List D}, vals? os = some ds → os = ds.map O.val
  | [], ds, h => by cases h; rfl
  | .val d :: os, ds, h => by
    have h : (vals? os).map (d :: ·) = some ds := h
    cases e : vals? os with
    | none => rw [e] at h; cases h
    | some es =>
      rw [e] at h
      cases h
      rw [vals?_eq e]; rfl
  | .lst _ :: _, _, h => by cases h
  | .dct _ _ :: _, _, h => by cases h
  | .ins _ _ _ :: _, _, h => by cases h
def O.sh : O → Option D
  | .val d => some d
  | .lst os => (vals? os).map .lst
  | .dct ks os => (vals? os).map (.dct ks)
  | .ins c ns os => (vals? os).map (.ins c ns)
@[simp] theorem O.sh_val (d : D) : (O.val d).sh = some d := rfl
@[simp] theorem O.sh_lst (ds : List D) : (O.lst (ds.map O.val)).sh = some (.lst ds) := by show (vals? _).map _ = _; rw [vals?_map]; rfl
@[simp] theorem O.sh_dct (ks : List Key) (ds : List D) : (O.dct ks (ds.map O.val)).sh = some (.dct ks ds) := by show (vals? _).map _ = _; rw [vals?_map]; rfl
section
variable {K : PySem.W.Frag} {mg : Str → Option Value} {H : Hp} {L : List Item} {B : List (V × O)}
/-- what is lent and has shared parts alone: shown by the heap, its parts shared -/
theorem Rep.sh {x : V} {o : O} {d : D} (h : Rep K mg H L B) (hx : (x, o) ∈ B) (e : o.sh = some d) : Vw K mg H x d := by
  have q := h.view hx
  cases o with
  | val d' => cases e; exact q
  | lst os =>
    have e : (vals? os).map D.lst = some d := e
    cases e1 : vals? os with
    | none => rw [e1] at e; cases e
    | some ds =>
      rw [e1] at e; cases e
      have q : Vw K mg H x (.lst (O.toDs os)) := q
      rw [vals?_eq e1, toDs_vals] at q
      exact q
  | dct ks os =>
    have e : (vals? os).map (D.dct ks) = some d := e
    cases e1 : vals? os with
    | none => rw [e1] at e; cases e
    | some ds =>
      rw [e1] at e; cases e
      have q : Vw K mg H x (.dct ks (O.toDs os)) := q
      rw [vals?_eq e1, toDs_vals] at q
      exact q
  | ins c ns os =>
    have e : (vals? os).map (D.ins c ns) = some d := e
    cases e1 : vals? os with
    | none => rw [e1] at e; cases e
    | some ds =>
      rw [e1] at e; cases e
      have q : Vw K mg H x (.ins c ns (O.toDs os)) := q
      rw [vals?_eq e1, toDs_vals] at q
      exact q
/-- the parts of a lent list (tuple) of shared parts are shared -/
theorem Rep.items {ds : List D} {vs : List V} (h : ∃ A : List Addr, A.Nodup ∧ IsOk K mg (hide H A) H L A ∧ (∀ b ∈ B, ∃ as, VO K mg (hide H A) H b.1 b.2 as ∧ ∀ a ∈ as, a ∈ A) ∧ Vws K mg (hide H A) vs ds) : Rep K mg H (zipI vs (ds.map O.val) ++ L) B := by
  obtain ⟨A, nd, ok, hb, hv⟩ := h
  exact ⟨A, nd, IsOk.append (as := []) (IsOk.zip (VOs.vals hv)) ok, hb⟩
theorem rd_hide {A : List Addr} {a : Addr} {u : HO} (h : Rd (hide H A) a u) : Rd H a u := FB.Same.rd hide_sub h
theorem sqT_hide {A : List Addr} {a : Addr} {xs : List V} (h : SqT K (hide H A) a xs) : SqT K H a xs := FB.Same.seqT hide_sub h
theorem Rep.shL {x : V} {o : O} {ds : List D} (h : Rep K mg H L B) (hx : (x, o) ∈ B) (e : o.sh = some (.lst ds)) :
    ∃ p vs, x = .ref p ∧ Rd H p (.lst vs) ∧ vs.length = ds.length ∧ Rep K mg H (zipI vs (ds.map O.val) ++ L) B := by
  obtain ⟨A, nd, ok, hb⟩ := h
  obtain ⟨as, q, ha⟩ := hb _ hx
  cases q with
  | val q =>
    cases e
    cases q with
    | lst q qs => exact ⟨_, _, rfl, rd_hide q, qs.length, Rep.items ⟨A, nd, ok, hb, qs⟩⟩
  | lst q qs =>
    rename_i p vs os as'
    have e : (vals? os).map D.lst = some (.lst ds) := e
    cases e1 : vals? os with
    | none => rw [e1] at e; cases e
    | some es =>
      rw [e1] at e; cases e
      rw [vals?_eq e1] at qs
      obtain ⟨qs, _⟩ := VOs.of_vals qs
      exact ⟨_, _, rfl, .inl q, qs.length, Rep.items ⟨A, nd, ok, hb, qs⟩⟩
  | dct q hk qs =>
    rename_i kvs ks os as'
    have e : (vals? os).map (D.dct ks) = some (.lst ds) := e
    cases e1 : vals? os with
    | none => rw [e1] at e; cases e
    | some es => rw [e1] at e; cases e
  | ins q hm hn qs =>
    rename_i c ns os as'
    have e : (vals? os).map (D.ins c ns) = some (.lst ds) := e
    cases e1 : vals? os with
    | none => rw [e1] at e; cases e
    | some es => rw [e1] at e; cases e
theorem sh_val_of {o : O} {d : D} (e : o.sh = some d) (h1 : ∀ ds, d ≠ .lst ds) (h2 : ∀ ks ds, d ≠ .dct ks ds) (h3 : ∀ c ns ds, d ≠ .ins c ns ds) : o = .val d := by
  cases o with
  | val d' => cases e; rfl
  | lst os =>
    have e : (vals? os).map D.lst = some d := e
    cases e1 : vals? os with
    | none => rw [e1] at e; cases e
    | some es => rw [e1] at e; cases e; exact absurd rfl (h1 _)
  | dct ks os =>
    have e : (vals? os).map (D.dct ks) = some d := e
    cases e1 : vals? os with
    | none => rw [e1] at e; cases e
    | some es => rw [e1] at e; cases e; exact absurd rfl (h2 _ _)
  | ins c ns os =>
    have e : (vals? os).map (D.ins c ns) = some d := e
    cases e1 : vals? os with
    | none => rw [e1] at e; cases e
    | some es => rw [e1] at e; cases e; exact absurd rfl (h3 _ _ _)
theorem Rep.shT {x : V} {o : O} {ds : List D} (h : Rep K mg H L B) (hx : (x, o) ∈ B) (e : o.sh = some (.tup ds)) :
    ∃ p vs, x = .ref p ∧ SqT K H p vs ∧ vs.length = ds.length ∧ Rep K mg H (zipI vs (ds.map O.val) ++ L) B := by
  have e' := sh_val_of e (fun _ => by intro z; cases z) (fun _ _ => by intro z; cases z) (fun _ _ _ => by intro z; cases z)
  subst e'
  obtain ⟨A, nd, ok, hb⟩ := h
  obtain ⟨as, q, ha⟩ := hb _ hx
  cases q with
  | val q =>
    cases q with
    | tup q qs => exact ⟨_, _, rfl, sqT_hide q, qs.length, Rep.items ⟨A, nd, ok, hb, qs⟩⟩
theorem Rep.shInt {x : V} {o : O} {i : Int} (h : Rep K mg H L B) (hx : (x, o) ∈ B) (e : o.sh = some (.int i)) : x = .int i := by
  have q := h.sh hx e
  cases q; rfl
theorem Rep.shBl {x : V} {o : O} {b : Bool} (h : Rep K mg H L B) (hx : (x, o) ∈ B) (e : o.sh = some (.bl b)) : x = .bl b := by
  have q := h.sh hx e
  cases q; rfl
theorem Rep.shStr {x : V} {o : O} {s : Str} (h : Rep K mg H L B) (hx : (x, o) ∈ B) (e : o.sh = some (.str s)) : x = .str s := by
  have q := h.sh hx e
  cases q; rfl
theorem Rep.shNon {x : V} {o : O} (h : Rep K mg H L B) (hx : (x, o) ∈ B) (e : o.sh = some .non) : x = .non := by
  have q := h.sh hx e
  cases q; rfl
/-- a shared item goes (what is lent stands) -/
theorem Rep.dropV {v : V} {d : D} (h : Rep K mg H (.ov v (.val d) :: L) B) : Rep K mg H L B := by
  obtain ⟨A, nd, ok, hb⟩ := h
  cases ok with
  | cons h t =>
    cases h with
    | ov h =>
      cases h with
      | val h => exact ⟨_, nd, t, hb⟩
theorem Rep.dropVs : ∀ {vs : List V} {ds : List D}, Rep K mg H (zipI vs (ds.map O.val) ++ L) B → Rep K mg H L B
  | [], _, h => h
  | _ :: _, [], h => h
  | v :: vs, d :: ds, h => Rep.dropVs (vs := vs) (ds := ds) (Rep.dropV h)
/-- a new list of shared things, shared from now on -/
theorem Rep.newL {vs : List V} {ds : List D} {p : Addr} (h : Rep K mg H (zipI vs (ds.map O.val) ++ L) []) (e : vs.length = ds.length) (hp : H p = none) : Rep K mg (upd H p (.lst vs)) (.ov (.ref p) (.lst (ds.map O.val)) :: L) [] :=
  Rep.closeL (h.new hp) (by simpa using e)
theorem Rep.newT {vs : List V} {ds : List D} {p : Addr} (h : Rep K mg H (zipI vs (ds.map O.val) ++ L) []) (e : vs.length = ds.length) (hp : H p = none) : Rep K mg (upd H p (.tup vs)) (.ov (.ref p) (.val (.tup ds)) :: L) [] :=
  Rep.closeT (h.new hp) e
end

/-! ### names, constants -/
section
variable {X : Cx}
def pVar (i : Nat) : Pf := fun ρ => (ρ[i]?).join
theorem sp_var (i : Nat) {x : Str} {pos : Pos} (hN : X.N[i]? = some x := by rfl) (hv : Vis X.env.scope x := by first | exact Or.inl rfl | exact Or.inr (Or.inl rfl) | exact Or.inr (Or.inr rfl)) (hd : (x == ("__debug__" : Str)) = false := by decide)
    (hcd : (x == ("__classdict__" : Str)) = false := by decide) : SP X (.Name x pos) (pVar i) := by
  refine PE.imp (pv i hN hv hd hcd) fun σ H Q h => ?_
  obtain ⟨ρ, T, B, o, c, R, e, k⟩ := h
  have e1 : ρ[i]? = some (some o) := by
    unfold pVar at e
    cases q : ρ[i]? with
    | none => rw [q] at e; cases e
    | some u => rw [q] at e; cases u <;> cases e; rfl
  obtain ⟨v, hv⟩ := c.ex i o e1
  refine ⟨v, hv, k v H (Same.refl _) ?_⟩
  have p := (pairs_take hv e1).append_right T
  exact (R.perm p).lend.perm p.symm
/-- what is shared may be kept -/
def mP (f : Pf) : M O := fun ρ => match f ρ with
  | some (.val d) => .ok (.val d) ρ
  | _ => .no
theorem se_p {e : Expr} {f : Pf} (h : SP X e f) : SE X e (mP f) := by
  refine PE.imp h fun σ H Q q => ?_
  obtain ⟨ρ, T, o, ρ', c, R, e, k⟩ := q
  unfold mP at e
  cases z : f ρ with
  | none => rw [z] at e; cases e
  | some u =>
    rw [z] at e
    cases u with
    | val d =>
      cases e
      exact ⟨ρ, T, [], .val d, c, R, z, fun v H' _ R' => k v H' c R'.keep⟩
    | lst _ => cases e
    | dct _ _ => cases e
    | ins _ _ _ => cases e
/-- a name is read for the last time -/
def mMove (i : Nat) : M O := fun ρ => match ρ[i]? with
  | some (some o) => .ok o (ρ.set i none)
  | _ => .no
theorem se_move (i : Nat) {x : Str} {pos : Pos} (hN : X.N[i]? = some x := by rfl) (hv : Vis X.env.scope x := by first | exact Or.inl rfl | exact Or.inr (Or.inl rfl) | exact Or.inr (Or.inr rfl)) (hd : (x == ("__debug__" : Str)) = false := by decide)
    (hcd : (x == ("__classdict__" : Str)) = false := by decide) : SE X (.Name x pos) (mMove i) := by
  refine PE.imp (pv i hN hv hd hcd) fun σ H Q h => ?_
  obtain ⟨ρ, T, o, ρ', c, R, e, k⟩ := h
  unfold mMove at e
  split at e
  · rename_i o' e1
    cases e
    obtain ⟨v, hv⟩ := c.ex i _ e1
    exact ⟨v, hv, k v H (c.setn i) (R.perm ((pairs_take hv e1).append_right T))⟩
  · cases e
/-- a name's tree is shared from now on -/
def mFrz (i : Nat) : M O := fun ρ => match ρ[i]? with
  | some (some o) => .ok (.val o.toD) (ρ.set i (some (.val o.toD)))
  | _ => .no
theorem se_frz (i : Nat) {x : Str} {pos : Pos} (hN : X.N[i]? = some x := by rfl) (hv : Vis X.env.scope x := by first | exact Or.inl rfl | exact Or.inr (Or.inl rfl) | exact Or.inr (Or.inr rfl)) (hd : (x == ("__debug__" : Str)) = false := by decide)
    (hcd : (x == ("__classdict__" : Str)) = false := by decide) : SE X (.Name x pos) (mFrz i) := by
  refine PE.imp (pv i hN hv hd hcd) fun σ H Q h => ?_
  obtain ⟨ρ, T, o, ρ', c, R, e, k⟩ := h
  unfold mFrz at e
  split at e
  · rename_i o' e1
    cases e
    obtain ⟨v, hv⟩ := c.ex i _ e1
    have hl : i < ρ.length := (List.getElem?_eq_some_iff.mp e1).1
    have R1 := (R.perm ((pairs_take hv e1).append_right T)).frz
    have R2 : Rep X.K X.mg H (.ov v (.val o'.toD) :: (.ov v (.val o'.toD) :: pairs σ (ρ.set i none) ++ T)) [] := R1.lend.keep
    exact ⟨v, hv, k v H (c.put hv _) (R2.perm (((pairs_back hv hl).append_right T).cons _))⟩
  · cases e
def pC (d : D) : Pf := fun _ => some (.val d)
theorem sp_c {e : Expr} {v : V} {d : D} (h : PE X e (tC v)) (hv : ∀ G, Vw X.K X.mg G v d) : SP X e (pC d) := by
  refine PE.imp h fun σ H Q q => ?_
  obtain ⟨ρ, T, B, o, c, R, e, k⟩ := q
  cases e
  exact k v H (Same.refl _) (R.scalB hv)
theorem sp_int {i j pos} : SP X (.Constant (.int i) j pos) (pC (.int i)) := sp_c pe_int fun _ => .int i
theorem sp_bl {b j pos} : SP X (.Constant (.bool b) j pos) (pC (.bl b)) := sp_c pe_bl fun _ => .bl b
theorem sp_non {j pos} : SP X (.Constant .none j pos) (pC .non) := sp_c pe_non fun _ => .non
theorem sp_str {x j pos} (h : PyData.strOk x = true := by decide +kernel) : SP X (.Constant (.str x) j pos) (pC (.str x)) := sp_c pe_str fun _ => .str x h
/-- a constant of the module -/
theorem sp_glob {x : Str} {v : V} {d : D} {u : Value} {pos : Pos} (hg : Gl X x) (hm : X.mg x = some u) (r : RelV v u) (hv : ∀ G, Vw X.K X.mg G v d) (hd : (x == ("__debug__" : Str)) = false := by decide) : SP X (.Name x pos) (pC d) := sp_c (pe_glob hg hm r hd) hv
end

/-! ### operations on values -/
def OpV (K : PySem.W.Frag) (mg : Str → Option Value) (r : R2) (f : O → O → Option O) : Prop :=
  ∀ (H : Hp) (L : List Item) (B : List (V × O)) (x y : V) (ox oy o : O) (Q : VK), Rep K mg H L B → (x, ox) ∈ B → (y, oy) ∈ B → f ox oy = some o → (∀ v H', Same H H' → Rep K mg H' L ((v, o) :: B) → Q v H') → r x y H Q
def UnV (K : PySem.W.Frag) (mg : Str → Option Value) (r : V → Hp → VK → Prop) (f : O → Option O) : Prop :=
  ∀ (H : Hp) (L : List Item) (B : List (V × O)) (x : V) (ox o : O) (Q : VK), Rep K mg H L B → (x, ox) ∈ B → f ox = some o → (∀ v H', Same H H' → Rep K mg H' L ((v, o) :: B) → Q v H') → r x H Q
def p2 (op : O → O → Option O) (f g : Pf) : Pf := fun ρ => (f ρ).bind fun a => (g ρ).bind fun b => op a b
def p1 (op : O → Option O) (f : Pf) : Pf := fun ρ => (f ρ).bind op
def okV (o : Option O) (ρ : Env) : Res O := match o with
  | some (.val d) => .ok (.val d) ρ
  | _ => .no
theorem okV_eq {o : Option O} {ρ ρ' : Env} {u : O} (h : okV o ρ = .ok u ρ') : ∃ d, o = some (.val d) ∧ u = .val d ∧ ρ' = ρ := by
  unfold okV at h
  split at h
  · cases h; exact ⟨_, rfl, rfl, rfl⟩
  · cases h
def m2 (op : O → O → Option O) (m n : M O) : M O := fun ρ => (m ρ).bind fun a ρ1 => (n ρ1).bind fun b ρ2 => okV (op a b) ρ2
def m1 (op : O → Option O) (m : M O) : M O := fun ρ => (m ρ).bind fun a ρ1 => okV (op a) ρ1
section
variable {X : Cx} {K : PySem.W.Frag} {mg : Str → Option Value}
theorem tOp_p {r : R2} {op : O → O → Option O} {f g : Pf} (h : OpV K mg r op) (σ : St) (H : Hp) (Q : VK) (q : tP K mg (p2 op f g) σ H Q) : tOp r (tP K mg f) (tP K mg g) σ H Q := by
  obtain ⟨ρ, T, B, o, c, R, e, k⟩ := q
  unfold p2 at e
  cases e1 : f ρ with
  | none => rw [e1] at e; cases e
  | some a =>
    cases e2 : g ρ with
    | none => rw [e1, e2] at e; cases e
    | some b =>
      rw [e1, e2] at e
      refine ⟨ρ, T, B, a, c, R, e1, fun x H1 s1 R1 => ⟨ρ, T, _, b, c, R1, e2, fun y H2 s2 R2 => ?_⟩⟩
      refine h H2 _ _ x y a b o Q R2 (by simp) (by simp) e fun v H3 s3 R3 => k v H3 (s1.trans (s2.trans s3)) (R3.bsub fun z hz => ?_)
      rcases List.mem_cons.mp hz with hz | hz
      · simp [hz]
      · simp [hz]
theorem tOp_m {r : R2} {op : O → O → Option O} {m n : M O} (h : OpV K mg r op) (σ : St) (H : Hp) (Q : VK) (q : tM K mg (m2 op m n) σ H Q) : tOp r (tM K mg m) (tM K mg n) σ H Q := by
  obtain ⟨ρ, T, o, ρ', c, R, e, k⟩ := q
  obtain ⟨a, ρ1, e1, e⟩ := Res.bind_eq e
  obtain ⟨b, ρ2, e2, e⟩ := Res.bind_eq e
  obtain ⟨d, e3, e4, e5⟩ := okV_eq e
  subst e4
  subst e5
  refine ⟨ρ, T, a, ρ1, c, R, e1, fun x H1 c1 R1 => ⟨ρ1, .ov x a :: T, b, ρ', c1, R1.perm List.perm_middle.symm, e2, fun y H2 c2 R2 => ?_⟩⟩
  -- y, the environment, x, T
  have R3 : Rep K mg H2 (.ov x a :: .ov y b :: (pairs σ ρ' ++ T)) [] := R2.perm ((List.perm_middle.cons _).trans (.swap _ _ _))
  have R4 := R3.lend.perm (.swap _ _ _) |>.lend
  refine h H2 _ _ x y a b _ Q R4 (by simp) (by simp) e3 fun v H3 _ R5 => k v H3 c2 ?_
  have R6 := R5.keep.nob
  exact ((R6.perm (.swap _ _ _)).drop.perm (.swap _ _ _)).drop
theorem tUn_p {r : V → Hp → VK → Prop} {op : O → Option O} {f : Pf} (h : UnV K mg r op) (σ : St) (H : Hp) (Q : VK) (q : tP K mg (p1 op f) σ H Q) : tUn r (tP K mg f) σ H Q := by
  obtain ⟨ρ, T, B, o, c, R, e, k⟩ := q
  unfold p1 at e
  cases e1 : f ρ with
  | none => rw [e1] at e; cases e
  | some a =>
    rw [e1] at e
    refine ⟨ρ, T, B, a, c, R, e1, fun x H1 s1 R1 => ?_⟩
    refine h H1 _ _ x a o Q R1 (by simp) e fun v H3 s3 R3 => k v H3 (s1.trans s3) (R3.bsub fun z hz => ?_)
    rcases List.mem_cons.mp hz with hz | hz
    · simp [hz]
    · simp [hz]
theorem tUn_m {r : V → Hp → VK → Prop} {op : O → Option O} {m : M O} (h : UnV K mg r op) (σ : St) (H : Hp) (Q : VK) (q : tM K mg (m1 op m) σ H Q) : tUn r (tM K mg m) σ H Q := by
  obtain ⟨ρ, T, o, ρ', c, R, e, k⟩ := q
  obtain ⟨a, ρ1, e1, e⟩ := Res.bind_eq e
  obtain ⟨d, e3, e4, e5⟩ := okV_eq e
  subst e4 e5
  refine ⟨ρ, T, a, ρ', c, R, e1, fun x H1 c1 R1 => ?_⟩
  refine h H1 _ _ x a _ Q R1.lend (by simp) e3 fun v H3 _ R5 => k v H3 c1 ?_
  exact (R5.keep.nob.perm (.swap _ _ _)).drop
theorem OpV.or {r r' : R2} {f g : O → O → Option O} (h : OpV K mg r f) (h' : OpV K mg r' g) : OpV K mg (fun x y H Q => r x y H Q ∨ r' x y H Q) (fun a b => (f a b).or (g a b)) := by
  intro H L B x y ox oy o Q R hx hy e k
  have e : (f ox oy).or (g ox oy) = some o := e
  cases e1 : f ox oy with
  | some u =>
    rw [e1] at e
    cases e
    exact .inl (h H L B x y ox oy _ Q R hx hy e1 k)
  | none =>
    rw [e1] at e
    exact .inr (h' H L B x y ox oy _ Q R hx hy e k)

/-! the shapes -/
variable {a b : Expr} {pos : Pos} {f g : Pf} {m n : M O} {r : R2} {op : O → O → Option O}
theorem sp_bin {o : Operator} (ho : OpR X (binaryOp o) r) (h : OpV X.K X.mg r op) (ha : SP X a f) (hb : SP X b g) : SP X (.BinOp a o b pos) (p2 op f g) := PE.imp (pe_op ho ha hb) (tOp_p h)
theorem se_bin {o : Operator} (ho : OpR X (binaryOp o) r) (h : OpV X.K X.mg r op) (ha : SE X a m) (hb : SE X b n) : SE X (.BinOp a o b pos) (m2 op m n) := PE.imp (pe_op ho ha hb) (tOp_m h)
theorem sp_cmp {o : CmpOp} (ho : OpR X (compareOp o) r) (h : OpV X.K X.mg r op) (ha : SP X a f) (hb : SP X b g) (hm : behindInMarks o b = false) : SP X (.Compare a [o] [b] pos) (p2 op f g) := PE.imp (pe_cmpR ho ha hb hm) (tOp_p h)
theorem se_cmp {o : CmpOp} (ho : OpR X (compareOp o) r) (h : OpV X.K X.mg r op) (ha : SE X a m) (hb : SE X b n) (hm : behindInMarks o b = false) : SE X (.Compare a [o] [b] pos) (m2 op m n) := PE.imp (pe_cmpR ho ha hb hm) (tOp_m h)
theorem sp_ix (ho : IxR X r) (h : OpV X.K X.mg r op) (ha : SP X a f) (hb : SP X b g) (hs : PlainIx b := by exact fun _ _ => rfl) : SP X (.Subscript a b pos) (p2 op f g) := PE.imp (pe_ix ho ha hb hs) (tOp_p h)
theorem se_ix (ho : IxR X r) (h : OpV X.K X.mg r op) (ha : SE X a m) (hb : SE X b n) (hs : PlainIx b := by exact fun _ _ => rfl) : SE X (.Subscript a b pos) (m2 op m n) := PE.imp (pe_ix ho ha hb hs) (tOp_m h)
theorem sp_un {o : UnaryOp} {r : V → Hp → VK → Prop} {op : O → Option O} (ho : UnR X (unaryOp o) r) (h : UnV X.K X.mg r op) (ha : SP X a f) : SP X (.UnaryOp o a pos) (p1 op f) := PE.imp (pe_un ho ha) (tUn_p h)
theorem se_un {o : UnaryOp} {r : V → Hp → VK → Prop} {op : O → Option O} (ho : UnR X (unaryOp o) r) (h : UnV X.K X.mg r op) (ha : SE X a m) : SE X (.UnaryOp o a pos) (m1 op m) := PE.imp (pe_un ho ha) (tUn_m h)
end
end FB

/-! Operations by values: arithmetic, comparisons, membership, subscripts. -/
namespace FB
open PySem PySem.Spec L2
open PyProof.Rows hiding St

/-! ### data as the library's data -/
mutual
def D.pd : D → PyData
  | .non => .none
  | .bl b => .bool b
  | .int i => .int i
  | .str s => .str s
  | .tup ds => .tuple (D.pds ds)
  | .lst ds => .list (D.pds ds)
  | .dct _ _ => .dict []
  | .ins _ _ _ => .dict []
  | .scr _ => .dict []
def D.pds : List D → List PyData
  | [] => []
  | d :: ds => d.pd :: D.pds ds
end
theorem pds_map : ∀ ds : List D, D.pds ds = ds.map D.pd
  | [] => rfl
  | d :: ds => by show d.pd :: D.pds ds = _; rw [pds_map ds]; rfl
/-- no dict, no object, at most so deep -/
def D.okE : Nat → D → Bool
  | _, .non => true
  | _, .bl _ => true
  | _, .int _ => true
  | _, .str _ => true
  | 0, .tup _ => false
  | 0, .lst _ => false
  | n + 1, .tup ds => ds.all (D.okE n)
  | n + 1, .lst ds => ds.all (D.okE n)
  | _, .dct _ _ => false
  | _, .ins _ _ _ => false
  | _, .scr _ => false
theorem all_pds {ds : List D} {n : Nat} (h : ∀ d ∈ ds, d.pd.canLay0 = true ∧ d.pd.depth ≤ n) : PyData.canLayAll0 (D.pds ds) = true ∧ PyData.depthAll (D.pds ds) ≤ n := by
  induction ds with
  | nil => exact ⟨rfl, Nat.zero_le _⟩
  | cons d ds ih =>
    obtain ⟨h1, h2⟩ := h d (by simp)
    obtain ⟨h3, h4⟩ := ih fun e he => h e (by simp [he])
    refine ⟨?_, ?_⟩
    · show (d.pd.canLay0 && PyData.canLayAll0 (D.pds ds)) = true
      rw [h1, h3]; rfl
    · show max d.pd.depth (PyData.depthAll (D.pds ds)) ≤ n
      omega
section
variable {K : PySem.W.Frag} {mg : Str → Option Value} {G : Hp}
mutual
theorem Vw.lay : ∀ {v : V} {d : D} (n : Nat), Vw K mg G v d → d.okE n = true → d.pd.canLay0 = true ∧ d.pd.depth ≤ n
  | _, _, n, .non, _ => ⟨rfl, Nat.zero_le _⟩
  | _, _, n, .bl b, _ => ⟨rfl, Nat.zero_le _⟩
  | _, _, n, .int i, _ => ⟨rfl, Nat.zero_le _⟩
  | _, _, n, .str s h, _ => ⟨h, Nat.zero_le _⟩
  | _, _, 0, .tup _ _, e => by cases e
  | _, _, n + 1, .tup _ hs, e => by
    obtain ⟨a, b⟩ := all_pds (Vws.lay n hs e)
    exact ⟨a, Nat.succ_le_succ b⟩
  | _, _, 0, .lst _ _, e => by cases e
  | _, _, n + 1, .lst _ hs, e => by
    obtain ⟨a, b⟩ := all_pds (Vws.lay n hs e)
    exact ⟨a, Nat.succ_le_succ b⟩
  | _, _, n, .dct _ _ _, e => by cases n <;> cases e
  | _, _, n, .ins _ _ _ _, e => by cases n <;> cases e
  | _, _, n, .scr _, e => by cases n <;> cases e
theorem Vws.lay : ∀ {vs : List V} {ds : List D} (n : Nat), Vws K mg G vs ds → ds.all (D.okE n) = true → ∀ d ∈ ds, d.pd.canLay0 = true ∧ d.pd.depth ≤ n
  | _, _, n, .nil, _ => fun d hd => by simp at hd
  | _, _, n, .cons h t, e => fun d hd => by
    rw [List.all_cons, Bool.and_eq_true] at e
    rcases List.mem_cons.mp hd with q | hd
    · rw [q]; exact Vw.lay n h e.1
    · exact Vws.lay n t e.2 d hd
end
theorem Vw.shaped {v : V} {d : D} (h : Vw K mg G v d) (e : d.okE 9 = true) : SeqAt.shaped d.pd = true := by
  obtain ⟨a, b⟩ := h.lay 9 e
  unfold SeqAt.shaped
  rw [a, decide_eq_true (by omega : d.pd.depth ≤ 64)]
  rfl
mutual
theorem Vw.dp : ∀ {v : V} {d : D} (n : Nat), Vw K mg G v d → d.okE n = true → Dp K G v d.pd
  | _, _, n, .non, _ => .non
  | _, _, n, .bl b, _ => .bl b
  | _, _, n, .int i, _ => .int i
  | _, _, n, .str s h, _ => .str s
  | _, _, 0, .tup _ _, e => by cases e
  | _, _, n + 1, .tup h hs, e => .tup h (Vws.dp n hs e)
  | _, _, 0, .lst _ _, e => by cases e
  | _, _, n + 1, .lst h hs, e => .lst (.inl h) (Vws.dp n hs e)
  | _, _, n, .dct _ _ _, e => by cases n <;> cases e
  | _, _, n, .ins _ _ _ _, e => by cases n <;> cases e
  | _, _, n, .scr _, e => by cases n <;> cases e
theorem Vws.dp : ∀ {vs : List V} {ds : List D} (n : Nat), Vws K mg G vs ds → ds.all (D.okE n) = true → DpAll K G vs (D.pds ds)
  | _, _, n, .nil, _ => .nil
  | _, _, n, .cons h t, e => by
    rw [List.all_cons, Bool.and_eq_true] at e
    exact .cons (Vw.dp n h e.1) (Vws.dp n t e.2)
end
end
def D.eqv (a b : D) : Bool := PyData.eqv a.pd b.pd

/-! ### arithmetic -/
def lift2 (f : D → D → Option D) : O → O → Option O := fun a b => (a.sh).bind fun x => (b.sh).bind fun y => (f x y).map O.val
theorem lift2_eq {f : D → D → Option D} {a b o : O} (h : lift2 f a b = some o) : ∃ x y d, a.sh = some x ∧ b.sh = some y ∧ f x y = some d ∧ o = .val d := by
  unfold lift2 at h
  cases e1 : a.sh with
  | none => rw [e1] at h; cases h
  | some x =>
    cases e2 : b.sh with
    | none => rw [e1, e2] at h; cases h
    | some y =>
      rw [e1, e2] at h
      have h : (f x y).map O.val = some o := h
      cases e3 : f x y with
      | none => rw [e3] at h; cases h
      | some d => rw [e3] at h; cases h; exact ⟨x, y, d, rfl, rfl, e3, rfl⟩
def addD : D → D → Option D
  | .int i, .int j => some (.int (i + j))
  | .str s, .str t => if s.length + t.length ≤ 1000000 then some (.str (s ++ t)) else none
  | .lst xs, .lst ys => if xs.length + ys.length ≤ 1000000 then some (.lst (xs ++ ys)) else none
  | .tup xs, .tup ys => if xs.length + ys.length ≤ 1000000 then some (.tup (xs ++ ys)) else none
  | _, _ => none
def subD : D → D → Option D
  | .int i, .int j => some (.int (i - j))
  | _, _ => none
def mulOk (i j : Int) : Bool := decide (i.natAbs < 2 ^ 64) || decide (j.natAbs < 2 ^ 64) || decide (i.natAbs.log2 + j.natAbs.log2 < 1000000)
def repS (s : Str) (k : Nat) : Str := ⟨(List.replicate k s.cps.toList).flatten.toArray⟩
def mulD : D → D → Option D
  | .int i, .int j => if mulOk i j then some (.int (i * j)) else none
  | .lst xs, .int k => if k < 1000000 ∧ -1000000 < k ∧ xs.length * k.toNat ≤ 1000000 then some (.lst (List.replicate k.toNat xs).flatten) else none
  | .str s, .int k => if k < 1000000 ∧ -1000000 < k ∧ s.length * k.toNat ≤ 1000000 then some (.str (repS s k.toNat)) else none
  | _, _ => none
def fdivD : D → D → Option D
  | .int i, .int j => if 0 < j ∧ j.natAbs.log2 < 9000 then some (.int (i / j)) else none
  | _, _ => none
def modD : D → D → Option D
  | .int i, .int j => if 0 < j then some (.int (i % j)) else none
  | _, _ => none
def powD : D → D → Option D
  | .int i, .int j => if 0 ≤ j ∧ j ≤ 1000000 ∧ i.natAbs < 2 ^ 64 then some (.int (i ^ j.toNat)) else none
  | _, _ => none
def ltD : D → D → Option D
  | .int i, .int j => some (.bl (decide (i < j)))
  | _, _ => none
def leD : D → D → Option D
  | .int i, .int j => some (.bl (decide (i ≤ j)))
  | _, _ => none
def gtD : D → D → Option D
  | .int i, .int j => some (.bl (decide (j < i)))
  | _, _ => none
def geD : D → D → Option D
  | .int i, .int j => some (.bl (decide (j ≤ i)))
  | _, _ => none
theorem line6 {n : Nat} (h : n ≤ 1000000) : n ≤ sizeLine := by rw [sizeLine_eq]; omega
theorem strOk_append {s t : Str} (hs : PyData.strOk s = true) (ht : PyData.strOk t = true) : PyData.strOk (s ++ t) = true := by
  show ((s.cps ++ t.cps).all _) = true
  rw [Array.all_append, Bool.and_eq_true]
  exact ⟨hs, ht⟩
section
variable {K : PySem.W.Frag} {mg : Str → Option Value} {H : Hp} {L : List Item} {B : List (V × O)}
theorem Rep.strOk {x : V} {o : O} {s : Str} (h : Rep K mg H L B) (hx : (x, o) ∈ B) (e : o.sh = some (.str s)) : PyData.strOk s = true := by
  have q := h.sh hx e
  cases q with
  | str _ h => exact h
theorem Rep.bdup {b : V × O} (h : Rep K mg H L B) (hb : b ∈ B) : Rep K mg H L (b :: B) := h.bsub fun z hz => by
  rcases List.mem_cons.mp hz with e | hz
  · rw [e]; exact hb
  · exact hz
/-- a new list lent -/
theorem Rep.lentL {vs : List V} {ds : List D} {p : Addr} (h : Rep K mg H (zipI vs (ds.map O.val) ++ L) B) (e : vs.length = ds.length) (hp : H p = none) : Rep K mg (upd H p (.lst vs)) L ((.ref p, .val (.lst ds)) :: B) := by
  obtain ⟨A, nd, ok, hb⟩ := h
  obtain ⟨bs, cs, e2, t1, t2⟩ := ok.split
  subst e2
  obtain ⟨q, e3⟩ := VOs.of_vals (IsOk.unzip (by simpa using e) t1)
  subst e3
  have hA : p ∉ cs := fun z => by
    obtain ⟨u, q⟩ := t2.dom p z
    rw [hp] at q; cases q
  have s : Same (hide H ([] ++ cs)) (hide (upd H p (.lst vs)) cs) := hide_same fun a u ha q => ⟨ha, by rw [upd_ne (ne_of_none q hp)]; exact q⟩
  have hu : ∀ a ∈ cs, upd H p (.lst vs) a = H a := fun a ha => upd_ne fun z => hA (z ▸ ha)
  refine ⟨cs, nd, t2.mono s hu, fun b hb' => ?_⟩
  rcases List.mem_cons.mp hb' with e4 | hb'
  · subst e4
    exact ⟨[], .val (.lst (.inl (by rw [hide_out hA]; exact upd_same)) (q.mono s)), by simp⟩
  · obtain ⟨as, h1, h2⟩ := hb b hb'
    exact ⟨as, h1.mono s fun a ha => hu a (h2 a ha), h2⟩
theorem Rep.lentT {vs : List V} {ds : List D} {p : Addr} (h : Rep K mg H (zipI vs (ds.map O.val) ++ L) B) (e : vs.length = ds.length) (hp : H p = none) : Rep K mg (upd H p (.tup vs)) L ((.ref p, .val (.tup ds)) :: B) := by
  obtain ⟨A, nd, ok, hb⟩ := h
  obtain ⟨bs, cs, e2, t1, t2⟩ := ok.split
  subst e2
  obtain ⟨q, e3⟩ := VOs.of_vals (IsOk.unzip (by simpa using e) t1)
  subst e3
  have hA : p ∉ cs := fun z => by
    obtain ⟨u, q⟩ := t2.dom p z
    rw [hp] at q; cases q
  have s : Same (hide H ([] ++ cs)) (hide (upd H p (.tup vs)) cs) := hide_same fun a u ha q => ⟨ha, by rw [upd_ne (ne_of_none q hp)]; exact q⟩
  have hu : ∀ a ∈ cs, upd H p (.tup vs) a = H a := fun a ha => upd_ne fun z => hA (z ▸ ha)
  refine ⟨cs, nd, t2.mono s hu, fun b hb' => ?_⟩
  rcases List.mem_cons.mp hb' with e4 | hb'
  · subst e4
    exact ⟨[], .val (.tup (.inl (.inl (by rw [hide_out hA]; exact upd_same))) (q.mono s)), by simp⟩
  · obtain ⟨as, h1, h2⟩ := hb b hb'
    exact ⟨as, h1.mono s fun a ha => hu a (h2 a ha), h2⟩
end
/-! ### the rules over what may be read -/
section
variable {X : Cx}
theorem Inv.rdL {pins : List (Addr × Obj)} {σ : St} {H : Hp} {s : Shared} {l : Addr} {xs : List V} (I : Inv X pins σ H s) (h : Rd H l (.lst xs)) : xs.length ≤ sizeLine ∧ ∃ (its : List Value) (n : Nat), Vals xs its ∧ xs.length = its.length ∧ s.heap.get? l = some { cls := .type "list", data := .seq its.toArray n } := by
  obtain ⟨z, its, n, r, e⟩ := h.ok I.hok
  exact ⟨z, its, n, r, r.length, e⟩
def rCatR : R2 := fun x y H Q => ∃ l b xs zs, x = .ref l ∧ y = .ref b ∧ Rd H l (.lst xs) ∧ Rd H b (.lst zs) ∧ xs.length + zs.length ≤ sizeLine ∧ ∀ p, H p = none → Q (.ref p) (upd H p (.lst (xs ++ zs)))
theorem op_catR : OpR X (binaryOp .Add) rCatR := by
  intro pins s σ H x y v u Q I rx ry h
  obtain ⟨l, b, xs, zs, rfl, rfl, hH, hB, hz, q⟩ := h
  cases rx
  cases ry
  obtain ⟨z, its, n, r, hl, e⟩ := Inv.rdL I hH
  obtain ⟨z2, its2, n2, r2, hl2, e2⟩ := Inv.rdL I hB
  refine PySem.P.add_list e e2 ?_ (by rw [List.size_toArray, List.size_toArray]; omega)
  have ea : its.toArray ++ its2.toArray = (its ++ its2).toArray := by simp
  rw [ea]
  exact ⟨.ref _, _, I.lnew (t' := s.toks) (r.append r2) (by rw [List.length_append]; omega), rfl, q _ I.fresh⟩
def rRepR : R2 := fun x y H Q => ∃ l k xs, x = .ref l ∧ y = .int k ∧ Rd H l (.lst xs) ∧ -(2 ^ 63) ≤ k ∧ k < 2 ^ 63 ∧ xs.length * k.toNat ≤ sizeLine ∧
  ∀ p, H p = none → Q (.ref p) (upd H p (.lst (List.replicate k.toNat xs).flatten))
theorem op_repR : OpR X (binaryOp .Mult) rRepR := by
  intro pins s σ H x y v u Q I rx ry h
  obtain ⟨l, k, xs, rfl, rfl, hH, h1, h2, hz, q⟩ := h
  cases rx
  obtain ⟨t, rfl⟩ := ry
  obtain ⟨z, its, n, r, hl, e⟩ := Inv.rdL I hH
  have hlen : its.toArray.size * k.toNat ≤ sizeLine := by rw [List.size_toArray, ← hl]; exact hz
  have hcap : ¬ its.toArray.size * k.toNat > (2 ^ 63 - 1) / 8 := by
    have : (sizeLine : Nat) ≤ (2 ^ 63 - 1) / 8 := by decide
    omega
  have hfit : ¬ (!Builtin.List.listFitsIndex k) = true := by
    rw [fitsIndex_both h1 h2]
    exact Bool.false_ne_true
  have hlong : ¬ Builtin.List.listTooLong (its.toArray.size * k.toNat) = true := by
    rw [notLongL hlen]
    exact Bool.false_ne_true
  have hnew : List.foldl (fun x1 x2 => x1 ++ x2) #[] (List.replicate (if its.toArray.isEmpty = true then 0 else k.toNat) its.toArray) = (List.replicate k.toNat its).flatten.toArray := by
    have f0 : ∀ m : Nat, List.foldl (fun x1 x2 => x1 ++ x2) #[] (List.replicate m its.toArray) = (List.replicate m its).flatten.toArray := fun m => by
      have := foldl_rep its m []
      rw [List.nil_append] at this
      exact this
    rw [f0]
    cases its with
    | nil => simp
    | cons a r' => rw [if_neg (by simp)]
  refine wpAny_binaryOp_repeat_ref (T := "list") (U := "int") (by decide) ⟨_, e, rfl⟩ (fun s' => typeIs_int s' k t) noFill_list_mul F.fills_int_mul F.slot_int_rmul repeat_list F.slot_int_index.lookup
    (call_meets F.slot_int_rmul (typeIs_int s k t) F.entry_int_rmul (F.args_int_rmul_2 _ _) (int___rmul___int_list k t l its.toArray n)
      ⟨e, rfl, ⟨_, e, rfl⟩, call_meets F.slot_list_mul ⟨_, e, rfl⟩ F.entry_list_mul (F.args_list_mul_2 _ _) (AutoListH.list___mul___list_int_3 l its.toArray n k t hfit hcap hlong) ⟨e, ?_⟩⟩)
  rw [hnew]
  exact ⟨.ref _, _, I.lnew (t' := s.toks) (r.rep k.toNat) (by rw [PyProof.Rows.lm_len_rep_flat, Nat.mul_comm]; exact hz), rfl, q _ I.fresh⟩
end

theorem Rep.nth {K : PySem.W.Frag} {mg : Str → Option Value} {H : Hp} {L : List Item} {B : List (V × O)} {vs : List V} {ds : List D} {i : Nat} {v : V} {d : D} (h : Rep K mg H (zipI vs (ds.map O.val) ++ L) B) (h1 : vs[i]? = some v) (h2 : ds[i]? = some d) : Rep K mg H L ((v, .val d) :: B) := by
  obtain ⟨A, nd, ok, hb⟩ := h
  obtain ⟨bs, cs, e2, t1, t2⟩ := ok.split
  have hv : ∀ {vs : List V} {ds : List D} {as : List Addr} {i : Nat} {v : V} {d : D}, IsOk K mg (hide H A) H (zipI vs (ds.map O.val)) as → vs[i]? = some v → ds[i]? = some d → Vw K mg (hide H A) v d := by
    intro vs
    induction vs with
    | nil => intro ds as i v d _ h1 _; simp at h1
    | cons w vs ih =>
      intro ds as i v d t h1 h2
      cases ds with
      | nil => simp at h2
      | cons e ds =>
        cases t with
        | cons t r =>
          cases i with
          | zero =>
            simp at h1 h2
            subst h1 h2
            cases t with
            | ov t => cases t with
              | val t => exact t
          | succ i => exact ih r (by simpa using h1) (by simpa using h2)
  have q := hv t1 h1 h2
  have e0 : ∀ {vs : List V} {ds : List D} {as : List Addr}, IsOk K mg (hide H A) H (zipI vs (ds.map O.val)) as → as = [] := by
    intro vs
    induction vs with
    | nil => intro ds as t; cases ds <;> cases t <;> rfl
    | cons w vs ih =>
      intro ds as t
      cases ds with
      | nil => cases t; rfl
      | cons e ds =>
        cases t with
        | cons t r =>
          have := ih r
          subst this
          cases t with
          | ov t => cases t with
            | val t => rfl
  have e3 := e0 t1
  subst e3
  rw [List.nil_append] at e2
  subst e2
  refine ⟨A, nd, t2, fun b hb' => ?_⟩
  rcases List.mem_cons.mp hb' with e4 | hb'
  · subst e4; exact ⟨[], .val q, by simp⟩
  · exact hb b hb'

section
variable {X : Cx} {K : PySem.W.Frag} {mg : Str → Option Value}
/-- ints in, a shown scalar out -/
theorem opv_int0 {g : Int → Int → V} {f : D → D → Option D} (hf : ∀ x y d, f x y = some d → ∃ i j, x = .int i ∧ y = .int j ∧ ∀ G, Vw K mg G (g i j) d) : OpV K mg (rI0 g) (lift2 f) := by
  intro H L B x y ox oy o Q R hx hy e k
  obtain ⟨a, b, d, e1, e2, e3, rfl⟩ := lift2_eq e
  obtain ⟨i, j, rfl, rfl, hv⟩ := hf a b d e3
  exact ⟨i, j, R.shInt hx e1, R.shInt hy e2, k _ _ (Same.refl _) (R.scalB hv)⟩
theorem opv_int {C : Int → Int → Prop} {g : Int → Int → V} {f : D → D → Option D} (hf : ∀ x y d, f x y = some d → ∃ i j, x = .int i ∧ y = .int j ∧ C i j ∧ ∀ G, Vw K mg G (g i j) d) : OpV K mg (rI C g) (lift2 f) := by
  intro H L B x y ox oy o Q R hx hy e k
  obtain ⟨a, b, d, e1, e2, e3, rfl⟩ := lift2_eq e
  obtain ⟨i, j, rfl, rfl, hc, hv⟩ := hf a b d e3
  exact ⟨i, j, R.shInt hx e1, R.shInt hy e2, hc, k _ _ (Same.refl _) (R.scalB hv)⟩
def rAddF (K : PySem.W.Frag) : R2 := fun x y H Q => rI0 (fun i j => .int (i + j)) x y H Q ∨ ((∃ i j, x = .str i ∧ y = .str j ∧ i.length + j.length ≤ sizeLine ∧ Q (.str (i ++ j)) H) ∨ (rCatR x y H Q ∨ rCatA K x y H Q))
theorem op_addF : OpR X (binaryOp .Add) (rAddF X.K) := op_add.or (op_add_str.or (op_catR.or op_catA))
theorem opv_add : OpV K mg (rAddF K) (lift2 addD) := by
  intro H L B x y ox oy o Q R hx hy e k
  obtain ⟨a, b, d, e1, e2, e3, rfl⟩ := lift2_eq e
  unfold addD at e3
  split at e3
  · cases e3
    exact .inl ⟨_, _, R.shInt hx e1, R.shInt hy e2, k _ _ (Same.refl _) (R.scalB fun _ => .int _)⟩
  · split at e3
    · cases e3
      rename_i h
      refine .inr (.inl ⟨_, _, R.shStr hx e1, R.shStr hy e2, line6 h, k _ _ (Same.refl _) (R.scalB fun _ => .str _ (strOk_append (R.strOk hx e1) (R.strOk hy e2)))⟩)
    · cases e3
  · split at e3
    · cases e3
      rename_i xs ys h
      obtain ⟨p, vs, rfl, hp, lp, R1⟩ := R.shL hx e1
      obtain ⟨q, ws, rfl, hq, lq, R2⟩ := R1.shL hy e2
      refine .inr (.inr (.inl ⟨p, q, vs, ws, rfl, rfl, hp, hq, line6 (by omega), fun r hr => k _ _ (sameNew hr) ?_⟩))
      refine Rep.lentL (vs := vs ++ ws) (ds := xs ++ ys) ?_ (by simp [lp, lq]) hr
      have ez : zipI (vs ++ ws) ((xs ++ ys).map O.val) = zipI vs (xs.map O.val) ++ zipI ws (ys.map O.val) := by
        unfold zipI
        rw [List.map_append, List.zipWith_append (by simpa using lp)]
      rw [ez, List.append_assoc]
      exact R2.perm (by rw [← List.append_assoc, ← List.append_assoc]; exact List.perm_append_comm.append_right L)
    · cases e3
  · split at e3
    · cases e3
      rename_i xs ys h
      obtain ⟨p, vs, rfl, hp, lp, R1⟩ := R.shT hx e1
      obtain ⟨q, ws, rfl, hq, lq, R2⟩ := R1.shT hy e2
      have ea := sh_val_of e1 (fun _ => by intro z; cases z) (fun _ _ => by intro z; cases z) (fun _ _ _ => by intro z; cases z)
      have eb := sh_val_of e2 (fun _ => by intro z; cases z) (fun _ _ => by intro z; cases z) (fun _ _ _ => by intro z; cases z)
      subst ea eb
      refine .inr (.inr (.inr ⟨p, q, vs, ws, rfl, rfl, hp, hq, line6 (by omega), fun e => k _ _ (Same.refl _) ?_, fun _ e => k _ _ (Same.refl _) ?_, fun _ _ r hr => k _ _ (sameNew hr) ?_⟩))
      · have : xs = [] := List.eq_nil_of_length_eq_zero (by rw [← lp, e]; rfl)
        subst this
        exact R.bdup hy
      · have : ys = [] := List.eq_nil_of_length_eq_zero (by rw [← lq, e]; rfl)
        subst this
        rw [List.append_nil]
        exact R.bdup hx
      · refine Rep.lentT (vs := vs ++ ws) (ds := xs ++ ys) ?_ (by simp [lp, lq]) hr
        have ez : zipI (vs ++ ws) ((xs ++ ys).map O.val) = zipI vs (xs.map O.val) ++ zipI ws (ys.map O.val) := by
          unfold zipI
          rw [List.map_append, List.zipWith_append (by simpa using lp)]
        rw [ez, List.append_assoc]
        exact R2.perm (by rw [← List.append_assoc, ← List.append_assoc]; exact List.perm_append_comm.append_right L)
    · cases e3
  · cases e3
theorem opv_sub : OpV K mg (rI0 fun i j => .int (i - j)) (lift2 subD) := opv_int0 fun x y d e => by
  unfold subD at e
  split at e
  · cases e; exact ⟨_, _, rfl, rfl, fun _ => .int _⟩
  · cases e
theorem opv_lt : OpV K mg (rI0 fun i j => .bl (decide (i < j))) (lift2 ltD) := opv_int0 fun x y d e => by
  unfold ltD at e
  split at e
  · cases e; exact ⟨_, _, rfl, rfl, fun _ => .bl _⟩
  · cases e
theorem opv_le : OpV K mg (rI0 fun i j => .bl (decide (i ≤ j))) (lift2 leD) := opv_int0 fun x y d e => by
  unfold leD at e
  split at e
  · cases e; exact ⟨_, _, rfl, rfl, fun _ => .bl _⟩
  · cases e
theorem opv_gt : OpV K mg (rI0 fun i j => .bl (decide (j < i))) (lift2 gtD) := opv_int0 fun x y d e => by
  unfold gtD at e
  split at e
  · cases e; exact ⟨_, _, rfl, rfl, fun _ => .bl _⟩
  · cases e
theorem opv_ge : OpV K mg (rI0 fun i j => .bl (decide (j ≤ i))) (lift2 geD) := opv_int0 fun x y d e => by
  unfold geD at e
  split at e
  · cases e; exact ⟨_, _, rfl, rfl, fun _ => .bl _⟩
  · cases e
theorem opv_fdiv : OpV K mg (rI CDivW fun i j => .int (i / j)) (lift2 fdivD) := opv_int fun x y d e => by
  unfold fdivD at e
  split at e
  · split at e
    · rename_i h
      cases e; exact ⟨_, _, rfl, rfl, h, fun _ => .int _⟩
    · cases e
  · cases e
theorem opv_mod : OpV K mg (rI (fun _ j => 0 < j) fun i j => .int (i % j)) (lift2 modD) := opv_int fun x y d e => by
  unfold modD at e
  split at e
  · split at e
    · rename_i h
      cases e; exact ⟨_, _, rfl, rfl, h, fun _ => .int _⟩
    · cases e
  · cases e
theorem opv_pow : OpV K mg (rI CPow fun i j => .int (i ^ j.toNat)) (lift2 powD) := opv_int fun x y d e => by
  unfold powD at e
  split at e
  · split at e
    · rename_i h
      cases e; exact ⟨_, _, rfl, rfl, h, fun _ => .int _⟩
    · cases e
  · cases e
theorem foldl_repN (its : List Nat) : ∀ (k : Nat) (acc : List Nat), List.foldl (fun x1 x2 => x1 ++ x2) acc.toArray (List.replicate k its.toArray) = (acc ++ (List.replicate k its).flatten).toArray
  | 0, acc => by simp
  | k + 1, acc => by
    have e : acc.toArray ++ its.toArray = (acc ++ its).toArray := by simp
    rw [List.replicate_succ, List.foldl_cons, e, foldl_repN its k, List.replicate_succ, List.flatten_cons, List.append_assoc]
/-- a text again and again -/
def rRepS : R2 := fun x y H Q => ∃ s k, x = .str s ∧ y = .int k ∧ k < 1000000 ∧ -1000000 < k ∧ s.length * k.toNat ≤ 1000000 ∧ Q (.str (repS s k.toNat)) H
theorem op_repS : OpR X (binaryOp .Mult) rRepS := by
  intro pins s σ H x y v u Q I rx ry h
  obtain ⟨z, k, rfl, rfl, h1, h2, h3, q⟩ := h
  obtain ⟨t, rfl⟩ := rx
  obtain ⟨t', rfl⟩ := ry
  have hl : z.cps.toList.length = z.length := by simp [Str.length]
  refine P.mul_str ?_ ?_ ?_ ?_
  · have l63 : (2 : Int) ^ 63 = 9223372036854775808 := by decide
    rw [l63]
    have d1 : ¬ k < -9223372036854775808 := by omega
    have d2 : ¬ k ≥ 9223372036854775808 := by omega
    rw [decide_eq_false d1, decide_eq_false d2]; rfl
  · intro a1 _ a3
    have hk : 1 ≤ k := by omega
    have h4 : (z.length : Int) * k ≤ 1000000 := by
      have : (z.length : Int) * (k.toNat : Int) ≤ 1000000 := by rw [← Int.natCast_mul]; exact Int.ofNat_le.mpr h3
      rwa [show ((k.toNat : Nat) : Int) = k by omega] at this
    have l63 : (2 : Int) ^ 63 = 9223372036854775808 := by decide
    have h6 : (z.length : Int) ≤ (9223372036854775808 - 1) / k := Int.le_ediv_of_mul_le (by omega) (Int.le_trans h4 (by decide))
    rw [l63] at a3
    exact absurd a3 (Int.not_lt.mpr h6)
  · intro _ _
    unfold Builtin.Str.tooLong
    have : ¬ z.length * k.toNat > sizeLine := by rw [sizeLine_eq]; omega
    exact decide_eq_false this
  · by_cases a1 : k < 1
    · rw [if_pos a1]
      have e : repS z k.toNat = Str.empty := by unfold repS; rw [show k.toNat = 0 by omega]; rfl
      rw [e] at q
      exact ⟨by decide, .str Str.empty, H, I.tok _, ⟨_, rfl⟩, q⟩
    · rw [if_neg a1]
      by_cases a2 : (k == 1 || z.length == 0) = true
      · rw [if_pos a2]
        have e : repS z k.toNat = z := by
          unfold repS
          rw [Bool.or_eq_true, beq_iff_eq, beq_iff_eq] at a2
          rcases a2 with a2 | a2
          · rw [show k.toNat = 1 by omega]; simp
          · have : z.cps.toList = [] := by rw [← hl] at a2; exact List.eq_nil_of_length_eq_zero a2
            rw [this]
            have z0 : z = ⟨#[]⟩ := by
              cases z with
              | mk a =>
                have : a = #[] := by apply Array.toList_inj.mp; exact this
                rw [this]
            rw [z0]
            have : ∀ m : Nat, (List.replicate m ([] : List Nat)).flatten = [] := fun m => by simp
            rw [this]
        rw [e] at q
        exact ⟨.str z, H, I, ⟨_, rfl⟩, q⟩
      · rw [if_neg a2]
        have e : (⟨(List.replicate k.toNat z.cps).foldl (· ++ ·) #[]⟩ : Str) = repS z k.toNat := by
          unfold repS
          have := foldl_repN z.cps.toList k.toNat []
          rw [List.nil_append] at this
          rw [← this]
        rw [e]
        refine ⟨?_, .str (repS z k.toNat), H, I.tok _, ⟨_, rfl⟩, q⟩
        have : (repS z k.toNat).length ≤ 1000000 := by
          show (repS z k.toNat).cps.size ≤ _
          unfold repS
          simp
          rw [show z.cps.size = z.length from rfl, Nat.mul_comm]; exact h3
        first
          | (rw [sizeLine_eq]; omega)
          | (have := this; show _ ≤ sizeLine; rw [sizeLine_eq]; omega)
theorem repS_ok {s : Str} (h : PyData.strOk s = true) (k : Nat) : PyData.strOk (repS s k) = true := by
  have q : ∀ c ∈ s.cps.toList, decide (c < 0x110000) = true := by
    have h : s.cps.all (· < 0x110000) = true := h
    rw [← Array.all_toList, List.all_eq_true] at h
    exact h
  show (repS s k).cps.all (· < 0x110000) = true
  rw [← Array.all_toList, List.all_eq_true]
  intro c hc
  have hc : c ∈ (List.replicate k s.cps.toList).flatten := hc
  obtain ⟨l, hl, hm⟩ := List.mem_flatten.mp hc
  rw [(List.mem_replicate.mp hl).2] at hm
  exact q c hm
def rMulF (K : PySem.W.Frag) : R2 := fun x y H Q => rI CMul (fun i j => .int (i * j)) x y H Q ∨ (rI CMulW (fun i j => .int (i * j)) x y H Q ∨ (rRepR x y H Q ∨ rRepS x y H Q))
theorem op_mulF : OpR X (binaryOp .Mult) (rMulF X.K) := op_mul.or (op_mulW.or (op_repR.or op_repS))
theorem zip_rep (vs : List V) (xs : List D) (lp : vs.length = xs.length) : ∀ n : Nat, zipI (List.replicate n vs).flatten ((List.replicate n xs).flatten.map O.val) = (List.replicate n (zipI vs (xs.map O.val))).flatten
  | 0 => rfl
  | n + 1 => by
    rw [List.replicate_succ, List.replicate_succ, List.replicate_succ, List.flatten_cons, List.flatten_cons, List.flatten_cons, ← zip_rep vs xs lp n]
    unfold zipI
    rw [List.map_append, List.zipWith_append (by simpa using lp)]
theorem len_rep {α β : Type} (vs : List α) (xs : List β) (lp : vs.length = xs.length) : ∀ n : Nat, (List.replicate n vs).flatten.length = (List.replicate n xs).flatten.length
  | 0 => rfl
  | n + 1 => by rw [List.replicate_succ, List.replicate_succ, List.flatten_cons, List.flatten_cons, List.length_append, List.length_append, lp, len_rep vs xs lp n]
/-- shared items again and again -/
theorem Rep.again {H : Hp} {L : List Item} {B : List (V × O)} {vs : List V} {xs : List D} (R : Rep K mg H (zipI vs (xs.map O.val) ++ L) B) : ∀ n : Nat, Rep K mg H ((List.replicate n (zipI vs (xs.map O.val))).flatten ++ L) B
  | 0 => R.dropVs
  | n + 1 => by
    have ih := Rep.again R n
    obtain ⟨A, nd, ok, hb⟩ := R
    obtain ⟨A', nd', ok', hb'⟩ := ih
    obtain ⟨bs, cs, e2, t1, t2⟩ := ok.split
    have e0 : ∀ {vs : List V} {ds : List D} {as : List Addr}, IsOk K mg (hide H A) H (zipI vs (ds.map O.val)) as → as = [] := by
      intro vs
      induction vs with
      | nil => intro ds as t; cases ds <;> cases t <;> rfl
      | cons w vs ih =>
        intro ds as t
        cases ds with
        | nil => cases t; rfl
        | cons e ds =>
          cases t with
          | cons t r =>
            have := ih r
            subst this
            cases t with
            | ov t => cases t with
              | val t => rfl
    have e3 := e0 t1
    subst e3
    rw [List.nil_append] at e2
    subst e2
    refine ⟨A, nd, ?_, hb⟩
    rw [List.replicate_succ, List.flatten_cons, List.append_assoc]
    refine IsOk.append (as := []) t1 ?_
    clear hb' ok' nd' ok hb
    induction n with
    | zero => exact t2
    | succ n ih =>
      rw [List.replicate_succ, List.flatten_cons, List.append_assoc]
      exact IsOk.append (as := []) t1 ih
theorem opv_mul : OpV K mg (rMulF K) (lift2 mulD) := by
  intro H L B x y ox oy o Q R hx hy e k
  obtain ⟨a, b, d, e1, e2, e3, rfl⟩ := lift2_eq e
  unfold mulD at e3
  split at e3
  · split at e3
    · rename_i i j h
      cases e3
      have q := k _ H (Same.refl _) (R.scalB (v := .int (i * j)) (d := .int (i * j)) fun _ => .int _)
      unfold mulOk at h
      simp only [Bool.or_eq_true, decide_eq_true_eq] at h
      rcases h with (h | h) | h
      · exact .inl ⟨i, j, R.shInt hx e1, R.shInt hy e2, .inl (by omega), q⟩
      · exact .inl ⟨i, j, R.shInt hx e1, R.shInt hy e2, .inr (by omega), q⟩
      · exact .inr (.inl ⟨i, j, R.shInt hx e1, R.shInt hy e2, h, q⟩)
    · cases e3
  · split at e3
    · rename_i xs j h
      cases e3
      obtain ⟨p, vs, rfl, hp, lp, R1⟩ := R.shL hx e1
      obtain ⟨h1, h2, h3⟩ := h
      refine .inr (.inr (.inl ⟨p, j, vs, rfl, R.shInt hy e2, hp, by omega, by omega, line6 (by rw [lp]; exact h3), fun r hr => k _ _ (sameNew hr) ?_⟩))
      refine Rep.lentL ?_ (len_rep _ _ lp _) hr
      rw [zip_rep _ _ lp]
      exact Rep.again R1 _
    · cases e3
  · split at e3
    · rename_i s j h
      cases e3
      obtain ⟨h1, h2, h3⟩ := h
      exact .inr (.inr (.inr ⟨s, j, R.shStr hx e1, R.shInt hy e2, h1, h2, h3, k _ _ (Same.refl _) (R.scalB fun _ => .str _ (repS_ok (R.strOk hx e1) _))⟩))
    · cases e3
  · cases e3
end
end FB

/-! Comparisons, membership, subscripts, slices, built-ins. -/
namespace FB
open PySem PySem.Spec L2
open PyProof.Rows hiding St

section
variable {X : Cx} {K : PySem.W.Frag} {mg : Str → Option Value}
/-! ### == and != -/
def eqO (a b : O) : Option O := if (a.toD.okE 9 && b.toD.okE 9) = true then some (.val (.bl (a.toD.eqv b.toD))) else none
def neO (a b : O) : Option O := if (a.toD.okE 9 && b.toD.okE 9) = true then some (.val (.bl (!a.toD.eqv b.toD))) else none
theorem opv_eq : OpV K mg (rEqD K) eqO := by
  intro H L B x y ox oy o Q R hx hy e k
  unfold eqO at e
  split at e
  · rename_i h
    cases e
    rw [Bool.and_eq_true] at h
    have v1 : Vw K mg H x ox.toD := R.view hx
    have v2 : Vw K mg H y oy.toD := R.view hy
    exact ⟨_, _, v1.dp 9 h.1, v2.dp 9 h.2, v1.shaped h.1, v2.shaped h.2, k _ _ (Same.refl _) (R.scalB fun _ => .bl _)⟩
  · cases e
theorem opv_ne : OpV K mg (rNeD K) neO := by
  intro H L B x y ox oy o Q R hx hy e k
  unfold neO at e
  split at e
  · rename_i h
    cases e
    rw [Bool.and_eq_true] at h
    have v1 : Vw K mg H x ox.toD := R.view hx
    have v2 : Vw K mg H y oy.toD := R.view hy
    exact ⟨_, _, v1.dp 9 h.1, v2.dp 9 h.2, v1.shaped h.1, v2.shaped h.2, k _ _ (Same.refl _) (R.scalB fun _ => .bl _)⟩
  · cases e
/-! ### is None -/
def O.isNon : O → Bool
  | .val .non => true
  | _ => false
def isNO (a b : O) : Option O := match b with
  | .val .non => some (.val (.bl a.isNon))
  | _ => none
def notNO (a b : O) : Option O := match b with
  | .val .non => some (.val (.bl (!a.isNon)))
  | _ => none
theorem isNon_iff {G H : Hp} {v : V} {o : O} {as : List Addr} (h : VO K mg G H v o as) : decide (v = .non) = o.isNon := by
  cases h with
  | val h => cases h <;> rfl
  | lst _ _ => rfl
  | dct _ _ _ => rfl
  | ins _ _ _ _ => rfl
theorem Rep.isNon {H : Hp} {L : List Item} {B : List (V × O)} {x : V} {o : O} (R : Rep K mg H L B) (hx : (x, o) ∈ B) : decide (x = .non) = o.isNon := by
  obtain ⟨A, nd, ok, hb⟩ := R
  obtain ⟨as, h1, _⟩ := hb _ hx
  exact isNon_iff h1
theorem opv_isN : OpV K mg (fun x y H Q => y = .non ∧ Q (.bl (decide (x = .non))) H) isNO := by
  intro H L B x y ox oy o Q R hx hy e k
  unfold isNO at e
  split at e
  · cases e
    rw [R.isNon hx]
    exact ⟨R.shNon hy rfl, k _ _ (Same.refl _) (R.scalB fun _ => .bl _)⟩
  · cases e
theorem opv_notN : OpV K mg (fun x y H Q => y = .non ∧ Q (.bl (!decide (x = .non))) H) notNO := by
  intro H L B x y ox oy o Q R hx hy e k
  unfold notNO at e
  split at e
  · cases e
    rw [R.isNon hx]
    exact ⟨R.shNon hy rfl, k _ _ (Same.refl _) (R.scalB fun _ => .bl _)⟩
  · cases e
/-! ### in, not in -/
def D.flat : D → Bool
  | .non => true
  | .bl _ => true
  | .int _ => true
  | .str _ => true
  | _ => false
theorem Vw.flat {G : Hp} {v : V} {d : D} (h : Vw K mg G v d) (e : d.flat = true) : flatV v = true := by
  cases h <;> first | rfl | cases e
theorem Vw.eqV {G : Hp} {v w : V} {d e : D} (h : Vw K mg G v d) (q : Vw K mg G w e) (f : d.flat = true) (g : e.flat = true) : L2.eqV v w = d.eqv e := by
  cases h <;> first | (cases f; done) | (cases q <;> first | rfl | (cases g; done))
theorem Vws.flat {G : Hp} : ∀ {vs : List V} {ds : List D}, Vws K mg G vs ds → ds.all D.flat = true → vs.all flatV = true
  | _, _, .nil, _ => rfl
  | _, _, .cons h t, e => by
    rw [List.all_cons, Bool.and_eq_true] at e
    rw [List.all_cons, h.flat e.1, Vws.flat t e.2]; rfl
theorem Vws.anyV {G : Hp} {x : V} {d : D} (hx : Vw K mg G x d) (fx : d.flat = true) : ∀ {vs : List V} {ds : List D}, Vws K mg G vs ds → ds.all D.flat = true → inV x vs = ds.any fun e => e.eqv d
  | _, _, .nil, _ => rfl
  | _, _, .cons h t, e => by
    rw [List.all_cons, Bool.and_eq_true] at e
    unfold inV
    rw [List.any_cons, List.any_cons, h.eqV hx e.1 fx]
    exact congrArg _ (Vws.anyV hx fx t e.2)
theorem any_pds (d : D) : ∀ ds : List D, ((D.pds ds).any fun z => PyData.eqv z d.pd) = ds.any fun e => e.eqv d
  | [] => rfl
  | e :: ds => by
    show (PyData.eqv e.pd d.pd || (D.pds ds).any _) = _
    rw [any_pds d ds]; rfl
/-- the sequence's parts -/
def D.seq? : D → Option (List D)
  | .lst ds => some ds
  | .tup ds => some ds
  | .scr ns => some (ns.map D.int)
  | _ => none
def sign? (s : Str) : Option Nat := match s.cps.toList with
  | [c] => some c
  | _ => none
theorem sign?_eq {s : Str} {c : Nat} (h : sign? s = some c) : s = ⟨#[c]⟩ := by
  unfold sign? at h
  split at h
  · rename_i d e
    cases h
    cases s with
    | mk a =>
      have e : a.toList = [c] := e
      have : a = #[c] := by
        apply Array.toList_inj.mp
        rw [e]
      rw [this]
  · cases h
def inD (x l : D) : Option Bool := match l with
  | .str z => match x with
    | .str s => (sign? s).map fun c => decide (c ∈ z.cps.toList)
    | _ => none
  | .lst ds => if x.flat = true ∧ ds.all D.flat = true then some (ds.any fun e => e.eqv x) else if x.okE 9 = true ∧ ds.all (D.okE 8) = true then some (ds.any fun e => e.eqv x) else none
  | .tup ds => if x.flat = true ∧ ds.all D.flat = true then some (ds.any fun e => e.eqv x) else none
  | _ => none
def inO (a b : O) : Option O := (inD a.toD b.toD).map fun b => .val (.bl b)
def ninO (a b : O) : Option O := (inD a.toD b.toD).map fun b => .val (.bl !b)
def rInF (K : PySem.W.Frag) : R2 := fun x y H Q => rIn K false x y H Q ∨ (rInD K x y H Q ∨ ∃ (c : Nat) (z : Str), x = .str ⟨#[c]⟩ ∧ y = .str z ∧ Q (.bl (decide (c ∈ z.cps.toList))) H)
def rNinF (K : PySem.W.Frag) : R2 := fun x y H Q => rIn K true x y H Q ∨ (rNotInD K x y H Q ∨ ∃ (c : Nat) (z : Str), x = .str ⟨#[c]⟩ ∧ y = .str z ∧ Q (.bl (!decide (c ∈ z.cps.toList))) H)
theorem op_inF (ok : CxOk X) : OpR X (compareOp .In) (rInF X.K) := op_in_seq.or ((op_inD ok.units).or op_in_sign)
theorem op_ninF (ok : CxOk X) : OpR X (compareOp .NotIn) (rNinF X.K) := op_notIn_seq.or ((op_notInD ok.units).or op_notIn_sign)
theorem in_core {H : Hp} {x y : V} {d e : D} {b : Bool} (v1 : Vw K mg H x d) (v2 : Vw K mg H y e) (h : inD d e = some b) :
    (∃ p xs, y = .ref p ∧ (SqL K H p xs ∨ SqT K H p xs) ∧ flatV x = true ∧ xs.all flatV = true ∧ inV x xs = b) ∨
    (∃ d' ds, Dp K H x d' ∧ Dp K H y (.list ds) ∧ SeqAt.shaped d' = true ∧ SeqAt.shaped (.list ds) = true ∧ (ds.any fun z => PyData.eqv z d') = b) ∨
    ∃ (c : Nat) (z : Str), x = .str ⟨#[c]⟩ ∧ y = .str z ∧ decide (c ∈ z.cps.toList) = b := by
  unfold inD at h
  split at h
  · split at h
    · rename_i s
      cases e : sign? s with
      | none => rw [e] at h; cases h
      | some c =>
        rw [e] at h
        cases h
        have := sign?_eq e
        subst this
        cases v1; cases v2
        exact .inr (.inr ⟨_, _, rfl, rfl, rfl⟩)
    · cases h
  · rename_i ds
    split at h
    · rename_i q
      cases h
      cases v2 with
      | lst h2 hs =>
        exact .inl ⟨_, _, rfl, .inl (.inl h2), v1.flat q.1, hs.flat q.2, Vws.anyV v1 q.1 hs q.2⟩
    · split at h
      · rename_i q
        cases h
        have e2 : (D.lst ds).okE 9 = true := q.2
        refine .inr (.inl ⟨_, _, v1.dp 9 q.1, v2.dp 9 e2, v1.shaped q.1, v2.shaped e2, any_pds _ _⟩)
      · cases h
  · split at h
    · rename_i q
      cases h
      cases v2 with
      | tup h2 hs => exact .inl ⟨_, _, rfl, .inr h2, v1.flat q.1, hs.flat q.2, Vws.anyV v1 q.1 hs q.2⟩
    · cases h
  · cases h
theorem opv_in : OpV K mg (rInF K) inO := by
  intro H L B x y ox oy o Q R hx hy e k
  unfold inO at e
  cases h : inD ox.toD oy.toD with
  | none => rw [h] at e; cases e
  | some b =>
    rw [h] at e; cases e
    have q := k _ H (Same.refl _) (R.scalB (v := .bl b) (d := .bl b) fun _ => .bl b)
    rcases in_core (R.view hx) (R.view hy) h with ⟨p, xs, rfl, h1, h2, h3, h4⟩ | ⟨d', ds, h1, h2, h3, h4, h5⟩ | ⟨c, z, rfl, rfl, h1⟩
    · exact .inl ⟨p, xs, rfl, h1, h2, h3, by rw [if_neg Bool.false_ne_true, h4]; exact q⟩
    · exact .inr (.inl ⟨d', ds, h1, h2, h3, h4, by rw [h5]; exact q⟩)
    · exact .inr (.inr ⟨c, z, rfl, rfl, by rw [h1]; exact q⟩)
theorem opv_nin : OpV K mg (rNinF K) ninO := by
  intro H L B x y ox oy o Q R hx hy e k
  unfold ninO at e
  cases h : inD ox.toD oy.toD with
  | none => rw [h] at e; cases e
  | some b =>
    rw [h] at e; cases e
    have q := k _ H (Same.refl _) (R.scalB (v := .bl !b) (d := .bl !b) fun _ => .bl _)
    rcases in_core (R.view hx) (R.view hy) h with ⟨p, xs, rfl, h1, h2, h3, h4⟩ | ⟨d', ds, h1, h2, h3, h4, h5⟩ | ⟨c, z, rfl, rfl, h1⟩
    · exact .inl ⟨p, xs, rfl, h1, h2, h3, by rw [if_pos rfl, h4]; exact q⟩
    · exact .inr (.inl ⟨d', ds, h1, h2, h3, h4, by rw [h5]; exact q⟩)
    · exact .inr (.inr ⟨c, z, rfl, rfl, by rw [h1]; exact q⟩)
/-! ### x[i] -/
def ixO (a b : O) : Option O := match b with
  | .val (.int i) => match a with
    | .lst os => atI os i
    | .val (.lst ds) => (atI ds i).map O.val
    | .val (.tup ds) => (atI ds i).map O.val
    | .val (.scr ns) => (atI ns i).map fun n => .val (.int n)
    | .val (.str z) => if z.length ≤ 1000000 then (atI z.cps.toList i).map fun c => .val (.str ⟨#[c]⟩) else none
    | _ => none
  | _ => none
theorem atI_len {α β : Type} {xs : List α} {ys : List β} {i : Int} {y : β} (e : xs.length = ys.length) (h : atI ys i = some y) : ∃ (j : Nat) (x : α), ys[j]? = some y ∧ xs[j]? = some x ∧ atI xs i = some x := by
  unfold atI at h ⊢
  rw [← e] at h
  cases q : ixN xs.length i with
  | none => rw [q] at h; cases h
  | some j =>
    rw [q] at h
    have h : ys[j]? = some y := h
    have hj : j < ys.length := (List.getElem?_eq_some_iff.mp h).1
    exact ⟨j, xs[j]'(by omega), h, by simp, by simp⟩
theorem strOk_at {z : Str} {i : Int} {c : Nat} (h : PyData.strOk z = true) (e : atI z.cps.toList i = some c) : PyData.strOk ⟨#[c]⟩ = true := by
  obtain ⟨j, _, hj, _⟩ := atI_get e
  have hm : c ∈ z.cps.toList := by
    obtain ⟨j', _, h2, _⟩ := atI_get e
    exact List.mem_of_getElem? h2
  have q : ∀ c ∈ z.cps.toList, decide (c < 0x110000) = true := by
    have h : z.cps.all (· < 0x110000) = true := h
    rw [← Array.all_toList, List.all_eq_true] at h
    exact h
  show (#[c].all _) = true
  simp [of_decide_eq_true (q c hm)]
theorem opv_ix : OpV K mg (rIx K) ixO := by
  intro H L B x y ox oy o Q R hx hy e k
  unfold ixO at e
  split at e
  · rename_i i
    have ey : y = .int i := R.shInt hy rfl
    split at e
    · rename_i os
      obtain ⟨A, nd, ok, hb⟩ := id R
      obtain ⟨as, h1, h2⟩ := hb _ hx
      cases h1 with
      | lst h1 hs =>
        obtain ⟨j, v, e1, e2, e3⟩ := atI_len hs.length e
        refine .inl ⟨_, _, i, v, rfl, ey, SqL.of h1, e3, k v H (Same.refl _) ⟨A, nd, ok, fun b q => ?_⟩⟩
        rcases List.mem_cons.mp q with q | q
        · subst q
          have sub : ∀ {vs : List V} {os : List O} {as : List Addr} {j : Nat} {v : V} {o : O}, VOs K mg (hide H A) H vs os as → os[j]? = some o → vs[j]? = some v → ∃ bs, VO K mg (hide H A) H v o bs ∧ ∀ a ∈ bs, a ∈ as := by
            intro vs
            induction vs with
            | nil => intro os as j v o t h1 h2; simp at h2
            | cons w vs ih =>
              intro os as j v o t h1 h2
              cases t with
              | cons t r =>
                cases j with
                | zero =>
                  simp at h1 h2
                  subst h1 h2
                  exact ⟨_, t, fun a ha => by simp [ha]⟩
                | succ j =>
                  obtain ⟨bs, q1, q2⟩ := ih r (by simpa using h1) (by simpa using h2)
                  exact ⟨bs, q1, fun a ha => by simp [q2 a ha]⟩
          obtain ⟨bs, q1, q2⟩ := sub hs e1 e2
          exact ⟨bs, q1, fun a ha => h2 a (by simp [q2 a ha])⟩
        · exact hb b q
    · rename_i ds
      cases e1 : atI ds i with
      | none => rw [e1] at e; cases e
      | some d =>
        rw [e1] at e; cases e
        obtain ⟨p, vs, rfl, hp, lp, R1⟩ := R.shL hx rfl
        obtain ⟨j, v, e1, e2, e3⟩ := atI_len lp e1
        exact .inl ⟨p, vs, i, v, rfl, ey, .inl hp, e3, k v H (Same.refl _) (R1.nth e2 e1)⟩
    · rename_i ds
      cases e1 : atI ds i with
      | none => rw [e1] at e; cases e
      | some d =>
        rw [e1] at e; cases e
        obtain ⟨p, vs, rfl, hp, lp, R1⟩ := R.shT hx rfl
        obtain ⟨j, v, e1, e2, e3⟩ := atI_len lp e1
        exact .inr (.inl ⟨p, vs, i, v, rfl, ey, hp, e3, k v H (Same.refl _) (R1.nth e2 e1)⟩)
    · rename_i ns
      cases e1 : atI ns i with
      | none => rw [e1] at e; cases e
      | some n =>
        rw [e1] at e; cases e
        have q : Vw K mg H x (.scr ns) := R.view hx
        cases q with
        | scr h =>
          have e4 : (ns.map V.int).length = ns.length := by simp
          obtain ⟨j, v, e1, e2, e3⟩ := atI_len e4 e1
          rw [List.getElem?_map, e1] at e2
          cases e2
          exact .inl ⟨_, _, i, _, rfl, ey, h, e3, k _ H (Same.refl _) (R.scalB fun _ => .int n)⟩
    · rename_i z
      split at e
      · rename_i hz
        cases e1 : atI z.cps.toList i with
        | none => rw [e1] at e; cases e
        | some c =>
          rw [e1] at e; cases e
          refine .inr (.inr ⟨z, i, c, R.shStr hx rfl, ey, line6 hz, e1, k _ H (Same.refl _) (R.scalB fun _ => .str _ (strOk_at (R.strOk hx rfl) e1))⟩)
      · cases e
    · cases e
  · cases e
/-! ### len -/
def lenO (a : O) : Option O := match a with
  | .lst os => some (.val (.int os.length))
  | .val (.lst ds) => some (.val (.int ds.length))
  | .val (.tup ds) => some (.val (.int ds.length))
  | .val (.scr ns) => some (.val (.int ns.length))
  | .val (.str z) => if z.length ≤ 1000000 then some (.val (.int z.length)) else none
  | .val (.dct _ _) => none
  | .dct ks _ => some (.val (.int ks.length))
  | _ => none
def rLenF (K : PySem.W.Frag) : List V → Hp → VK → Prop := fun xs H Q => (∃ x n, xs = [x] ∧ LenV K x H n ∧ Q (.int n) H) ∨ (∃ a kvs, xs = [V.ref a] ∧ H a = some (.dK kvs) ∧ Q (.int kvs.length) H)
theorem Rep.ownL {H : Hp} {L : List Item} {B : List (V × O)} {x : V} {os : List O} (R : Rep K mg H L B) (hx : (x, .lst os) ∈ B) : ∃ p vs, x = .ref p ∧ H p = some (.lst vs) ∧ vs.length = os.length := by
  obtain ⟨A, nd, ok, hb⟩ := R
  obtain ⟨as, h1, h2⟩ := hb _ hx
  cases h1 with
  | lst h1 hs => exact ⟨_, _, rfl, h1, hs.length⟩
theorem Rep.ownD {H : Hp} {L : List Item} {B : List (V × O)} {x : V} {ks : List Key} {os : List O} (R : Rep K mg H L B) (hx : (x, .dct ks os) ∈ B) : ∃ p kvs, x = .ref p ∧ H p = some (.dK kvs) ∧ (kvs.map (·.1) = ks ∧ ks.Nodup) ∧ kvs.length = os.length := by
  obtain ⟨A, nd, ok, hb⟩ := R
  obtain ⟨as, h1, h2⟩ := hb _ hx
  cases h1 with
  | dct h1 hk hs => exact ⟨_, _, rfl, h1, hk, by have := hs.length; simpa using this⟩
theorem unv_len : UnV K mg (fun x H Q => rLenF K [x] H Q) lenO := by
  intro H L B x ox o Q R hx e k
  unfold lenO at e
  split at e
  · cases e
    obtain ⟨p, vs, rfl, hp, lp⟩ := R.ownL hx
    exact .inl ⟨_, vs.length, rfl, .inl ⟨vs, SqL.of hp, rfl⟩, by rw [lp]; exact k _ _ (Same.refl _) (R.scalB fun _ => .int _)⟩
  · cases e
    obtain ⟨p, vs, rfl, hp, lp, _⟩ := R.shL hx rfl
    exact .inl ⟨_, vs.length, rfl, .inl ⟨vs, .inl hp, rfl⟩, by rw [lp]; exact k _ _ (Same.refl _) (R.scalB fun _ => .int _)⟩
  · cases e
    obtain ⟨p, vs, rfl, hp, lp, _⟩ := R.shT hx rfl
    exact .inl ⟨_, vs.length, rfl, .inr ⟨vs, hp, rfl⟩, by rw [lp]; exact k _ _ (Same.refl _) (R.scalB fun _ => .int _)⟩
  · cases e
    rename_i ns
    have q : Vw K mg H x (.scr ns) := R.view hx
    cases q with
    | scr h => exact .inl ⟨_, ns.length, rfl, .inl ⟨_, h, by simp⟩, k _ _ (Same.refl _) (R.scalB fun _ => .int _)⟩
  · split at e
    · rename_i z hz
      cases e
      rw [R.shStr hx rfl]
      exact .inl ⟨_, z.length, rfl, ⟨line6 hz, rfl⟩, k _ _ (Same.refl _) (R.scalB fun _ => .int _)⟩
    · cases e
  · cases e
  · cases e
    obtain ⟨p, kvs, rfl, hp, hk, lp⟩ := R.ownD hx
    refine .inr ⟨p, kvs, rfl, hp, ?_⟩
    have : kvs.length = (List.map (·.1) kvs).length := by simp
    rw [this, hk.1]
    exact k _ _ (Same.refl _) (R.scalB fun _ => .int _)
  · cases e
end
end FB

/-! Slices, built-ins by name, tests, displays. -/
namespace FB
open PySem PySem.Spec L2
open PyProof.Rows hiding St

section
variable {X : Cx} {K : PySem.W.Frag} {mg : Str → Option Value}
/-! ### slices -/
def cutL {α : Type} (xs : List α) (lo hi : Option Int) : List α := (xs.drop (HT.sIx xs.length 0 lo)).take (HT.sIx xs.length xs.length hi - HT.sIx xs.length 0 lo)
theorem cutL_map {α β : Type} (f : α → β) (xs : List α) (lo hi : Option Int) : cutL (xs.map f) lo hi = (cutL xs lo hi).map f := by
  unfold cutL
  rw [List.length_map, List.map_take, List.map_drop]
def slO (a : O) (lo hi : Option Int) : Option O := match a.sh with
  | some (.lst ds) => some (.val (.lst (cutL ds lo hi)))
  | some (.tup ds) => some (.val (.tup (cutL ds lo hi)))
  | some (.scr ns) => some (.val (.lst ((cutL ns lo hi).map D.int)))
  | some (.str z) => if z.length ≤ 1000000 then some (.val (.str (cutS z lo hi))) else none
  | _ => none
def rSlF (K : PySem.W.Frag) : V → Option Int → Option Int → Hp → VK → Prop := fun x lo hi H Q => rSlL K x lo hi H Q ∨ (rSlA K x lo hi H Q ∨ rSlS x lo hi H Q)
theorem sl_F : SlR X (rSlF X.K) := sl_list.or (sl_tupA.or sl_str)
theorem zip_cut (vs : List V) (ds : List D) (e : vs.length = ds.length) (lo hi : Option Int) : zipI (cutL vs lo hi) ((cutL ds lo hi).map O.val) = cutL (zipI vs (ds.map O.val)) lo hi := by
  have hz : (zipI vs (ds.map O.val)).length = ds.length := by unfold zipI; simp [e]
  unfold cutL
  rw [hz, e]
  unfold zipI
  rw [List.map_take, List.map_drop, List.drop_zipWith, List.take_zipWith]
theorem len_cut {α β : Type} (vs : List α) (ds : List β) (e : vs.length = ds.length) (lo hi : Option Int) : (cutL vs lo hi).length = (cutL ds lo hi).length := by
  unfold cutL
  simp [e]
theorem vals_nil {G H : Hp} : ∀ {vs : List V} {ds : List D} {as : List Addr}, IsOk K mg G H (zipI vs (ds.map O.val)) as → as = [] := by
  intro vs
  induction vs with
  | nil => intro ds as t; cases ds <;> cases t <;> rfl
  | cons w vs ih =>
    intro ds as t
    cases ds with
    | nil => cases t; rfl
    | cons e ds =>
      cases t with
      | cons t r =>
        have := ih r
        subst this
        cases t with
        | ov t => cases t with
          | val t => rfl
theorem vals_sub {G H : Hp} {M N : List Item} (h : IsOk K mg G H N []) (s : M.Sublist N) : IsOk K mg G H M [] := by
  induction s with
  | slnil => exact .nil
  | cons a s ih =>
    generalize e : ([] : List Addr) = as at h
    cases h with
    | cons h t =>
      rename_i as bs
      have e := List.append_eq_nil_iff.mp e.symm
      obtain ⟨e1, e2⟩ := e
      subst e1 e2
      exact ih t
  | cons_cons a s ih =>
    generalize e : ([] : List Addr) = as at h
    cases h with
    | cons h t =>
      rename_i as bs
      have e := List.append_eq_nil_iff.mp e.symm
      obtain ⟨e1, e2⟩ := e
      subst e1 e2
      exact .cons (as := []) h (ih t)
/-- some of the shared items -/
theorem Rep.someOf {H : Hp} {L : List Item} {B : List (V × O)} {vs : List V} {ds : List D} {M : List Item} (R : Rep K mg H (zipI vs (ds.map O.val) ++ L) B) (s : M.Sublist (zipI vs (ds.map O.val))) : Rep K mg H (M ++ L) B := by
  obtain ⟨A, nd, ok, hb⟩ := R
  obtain ⟨bs, cs, e2, t1, t2⟩ := ok.split
  subst e2
  have e3 := vals_nil t1
  subst e3
  exact ⟨_, nd, IsOk.append (as := []) (vals_sub t1 s) t2, hb⟩
theorem strOk_cut {z : Str} (h : PyData.strOk z = true) (lo hi : Option Int) : PyData.strOk (cutS z lo hi) = true := by
  have h : z.cps.all (· < 0x110000) = true := h
  rw [← Array.all_toList, List.all_eq_true] at h
  show (Array.all _ _) = true
  rw [← Array.all_toList, List.all_eq_true]
  intro c hc
  exact h c (List.mem_of_mem_drop (List.mem_of_mem_take (by simpa [cutS] using hc)))
theorem slv {H : Hp} {L : List Item} {B : List (V × O)} {x : V} {ox o : O} {lo hi : Option Int} {Q : VK} (R : Rep K mg H L B) (hx : (x, ox) ∈ B) (e : slO ox lo hi = some o) (k : ∀ v H', Same H H' → Rep K mg H' L ((v, o) :: B) → Q v H') : rSlF K x lo hi H Q := by
  unfold slO at e
  split at e
  · rename_i ds e1
    cases e
    obtain ⟨p, vs, rfl, hp, lp, R1⟩ := R.shL hx e1
    refine .inl ⟨p, vs, rfl, .inl hp, fun q hq => k _ _ (sameNew hq) ?_⟩
    refine Rep.lentL (vs := cutL vs lo hi) (ds := cutL ds lo hi) (R1.someOf ?_) (len_cut _ _ lp lo hi) hq
    rw [zip_cut _ _ lp]
    exact (List.take_sublist _ _).trans (List.drop_sublist _ _)
  · rename_i ds e1
    cases e
    obtain ⟨p, vs, rfl, hp, lp, R1⟩ := R.shT hx e1
    refine .inr (.inl ⟨p, vs, rfl, hp, fun hw => k _ _ (Same.refl _) ?_, fun hw q hq => k _ _ (sameNew hq) ?_⟩)
    · have : cutL ds lo hi = ds := by
        unfold cutL
        rw [← lp, hw.1, hw.2, List.drop_zero, Nat.sub_zero, lp, List.take_length]
      rw [this]
      have ea := sh_val_of e1 (fun _ => by intro z; cases z) (fun _ _ => by intro z; cases z) (fun _ _ _ => by intro z; cases z)
      subst ea
      exact R.bdup hx
    · refine Rep.lentT (vs := cutL vs lo hi) (ds := cutL ds lo hi) (R1.someOf ?_) (len_cut _ _ lp lo hi) hq
      rw [zip_cut _ _ lp]
      exact (List.take_sublist _ _).trans (List.drop_sublist _ _)
  · rename_i ns e1
    cases e
    have q : Vw K mg H x (.scr ns) := R.sh hx e1
    cases q with
    | scr h =>
      refine .inl ⟨_, _, rfl, h, fun q hq => k _ _ (sameNew hq) ?_⟩
      have e2 : cutV (ns.map V.int) lo hi = (cutL ns lo hi).map V.int := cutL_map _ _ _ _
      rw [e2]
      refine Rep.lentL ?_ (by simp) hq
      have : ∀ (ms : List Int), Rep K mg H (zipI (ms.map V.int) ((ms.map D.int).map O.val) ++ L) B := by
        intro ms
        induction ms with
        | nil => exact R
        | cons m ms ih => exact ih.scal fun _ => .int m
      exact this _
  · split at e
    · rename_i z e1 hz
      cases e
      exact .inr (.inr ⟨z, R.shStr hx e1, line6 hz, k _ _ (Same.refl _) (R.scalB fun _ => .str _ (strOk_cut (R.strOk hx e1) lo hi))⟩)
    · cases e
  · cases e
/-- a slice's bound -/
def tPO (K : PySem.W.Frag) (mg : Str → Option Value) (f : Env → Option (Option Int)) : TO := fun σ H Q => ∃ ρ T B i, Cov σ ρ ∧ Rep K mg H (pairs σ ρ ++ T) B ∧ f ρ = some i ∧ ∀ H', Same H H' → Rep K mg H' (pairs σ ρ ++ T) B → Q i H'
def tMO (K : PySem.W.Frag) (mg : Str → Option Value) (m : M (Option Int)) : TO := fun σ H Q => ∃ ρ T i ρ', Cov σ ρ ∧ Rep K mg H (pairs σ ρ ++ T) [] ∧ m ρ = .ok i ρ' ∧ ∀ H', Cov σ ρ' → Rep K mg H' (pairs σ ρ' ++ T) [] → Q i H'
theorem PO.imp {X : Cx} {e : Option Expr} {t t' : TO} (h : PO X e t) (q : ∀ σ H Q, t' σ H Q → t σ H Q) : PO X e t' := ⟨fun pins s σ H Q I w => h.run pins s σ H Q I (q σ H Q w)⟩
def SPO (X : Cx) (e : Option Expr) (f : Env → Option (Option Int)) : Prop := PO X e (tPO X.K X.mg f)
def SEO (X : Cx) (e : Option Expr) (m : M (Option Int)) : Prop := PO X e (tMO X.K X.mg m)
def pNone : Env → Option (Option Int) := fun _ => some none
def pInt (f : Pf) : Env → Option (Option Int) := fun ρ => match f ρ with
  | some (.val (.int i)) => some (some i)
  | _ => none
def mNone : M (Option Int) := fun ρ => .ok none ρ
def mInt (m : M O) : M (Option Int) := fun ρ => (m ρ).bind fun o ρ' => match o with
  | .val (.int i) => .ok (some i) ρ'
  | _ => .no
theorem spo_none : SPO X none pNone := PO.imp po_none fun σ H Q h => by
  obtain ⟨ρ, T, B, i, c, R, e, k⟩ := h
  cases e
  exact k H (Same.refl _) R
theorem seo_none : SEO X none mNone := PO.imp po_none fun σ H Q h => by
  obtain ⟨ρ, T, i, ρ', c, R, e, k⟩ := h
  cases e
  exact k H c R
theorem spo_some {e : Expr} {f : Pf} (h : SP X e f) : SPO X (some e) (pInt f) := PO.imp (po_some h) fun σ H Q q => by
  obtain ⟨ρ, T, B, i, c, R, e, k⟩ := q
  unfold pInt at e
  split at e
  · rename_i j e1
    cases e
    refine ⟨ρ, T, B, _, c, R, e1, fun v H' s' R' => ⟨j, R'.shInt (List.mem_cons_self ..) rfl, k H' s' R'.bdrop⟩⟩
  · cases e
theorem seo_some {e : Expr} {m : M O} (h : SE X e m) : SEO X (some e) (mInt m) := PO.imp (po_some h) fun σ H Q q => by
  obtain ⟨ρ, T, i, ρ', c, R, e, k⟩ := q
  obtain ⟨o, ρ1, e1, e⟩ := Res.bind_eq e
  split at e
  · rename_i j
    cases e
    refine ⟨ρ, T, _, _, c, R, e1, fun v H' c' R' => ⟨j, R'.lend.shInt (List.mem_cons_self ..) rfl, k H' c' R'.drop⟩⟩
  · cases e
def pSl (f : Pf) (lo hi : Env → Option (Option Int)) : Pf := fun ρ => (f ρ).bind fun a => (lo ρ).bind fun l => (hi ρ).bind fun h => slO a l h
def mSl (m : M O) (lo hi : M (Option Int)) : M O := fun ρ => (m ρ).bind fun a ρ1 => (lo ρ1).bind fun l ρ2 => (hi ρ2).bind fun h ρ3 => okV (slO a l h) ρ3
theorem sp_sl {e : Expr} {lo hi : Option Expr} {f : Pf} {fl fh : Env → Option (Option Int)} {p2 pos} (h : SP X e f) (hl : SPO X lo fl) (hh : SPO X hi fh) : SP X (.Subscript e (.Slice lo hi none p2) pos) (pSl f fl fh) :=
  PE.imp (pe_slice sl_F h hl hh) fun σ H Q q => by
    obtain ⟨ρ, T, B, o, c, R, e, k⟩ := q
    unfold pSl at e
    cases e1 : f ρ with
    | none => rw [e1] at e; cases e
    | some a =>
      rw [e1] at e
      have e : (fl ρ).bind (fun l => (fh ρ).bind fun h => slO a l h) = some o := e
      cases e2 : fl ρ with
      | none => rw [e2] at e; cases e
      | some l =>
        rw [e2] at e
        have e : (fh ρ).bind (fun h => slO a l h) = some o := e
        cases e3 : fh ρ with
        | none => rw [e3] at e; cases e
        | some u =>
          rw [e3] at e
          have e : slO a l u = some o := e
          exact ⟨ρ, T, B, a, c, R, e1, fun v H1 s1 R1 => ⟨ρ, T, _, l, c, R1, e2, fun H2 s2 R2 => ⟨ρ, T, _, u, c, R2, e3, fun H3 s3 R3 =>
            slv R3 (List.mem_cons_self ..) e fun w H4 s4 R4 => k w H4 (s1.trans (s2.trans (s3.trans s4))) (R4.bsub fun z hz => by
              rcases List.mem_cons.mp hz with hz | hz
              · simp [hz]
              · simp [hz])⟩⟩⟩
theorem se_sl {e : Expr} {lo hi : Option Expr} {m : M O} {ml mh : M (Option Int)} {p2 pos} (h : SE X e m) (hl : SEO X lo ml) (hh : SEO X hi mh) : SE X (.Subscript e (.Slice lo hi none p2) pos) (mSl m ml mh) :=
  PE.imp (pe_slice sl_F h hl hh) fun σ H Q q => by
    obtain ⟨ρ, T, o, ρ', c, R, e, k⟩ := q
    obtain ⟨a, ρ1, e1, e⟩ := Res.bind_eq e
    obtain ⟨l, ρ2, e2, e⟩ := Res.bind_eq e
    obtain ⟨u, ρ3, e3, e⟩ := Res.bind_eq e
    obtain ⟨d, e4, e5, e6⟩ := okV_eq e
    subst e5
    subst e6
    refine ⟨ρ, T, a, ρ1, c, R, e1, fun v H1 c1 R1 => ⟨ρ1, .ov v a :: T, l, ρ2, c1, R1.perm List.perm_middle.symm, e2, fun H2 c2 R2 => ⟨ρ2, .ov v a :: T, u, ρ', c2, R2, e3, fun H3 c3 R3 => ?_⟩⟩⟩
    have R4 := (R3.perm List.perm_middle).lend
    refine slv R4 (List.mem_cons_self ..) e4 fun w H4 _ R5 => k w H4 c3 ?_
    exact (R5.keep.nob.perm (.swap _ _ _)).drop

/-! ### built-ins of one and two arguments -/
theorem sp_b1 {id : String} {x : Str} {a : Expr} {p pos : Pos} {f : Pf} {r : List V → Hp → VK → Prop} {op : O → Option O} (hc : CallR X (.builtin id) r) (h : UnV X.K X.mg (fun x H Q => r [x] H Q) op) (hg : Gl X x) (hm : X.mg x = none) (hv : bootBuiltins x = some (.builtin id)) (ha : SP X a f)
    (hn : x ≠ "__name__" := by decide) (hdb : (x == ("__debug__" : Str)) = false := by decide) (hst : starEach (a :: []) X.env = (false, eval a X.env) :: starEach [] X.env := by rfl) (hpl : (backTo pos (starEach [] X.env)).any (·.1) = false := by rfl) :
    SP X (.Call (.Name x p) [a] [] pos) (p1 op f) := PE.imp (pe_callB hc hg hm hv (pa_cons ha pa_nil hst) hn hdb hst hpl) (tUn_p h)
theorem se_b1 {id : String} {x : Str} {a : Expr} {p pos : Pos} {m : M O} {r : List V → Hp → VK → Prop} {op : O → Option O} (hc : CallR X (.builtin id) r) (h : UnV X.K X.mg (fun x H Q => r [x] H Q) op) (hg : Gl X x) (hm : X.mg x = none) (hv : bootBuiltins x = some (.builtin id)) (ha : SE X a m)
    (hn : x ≠ "__name__" := by decide) (hdb : (x == ("__debug__" : Str)) = false := by decide) (hst : starEach (a :: []) X.env = (false, eval a X.env) :: starEach [] X.env := by rfl) (hpl : (backTo pos (starEach [] X.env)).any (·.1) = false := by rfl) :
    SE X (.Call (.Name x p) [a] [] pos) (m1 op m) := PE.imp (pe_callB hc hg hm hv (pa_cons ha pa_nil hst) hn hdb hst hpl) (tUn_m h)
theorem sp_t1 {T : String} {x : Str} {a : Expr} {p pos : Pos} {f : Pf} {r : List V → Hp → VK → Prop} {op : O → Option O} (hc : CallR X (.type T) r) (h : UnV X.K X.mg (fun x H Q => r [x] H Q) op) (hg : Gl X x) (hm : X.mg x = none) (hv : bootBuiltins x = some (.type T)) (ha : SP X a f)
    (hn : x ≠ "__name__" := by decide) (hdb : (x == ("__debug__" : Str)) = false := by decide) (hst : starEach (a :: []) X.env = (false, eval a X.env) :: starEach [] X.env := by rfl) (hpl : (backTo pos (starEach [] X.env)).any (·.1) = false := by rfl) :
    SP X (.Call (.Name x p) [a] [] pos) (p1 op f) := PE.imp (pe_callTy hc hg hm hv (pa_cons ha pa_nil hst) hn hdb hst hpl) (tUn_p h)
theorem se_t1 {T : String} {x : Str} {a : Expr} {p pos : Pos} {m : M O} {r : List V → Hp → VK → Prop} {op : O → Option O} (hc : CallR X (.type T) r) (h : UnV X.K X.mg (fun x H Q => r [x] H Q) op) (hg : Gl X x) (hm : X.mg x = none) (hv : bootBuiltins x = some (.type T)) (ha : SE X a m)
    (hn : x ≠ "__name__" := by decide) (hdb : (x == ("__debug__" : Str)) = false := by decide) (hst : starEach (a :: []) X.env = (false, eval a X.env) :: starEach [] X.env := by rfl) (hpl : (backTo pos (starEach [] X.env)).any (·.1) = false := by rfl) :
    SE X (.Call (.Name x p) [a] [] pos) (m1 op m) := PE.imp (pe_callTy hc hg hm hv (pa_cons ha pa_nil hst) hn hdb hst hpl) (tUn_m h)
theorem se_b2 {id : String} {x : Str} {a b : Expr} {p pos : Pos} {m n : M O} {r : List V → Hp → VK → Prop} {op : O → O → Option O} (hc : CallR X (.builtin id) r) (h : OpV X.K X.mg (fun x y H Q => r [x, y] H Q) op) (hg : Gl X x) (hm : X.mg x = none) (hv : bootBuiltins x = some (.builtin id)) (ha : SE X a m) (hb : SE X b n)
    (hn : x ≠ "__name__" := by decide) (hdb : (x == ("__debug__" : Str)) = false := by decide) (hst : starEach (a :: [b]) X.env = (false, eval a X.env) :: starEach [b] X.env := by rfl) (hst2 : starEach (b :: []) X.env = (false, eval b X.env) :: starEach [] X.env := by rfl) (hpl : (backTo pos (starEach [b] X.env)).any (·.1) = false := by rfl) :
    SE X (.Call (.Name x p) [a, b] [] pos) (m2 op m n) := PE.imp (pe_callB hc hg hm hv (pa_cons ha (pa_cons hb pa_nil hst2) hst) hn hdb hst hpl) (tOp_m h)
theorem call_lenF : CallR X (.builtin "len") (rLenF X.K) := call_len.or call_lenD

/-! isinstance of a built-in class -/
def D.ty : D → Option String
  | .non => some "NoneType"
  | .bl _ => some "bool"
  | .int _ => some "int"
  | .str _ => some "str"
  | .tup _ => some "tuple"
  | .lst _ => some "list"
  | .scr _ => some "list"
  | .dct _ _ => some "dict"
  | .ins _ _ _ => none
def subTy (t T : String) : Bool := t == T || (t == "bool" && T == "int")
def isiO (T : String) (a : O) : Option O := (a.toD.ty).map fun t => .val (.bl (subTy t T))
theorem kitT : ∀ t ∈ ["NoneType", "bool", "int", "str", "tuple", "list", "dict"], ∀ T ∈ ["bool", "int", "str", "tuple", "list", "dict"], kitB t T = some (subTy t T) := by decide +kernel
theorem Vw.tyx {H : Hp} {v : V} {d : D} {t : String} (h : Vw K mg H v d) (e : d.ty = some t) : TyX K H v (.type t) ∧ t ∈ ["NoneType", "bool", "int", "str", "tuple", "list", "dict"] := by
  cases h with
  | non => cases e; exact ⟨.base .non, by simp⟩
  | bl b => cases e; exact ⟨.base (.bl b), by simp⟩
  | int i => cases e; exact ⟨.base (.int i), by simp⟩
  | str s _ => cases e; exact ⟨.base (.str s), by simp⟩
  | tup h _ =>
    cases e
    refine ⟨?_, by simp⟩
    rcases h with (h | ⟨o, h⟩) | ⟨o, its, n, h, hc, _⟩
    · exact .base (.tup h)
    · exact .fTuple h
    · exact .kTuple h hc
  | lst h _ =>
    cases e
    refine ⟨?_, by simp⟩
    rcases h with h | ⟨o, h⟩
    · exact .base (.lst h)
    · exact .base (.frz h)
  | scr h =>
    cases e
    refine ⟨?_, by simp⟩
    rcases h with (h | ⟨o, h⟩) | ⟨o, its, n, h, hc, _⟩
    · exact .base (.lst h)
    · exact .base (.frz h)
    · exact .kList h hc
  | dct h _ _ =>
    cases e
    refine ⟨?_, by simp⟩
    rcases h with h | ⟨o, h⟩
    · exact .base (.dK h)
    · exact .fDict h
  | ins _ _ _ _ => cases e
theorem unv_isi {T : String} (hT : T ∈ ["bool", "int", "str", "tuple", "list", "dict"]) : UnV K mg (fun x H Q => rIsi K [x, .ty T] H Q) (isiO T) := by
  intro H L B x ox o Q R hx e k
  unfold isiO at e
  cases e1 : ox.toD.ty with
  | none => rw [e1] at e; cases e
  | some t =>
    rw [e1] at e; cases e
    obtain ⟨h1, h2⟩ := (R.view hx).tyx e1
    exact ⟨x, .ty T, .type t, .type T, subTy t T, rfl, .ty T, h1, kit_ty (kitT t h2 T hT), k _ _ (Same.refl _) (R.scalB fun _ => .bl _)⟩
theorem se_isi (T : String) {x : Str} {a : Expr} {p q pos : Pos} {m : M O} (hg : Gl X "isinstance") (hm : X.mg "isinstance" = none) (hgT : Gl X x) (hmT : X.mg x = none) (hvT : bootBuiltins x = some (.type T)) (ha : SE X a m) (hT : T ∈ ["bool", "int", "str", "tuple", "list", "dict"] := by decide)
    (hn : x ≠ "__name__" := by decide) (hdb : (x == ("__debug__" : Str)) = false := by decide) (hst : starEach (a :: [.Name x q]) X.env = (false, eval a X.env) :: starEach [.Name x q] X.env := by rfl) (hst2 : starEach (.Name x q :: []) X.env = (false, eval (.Name x q) X.env) :: starEach [] X.env := by rfl) (hpl : (backTo pos (starEach [.Name x q] X.env)).any (·.1) = false := by rfl) :
    SE X (.Call (.Name "isinstance" p) [a, .Name x q] [] pos) (m1 (isiO T) m) :=
  PE.imp (pe_callB call_isi hg hm boot_isinstance (pa_cons ha (pa_cons (pe_bltn (v := .ty T) hgT hmT hvT rfl hn hdb) pa_nil hst2) hst) (by decide) (by decide) hst hpl) (tUn_m (unv_isi hT))
end
end FB

/-! Built-ins over lists; tests; displays. -/
namespace FB
open PySem PySem.Spec L2
open PyProof.Rows hiding St

section
variable {X : Cx} {K : PySem.W.Frag} {mg : Str → Option Value}
def ints? : List D → Option (List Int)
  | [] => some []
  | .int i :: ds => (ints? ds).map (i :: ·)
  | _ :: _ => none
theorem ints?_map : ∀ ns : List Int, ints? (ns.map D.int) = some ns
  | [] => rfl
  | n :: ns => by show (ints? (ns.map D.int)).map _ = _; rw [ints?_map ns]; rfl
theorem ints?_eq : ∀ {ds : List D} {ns : List Int}, ints? ds = some ns → ds = ns.map D.int
  | [], ns, h => by cases h; rfl
  | .int i :: ds, ns, h => by
    have h : (ints? ds).map (i :: ·) = some ns := h
    cases e : ints? ds with
    | none => rw [e] at h; cases h
    | some ms => rw [e] at h; cases h; rw [ints?_eq e]; rfl
  | .non :: _, _, h => by cases h
  | .bl _ :: _, _, h => by cases h
  | .str _ :: _, _, h => by cases h
  | .tup _ :: _, _, h => by cases h
  | .lst _ :: _, _, h => by cases h
  | .dct _ _ :: _, _, h => by cases h
  | .ins _ _ _ :: _, _, h => by cases h
  | .scr _ :: _, _, h => by cases h
def bls? : List D → Option (List Bool)
  | [] => some []
  | .bl b :: ds => (bls? ds).map (b :: ·)
  | _ :: _ => none
theorem bls?_map : ∀ bs : List Bool, bls? (bs.map D.bl) = some bs
  | [] => rfl
  | b :: bs => by show (bls? (bs.map D.bl)).map _ = _; rw [bls?_map bs]; rfl
theorem bls?_eq : ∀ {ds : List D} {bs : List Bool}, bls? ds = some bs → ds = bs.map D.bl
  | [], ns, h => by cases h; rfl
  | .bl i :: ds, ns, h => by
    have h : (bls? ds).map (i :: ·) = some ns := h
    cases e : bls? ds with
    | none => rw [e] at h; cases h
    | some ms => rw [e] at h; cases h; rw [bls?_eq e]; rfl
  | .non :: _, _, h => by cases h
  | .int _ :: _, _, h => by cases h
  | .str _ :: _, _, h => by cases h
  | .tup _ :: _, _, h => by cases h
  | .lst _ :: _, _, h => by cases h
  | .dct _ _ :: _, _, h => by cases h
  | .ins _ _ _ :: _, _, h => by cases h
  | .scr _ :: _, _, h => by cases h
theorem Vws.int_eq {G : Hp} : ∀ {vs : List V} {ns : List Int}, Vws K mg G vs (ns.map D.int) → vs = ns.map V.int
  | _, [], .nil => rfl
  | _, n :: ns, .cons (.int _) t => by rw [Vws.int_eq t]; rfl
theorem Vws.bl_eq {G : Hp} : ∀ {vs : List V} {ns : List Bool}, Vws K mg G vs (ns.map D.bl) → vs = ns.map V.bl
  | _, [], .nil => rfl
  | _, n :: ns, .cons (.bl _) t => by rw [Vws.bl_eq t]; rfl
/-- a list's ints -/
def D.lints? : D → Option (List Int)
  | .lst ds => ints? ds
  | .scr ns => some ns
  | _ => none
theorem Vw.lints {H : Hp} {v : V} {d : D} {ns : List Int} (h : Vw K mg H v d) (e : d.lints? = some ns) : ∃ a, v = .ref a ∧ SqL K H a (ns.map V.int) := by
  cases h with
  | lst h hs =>
    have := ints?_eq (show ints? _ = some ns from e)
    subst this
    rw [hs.int_eq] at h
    exact ⟨_, rfl, .inl h⟩
  | scr h => cases e; exact ⟨_, rfl, h⟩
  | _ => cases e
def D.lbls? : D → Option (List Bool)
  | .lst ds => bls? ds
  | _ => none
theorem Vw.lbls {H : Hp} {v : V} {d : D} {ns : List Bool} (h : Vw K mg H v d) (e : d.lbls? = some ns) : ∃ a, v = .ref a ∧ SqL K H a (ns.map V.bl) := by
  cases h with
  | lst h hs =>
    have := bls?_eq (show bls? _ = some ns from e)
    subst this
    rw [hs.bl_eq] at h
    exact ⟨_, rfl, .inl h⟩
  | _ => cases e
def anyO (a : O) : Option O := (a.toD.lbls?).map fun bs => .val (.bl (bs.any id))
def allO (a : O) : Option O := (a.toD.lbls?).map fun bs => .val (.bl (bs.all id))
def sumO (a : O) : Option O := (a.toD.lints?).map fun ns => .val (.int ns.sum)
theorem unv_any : UnV K mg (fun x H Q => rAny K [x] H Q) anyO := by
  intro H L B x ox o Q R hx e k
  unfold anyO at e
  cases e1 : ox.toD.lbls? with
  | none => rw [e1] at e; cases e
  | some bs =>
    rw [e1] at e; cases e
    obtain ⟨a, rfl, h⟩ := (R.view hx).lbls e1
    exact ⟨a, bs, rfl, h, k _ _ (Same.refl _) (R.scalB fun _ => .bl _)⟩
theorem unv_all : UnV K mg (fun x H Q => rAll K [x] H Q) allO := by
  intro H L B x ox o Q R hx e k
  unfold allO at e
  cases e1 : ox.toD.lbls? with
  | none => rw [e1] at e; cases e
  | some bs =>
    rw [e1] at e; cases e
    obtain ⟨a, rfl, h⟩ := (R.view hx).lbls e1
    exact ⟨a, bs, rfl, h, k _ _ (Same.refl _) (R.scalB fun _ => .bl _)⟩
theorem unv_sum : UnV K mg (fun x H Q => rSum K [x] H Q) sumO := by
  intro H L B x ox o Q R hx e k
  unfold sumO at e
  cases e1 : ox.toD.lints? with
  | none => rw [e1] at e; cases e
  | some bs =>
    rw [e1] at e; cases e
    obtain ⟨a, rfl, h⟩ := (R.view hx).lints e1
    exact ⟨a, bs, rfl, h, k _ _ (Same.refl _) (R.scalB fun _ => .int _)⟩
def minL : List Int → Int
  | [] => 0
  | [x] => x
  | x :: y :: r => min x (minL (y :: r))
def maxL : List Int → Int
  | [] => 0
  | [x] => x
  | x :: y :: r => max x (maxL (y :: r))
theorem minL_mem : ∀ {ns : List Int}, ns ≠ [] → minL ns ∈ ns
  | [], h => absurd rfl h
  | [x], _ => by simp [minL]
  | x :: y :: r, _ => by
    have ih := minL_mem (ns := y :: r) (by simp)
    unfold minL
    rcases Int.le_total x (minL (y :: r)) with h | h
    · rw [Int.min_eq_left h]; simp
    · rw [Int.min_eq_right h]; exact List.mem_cons_of_mem _ ih
theorem minL_le : ∀ {ns : List Int}, ∀ n ∈ ns, minL ns ≤ n
  | [], n, h => by simp at h
  | [x], n, h => by simp at h; subst h; simp [minL]
  | x :: y :: r, n, h => by
    unfold minL
    rcases List.mem_cons.mp h with e | h
    · rw [e]; exact Int.min_le_left _ _
    · exact Int.le_trans (Int.min_le_right _ _) (minL_le (ns := y :: r) n h)
theorem maxL_mem : ∀ {ns : List Int}, ns ≠ [] → maxL ns ∈ ns
  | [], h => absurd rfl h
  | [x], _ => by simp [maxL]
  | x :: y :: r, _ => by
    have ih := maxL_mem (ns := y :: r) (by simp)
    unfold maxL
    rcases Int.le_total x (maxL (y :: r)) with h | h
    · rw [Int.max_eq_right h]; exact List.mem_cons_of_mem _ ih
    · rw [Int.max_eq_left h]; simp
theorem le_maxL : ∀ {ns : List Int}, ∀ n ∈ ns, n ≤ maxL ns
  | [], n, h => by simp at h
  | [x], n, h => by simp at h; subst h; simp [maxL]
  | x :: y :: r, n, h => by
    unfold maxL
    rcases List.mem_cons.mp h with e | h
    · rw [e]; exact Int.le_max_left _ _
    · exact Int.le_trans (le_maxL (ns := y :: r) n h) (Int.le_max_right _ _)
def minO (a : O) : Option O := (a.toD.lints?).bind fun ns => if ns = [] then none else some (.val (.int (minL ns)))
def maxO (a : O) : Option O := (a.toD.lints?).bind fun ns => if ns = [] then none else some (.val (.int (maxL ns)))
theorem unv_min : UnV K mg (fun x H Q => rMin K [x] H Q) minO := by
  intro H L B x ox o Q R hx e k
  unfold minO at e
  cases e1 : ox.toD.lints? with
  | none => rw [e1] at e; cases e
  | some ns =>
    rw [e1] at e
    have e : (if ns = [] then none else some (O.val (.int (minL ns)))) = some o := e
    split at e
    · cases e
    · rename_i hn
      cases e
      obtain ⟨a, rfl, h⟩ := (R.view hx).lints e1
      refine ⟨a, ns, rfl, h, List.length_pos_iff.mpr hn, fun m h1 h2 => ?_⟩
      have : m = minL ns := Int.le_antisymm (h2 _ (minL_mem hn)) (minL_le m h1)
      rw [this]
      exact k _ _ (Same.refl _) (R.scalB fun _ => .int _)
theorem unv_max : UnV K mg (fun x H Q => rMax K [x] H Q) maxO := by
  intro H L B x ox o Q R hx e k
  unfold maxO at e
  cases e1 : ox.toD.lints? with
  | none => rw [e1] at e; cases e
  | some ns =>
    rw [e1] at e
    have e : (if ns = [] then none else some (O.val (.int (maxL ns)))) = some o := e
    split at e
    · cases e
    · rename_i hn
      cases e
      obtain ⟨a, rfl, h⟩ := (R.view hx).lints e1
      refine ⟨a, ns, rfl, h, List.length_pos_iff.mpr hn, fun m h1 h2 => ?_⟩
      have : m = maxL ns := Int.le_antisymm (le_maxL m h1) (h2 _ (maxL_mem hn))
      rw [this]
      exact k _ _ (Same.refl _) (R.scalB fun _ => .int _)
def max2D : D → D → Option D
  | .int i, .int j => some (.int (max i j))
  | _, _ => none
def min2D : D → D → Option D
  | .int i, .int j => some (.int (min i j))
  | _, _ => none
theorem opv_max2 : OpV K mg (fun x y H Q => ∃ i j, [x, y] = [.int i, .int j] ∧ Q (.int (if j > i then j else i)) H) (lift2 max2D) := by
  intro H L B x y ox oy o Q R hx hy e k
  obtain ⟨a, b, d, e1, e2, e3, rfl⟩ := lift2_eq e
  unfold max2D at e3
  split at e3
  · rename_i i j
    cases e3
    refine ⟨i, j, by rw [R.shInt hx e1, R.shInt hy e2], ?_⟩
    have : (if j > i then j else i) = max i j := by
      rw [Int.max_def]; split <;> split <;> omega
    rw [this]
    exact k _ _ (Same.refl _) (R.scalB fun _ => .int _)
  · cases e3
theorem opv_min2 : OpV K mg (fun x y H Q => ∃ i j, [x, y] = [.int i, .int j] ∧ Q (.int (if j < i then j else i)) H) (lift2 min2D) := by
  intro H L B x y ox oy o Q R hx hy e k
  obtain ⟨a, b, d, e1, e2, e3, rfl⟩ := lift2_eq e
  unfold min2D at e3
  split at e3
  · rename_i i j
    cases e3
    refine ⟨i, j, by rw [R.shInt hx e1, R.shInt hy e2], ?_⟩
    have : (if j < i then j else i) = min i j := by
      rw [Int.min_def]; split <;> split <;> omega
    rw [this]
    exact k _ _ (Same.refl _) (R.scalB fun _ => .int _)
  · cases e3
def absO (a : O) : Option O := match a with
  | .val (.int i) => some (.val (.int (if i < 0 then -i else i)))
  | _ => none
theorem unv_abs : UnV K mg (fun x H Q => ∃ i, [x] = [.int i] ∧ Q (.int (if i < 0 then -i else i)) H) absO := by
  intro H L B x ox o Q R hx e k
  unfold absO at e
  split at e
  · cases e
    exact ⟨_, by rw [R.shInt hx rfl], k _ _ (Same.refl _) (R.scalB fun _ => .int _)⟩
  · cases e
def intO (a : O) : Option O := match a with
  | .val (.int i) => some (.val (.int i))
  | .val (.bl b) => some (.val (.int (if b then 1 else 0)))
  | _ => none
theorem unv_int : UnV K mg (fun x H Q => (∃ i, [x] = [.int i] ∧ Q (.int i) H) ∨ ∃ k, [x] = [.bl k] ∧ Q (.int (if k then 1 else 0)) H) intO := by
  intro H L B x ox o Q R hx e k
  unfold intO at e
  split at e
  · cases e
    exact .inl ⟨_, by rw [R.shInt hx rfl], k _ _ (Same.refl _) (R.scalB fun _ => .int _)⟩
  · cases e
    exact .inr ⟨_, by rw [R.shBl hx rfl], k _ _ (Same.refl _) (R.scalB fun _ => .int _)⟩
  · cases e
def negO (a : O) : Option O := match a with
  | .val (.int i) => some (.val (.int (-i)))
  | _ => none
theorem unv_neg : UnV K mg (rU fun i => .int (-i)) negO := by
  intro H L B x ox o Q R hx e k
  unfold negO at e
  split at e
  · cases e
    exact ⟨_, R.shInt hx rfl, k _ _ (Same.refl _) (R.scalB fun _ => .int _)⟩
  · cases e
/-- list(xs): of a list or tuple -/
def listO (a : O) : Option O := match a.sh with
  | some (.lst ds) => some (.val (.lst ds))
  | some (.tup ds) => some (.val (.lst ds))
  | some (.scr ns) => some (.val (.lst (ns.map D.int)))
  | _ => none
theorem Rep.ints {H : Hp} {L : List Item} {B : List (V × O)} (R : Rep K mg H L B) (ms : List Int) : Rep K mg H (zipI (ms.map V.int) ((ms.map D.int).map O.val) ++ L) B := by
  induction ms with
  | nil => exact R
  | cons m ms ih => exact ih.scal fun _ => .int m
theorem unv_list : UnV K mg (fun x H Q => ∃ p ys, [x] = [.ref p] ∧ (SqL K H p ys ∨ SqT K H p ys) ∧ ∀ l, H l = none → Q (.ref l) (upd H l (.lst ys))) listO := by
  intro H L B x ox o Q R hx e k
  unfold listO at e
  split at e
  · rename_i ds e1
    cases e
    obtain ⟨p, vs, rfl, hp, lp, R1⟩ := R.shL hx e1
    exact ⟨p, vs, rfl, .inl (.inl hp), fun q hq => k _ _ (sameNew hq) (R1.lentL lp hq)⟩
  · rename_i ds e1
    cases e
    obtain ⟨p, vs, rfl, hp, lp, R1⟩ := R.shT hx e1
    exact ⟨p, vs, rfl, .inr hp, fun q hq => k _ _ (sameNew hq) (R1.lentL lp hq)⟩
  · rename_i ns e1
    cases e
    have q : Vw K mg H x (.scr ns) := R.sh hx e1
    cases q with
    | scr h => exact ⟨_, _, rfl, .inl h, fun q hq => k _ _ (sameNew hq) ((R.ints ns).lentL (by simp) hq)⟩
  · cases e
def tupO (a : O) : Option O := match a.sh with
  | some (.lst ds) => some (.val (.tup ds))
  | some (.tup ds) => some (.val (.tup ds))
  | _ => none
theorem unv_tup : UnV K mg (fun x H Q => ∃ p ys, [x] = [.ref p] ∧ ((SqL K H p ys ∧ ∀ l, H l = none → Q (.ref l) (upd H l (.tup ys))) ∨ (SqT K H p ys ∧ Q (.ref p) H))) tupO := by
  intro H L B x ox o Q R hx e k
  unfold tupO at e
  split at e
  · rename_i ds e1
    cases e
    obtain ⟨p, vs, rfl, hp, lp, R1⟩ := R.shL hx e1
    exact ⟨p, vs, rfl, .inl ⟨.inl hp, fun q hq => k _ _ (sameNew hq) (R1.lentT lp hq)⟩⟩
  · rename_i ds e1
    cases e
    have ea := sh_val_of e1 (fun _ => by intro z; cases z) (fun _ _ => by intro z; cases z) (fun _ _ _ => by intro z; cases z)
    subst ea
    obtain ⟨p, vs, rfl, hp, lp, R1⟩ := R.shT hx rfl
    exact ⟨p, vs, rfl, .inr ⟨hp, k _ _ (Same.refl _) (R.bdup hx)⟩⟩
  · cases e
def sortL (ns : List Int) : List Int := ns.mergeSort (fun a b => decide (a ≤ b))
theorem sortL_perm (ns : List Int) : (sortL ns).Perm ns := List.mergeSort_perm _ _
theorem sortL_sorted (ns : List Int) : (sortL ns).Pairwise (· ≤ ·) := by
  have := List.pairwise_mergeSort (le := fun a b : Int => decide (a ≤ b)) (fun a b c h1 h2 => by simp at *; omega) (fun a b => by simp; omega) ns
  exact this.imp fun h => by simpa using h
def sortedO (a : O) : Option O := (a.toD.lints?).map fun ns => .val (.lst ((sortL ns).map D.int))
theorem unv_sorted : UnV K mg (fun x H Q => rSortedI K [x] H Q) sortedO := by
  intro H L B x ox o Q R hx e k
  unfold sortedO at e
  cases e1 : ox.toD.lints? with
  | none => rw [e1] at e; cases e
  | some ns =>
    rw [e1] at e; cases e
    obtain ⟨a, rfl, h⟩ := (R.view hx).lints e1
    refine ⟨a, ns, rfl, h, fun ns' p h1 h2 hp => ?_⟩
    have : ns' = sortL ns := PySem.W.ksm_same (h1.trans (sortL_perm ns).symm) h2 (sortL_sorted ns)
    rw [this]
    exact k _ _ (sameNew hp) ((R.ints (sortL ns)).lentL (by simp) hp)

/-! ### tests -/
def mB (m : M O) : M Bool := fun ρ => (m ρ).bind fun o ρ' => match o with
  | .val (.bl b) => .ok b ρ'
  | _ => .no
theorem set_of {e : Expr} {t : TE} {m : M O} (h : PT X e (tB t)) (q : ∀ σ H Q, tM X.K X.mg m σ H Q → t σ H Q) : SET X e (mB m) := PT.imp h fun σ H Q w => by
  obtain ⟨ρ, T, b, ρ', c, R, e, k⟩ := w
  obtain ⟨o, ρ1, e1, e⟩ := Res.bind_eq e
  split at e
  · rename_i d
    cases e
    exact q σ H _ ⟨ρ, T, _, _, c, R, e1, fun v H' c' R' => ⟨b, R'.lend.shBl (List.mem_cons_self ..) rfl, k H' c' R'.drop⟩⟩
  · cases e
theorem set_val {e : Expr} {m : M O} (h : SE X e m) (he : ∀ whole, isTrue e X.env whole = (do let v ← whole; standAt e.pos; holding [v] (truthy v)) := by intro _; rfl) : SET X e (mB m) := set_of (pt_val h he) fun _ _ _ q => q
theorem set_cmp {o : CmpOp} {a b : Expr} {pos : Pos} {m n : M O} {r : R2} {op : O → O → Option O} (ho : OpR X (compareOp o) r) (h : OpV X.K X.mg r op) (ha : SE X a m) (hb : SE X b n) (hm : behindInMarks o b = false) : SET X (.Compare a [o] [b] pos) (mB (m2 op m n)) := set_of (pt_cmpR ho ha hb hm) (tOp_m h)
theorem tP_m {f : Pf} {t : TE} (q : ∀ σ H Q, tP K mg f σ H Q → t σ H Q) (σ : L2.St) (H : Hp) (Q : VK) (w : tM K mg (mP f) σ H Q) : t σ H Q := by
  obtain ⟨ρ, T, o, ρ', c, R, e, k⟩ := w
  unfold mP at e
  cases z : f ρ with
  | none => rw [z] at e; cases e
  | some u =>
    rw [z] at e
    cases u with
    | val d =>
      cases e
      exact q σ H Q ⟨ρ, T, [], .val d, c, R, z, fun v H' _ R' => k v H' c R'.keep⟩
    | lst _ => cases e
    | dct _ _ => cases e
    | ins _ _ _ => cases e
theorem set_cmpP {o : CmpOp} {a b : Expr} {pos : Pos} {f g : Pf} {r : R2} {op : O → O → Option O} (ho : OpR X (compareOp o) r) (h : OpV X.K X.mg r op) (ha : SP X a f) (hb : SP X b g) (hm : behindInMarks o b = false) : SET X (.Compare a [o] [b] pos) (mB (mP (p2 op f g))) := set_of (pt_cmpR ho ha hb hm) (tP_m (tOp_p h))
def mAnd (a b : M Bool) : M Bool := fun ρ => (a ρ).bind fun c ρ1 => if c = true then b ρ1 else .ok false ρ1
def mOr (a b : M Bool) : M Bool := fun ρ => (a ρ).bind fun c ρ1 => if c = true then .ok true ρ1 else b ρ1
def mNot (a : M Bool) : M Bool := fun ρ => (a ρ).bind fun c ρ1 => .ok (!c) ρ1
def SEW (X : Cx) (e : Expr) (m : M Bool) : Prop := PW X e (tMT X.K X.mg m)
theorem PW.imp {e : Expr} {t t' : TT} (h : PW X e t) (q : ∀ σ H Q, t' σ H Q → t σ H Q) : PW X e t' := ⟨fun wh pins s σ H Q I w => h.run wh pins s σ H Q I (q σ H Q w)⟩
theorem sew_t {e : Expr} {m : M Bool} (h : SEW X e m) : SET X e m := PW.pt h
theorem sew_and1 {a : Expr} {pos : Pos} {m : M Bool} (h : SET X a m) : SEW X (.BoolOp .And [a] pos) m := pw_and1 h
theorem sew_or1 {a : Expr} {pos : Pos} {m : M Bool} (h : SET X a m) : SEW X (.BoolOp .Or [a] pos) m := pw_or1 h
theorem sew_and {a b : Expr} {rest : List Expr} {pos : Pos} {m n : M Bool} (ha : SET X a m) (hb : SEW X (.BoolOp .And (b :: rest) pos) n) : SEW X (.BoolOp .And (a :: b :: rest) pos) (mAnd m n) :=
  PW.imp (pw_and ha hb) fun σ H Q w => by
    obtain ⟨ρ, T, b, ρ', c, R, e, k⟩ := w
    obtain ⟨u, ρ1, e1, e⟩ := Res.bind_eq e
    refine ⟨ρ, T, u, ρ1, c, R, e1, fun H' c' R' => ?_⟩
    cases u with
    | true =>
      rw [if_pos rfl] at e ⊢
      exact ⟨ρ1, T, b, ρ', c', R', e, k⟩
    | false =>
      rw [if_neg Bool.false_ne_true] at e ⊢
      cases e
      exact k H' c' R'
theorem sew_or {a b : Expr} {rest : List Expr} {pos : Pos} {m n : M Bool} (ha : SET X a m) (hb : SEW X (.BoolOp .Or (b :: rest) pos) n) : SEW X (.BoolOp .Or (a :: b :: rest) pos) (mOr m n) :=
  PW.imp (pw_or ha hb) fun σ H Q w => by
    obtain ⟨ρ, T, b, ρ', c, R, e, k⟩ := w
    obtain ⟨u, ρ1, e1, e⟩ := Res.bind_eq e
    refine ⟨ρ, T, u, ρ1, c, R, e1, fun H' c' R' => ?_⟩
    cases u with
    | true =>
      rw [if_pos rfl] at e ⊢
      cases e
      exact k H' c' R'
    | false =>
      rw [if_neg Bool.false_ne_true] at e ⊢
      exact ⟨ρ1, T, b, ρ', c', R', e, k⟩
theorem set_not {a : Expr} {pos : Pos} {m : M Bool} (h : SET X a m) : SET X (.UnaryOp .Not a pos) (mNot m) := PT.imp (pt_not h) fun σ H Q w => by
  obtain ⟨ρ, T, b, ρ', c, R, e, k⟩ := w
  obtain ⟨u, ρ1, e1, e⟩ := Res.bind_eq e
  cases e
  exact ⟨ρ, T, u, _, c, R, e1, k⟩
/-- the same as values -/
def mBv (m : M Bool) : M O := fun ρ => (m ρ).bind fun b ρ' => .ok (.val (.bl b)) ρ'
def mAndV (a : M O) (b : M O) : M O := fun ρ => (a ρ).bind fun o ρ1 => match o with
  | .val (.bl true) => b ρ1
  | .val (.bl false) => .ok (.val (.bl false)) ρ1
  | _ => .no
def mOrV (a : M O) (b : M O) : M O := fun ρ => (a ρ).bind fun o ρ1 => match o with
  | .val (.bl true) => .ok (.val (.bl true)) ρ1
  | .val (.bl false) => b ρ1
  | _ => .no
def mNotV (a : M O) : M O := fun ρ => (a ρ).bind fun o ρ1 => match o with
  | .val (.bl b) => .ok (.val (.bl (!b))) ρ1
  | _ => .no
theorem se_one {op : BoolOp} {a : Expr} {pos : Pos} {m : M O} (h : SE X a m) : SE X (.BoolOp op [a] pos) m := pe_one h
theorem se_and {a b : Expr} {rest : List Expr} {pos : Pos} {m n : M O} (ha : SE X a m) (hb : SE X (.BoolOp .And (b :: rest) pos) n) : SE X (.BoolOp .And (a :: b :: rest) pos) (mAndV m n) :=
  PE.imp (pe_and ha hb) fun σ H Q w => by
    obtain ⟨ρ, T, o, ρ', c, R, e, k⟩ := w
    obtain ⟨u, ρ1, e1, e⟩ := Res.bind_eq e
    refine ⟨ρ, T, u, ρ1, c, R, e1, fun v H' c' R' => ?_⟩
    split at e
    · refine ⟨true, R'.lend.shBl (List.mem_cons_self ..) rfl, ?_⟩
      rw [if_pos rfl]
      exact ⟨ρ1, T, o, ρ', c', R'.drop, e, k⟩
    · cases e
      have ev := R'.lend.shBl (List.mem_cons_self ..) rfl
      refine ⟨false, ev, ?_⟩
      rw [if_neg Bool.false_ne_true]
      exact k _ H' c' (ev ▸ R')
    · cases e
theorem se_or {a b : Expr} {rest : List Expr} {pos : Pos} {m n : M O} (ha : SE X a m) (hb : SE X (.BoolOp .Or (b :: rest) pos) n) : SE X (.BoolOp .Or (a :: b :: rest) pos) (mOrV m n) :=
  PE.imp (pe_or ha hb) fun σ H Q w => by
    obtain ⟨ρ, T, o, ρ', c, R, e, k⟩ := w
    obtain ⟨u, ρ1, e1, e⟩ := Res.bind_eq e
    refine ⟨ρ, T, u, ρ1, c, R, e1, fun v H' c' R' => ?_⟩
    split at e
    · cases e
      have ev := R'.lend.shBl (List.mem_cons_self ..) rfl
      refine ⟨true, ev, ?_⟩
      rw [if_pos rfl]
      exact k _ H' c' (ev ▸ R')
    · refine ⟨false, R'.lend.shBl (List.mem_cons_self ..) rfl, ?_⟩
      rw [if_neg Bool.false_ne_true]
      exact ⟨ρ1, T, o, ρ', c', R'.drop, e, k⟩
    · cases e
theorem se_not {a : Expr} {pos : Pos} {m : M O} (h : SE X a m) : SE X (.UnaryOp .Not a pos) (mNotV m) := PE.imp (pe_not h) fun σ H Q w => by
  obtain ⟨ρ, T, o, ρ', c, R, e, k⟩ := w
  obtain ⟨u, ρ1, e1, e⟩ := Res.bind_eq e
  split at e
  · rename_i b
    cases e
    refine ⟨ρ, T, _, _, c, R, e1, fun v H' c' R' => ⟨b, R'.lend.shBl (List.mem_cons_self ..) rfl, k _ H' c' (R'.drop.scal fun _ => .bl _)⟩⟩
  · cases e
def mIfE (t : M Bool) (a b : M O) : M O := fun ρ => (t ρ).bind fun c ρ1 => if c = true then a ρ1 else b ρ1
theorem se_if {c a b : Expr} {pos : Pos} {t : M Bool} {m n : M O} (hc : SET X c t) (ha : SE X a m) (hb : SE X b n) : SE X (.IfExp c a b pos) (mIfE t m n) := PE.imp (pe_ifExp hc ha hb) fun σ H Q w => by
  obtain ⟨ρ, T, o, ρ', c, R, e, k⟩ := w
  obtain ⟨u, ρ1, e1, e⟩ := Res.bind_eq e
  refine ⟨ρ, T, u, ρ1, c, R, e1, fun H' c' R' => ?_⟩
  cases u with
  | true => rw [if_pos rfl] at e ⊢; exact ⟨ρ1, T, o, ρ', c', R', e, k⟩
  | false => rw [if_neg Bool.false_ne_true] at e ⊢; exact ⟨ρ1, T, o, ρ', c', R', e, k⟩
/-- a op b op' c -/
def mChain (op op' : O → O → Option O) (m n l : M O) : M O := fun ρ => (m ρ).bind fun a ρ1 => (n ρ1).bind fun b ρ2 => match op a b with
  | some (.val (.bl true)) => (l ρ2).bind fun c ρ3 => okV (op' b c) ρ3
  | some (.val (.bl false)) => .ok (.val (.bl false)) ρ2
  | _ => .no
theorem tChain_m {r r' : R2} {op op' : O → O → Option O} {m n l : M O} (h : OpV K mg r op) (h' : OpV K mg r' op') (σ : L2.St) (H : Hp) (Q : VK) (w : tM K mg (mChain op op' m n l) σ H Q) : tChain r r' (tM K mg m) (tM K mg n) (tM K mg l) σ H Q := by
  obtain ⟨ρ, T, o, ρ', c, R, e, k⟩ := w
  obtain ⟨a, ρ1, e1, e⟩ := Res.bind_eq e
  obtain ⟨b, ρ2, e2, e⟩ := Res.bind_eq e
  refine ⟨ρ, T, a, ρ1, c, R, e1, fun x H1 c1 R1 => ⟨ρ1, .ov x a :: T, b, ρ2, c1, R1.perm List.perm_middle.symm, e2, fun y H2 c2 R2 => ?_⟩⟩
  -- x, y, the environment, T
  have R3 : Rep K mg H2 (.ov x a :: .ov y b :: (pairs σ ρ2 ++ T)) [] := R2.perm ((List.perm_middle.cons _).trans (.swap _ _ _))
  have R4 := R3.lend.perm (.swap _ _ _) |>.lend
  split at e
  · rename_i e3
    refine h H2 _ _ x y a b _ _ R4 (by simp) (by simp) e3 fun v H3 _ R5 => ⟨true, R5.shBl (List.mem_cons_self ..) rfl, ?_⟩
    rw [if_pos rfl]
    obtain ⟨d, ρ3, e4, e⟩ := Res.bind_eq e
    obtain ⟨d', e5, e6, e7⟩ := okV_eq e
    subst e6
    subst e7
    have R6 := R5.nob
    -- y first, x
    refine ⟨ρ2, .ov y b :: .ov x a :: T, d, ρ', c2, R6.perm ?_, e4, fun z H4 c4 R7 => ?_⟩
    · exact (List.perm_middle.symm.cons _).trans (List.perm_middle.symm)
    · -- z, env, y, x, T
      have p1 : (.ov z d :: (pairs σ ρ' ++ .ov y b :: .ov x a :: T)).Perm (.ov y b :: .ov z d :: .ov x a :: (pairs σ ρ' ++ T)) :=
        ((List.perm_middle.trans (List.perm_middle.cons _)).cons _).trans (.swap _ _ _)
      have R8 := (R7.perm p1).lend.perm (.swap _ _ _) |>.lend
      refine h' H4 _ _ y z b d _ Q R8 (by simp) (by simp) e5 fun v H5 _ R9 => k v H5 c4 ?_
      have R10 := R9.keep.nob
      -- v, z, y, x, env, T
      have R11 := (R10.perm (.swap _ _ _)).drop
      have R12 := (R11.perm (.swap _ _ _)).drop
      exact (R12.perm (.swap _ _ _)).drop
  · rename_i e3
    cases e
    refine h H2 _ _ x y a b _ _ R4 (by simp) (by simp) e3 fun v H3 _ R5 => ⟨false, R5.shBl (List.mem_cons_self ..) rfl, ?_⟩
    rw [if_neg Bool.false_ne_true]
    have R6 := R5.nob
    exact k _ H3 c2 ((R6.drop.drop).scal fun _ => .bl _)
  · cases e
theorem set_chain {o o' : CmpOp} {a b c : Expr} {pos : Pos} {m n l : M O} {r r' : R2} {op op' : O → O → Option O} (ho : OpR X (compareOp o) r) (ho' : OpR X (compareOp o') r') (h : OpV X.K X.mg r op) (h' : OpV X.K X.mg r' op') (ha : SE X a m) (hb : SE X b n) (hc : SE X c l)
    (hm : lastMarks [o, o'] [b, c] = false := by with_unfolding_all rfl) : SET X (.Compare a [o, o'] [b, c] pos) (mB (mChain op op' m n l)) := set_of (pt_chain ho ho' ha hb hc hm) (tChain_m h h')
theorem se_chain {o o' : CmpOp} {a b c : Expr} {pos : Pos} {m n l : M O} {r r' : R2} {op op' : O → O → Option O} (ho : OpR X (compareOp o) r) (ho' : OpR X (compareOp o') r') (h : OpV X.K X.mg r op) (h' : OpV X.K X.mg r' op') (ha : SE X a m) (hb : SE X b n) (hc : SE X c l)
    (hm : lastMarks [o, o'] [b, c] = false := by with_unfolding_all rfl) : SE X (.Compare a [o, o'] [b, c] pos) (mChain op op' m n l) := PE.imp (pe_chain ho ho' ha hb hc hm) (tChain_m h h')

/-! ### displays -/
def tMs (K : PySem.W.Frag) (mg : Str → Option Value) (m : M (List O)) : TA := fun σ H Q => ∃ ρ T os ρ', Cov σ ρ ∧ Rep K mg H (pairs σ ρ ++ T) [] ∧ m ρ = .ok os ρ' ∧ ∀ vs H', Cov σ ρ' → vs.length = os.length → Rep K mg H' (zipI vs os ++ (pairs σ ρ' ++ T)) [] → Q vs H'
theorem PA.imp {es : List Expr} {t t' : TA} (h : PA X es t) (q : ∀ σ H Q, t' σ H Q → t σ H Q) : PA X es t' := ⟨fun pos pins s σ H Q I w => h.run pos pins s σ H Q I (q σ H Q w)⟩
def SEs (X : Cx) (es : List Expr) (m : M (List O)) : Prop := PA X es (tMs X.K X.mg m)
def mNil : M (List O) := fun ρ => .ok [] ρ
def mCons (m : M O) (ms : M (List O)) : M (List O) := fun ρ => (m ρ).bind fun o ρ1 => (ms ρ1).bind fun os ρ2 => .ok (o :: os) ρ2
theorem ses_nil : SEs X [] mNil := PA.imp pa_nil fun σ H Q w => by
  obtain ⟨ρ, T, os, ρ', c, R, e, k⟩ := w
  cases e
  exact k [] H c rfl R
theorem ses_cons {e : Expr} {es : List Expr} {m : M O} {ms : M (List O)} (h : SE X e m) (hs : SEs X es ms) (hst : starEach (e :: es) X.env = (false, eval e X.env) :: starEach es X.env := by rfl) : SEs X (e :: es) (mCons m ms) :=
  PA.imp (pa_cons h hs hst) fun σ H Q w => by
    obtain ⟨ρ, T, os, ρ', c, R, e, k⟩ := w
    obtain ⟨o, ρ1, e1, e⟩ := Res.bind_eq e
    obtain ⟨os', ρ2, e2, e⟩ := Res.bind_eq e
    cases e
    refine ⟨ρ, T, o, ρ1, c, R, e1, fun v H1 c1 R1 => ⟨ρ1, .ov v o :: T, os', ρ', c1, R1.perm List.perm_middle.symm, e2, fun vs H2 c2 hl R2 => k (v :: vs) H2 c2 (by simp [hl]) (R2.perm ?_)⟩⟩
    show (zipI vs os' ++ (pairs σ ρ' ++ .ov v o :: T)).Perm (.ov v o :: (zipI vs os' ++ (pairs σ ρ' ++ T)))
    exact ((List.perm_middle (a := Item.ov v o)).append_left _).trans List.perm_middle
def mLst (ms : M (List O)) : M O := fun ρ => (ms ρ).bind fun os ρ' => if os.length ≤ 1000000 then .ok (.lst os) ρ' else .no
def mTup (ms : M (List O)) : M O := fun ρ => (ms ρ).bind fun os ρ' => if os.length ≤ 1000000 then .ok (.val (.tup (O.toDs os))) ρ' else .no
theorem Rep.frzs : ∀ {vs : List V} {os : List O} {H : Hp} {L : List Item}, Rep K mg H (zipI vs os ++ L) [] → Rep K mg H (zipI vs ((O.toDs os).map O.val) ++ L) []
  | [], os, H, L, R => by cases os <;> exact R
  | v :: vs, [], H, L, R => R
  | v :: vs, o :: os, H, L, R => by
    have R1 : Rep K mg H (.ov v (.val o.toD) :: (zipI vs os ++ L)) [] := Rep.frz R
    have R2 : Rep K mg H (zipI vs os ++ (.ov v (.val o.toD) :: L)) [] := R1.perm List.perm_middle.symm
    exact (Rep.frzs R2).perm List.perm_middle
theorem toDs_len (os : List O) : (O.toDs os).length = os.length := by rw [toDs_map]; simp
theorem se_lst {es : List Expr} {pos : Pos} {ms : M (List O)} (h : SEs X es ms) : SE X (.List es pos) (mLst ms) := PE.imp (pe_lst h) fun σ H Q w => by
  obtain ⟨ρ, T, o, ρ', c, R, e, k⟩ := w
  obtain ⟨os, ρ1, e1, e⟩ := Res.bind_eq e
  split at e
  · rename_i hl
    cases e
    refine ⟨ρ, T, os, _, c, R, e1, fun vs H' c' hv R' => ⟨line6 (by omega), fun p hp => k _ _ c' (Rep.closeL (R'.new hp) hv)⟩⟩
  · cases e
theorem se_tup {es : List Expr} {x1 : Nat} {pos : Pos} {ms : M (List O)} (h : SEs X es ms) : SE X (.Tuple es x1 pos) (mTup ms) := PE.imp (pe_tup h) fun σ H Q w => by
  obtain ⟨ρ, T, o, ρ', c, R, e, k⟩ := w
  obtain ⟨os, ρ1, e1, e⟩ := Res.bind_eq e
  split at e
  · rename_i hl
    cases e
    refine ⟨ρ, T, os, _, c, R, e1, fun vs H' c' hv R' => ⟨line6 (by omega), fun p hp => k _ _ c' ?_⟩⟩
    exact Rep.newT (Rep.frzs R') (by rw [toDs_len]; exact hv) hp
  · cases e
end
end FB

/-! Statements: names stored, blocks, if, while, for, return. -/
namespace FB
open PySem PySem.Spec L2
open PyProof.Rows hiding St

section
variable {X : Cx} {K : PySem.W.Frag} {mg : Str → Option Value} {P : List Nat}
/-- what is wanted behind a statement that ends so -/
def Post (K : PySem.W.Frag) (mg : Str → Option Value) (P : List Nat) (T : List Item) (D : Ends) (σ : L2.St) : Res Fl → Prop
  | .ok .nx ρ' => ∀ σ' H', Fix P σ σ' → Cov σ' ρ' → Rep K mg H' (pairs σ' ρ' ++ T) [] → D.nx σ' H'
  | .ok .brk ρ' => ∀ σ' H', Fix P σ σ' → Cov σ' ρ' → Rep K mg H' (pairs σ' ρ' ++ T) [] → D.bk σ' H'
  | .ok .ct ρ' => ∀ σ' H', Fix P σ σ' → Cov σ' ρ' → Rep K mg H' (pairs σ' ρ' ++ T) [] → D.ct σ' H'
  | .ok (.ret o) ρ' => ∀ v σ' H', Fix P σ σ' → Cov σ' ρ' → Rep K mg H' (.ov v o :: (pairs σ' ρ' ++ T)) [] → D.rt v H'
  | .exc _ _ => False
  | .no => False
theorem tS_iff {m : M Fl} {D : Ends} {σ : L2.St} {H : Hp} : tS K mg P m D σ H ↔ ∃ ρ T, Cov σ ρ ∧ Rep K mg H (pairs σ ρ ++ T) [] ∧ Post K mg P T D σ (m ρ) := by
  unfold tS
  constructor
  · rintro ⟨ρ, T, c, R, h⟩
    refine ⟨ρ, T, c, R, ?_⟩
    cases e : m ρ with
    | ok f ρ' => rw [e] at h; cases f <;> exact h
    | exc x ρ' => rw [e] at h; exact h
    | no => rw [e] at h; exact h
  · rintro ⟨ρ, T, c, R, h⟩
    refine ⟨ρ, T, c, R, ?_⟩
    cases e : m ρ with
    | ok f ρ' => rw [e] at h; cases f <;> exact h
    | exc x ρ' => rw [e] at h; exact h
    | no => rw [e] at h; exact h
theorem Post.fix {T : List Item} {D : Ends} {σ σ1 : L2.St} (f : Fix P σ σ1) {r : Res Fl} (h : Post K mg P T D σ r) : Post K mg P T D σ1 r := by
  cases r with
  | ok fl ρ' =>
    cases fl with
    | nx => exact fun σ' H' g => h σ' H' (f.trans g)
    | brk => exact fun σ' H' g => h σ' H' (f.trans g)
    | ct => exact fun σ' H' g => h σ' H' (f.trans g)
    | ret o => exact fun v σ' H' g => h v σ' H' (f.trans g)
  | exc x ρ' => exact h
  | no => exact h
/-- .. the same ends but the next one -/
theorem Post.nx {T : List Item} {D D' : Ends} {σ : L2.St} {r : Res Fl} {g : Env → Res Fl} (h : Post K mg P T D σ (r.bind fun f ρ1 => match f with | .nx => g ρ1 | f => .ok f ρ1)) (e1 : D'.rt = D.rt) (e2 : D'.bk = D.bk) (e3 : D'.ct = D.ct)
    (q : ∀ ρ1 σ' H', Fix P σ σ' → Cov σ' ρ1 → Rep K mg H' (pairs σ' ρ1 ++ T) [] → Post K mg P T D σ (g ρ1) → D'.nx σ' H') : Post K mg P T D' σ r := by
  cases r with
  | ok fl ρ' =>
    cases fl with
    | nx => exact fun σ' H' f c R => q ρ' σ' H' f c R h
    | brk => exact fun σ' H' f c R => by rw [e2]; exact h σ' H' f c R
    | ct => exact fun σ' H' f c R => by rw [e3]; exact h σ' H' f c R
    | ret o => exact fun v σ' H' f c R => by rw [e1]; exact h v σ' H' f c R
  | exc x ρ' => exact h
  | no => exact h
def mSkip : M Fl := fun ρ => .ok .nx ρ
def mSeq (a b : M Fl) : M Fl := fun ρ => (a ρ).bind fun f ρ1 => match f with
  | .nx => b ρ1
  | f => .ok f ρ1
theorem sss_nil : SSs X P [] mSkip := PSs.imp pss_nil fun D σ H w => by
  obtain ⟨ρ, T, c, R, h⟩ := tS_iff.mp w
  exact h σ H (Fix.refl _ _) c R
theorem sss_one {st : Stmt} {m : M Fl} (h : SS X P st m) : SSs X P [st] m := pss_one h
theorem sss_cons {st : Stmt} {rest : List Stmt} {a b : M Fl} (h1 : SS X P st a) (h2 : SSs X P rest b) : SSs X P (st :: rest) (mSeq a b) := PSs.imp (pss_cons h1 h2) fun D σ H w => by
  obtain ⟨ρ, T, c, R, h⟩ := tS_iff.mp w
  refine tS_iff.mpr ⟨ρ, T, c, R, Post.nx (D := D) h rfl rfl rfl fun ρ1 σ' H' f c' R' h' => ?_⟩
  exact tS_iff.mpr ⟨ρ1, T, c', R', h'.fix f⟩
theorem ss_pass {pos : Pos} : SS X P (.Pass pos) mSkip := PS.imp ps_pass fun D σ H w => by
  obtain ⟨ρ, T, c, R, h⟩ := tS_iff.mp w
  exact h σ H (Fix.refl _ _) c R
theorem ss_doc {x j pos pos'} : SS X P (.Expr (.Constant (.str x) j pos) pos') mSkip := PS.imp ps_doc fun D σ H w => by
  obtain ⟨ρ, T, c, R, h⟩ := tS_iff.mp w
  exact h σ H (Fix.refl _ _) c R
def mBreak : M Fl := fun ρ => .ok .brk ρ
def mCont : M Fl := fun ρ => .ok .ct ρ
theorem ss_break {pos : Pos} : SS X P (.Break pos) mBreak := PS.imp ps_break fun D σ H w => by
  obtain ⟨ρ, T, c, R, h⟩ := tS_iff.mp w
  exact h σ H (Fix.refl _ _) c R
theorem ss_cont {pos : Pos} : SS X P (.Continue pos) mCont := PS.imp ps_continue fun D σ H w => by
  obtain ⟨ρ, T, c, R, h⟩ := tS_iff.mp w
  exact h σ H (Fix.refl _ _) c R
/-- what is never come to -/
def mNever : M Fl := fun _ => .no
theorem ss_never {st : Stmt} : SS X P st mNever := PS.imp ps_never fun D σ H w => by
  obtain ⟨ρ, T, c, R, h⟩ := tS_iff.mp w
  exact h
def mEx (m : M O) : M Fl := fun ρ => (m ρ).bind fun _ ρ1 => .ok .nx ρ1
def mRet (m : M O) : M Fl := fun ρ => (m ρ).bind fun o ρ1 => .ok (.ret o) ρ1
def mRetN : M Fl := fun ρ => .ok (.ret (.val .non)) ρ
theorem ss_expr {e : Expr} {pos : Pos} {m : M O} (h : SE X e m) (hs : swapsWith e none pos.line X.env = pure false := by rfl) : SS X P (.Expr e pos) (mEx m) := PS.imp (ps_expr h hs) fun D σ H w => by
  obtain ⟨ρ, T, c, R, h⟩ := tS_iff.mp w
  unfold mEx at h
  cases e1 : m ρ with
  | ok o ρ1 =>
    rw [e1] at h
    exact ⟨ρ, T, o, ρ1, c, R, e1, fun v H' c' R' => h σ H' (Fix.refl _ _) c' R'.drop⟩
  | exc x ρ1 => rw [e1] at h; exact h.elim
  | no => rw [e1] at h; exact h.elim
theorem ss_ret {e : Expr} {pos : Pos} {m : M O} (h : SE X e m) : SS X P (.Return (some e) pos) (mRet m) := PS.imp (ps_ret h) fun D σ H w => by
  obtain ⟨ρ, T, c, R, h⟩ := tS_iff.mp w
  unfold mRet at h
  cases e1 : m ρ with
  | ok o ρ1 =>
    rw [e1] at h
    exact ⟨ρ, T, o, ρ1, c, R, e1, fun v H' c' R' => h v σ H' (Fix.refl _ _) c' R'⟩
  | exc x ρ1 => rw [e1] at h; exact h.elim
  | no => rw [e1] at h; exact h.elim
theorem ss_retN {pos : Pos} : SS X P (.Return none pos) mRetN := PS.imp ps_retN fun D σ H w => by
  obtain ⟨ρ, T, c, R, h⟩ := tS_iff.mp w
  exact h .non σ H (Fix.refl _ _) c (R.scal fun _ => .non)
def mIf (t : M Bool) (a b : M Fl) : M Fl := fun ρ => (t ρ).bind fun c ρ1 => if c = true then a ρ1 else b ρ1
theorem ss_if {c : Expr} {a b : List Stmt} {pos : Pos} {t : M Bool} {m n : M Fl} (hc : SET X c t) (ha : SSs X P a m) (hb : SSs X P b n) : SS X P (.If c a b pos) (mIf t m n) := PS.imp (ps_if hc ha hb) fun D σ H w => by
  obtain ⟨ρ, T, cv, R, h⟩ := tS_iff.mp w
  unfold mIf at h
  cases e1 : t ρ with
  | ok u ρ1 =>
    rw [e1] at h
    refine ⟨ρ, T, u, ρ1, cv, R, e1, fun H' c' R' => ?_⟩
    cases u with
    | true => rw [if_pos rfl]; exact tS_iff.mpr ⟨ρ1, T, c', R', h⟩
    | false => rw [if_neg Bool.false_ne_true]; exact tS_iff.mpr ⟨ρ1, T, c', R', h⟩
  | exc x ρ1 => rw [e1] at h; exact h.elim
  | no => rw [e1] at h; exact h.elim

/-! ### names stored -/
theorem pairs_none {σ : L2.St} {ρ : Env} {i : Nat} (h : ∀ o, ρ[i]? ≠ some (some o)) : pairs σ (ρ.set i none) = pairs σ ρ := by
  by_cases hi : i < ρ.length
  · have e : ρ[i]? = some none := by
      cases q : ρ[i]? with
      | none => rw [List.getElem?_eq_none_iff] at q; omega
      | some u => cases u with
        | none => rfl
        | some o => exact absurd q (h o)
    have : ρ.set i none = ρ := by
      apply List.ext_getElem?
      intro j
      by_cases hj : i = j
      · subst hj; rw [e]; simp [hi]
      · rw [List.getElem?_set_ne hj]
    rw [this]
  · rw [List.set_eq_of_length_le (by omega)]
theorem Rep.slotDrop {H : Hp} {σ : L2.St} {ρ : Env} {M T : List Item} (c : Cov σ ρ) (i : Nat) (h : Rep K mg H (M ++ (pairs σ ρ ++ T)) []) : Rep K mg H (M ++ (pairs σ (ρ.set i none) ++ T)) [] := by
  by_cases q : ∃ o, ρ[i]? = some (some o)
  · obtain ⟨o, e⟩ := q
    obtain ⟨v, hv⟩ := c.ex i o e
    have p : (M ++ (pairs σ ρ ++ T)).Perm (.ov v o :: (M ++ (pairs σ (ρ.set i none) ++ T))) :=
      (((pairs_take hv e).append_right T).append_left M).trans List.perm_middle
    exact (h.perm p).drop
  · rw [pairs_none fun o e => q ⟨o, e⟩]; exact h
theorem Rep.store {H : Hp} {σ : L2.St} {ρ : Env} {T : List Item} {i : Nat} {v : V} {o : O} (c : Cov σ ρ) (h : Rep K mg H (.ov v o :: (pairs σ ρ ++ T)) []) : Rep K mg H (pairs (σ.set i (some v)) (ρ.set i (some o)) ++ T) [] := by
  by_cases hi : i < ρ.length
  · have h1 := Rep.slotDrop (M := [.ov v o]) c i h
    exact h1.perm ((pairs_put (by rw [c.len]; exact hi) hi).append_right T)
  · rw [List.set_eq_of_length_le (by rw [c.len]; omega), List.set_eq_of_length_le (by omega)]
    exact h.drop
def mSetO (i : Nat) (m : M O) : M Fl := fun ρ => (m ρ).bind fun o ρ1 => .ok .nx (ρ1.set i (some o))
def mSetP (i : Nat) (m : M O) : M Fl := fun ρ => (m ρ).bind fun o ρ1 => .ok .nx (ρ1.set i (some (.val o.toD)))
theorem ss_setO (i : Nat) {x : Str} {e : Expr} {pos pos' : Pos} {m : M O} (ok : CxOk X) (hi : X.N[i]? = some x) (hx : Loc X.env.scope x) (h : SE X e m) (hP : i ∉ P := by decide) (hs : swapsWith e (some (.Name x pos')) pos.line X.env = pure false := by rfl) (hf : X.fn x = true ∨ X.env.scope.names.lookup x = some .local := by first | exact .inl rfl | exact .inr rfl | assumption) :
    SS X P (.Assign [.Name x pos'] e pos) (mSetO i m) := PS.imp (ps_set ok.nd hi hx h hs hf) fun D σ H w => by
  obtain ⟨ρ, T, c, R, h⟩ := tS_iff.mp w
  unfold mSetO at h
  cases e1 : m ρ with
  | ok o ρ1 =>
    rw [e1] at h
    exact ⟨ρ, T, o, ρ1, c, R, e1, fun v H' c' R' => h _ H' (Fix.set hP) (c'.set i v o) (Rep.store c' R')⟩
  | exc x ρ1 => rw [e1] at h; exact h.elim
  | no => rw [e1] at h; exact h.elim
theorem ss_setP (i : Nat) {x : Str} {e : Expr} {pos pos' : Pos} {m : M O} (ok : CxOk X) (hi : X.N[i]? = some x) (hx : Loc X.env.scope x) (h : SE X e m) (hP : i ∉ P := by decide) (hs : swapsWith e (some (.Name x pos')) pos.line X.env = pure false := by rfl) (hf : X.fn x = true ∨ X.env.scope.names.lookup x = some .local := by first | exact .inl rfl | exact .inr rfl | assumption) :
    SS X P (.Assign [.Name x pos'] e pos) (mSetP i m) := PS.imp (ps_set ok.nd hi hx h hs hf) fun D σ H w => by
  obtain ⟨ρ, T, c, R, h⟩ := tS_iff.mp w
  unfold mSetP at h
  cases e1 : m ρ with
  | ok o ρ1 =>
    rw [e1] at h
    exact ⟨ρ, T, o, ρ1, c, R, e1, fun v H' c' R' => h _ H' (Fix.set hP) (c'.set i v _) (Rep.store c' R'.frz)⟩
  | exc x ρ1 => rw [e1] at h; exact h.elim
  | no => rw [e1] at h; exact h.elim

/-! ### targets -/
structure RlOk (Rl : L2.St → L2.St → Prop) : Prop where
  refl : ∀ σ, Rl σ σ
  trans : ∀ {a b c}, Rl a b → Rl b c → Rl a c
def RlSet (Rl : L2.St → L2.St → Prop) (i : Nat) : Prop := ∀ (σ : L2.St) (v : Option V), Rl σ (σ.set i v)
theorem fixOk (P : List Nat) : RlOk (Fix P) := ⟨Fix.refl P, Fix.trans⟩
theorem fixSet {P : List Nat} {i : Nat} (h : i ∉ P := by decide) : RlSet (Fix P) i := fun _ _ => Fix.set h
def Wip (own : List Nat) (σ σ' : L2.St) : Prop := wipe σ' own = wipe σ own
theorem wipOk (own : List Nat) : RlOk (Wip own) := ⟨fun _ => rfl, fun h q => Eq.trans q h⟩
theorem wipe_set : ∀ {own : List Nat} {σ : L2.St} {i : Nat} {v : Option V}, i ∈ own → wipe (σ.set i v) own = wipe σ own
  | [], _, _, _, h => by simp at h
  | w :: ws, σ, i, v, h => by
    unfold wipe
    by_cases e : i ∈ ws
    · rw [wipe_set e]
    · have : i = w := by rcases List.mem_cons.mp h with q | q; exact q; exact absurd q e
      subst this
      have out : ∀ {ws : List Nat} {σ : L2.St}, i ∉ ws → wipe (σ.set i v) ws = (wipe σ ws).set i v := by
        intro ws
        induction ws with
        | nil => intro σ _; rfl
        | cons u us ih =>
          intro σ hm
          unfold wipe
          rw [ih (fun z => hm (List.mem_cons_of_mem _ z))]
          exact List.set_comm _ _ (fun z => hm (by rw [z]; exact List.mem_cons_self ..))
      rw [out e, List.set_set]
theorem wipSet {own : List Nat} {i : Nat} (h : i ∈ own := by decide) : RlSet (Wip own) i := fun _ _ => wipe_set h
variable {Rl : L2.St → L2.St → Prop}
def tG (K : PySem.W.Frag) (mg : Str → Option Value) (Rl : L2.St → L2.St → Prop) (a : D → Env → Option Env) : TG := fun v σ H Q => ∃ ρ T d ρ', Cov σ ρ ∧ Rep K mg H (.ov v (.val d) :: (pairs σ ρ ++ T)) [] ∧ a d ρ = some ρ' ∧ ∀ σ', Rl σ σ' → Cov σ' ρ' → Rep K mg H (pairs σ' ρ' ++ T) [] → Q σ' H
def tGs (K : PySem.W.Frag) (mg : Str → Option Value) (Rl : L2.St → L2.St → Prop) (a : List D → Env → Option Env) : TGs := fun vs σ H Q => ∃ ρ T ds ρ', Cov σ ρ ∧ vs.length = ds.length ∧ Rep K mg H (zipI vs (ds.map O.val) ++ (pairs σ ρ ++ T)) [] ∧ a ds ρ = some ρ' ∧ ∀ σ', Rl σ σ' → Cov σ' ρ' → Rep K mg H (pairs σ' ρ' ++ T) [] → Q σ' H
theorem PG.imp {e : Expr} {t t' : TG} (h : PG X e t) (q : ∀ v σ H Q, t' v σ H Q → t v σ H Q) : PG X e t' := ⟨fun pins s σ H v u Q I r w => h.run pins s σ H v u Q I r (q v σ H Q w)⟩
theorem PGs.imp {e : List Expr} {t t' : TGs} (h : PGs X e t) (q : ∀ v σ H Q, t' v σ H Q → t v σ H Q) : PGs X e t' := ⟨fun pins s σ H v u Q I r w => h.run pins s σ H v u Q I r (q v σ H Q w)⟩
def SG (X : Cx) (Rl : L2.St → L2.St → Prop) (e : Expr) (a : D → Env → Option Env) : Prop := PG X e (tG X.K X.mg Rl a)
def SGs (X : Cx) (Rl : L2.St → L2.St → Prop) (e : List Expr) (a : List D → Env → Option Env) : Prop := PGs X e (tGs X.K X.mg Rl a)
def aN (i : Nat) : D → Env → Option Env := fun d ρ => some (ρ.set i (some (.val d)))
def aNil : List D → Env → Option Env := fun ds ρ => match ds with
  | [] => some ρ
  | _ => none
def aCons (a : D → Env → Option Env) (as : List D → Env → Option Env) : List D → Env → Option Env := fun ds ρ => match ds with
  | d :: ds => (a d ρ).bind fun ρ1 => as ds ρ1
  | _ => none
def aTup (as : List D → Env → Option Env) : D → Env → Option Env := fun d ρ => match d with
  | .tup ds => as ds ρ
  | _ => none
theorem sg_n (i : Nat) {x : Str} {pos : Pos} (ok : CxOk X) (hi : X.N[i]? = some x) (hx : Loc X.env.scope x) (hP : RlSet Rl i) (hf : X.fn x = true ∨ X.env.scope.names.lookup x = some .local := by first | exact .inl rfl | exact .inr rfl | assumption) : SG X Rl (.Name x pos) (aN i) :=
  PG.imp (pg_name ok.nd hi hx hf) fun v σ H Q w => by
    obtain ⟨ρ, T, d, ρ', c, R, e, k⟩ := w
    cases e
    exact k _ (hP σ _) (c.set i v _) (Rep.store c R)
theorem sgs_nil (hr : RlOk Rl) : SGs X Rl [] aNil := PGs.imp pgs_nil fun vs σ H Q w => by
  obtain ⟨ρ, T, ds, ρ', c, hl, R, e, k⟩ := w
  cases ds with
  | nil =>
    cases e
    have : vs = [] := List.eq_nil_of_length_eq_zero hl
    subst this
    exact ⟨rfl, k σ (hr.refl _) c R⟩
  | cons d ds => cases e
theorem sgs_cons (hr : RlOk Rl) {e : Expr} {es : List Expr} {a : D → Env → Option Env} {as : List D → Env → Option Env} (h1 : SG X Rl e a) (h2 : SGs X Rl es as) (hs : (assignEach (e :: es) X.env).map (·.2) = assign e X.env :: (assignEach es X.env).map (·.2) := by rfl) : SGs X Rl (e :: es) (aCons a as) :=
  PGs.imp (pgs_cons h1 h2 hs) fun vs σ H Q w => by
    obtain ⟨ρ, T, ds, ρ', c, hl, R, e, k⟩ := w
    cases ds with
    | nil => cases e
    | cons d ds =>
      cases vs with
      | nil => simp at hl
      | cons v vs =>
        have e : (a d ρ).bind (fun ρ1 => as ds ρ1) = some ρ' := e
        cases e1 : a d ρ with
        | none => rw [e1] at e; cases e
        | some ρ1 =>
          rw [e1] at e
          refine ⟨v, vs, rfl, ρ, zipI vs (ds.map O.val) ++ T, d, ρ1, c, R.perm ?_, e1, fun σ1 f1 c1 R1 => ?_⟩
          · refine List.Perm.cons _ ?_
            show (zipI vs (ds.map O.val) ++ (pairs σ ρ ++ T)).Perm _
            rw [← List.append_assoc, ← List.append_assoc]
            exact List.perm_append_comm.append_right T
          · refine ⟨ρ1, T, ds, ρ', c1, by simpa using hl, R1.perm ?_, e, fun σ' f' c' R' => k σ' (hr.trans f1 f') c' R'⟩
            rw [← List.append_assoc, ← List.append_assoc]
            exact List.perm_append_comm.append_right T
theorem sg_tup {es : List Expr} {x1 : Nat} {pos : Pos} {as : List D → Env → Option Env} {n : Nat} (ok : CxOk X) (h : SGs X Rl es as) (hn : (assignEach es X.env).length = n := by rfl) (hst : (assignEach es X.env).findIdx? (·.1) = none := by rfl) (hl : ∀ ds ρ ρ', as ds ρ = some ρ' → ds.length = n) : SG X Rl (.Tuple es x1 pos) (aTup as) :=
  PG.imp (pg_tup ok.calm h hn hst) fun v σ H Q w => by
    obtain ⟨ρ, T, d, ρ', c, R, e, k⟩ := w
    unfold aTup at e
    split at e
    · rename_i ds
      obtain ⟨p, vs, rfl, hp, lp, R1⟩ := R.lend.shT (List.mem_cons_self ..) rfl
      refine ⟨p, vs, rfl, hp, by rw [lp]; exact hl _ _ _ e, ρ, T, ds, ρ', c, lp, ?_, e, k⟩
      exact (R1.nob.perm List.perm_middle).drop
    · cases e
theorem aNil_len : ∀ ds ρ ρ', aNil ds ρ = some ρ' → ds.length = 0 := fun ds ρ ρ' e => by
  cases ds with
  | nil => rfl
  | cons => cases e
theorem aCons_len {a : D → Env → Option Env} {as : List D → Env → Option Env} {n : Nat} (h : ∀ ds ρ ρ', as ds ρ = some ρ' → ds.length = n) : ∀ ds ρ ρ', aCons a as ds ρ = some ρ' → ds.length = n + 1 := fun ds ρ ρ' e => by
  cases ds with
  | nil => cases e
  | cons d ds =>
    have e : (a d ρ).bind (fun ρ1 => as ds ρ1) = some ρ' := e
    cases e1 : a d ρ with
    | none => rw [e1] at e; cases e
    | some ρ1 => rw [e1] at e; simp [h ds ρ1 ρ' e]
/-- a, b = .. -/
def mAsg (a : D → Env → Option Env) (m : M O) : M Fl := fun ρ => (m ρ).bind fun o ρ1 => match a o.toD ρ1 with
  | some ρ2 => .ok .nx ρ2
  | none => .no
theorem ss_asg {tg e : Expr} {pos : Pos} {m : M O} {a : D → Env → Option Env} (h : SE X e m) (hg : SG X (Fix P) tg a) (hs : swapsWithSole [tg] e pos.line X.env = pure false := by rfl) (hw : swappedStores [tg] e X.env = pure none := by rfl) (h1 : (assignEach [tg] X.env).map (·.2) = [assign tg X.env] := by rfl) : SS X P (.Assign [tg] e pos) (mAsg a m) :=
  PS.imp (ps_asg h hg hs hw h1) fun D σ H w => by
    obtain ⟨ρ, T, c, R, h⟩ := tS_iff.mp w
    unfold mAsg at h
    cases e1 : m ρ with
    | ok o ρ1 =>
      rw [e1] at h
      have h : Post X.K X.mg P T D σ (match a o.toD ρ1 with | some ρ2 => .ok .nx ρ2 | none => .no) := h
      cases e2 : a o.toD ρ1 with
      | none => rw [e2] at h; exact h.elim
      | some ρ2 =>
        rw [e2] at h
        exact ⟨ρ, T, o, ρ1, c, R, e1, fun v H' c' R' => ⟨ρ1, T, _, ρ2, c', R'.frz, e2, fun σ' f' c2 R2 => h σ' H' f' c2 R2⟩⟩
    | exc x ρ1 => rw [e1] at h; exact h.elim
    | no => rw [e1] at h; exact h.elim

/-! ### while -/
def whileN (t : M Bool) (b : M Fl) : Nat → M Fl
  | 0 => fun _ => .no
  | n + 1 => fun ρ => (t ρ).bind fun c ρ1 => if c = true then (b ρ1).bind fun f ρ2 => match f with
      | .nx => whileN t b n ρ2
      | .ct => whileN t b n ρ2
      | .brk => .ok .nx ρ2
      | .ret o => .ok (.ret o) ρ2
    else .ok .nx ρ1
def mWhile (fuel : Env → Nat) (t : M Bool) (b : M Fl) : M Fl := fun ρ => whileN t b (fuel ρ) ρ
theorem ss_while {c : Expr} {body : List Stmt} {pos : Pos} {t : M Bool} {b : M Fl} (fuel : Env → Nat) (hp : PassesOwn (model X.prog X.w) X.A X.env X.xe) (hc : SET X c t) (hb : SSs X P body b) : SS X P (.While c body [] pos) (mWhile fuel t b) :=
  PS.imp (ps_while hp hc hb) fun D σ H w => by
    obtain ⟨ρ, T, cv, R, h⟩ := tS_iff.mp w
    refine ⟨fun n σ' H' => ∃ ρ', Fix P σ σ' ∧ Cov σ' ρ' ∧ Rep X.K X.mg H' (pairs σ' ρ' ++ T) [] ∧ Post X.K X.mg P T D σ (whileN t b n ρ'), ⟨fuel ρ, ρ, Fix.refl _ _, cv, R, h⟩, ?_⟩
    rintro n σ1 H1 ⟨ρ1, f1, c1, R1, h1⟩
    cases n with
    | zero => exact h1.elim
    | succ n =>
      have h1 : Post X.K X.mg P T D σ ((t ρ1).bind fun c ρ1 => if c = true then (b ρ1).bind fun f ρ2 => match f with
        | .nx => whileN t b n ρ2
        | .ct => whileN t b n ρ2
        | .brk => .ok .nx ρ2
        | .ret o => .ok (.ret o) ρ2
        else .ok .nx ρ1) := h1
      cases e1 : t ρ1 with
      | exc x ρ2 => rw [e1] at h1; exact h1.elim
      | no => rw [e1] at h1; exact h1.elim
      | ok u ρ2 =>
        rw [e1] at h1
        refine ⟨ρ1, T, u, ρ2, c1, R1, e1, fun H2 c2 R2 => ?_⟩
        cases u with
        | false =>
          rw [if_neg Bool.false_ne_true]
          exact h1 σ1 H2 f1 c2 R2
        | true =>
          rw [if_pos rfl]
          have h1 : Post X.K X.mg P T D σ ((b ρ2).bind fun f ρ2 => match f with
            | .nx => whileN t b n ρ2
            | .ct => whileN t b n ρ2
            | .brk => .ok .nx ρ2
            | .ret o => .ok (.ret o) ρ2) := h1
          refine ⟨fun σ' H' => ∃ ρ', Fix P σ σ' ∧ Cov σ' ρ' ∧ Rep X.K X.mg H' (pairs σ' ρ' ++ T) [] ∧ Post X.K X.mg P T D σ (whileN t b n ρ'), fun σ' H' q => ⟨n, Nat.lt_succ_self n, q⟩, ?_⟩
          refine tS_iff.mpr ⟨ρ2, T, c2, R2, ?_⟩
          cases e2 : b ρ2 with
          | exc x ρ3 => rw [e2] at h1; exact h1.elim
          | no => rw [e2] at h1; exact h1.elim
          | ok fl ρ3 =>
            rw [e2] at h1
            cases fl with
            | nx => exact fun σ' H' f' c' R' => ⟨ρ3, f1.trans f', c', R', h1⟩
            | ct => exact fun σ' H' f' c' R' => ⟨ρ3, f1.trans f', c', R', h1⟩
            | brk => exact fun σ' H' f' c' R' => h1 σ' H' (f1.trans f') c' R'
            | ret o => exact fun v σ' H' f' c' R' => h1 v σ' H' (f1.trans f') c' R'

/-! ### for -/
/-- an iterator that yields these, while the kept items stand -/
def Its (K : PySem.W.Frag) (mg : Str → Option Value) (J : It) (ks : List Item) (ds : List D) : Prop :=
  ∀ (L : List Item) (H : Hp), Rep K mg H (ks ++ L) [] → (∀ (i : Nat) (d : D), ds[i]? = some d → J.go i H ∧ ∀ x H', J.yld i H x H' → Same H H' ∧ Rep K mg H' (.ov x (.val d) :: (ks ++ L)) []) ∧ J.stop ds.length H
def tI (K : PySem.W.Frag) (mg : Str → Option Value) (m : M (List D)) : TI := fun σ H R => ∃ ρ T ds ρ', Cov σ ρ ∧ Rep K mg H (pairs σ ρ ++ T) [] ∧ m ρ = .ok ds ρ' ∧ ∀ J ks H', Cov σ ρ' → Its K mg J ks ds → Rep K mg H' (ks ++ (pairs σ ρ' ++ T)) [] → R J H'
theorem PI.imp {tg it : Expr} {t t' : TI} (h : PI X tg it t) (q : ∀ σ H R, t' σ H R → t σ H R) : PI X tg it t' := ⟨fun pins s σ H R I w => h.run pins s σ H R I (q σ H R w)⟩
def SI (X : Cx) (tg it : Expr) (m : M (List D)) : Prop := PI X tg it (tI X.K X.mg m)
def forL (a : D → Env → Option Env) (b : M Fl) : List D → M Fl
  | [] => fun ρ => .ok .nx ρ
  | d :: ds => fun ρ => match a d ρ with
    | none => .no
    | some ρ1 => (b ρ1).bind fun f ρ2 => match f with
      | .nx => forL a b ds ρ2
      | .ct => forL a b ds ρ2
      | .brk => .ok .nx ρ2
      | .ret o => .ok (.ret o) ρ2
def mFor (m : M (List D)) (a : D → Env → Option Env) (b : M Fl) : M Fl := fun ρ => (m ρ).bind fun ds ρ1 => forL a b ds ρ1
theorem drop_cons {α : Type} {ds : List α} {i : Nat} (h : i < ds.length) : ds.drop i = ds[i] :: ds.drop (i + 1) := List.drop_eq_getElem_cons h
theorem Rep.drops : ∀ {H : Hp} {M L : List Item}, Rep K mg H (M ++ L) [] → Rep K mg H L []
  | _, [], _, h => h
  | _, _ :: _, _, h => Rep.drops (Rep.drop h)
theorem rot (A B C : List Item) : (A ++ (B ++ C)).Perm (B ++ (A ++ C)) := by
  rw [← List.append_assoc, ← List.append_assoc]
  exact List.perm_append_comm.append_right _
theorem Post.more {ks T : List Item} {D : Ends} {σ : L2.St} {r : Res Fl} (h : Post K mg P T D σ r) : Post K mg P (ks ++ T) D σ r := by
  cases r with
  | ok fl ρ' =>
    cases fl with
    | nx => exact fun σ' H' f c R => h σ' H' f c (R.perm (rot _ _ _)).drops
    | brk => exact fun σ' H' f c R => h σ' H' f c (R.perm (rot _ _ _)).drops
    | ct => exact fun σ' H' f c R => h σ' H' f c (R.perm (rot _ _ _)).drops
    | ret o => exact fun v σ' H' f c R => h v σ' H' f c (R.perm (((rot _ _ _).cons _).trans List.perm_middle.symm)).drops
  | exc x ρ' => exact h
  | no => exact h
/-- the turns of a loop over these -/
theorem for_core {J : It} {ks T : List Item} {ds : List D} {a : D → Env → Option Env} {b : M Fl} {D : Ends} {σ : L2.St} {H : Hp} {ρ : Env} (c : Cov σ ρ) (hJ : Its K mg J ks ds) (R : Rep K mg H (ks ++ (pairs σ ρ ++ T)) []) (h : Post K mg P (ks ++ T) D σ (forL a b ds ρ)) :
    ∃ W : Nat → Nat → L2.St → Hp → Prop, (∃ m, W 0 m σ H) ∧ ∀ i m σ H, W i m σ H →
      (J.stop i H ∧ D.nx σ H) ∨ (J.go i H ∧ ∃ N : L2.St → Hp → Prop, (∀ σ' H', N σ' H' → ∃ m', m' < m ∧ W (i + 1) m' σ' H') ∧ ∀ x H', J.yld i H x H' → tG K mg (Fix P) a x σ H' fun σ2 H2 => tS K mg P b { D with nx := N, ct := N, bk := D.nx } σ2 H2) := by
  let W : Nat → L2.St → Hp → Prop := fun i σ' H' => ∃ ρ', i ≤ ds.length ∧ Fix P σ σ' ∧ Cov σ' ρ' ∧ Rep K mg H' (ks ++ (pairs σ' ρ' ++ T)) [] ∧ Post K mg P (ks ++ T) D σ (forL a b (ds.drop i) ρ')
  refine ⟨fun i n σ' H' => n = ds.length - i ∧ W i σ' H', ⟨ds.length, by simp, ρ, Nat.zero_le _, Fix.refl _ _, c, R, h⟩, ?_⟩
  rintro i n σ1 H1 ⟨rfl, ρ2, hi, f1, c1, R1, h1⟩
  by_cases hlt : i < ds.length
  · have hd : ds[i]? = some ds[i] := by simp [hlt]
    obtain ⟨hgo, hy⟩ := (hJ _ H1 R1).1 i _ hd
    refine .inr ⟨hgo, fun σ' H' => W (i + 1) σ' H', fun σ' H' q => ⟨ds.length - (i + 1), by omega, rfl, q⟩, fun x H2 y => ?_⟩
    obtain ⟨_, R2⟩ := hy x H2 y
    rw [drop_cons hlt] at h1
    have h1 : Post K mg P (ks ++ T) D σ (match a ds[i] ρ2 with
      | none => .no
      | some ρ1 => (b ρ1).bind fun f ρ2 => match f with
        | .nx => forL a b (ds.drop (i + 1)) ρ2
        | .ct => forL a b (ds.drop (i + 1)) ρ2
        | .brk => .ok .nx ρ2
        | .ret o => .ok (.ret o) ρ2) := h1
    cases e2 : a ds[i] ρ2 with
    | none => rw [e2] at h1; exact h1.elim
    | some ρ3 =>
      rw [e2] at h1
      refine ⟨ρ2, ks ++ T, ds[i], ρ3, c1, R2.perm ((rot _ _ _).cons _), e2, fun σ3 f3 c3 R3 => ?_⟩
      refine tS_iff.mpr ⟨ρ3, ks ++ T, c3, R3, ?_⟩
      have back : ∀ {H' : Hp} {σ' : L2.St} {ρ' : Env}, Rep K mg H' (pairs σ' ρ' ++ (ks ++ T)) [] → Rep K mg H' (ks ++ (pairs σ' ρ' ++ T)) [] := fun R => R.perm (rot _ _ _)
      have h1 : Post K mg P (ks ++ T) D σ ((b ρ3).bind fun f ρ2 => match f with
        | .nx => forL a b (ds.drop (i + 1)) ρ2
        | .ct => forL a b (ds.drop (i + 1)) ρ2
        | .brk => .ok .nx ρ2
        | .ret o => .ok (.ret o) ρ2) := h1
      cases e3 : b ρ3 with
      | exc x ρ4 => rw [e3] at h1; exact h1.elim
      | no => rw [e3] at h1; exact h1.elim
      | ok fl ρ4 =>
        rw [e3] at h1
        cases fl with
        | nx => exact fun σ' H' f' c' R' => ⟨ρ4, hlt, f1.trans (f3.trans f'), c', back R', h1⟩
        | ct => exact fun σ' H' f' c' R' => ⟨ρ4, hlt, f1.trans (f3.trans f'), c', back R', h1⟩
        | brk => exact fun σ' H' f' c' R' => h1 σ' H' (f1.trans (f3.trans f')) c' R'
        | ret o => exact fun v σ' H' f' c' R' => h1 v σ' H' (f1.trans (f3.trans f')) c' R'
  · have e : i = ds.length := by omega
    subst e
    refine .inl ⟨(hJ _ H1 R1).2, ?_⟩
    rw [List.drop_length] at h1
    exact h1 σ1 H1 f1 c1 (R1.perm (rot _ _ _))
theorem ss_for {tg iter : Expr} {body : List Stmt} {pos : Pos} {m : M (List D)} {a : D → Env → Option Env} {b : M Fl} (ok : CxOk X) (hp : PassesOwn (model X.prog X.w) X.A X.env X.xe) (hi : SI X tg iter m) (hg : SG X (Fix P) tg a) (hb : SSs X P body b)
    (hs : ∀ x, foldedSetIterable iter X.env x = pure x := by intro _; rfl) : SS X P (.For tg iter body [] pos) (mFor m a b) :=
  PS.imp (ps_for hp ok.calm hi hg hb hs) fun D σ H w => by
    obtain ⟨ρ, T, cv, R, h⟩ := tS_iff.mp w
    unfold mFor at h
    cases e1 : m ρ with
    | exc x ρ1 => rw [e1] at h; exact h.elim
    | no => rw [e1] at h; exact h.elim
    | ok ds ρ1 =>
      rw [e1] at h
      exact ⟨ρ, T, ds, ρ1, cv, R, e1, fun J ks H' c' hJ R' => for_core c' hJ R' (Post.more h)⟩
end
end FB

/-! What a for or a comprehension walks. -/
namespace FB
open PySem PySem.Spec L2
open PyProof.Rows hiding St

section
variable {X : Cx} {K : PySem.W.Frag} {mg : Str → Option Value}
def tMs2 (K : PySem.W.Frag) (mg : Str → Option Value) (m : M (List O)) : TA := tMs K mg m
theorem its_list {a : Addr} {ds : List D} : Its K mg (Itl K a) [.ov (.ref a) (.val (.lst ds))] ds := by
  intro L H R
  obtain ⟨p, vs, e, hp, lp, R1⟩ := (Rep.lend R).shL (List.mem_cons_self ..) rfl
  cases e
  refine ⟨fun i d hd => ?_, ⟨vs, .inl hp, by omega⟩⟩
  have hi : i < ds.length := (List.getElem?_eq_some_iff.mp hd).1
  have hv : vs[i]? = some (vs[i]'(by omega)) := by simp
  refine ⟨⟨vs, _, .inl hp, hv⟩, fun x H' y => ?_⟩
  obtain ⟨e, y⟩ := y
  subst e
  have := y vs (.inl hp)
  exact ⟨Same.refl _, (R1.nth this hd).keep.nob⟩
theorem its_tup {a : Addr} {ds : List D} : Its K mg (Itt K a) [.ov (.ref a) (.val (.tup ds))] ds := by
  intro L H R
  obtain ⟨p, vs, e, hp, lp, R1⟩ := (Rep.lend R).shT (List.mem_cons_self ..) rfl
  cases e
  refine ⟨fun i d hd => ?_, ⟨vs, hp, by omega⟩⟩
  have hi : i < ds.length := (List.getElem?_eq_some_iff.mp hd).1
  have hv : vs[i]? = some (vs[i]'(by omega)) := by simp
  refine ⟨⟨vs, _, hp, hv⟩, fun x H' y => ?_⟩
  obtain ⟨e, y⟩ := y
  subst e
  have := y vs hp
  exact ⟨Same.refl _, (R1.nth this hd).keep.nob⟩
theorem its_scr {a : Addr} {ns : List Int} : Its K mg (Itl K a) [.ov (.ref a) (.val (.scr ns))] (ns.map D.int) := by
  intro L H R
  have q : Vw K mg H (.ref a) (.scr ns) := (Rep.lend R).view (List.mem_cons_self ..)
  cases q with
  | scr h =>
    refine ⟨fun i d hd => ?_, ⟨_, h, by simp⟩⟩
    rw [List.getElem?_map] at hd
    cases e : ns[i]? with
    | none => rw [e] at hd; cases hd
    | some n =>
      rw [e] at hd; cases hd
      have hv : (ns.map V.int)[i]? = some (.int n) := by rw [List.getElem?_map, e]; rfl
      refine ⟨⟨_, _, h, hv⟩, fun x H' y => ?_⟩
      obtain ⟨e1, y⟩ := y
      subst e1
      have := y _ h
      rw [hv] at this
      cases this
      exact ⟨Same.refl _, R.scal fun _ => .int n⟩
def rangeL (lo : Int) (n : Nat) : List D := (List.range n).map fun (i : Nat) => D.int (lo + (i : Int))
def rangeC (lo c : Int) (n : Nat) : List D := (List.range n).map fun (i : Nat) => D.int (lo + (i : Int) * c)
theorem its_range {lo : Int} {n : Nat} : Its K mg (Itr lo n) [] (rangeL lo n) := by
  intro L H R
  refine ⟨fun i d hd => ?_, by unfold rangeL; simp [Itr]⟩
  have hi : i < n := by
    have := (List.getElem?_eq_some_iff.mp hd).1
    simpa [rangeL] using this
  have e : d = .int (lo + i) := by
    unfold rangeL at hd
    rw [List.getElem?_map, List.getElem?_range hi] at hd
    cases hd; rfl
  subst e
  refine ⟨hi, fun x H' y => ?_⟩
  obtain ⟨e1, e2⟩ := y
  subst e1 e2
  exact ⟨Same.refl _, R.scal fun _ => .int _⟩
theorem its_rangeC {lo c : Int} {n : Nat} : Its K mg (Itc lo c n) [] (rangeC lo c n) := by
  intro L H R
  refine ⟨fun i d hd => ?_, by unfold rangeC; simp [Itc]⟩
  have hi : i < n := by
    have := (List.getElem?_eq_some_iff.mp hd).1
    simpa [rangeC] using this
  have e : d = .int (lo + i * c) := by
    unfold rangeC at hd
    rw [List.getElem?_map, List.getElem?_range hi] at hd
    cases hd; rfl
  subst e
  refine ⟨hi, fun x H' y => ?_⟩
  obtain ⟨e1, e2⟩ := y
  subst e1 e2
  exact ⟨Same.refl _, R.scal fun _ => .int _⟩
def signs (z : Str) : List D := z.cps.toList.map fun c => D.str ⟨#[c]⟩
theorem its_str {z : Str} (hz : PyData.strOk z = true) : Its K mg (L2.Its z) [] (signs z) := by
  intro L H R
  refine ⟨fun i d hd => ?_, by unfold signs; simp [L2.Its]⟩
  have hi : i < z.cps.size := by
    have := (List.getElem?_eq_some_iff.mp hd).1
    simpa [signs] using this
  refine ⟨hi, fun x H' y => ?_⟩
  obtain ⟨e1, c, hc, e2⟩ := y
  subst e1 e2
  have e : d = .str ⟨#[c]⟩ := by
    unfold signs at hd
    rw [List.getElem?_map] at hd
    have : z.cps.toList[i]? = some c := by simpa using hc
    rw [this] at hd
    cases hd; rfl
  subst e
  have hm : c ∈ z.cps.toList := List.mem_of_getElem? (by simpa using hc)
  have q : z.cps.all (· < 0x110000) = true := hz
  rw [← Array.all_toList, List.all_eq_true] at q
  have hk : PyData.strOk ⟨#[c]⟩ = true := by
    show (#[c].all _) = true
    simp [of_decide_eq_true (q c hm)]
  exact ⟨Same.refl _, R.scal fun _ => .str _ hk⟩
def enumL (ds : List D) : List D := ds.mapIdx fun i d => .tup [.int (i : Nat), d]
theorem enumL_get {ds : List D} {i : Nat} {d : D} (h : (enumL ds)[i]? = some d) : ∃ e, ds[i]? = some e ∧ d = .tup [.int (i : Nat), e] := by
  unfold enumL at h
  rw [List.getElem?_mapIdx] at h
  cases e : ds[i]? with
  | none => rw [e] at h; cases h
  | some x => rw [e] at h; cases h; exact ⟨x, rfl, rfl⟩
theorem its_enum {a : Addr} {ds : List D} : Its K mg (Ite K a) [.ov (.ref a) (.val (.lst ds))] (enumL ds) := by
  intro L H R
  obtain ⟨p, vs, e, hp, lp, R1⟩ := (Rep.lend R).shL (List.mem_cons_self ..) rfl
  cases e
  have hl : (enumL ds).length = ds.length := by unfold enumL; simp
  refine ⟨fun i d hd => ?_, ⟨vs, .inl hp, by rw [hl]; omega⟩⟩
  obtain ⟨e, he, rfl⟩ := enumL_get hd
  have hi : i < ds.length := (List.getElem?_eq_some_iff.mp he).1
  have hv : vs[i]? = some (vs[i]'(by omega)) := by simp
  refine ⟨⟨vs, _, .inl hp, hv⟩, fun x H' y => ?_⟩
  obtain ⟨T, u, rfl, hT, rfl, y⟩ := y
  have hu := y vs (.inl hp)
  refine ⟨sameNew hT, ?_⟩
  have R2 := (R1.nth hu he).keep.nob
  have R3 : Rep K mg H (zipI [.int (i : Nat), u] ([D.int (i : Nat), e].map O.val) ++ (.ov (.ref a) (.val (.lst ds)) :: L)) [] := R2.scal fun _ => .int _
  exact Rep.newT R3 rfl hT
def zipL (xs ys : List D) : List D := List.zipWith (fun x y => .tup [x, y]) xs ys
theorem zipL_get {xs ys : List D} {i : Nat} {d : D} (h : (zipL xs ys)[i]? = some d) : ∃ x y, xs[i]? = some x ∧ ys[i]? = some y ∧ d = .tup [x, y] := by
  unfold zipL at h
  rw [List.getElem?_zipWith] at h
  cases e1 : xs[i]? with
  | none => rw [e1] at h; cases h
  | some x =>
    cases e2 : ys[i]? with
    | none => rw [e1, e2] at h; cases h
    | some y => rw [e1, e2] at h; cases h; exact ⟨x, y, rfl, rfl, rfl⟩
/-- .. with one more item ahead -/
theorem Rep.nth' {H : Hp} {L : List Item} {B : List (V × O)} {vs : List V} {ds : List D} {i : Nat} {v : V} {d : D} {z : Item} (h : Rep K mg H (zipI vs (ds.map O.val) ++ z :: L) B) (h1 : vs[i]? = some v) (h2 : ds[i]? = some d) : Rep K mg H (.ov v (.val d) :: z :: L) [] := (h.nth h1 h2).keep.nob
theorem its_zip {a b : Addr} {xs ys : List D} : Its K mg (Itz K a b) [.ov (.ref a) (.val (.lst xs)), .ov (.ref b) (.val (.lst ys))] (zipL xs ys) := by
  intro L H R
  have R0 : Rep K mg H ([.ov (.ref a) (.val (.lst xs)), .ov (.ref b) (.val (.lst ys))] ++ L) [(.ref b, .val (.lst ys)), (.ref a, .val (.lst xs))] :=
    ((Rep.lend R).perm (.swap _ _ _)).lend.perm (.swap _ _ _)
  obtain ⟨p, vs, e, hp, lp, R1⟩ := R0.shL (x := .ref a) (o := .val (.lst xs)) (by simp) rfl
  cases e
  obtain ⟨p, ws, e, hq, lq, R2⟩ := R1.shL (x := .ref b) (o := .val (.lst ys)) (by simp) rfl
  cases e
  have hl : (zipL xs ys).length = min xs.length ys.length := by unfold zipL; simp
  refine ⟨fun i d hd => ?_, ⟨vs, ws, .inl hp, .inl hq, by rw [hl]; omega⟩⟩
  obtain ⟨x, y, hx, hy, rfl⟩ := zipL_get hd
  have hi : i < xs.length := (List.getElem?_eq_some_iff.mp hx).1
  have hj : i < ys.length := (List.getElem?_eq_some_iff.mp hy).1
  have hv : vs[i]? = some (vs[i]'(by omega)) := by simp
  have hw : ws[i]? = some (ws[i]'(by omega)) := by simp
  refine ⟨⟨vs, ws, _, _, .inl hp, .inl hq, hv, hw⟩, fun z H' q => ?_⟩
  obtain ⟨T, u, u', rfl, hT, rfl, q1, q2⟩ := q
  refine ⟨sameNew hT, ?_⟩
  have R7 : Rep K mg H (zipI [u, u'] ([x, y].map O.val) ++ ([.ov (.ref a) (.val (.lst xs)), .ov (.ref b) (.val (.lst ys))] ++ L)) [] :=
    ((R2.nth (q2 ws (.inl hq)) hy).keep.perm (List.perm_middle.symm)).nth' (q1 vs (.inl hp)) hx
  exact Rep.newT R7 rfl hT
theorem its_zipT {a b : Addr} {xs ys : List D} : Its K mg (RZ.ItzT K a b) [.ov (.ref a) (.val (.tup xs)), .ov (.ref b) (.val (.tup ys))] (zipL xs ys) := by
  intro L H R
  have R0 : Rep K mg H ([.ov (.ref a) (.val (.tup xs)), .ov (.ref b) (.val (.tup ys))] ++ L) [(.ref b, .val (.tup ys)), (.ref a, .val (.tup xs))] :=
    ((Rep.lend R).perm (.swap _ _ _)).lend.perm (.swap _ _ _)
  obtain ⟨p, vs, e, hp, lp, R1⟩ := R0.shT (x := .ref a) (o := .val (.tup xs)) (by simp) rfl
  cases e
  obtain ⟨p, ws, e, hq, lq, R2⟩ := R1.shT (x := .ref b) (o := .val (.tup ys)) (by simp) rfl
  cases e
  have hl : (zipL xs ys).length = min xs.length ys.length := by unfold zipL; simp
  refine ⟨fun i d hd => ?_, ⟨vs, ws, hp, hq, by rw [hl]; omega⟩⟩
  obtain ⟨x, y, hx, hy, rfl⟩ := zipL_get hd
  have hi : i < xs.length := (List.getElem?_eq_some_iff.mp hx).1
  have hj : i < ys.length := (List.getElem?_eq_some_iff.mp hy).1
  have hv : vs[i]? = some (vs[i]'(by omega)) := by simp
  have hw : ws[i]? = some (ws[i]'(by omega)) := by simp
  refine ⟨⟨vs, ws, _, _, hp, hq, hv, hw⟩, fun z H' q => ?_⟩
  obtain ⟨T, u, u', rfl, hT, rfl, q1, q2⟩ := q
  refine ⟨sameNew hT, ?_⟩
  have R7 : Rep K mg H (zipI [u, u'] ([x, y].map O.val) ++ ([.ov (.ref a) (.val (.tup xs)), .ov (.ref b) (.val (.tup ys))] ++ L)) [] :=
    ((R2.nth (q2 ws hq) hy).keep.perm (List.perm_middle.symm)).nth' (q1 vs hp) hx
  exact Rep.newT R7 rfl hT

theorem Itv_list {a : Addr} {ds : List D} {n : Nat} (hn : n = ds.length) : Its K mg (Itv K a n) [.ov (.ref a) (.val (.lst ds))] ds.reverse := by
  intro L H R
  obtain ⟨p, vs, e, hp, lp, R1⟩ := (Rep.lend R).shL (List.mem_cons_self ..) rfl
  cases e
  refine ⟨fun i d hd => ?_, by simp [Itv, hn]⟩
  have hi : i < ds.length := by simpa using (List.getElem?_eq_some_iff.mp hd).1
  have hd2 : ds[n - 1 - i]? = some d := by
    rw [List.getElem?_reverse hi] at hd
    rw [hn]; exact hd
  have hv : vs[n - 1 - i]? = some (vs[n - 1 - i]'(by omega)) := by simp
  refine ⟨⟨by omega, vs, _, .inl hp, hv⟩, fun x H' y => ?_⟩
  obtain ⟨e, y⟩ := y
  subst e
  exact ⟨Same.refl _, (R1.nth (y vs (.inl hp)) hd2).keep.nob⟩
theorem Itv_tup {a : Addr} {ds : List D} {n : Nat} (hn : n = ds.length) : Its K mg (RT.ItvT K a n) [.ov (.ref a) (.val (.tup ds))] ds.reverse := by
  intro L H R
  obtain ⟨p, vs, e, hp, lp, R1⟩ := (Rep.lend R).shT (List.mem_cons_self ..) rfl
  cases e
  refine ⟨fun i d hd => ?_, by simp [RT.ItvT, hn]⟩
  have hi : i < ds.length := by simpa using (List.getElem?_eq_some_iff.mp hd).1
  have hd2 : ds[n - 1 - i]? = some d := by
    rw [List.getElem?_reverse hi] at hd
    rw [hn]; exact hd
  have hv : vs[n - 1 - i]? = some (vs[n - 1 - i]'(by omega)) := by simp
  refine ⟨⟨by omega, vs, _, hp, hv⟩, fun x H' y => ?_⟩
  obtain ⟨e, y⟩ := y
  subst e
  exact ⟨Same.refl _, (R1.nth (y vs hp) hd2).keep.nob⟩

/-! ### the rules -/
theorem PI.or {tg it : Expr} {t t' : TI} (h : PI X tg it t) (h' : PI X tg it t') : PI X tg it (fun σ H R => t σ H R ∨ t' σ H R) := ⟨fun pins s σ H R I w => w.elim (h.run pins s σ H R I) (h'.run pins s σ H R I)⟩
def D.items? : D → Option (List D)
  | .lst ds => some ds
  | .tup ds => some ds
  | .scr ns => some (ns.map D.int)
  | .str z => some (signs z)
  | _ => none
def mI (m : M O) : M (List D) := fun ρ => (m ρ).bind fun o ρ1 => match o.toD.items? with
  | some ds => .ok ds ρ1
  | none => .no
theorem si_val {tg e : Expr} {m : M O} (h : SE X e m) : SI X tg e (mI m) := PI.imp (FB.PI.or (pi_list h) (FB.PI.or (pi_tup h) (pi_str h))) fun σ H R w => by
  obtain ⟨ρ, T, ds, ρ', c, Rp, e, k⟩ := w
  obtain ⟨o, ρ1, e1, e⟩ := Res.bind_eq e
  split at e
  · rename_i ds' e2
    cases e
    cases hd : o.toD with
    | lst es =>
      rw [hd] at e2; cases e2
      refine .inl ⟨ρ, T, o, _, c, Rp, e1, fun v H' c' R' => ?_⟩
      have R2 := R'.frz
      rw [hd] at R2
      obtain ⟨p, vs, rfl, hp, lp, _⟩ := R2.lend.shL (List.mem_cons_self ..) rfl
      exact ⟨p, rfl, ⟨vs, .inl hp⟩, k _ _ _ c' its_list R2⟩
    | tup es =>
      rw [hd] at e2; cases e2
      refine .inr (.inl ⟨ρ, T, o, _, c, Rp, e1, fun v H' c' R' => ?_⟩)
      have R2 := R'.frz
      rw [hd] at R2
      obtain ⟨p, vs, rfl, hp, lp, _⟩ := R2.lend.shT (List.mem_cons_self ..) rfl
      exact ⟨p, rfl, ⟨vs, hp⟩, k _ _ _ c' its_tup R2⟩
    | scr ns =>
      rw [hd] at e2; cases e2
      refine .inl ⟨ρ, T, o, _, c, Rp, e1, fun v H' c' R' => ?_⟩
      have R2 := R'.frz
      rw [hd] at R2
      have q : Vw X.K X.mg H' v (.scr ns) := R2.lend.view (List.mem_cons_self ..)
      cases q with
      | scr hq => exact ⟨_, rfl, ⟨_, hq⟩, k _ _ _ c' its_scr R2⟩
    | str z =>
      rw [hd] at e2; cases e2
      refine .inr (.inr ⟨ρ, T, o, _, c, Rp, e1, fun v H' c' R' => ?_⟩)
      have R2 := R'.frz
      rw [hd] at R2
      exact ⟨z, R2.lend.shStr (List.mem_cons_self ..) rfl, k _ [] _ c' (its_str (R2.lend.strOk (List.mem_cons_self ..) rfl)) R2.drop⟩
    | non => rw [hd] at e2; cases e2
    | bl _ => rw [hd] at e2; cases e2
    | int _ => rw [hd] at e2; cases e2
    | dct _ _ => rw [hd] at e2; cases e2
    | ins _ _ _ => rw [hd] at e2; cases e2
  · cases e
theorem line62 : (2 : Int) ^ 62 = 4611686018427387904 := by decide
def small (i : Int) : Bool := decide (-1000000000000 < i) && decide (i < 1000000000000)
theorem small_eq {i : Int} (h : small i = true) : -(2 ^ 62) ≤ i ∧ i < 2 ^ 62 := by
  unfold small at h
  simp only [Bool.and_eq_true, decide_eq_true_eq] at h
  rw [line62]; omega
def mR1 (m : M O) : M (List D) := fun ρ => (m ρ).bind fun o ρ1 => match o with
  | .val (.int j) => if small j = true then .ok (rangeL 0 j.toNat) ρ1 else .no
  | _ => .no
theorem si_range1 {tg a : Expr} {p pos : Pos} {m : M O} (hg : Gl X "range") (hm : X.mg "range" = none) (ha : SE X a m) (hs : starEach (a :: []) X.env = (false, eval a X.env) :: starEach [] X.env := by rfl) : SI X tg (.Call (.Name "range" p) [a] [] pos) (mR1 m) :=
  PI.imp (pi_range1 hg hm (pa_cons ha pa_nil hs) hs) fun σ H R w => by
    obtain ⟨ρ, T, ds, ρ', c, Rp, e, k⟩ := w
    obtain ⟨o, ρ1, e1, e⟩ := Res.bind_eq e
    split at e
    · rename_i j
      split at e
      · rename_i hj
        cases e
        obtain ⟨h1, h2⟩ := small_eq hj
        exact ⟨ρ, T, _, _, c, Rp, e1, fun v H' c' R' => ⟨j, by rw [R'.lend.shInt (List.mem_cons_self ..) rfl], h1, h2, k _ [] _ c' its_range R'.drop⟩⟩
      · cases e
    · cases e
def mR2 (m n : M O) : M (List D) := fun ρ => (m ρ).bind fun a ρ1 => (n ρ1).bind fun b ρ2 => match a, b with
  | .val (.int i), .val (.int j) => if (small i && small j) = true then .ok (rangeL i (j - i).toNat) ρ2 else .no
  | _, _ => .no
theorem si_range2 {tg a b : Expr} {p pos : Pos} {m n : M O} (hg : Gl X "range") (hm : X.mg "range" = none) (ha : SE X a m) (hb : SE X b n) (hs : starEach (a :: [b]) X.env = (false, eval a X.env) :: starEach [b] X.env := by rfl) (hs2 : starEach (b :: []) X.env = (false, eval b X.env) :: starEach [] X.env := by rfl) : SI X tg (.Call (.Name "range" p) [a, b] [] pos) (mR2 m n) :=
  PI.imp (pi_range2 hg hm (pa_cons ha (pa_cons hb pa_nil hs2) hs) (by rw [hs, hs2]; rfl) hs2) fun σ H R w => by
    obtain ⟨ρ, T, ds, ρ', c, Rp, e, k⟩ := w
    obtain ⟨o, ρ1, e1, w1⟩ := Res.bind_eq e
    clear e
    obtain ⟨u, ρ2, e2, e⟩ := Res.bind_eq w1
    clear w1
    split at e
    · rename_i i j
      split at e
      · rename_i hj
        cases e
        rw [Bool.and_eq_true] at hj
        obtain ⟨h1, h2⟩ := small_eq hj.1
        obtain ⟨h3, h4⟩ := small_eq hj.2
        exact ⟨ρ, T, _, _, c, Rp, e1, fun v H1 c1 R1 => ⟨ρ1, .ov v _ :: T, _, _, c1, R1.perm List.perm_middle.symm, e2, fun v2 H2 c2 R2 => ⟨i, j, by
          have ea := R2.lend.shInt (List.mem_cons_self ..) rfl
          have eb := ((R2.perm ((List.perm_middle.cons _).trans (.swap _ _ _))).lend).shInt (List.mem_cons_self ..) rfl
          rw [ea, eb], ⟨h1, h2, h3, h4⟩, k _ [] _ c2 its_range ((R2.drop.perm List.perm_middle).drop)⟩⟩⟩
      · cases e
    · cases e
/-- range(i, j, -1) -/
def mR3 (m n l : M O) : M (List D) := fun ρ => (m ρ).bind fun a ρ1 => (n ρ1).bind fun b ρ2 => (l ρ2).bind fun c ρ3 => match a, b, c with
  | .val (.int i), .val (.int j), .val (.int (-1)) => if (small i && small j) = true then .ok (rangeC i (-1) (i - j).toNat) ρ3 else .no
  | _, _, _ => .no
theorem si_range3 {tg a b c : Expr} {p pos : Pos} {m n l : M O} (hg : Gl X "range") (hm : X.mg "range" = none) (ha : SE X a m) (hb : SE X b n) (hc : SE X c l) (hs : starEach (a :: [b, c]) X.env = (false, eval a X.env) :: starEach [b, c] X.env := by rfl) (hs2 : starEach (b :: [c]) X.env = (false, eval b X.env) :: starEach [c] X.env := by rfl) (hs3 : starEach (c :: []) X.env = (false, eval c X.env) :: starEach [] X.env := by rfl) (hpl : (backTo pos (starEach [b, c] X.env)).any (·.1) = false := by rfl) : SI X tg (.Call (.Name "range" p) [a, b, c] [] pos) (mR3 m n l) :=
  PI.imp (pi_range3 hg hm (pa_cons ha (pa_cons hb (pa_cons hc pa_nil hs3) hs2) hs) hs hpl) fun σ H R w => by
    obtain ⟨ρ, T, ds, ρ', cv, Rp, e, k⟩ := w
    obtain ⟨o, ρ1, e1, w1⟩ := Res.bind_eq e
    clear e
    obtain ⟨u, ρ2, e2, w2⟩ := Res.bind_eq w1
    clear w1
    obtain ⟨u3, ρ3, e3, e⟩ := Res.bind_eq w2
    clear w2
    split at e
    · rename_i i j
      split at e
      · rename_i hj
        cases e
        rw [Bool.and_eq_true] at hj
        obtain ⟨h1, h2⟩ := small_eq hj.1
        obtain ⟨h3, h4⟩ := small_eq hj.2
        refine ⟨ρ, T, _, _, cv, Rp, e1, fun v H1 c1 R1 => ⟨ρ1, .ov v _ :: T, _, _, c1, R1.perm List.perm_middle.symm, e2, fun v2 H2 c2 R2 => ⟨ρ2, .ov v2 _ :: .ov v _ :: T, _, _, c2, R2.perm List.perm_middle.symm, e3, fun v3 H3 c3 R3 => ?_⟩⟩⟩
        have p1 : (.ov v3 (.val (.int (-1))) :: (pairs σ ρ' ++ .ov v2 (.val (.int j)) :: .ov v (.val (.int i)) :: T) : List Item).Perm (.ov v2 (.val (.int j)) :: .ov v (.val (.int i)) :: .ov v3 (.val (.int (-1))) :: (pairs σ ρ' ++ T)) :=
          ((List.perm_middle.trans (List.perm_middle.cons _)).cons _).trans ((List.Perm.swap _ _ _).trans ((List.Perm.swap _ _ _).cons _))
        have ec := R3.lend.shInt (List.mem_cons_self ..) rfl
        have R4 := R3.perm p1
        have eb := R4.lend.shInt (List.mem_cons_self ..) rfl
        have R5 := R4.drop
        have ea := R5.lend.shInt (List.mem_cons_self ..) rfl
        exact ⟨i, j, -1, _, by rw [ea, eb, ec], RgC.neg h1 h2 h3 h4, k _ [] _ c3 its_rangeC R5.drop.drop⟩
      · cases e
    · cases e
def mEnum (m : M O) : M (List D) := fun ρ => (m ρ).bind fun o ρ1 => match o.toD with
  | .lst ds => .ok (enumL ds) ρ1
  | _ => .no
theorem si_enum {a : Expr} {elts : List Expr} {kk : Nat} {tpos : Pos} {p pos : Pos} {m : M O} (hg : Gl X "enumerate") (hm : X.mg "enumerate" = none) (ha : SE X a m) (hs : starEach (a :: []) X.env = (false, eval a X.env) :: starEach [] X.env := by rfl) : SI X (.Tuple elts kk tpos) (.Call (.Name "enumerate" p) [a] [] pos) (mEnum m) :=
  PI.imp (pi_enum hg hm (pa_cons ha pa_nil hs) hs) fun σ H R w => by
    obtain ⟨ρ, T, ds, ρ', c, Rp, e, k⟩ := w
    obtain ⟨o, ρ1, e1, e⟩ := Res.bind_eq e
    split at e
    · rename_i es hd
      cases e
      refine ⟨ρ, T, o, _, c, Rp, e1, fun v H' c' R' => ?_⟩
      have R2 := R'.frz
      rw [hd] at R2
      obtain ⟨p, vs, rfl, hp, lp, _⟩ := R2.lend.shL (List.mem_cons_self ..) rfl
      exact ⟨p, vs, rfl, .inl hp, k _ _ _ c' its_enum R2⟩
    · cases e
def mZip (m n : M O) : M (List D) := fun ρ => (m ρ).bind fun a ρ1 => (n ρ1).bind fun b ρ2 => match a.toD, b.toD with
  | .lst xs, .lst ys => .ok (zipL xs ys) ρ2
  | .tup xs, .tup ys => .ok (zipL xs ys) ρ2
  | _, _ => .no
theorem si_zip {a b : Expr} {elts : List Expr} {kk : Nat} {tpos : Pos} {p pos : Pos} {m n : M O} (hg : Gl X "zip") (hm : X.mg "zip" = none) (ha : SE X a m) (hb : SE X b n) (hs : starEach (a :: [b]) X.env = (false, eval a X.env) :: starEach [b] X.env := by rfl) (hs2 : starEach (b :: []) X.env = (false, eval b X.env) :: starEach [] X.env := by rfl) (hpl : (backTo pos (starEach [b] X.env)).any (·.1) = false := by rfl) : SI X (.Tuple elts kk tpos) (.Call (.Name "zip" p) [a, b] [] pos) (mZip m n) :=
  PI.imp (RZ.pi_zipA hg hm (pa_cons ha (pa_cons hb pa_nil hs2) hs) hs hpl) fun σ H R w => by
    obtain ⟨ρ, T, ds, ρ', c, Rp, e, k⟩ := w
    obtain ⟨o, ρ1, e1, w1⟩ := Res.bind_eq e
    clear e
    obtain ⟨u, ρ2, e2, e⟩ := Res.bind_eq w1
    clear w1
    refine ⟨ρ, T, _, _, c, Rp, e1, fun v H1 c1 R1 => ⟨ρ1, .ov v _ :: T, _, _, c1, R1.perm List.perm_middle.symm, e2, fun v2 H2 c2 R2 => ?_⟩⟩
    have R3 := (R2.frz.perm ((List.perm_middle.cons _).trans (.swap _ _ _))).frz
    split at e
    · rename_i xs ys hd1 hd2
      cases e
      rw [hd1, hd2] at R3
      obtain ⟨p, vs, rfl, hp, lp, _⟩ := R3.lend.shL (List.mem_cons_self ..) rfl
      obtain ⟨q, ws, rfl, hq, lq, _⟩ := (R3.perm (.swap _ _ _)).lend.shL (List.mem_cons_self ..) rfl
      exact ⟨p, q, vs, ws, rfl, .inl ⟨.inl hp, .inl hq, k _ _ _ c2 its_zip R3⟩⟩
    · rename_i xs ys hd1 hd2
      cases e
      rw [hd1, hd2] at R3
      obtain ⟨p, vs, rfl, hp, lp, _⟩ := R3.lend.shT (List.mem_cons_self ..) rfl
      obtain ⟨q, ws, rfl, hq, lq, _⟩ := (R3.perm (.swap _ _ _)).lend.shT (List.mem_cons_self ..) rfl
      exact ⟨p, q, vs, ws, rfl, .inr ⟨hp, hq, k _ _ _ c2 its_zipT R3⟩⟩
    · cases e
def mRev (m : M O) : M (List D) := fun ρ => (m ρ).bind fun o ρ1 => match o.toD with
  | .lst ds => .ok ds.reverse ρ1
  | .tup ds => .ok ds.reverse ρ1
  | _ => .no
theorem si_rev {tg a : Expr} {p pos : Pos} {m : M O} (hg : Gl X "reversed") (hm : X.mg "reversed" = none) (ha : SE X a m) (hs : starEach (a :: []) X.env = (false, eval a X.env) :: starEach [] X.env := by rfl) : SI X tg (.Call (.Name "reversed" p) [a] [] pos) (mRev m) :=
  PI.imp (RT.pi_revA hg hm ha hs) fun σ H R w => by
    obtain ⟨ρ, T, ds, ρ', c, Rp, e, k⟩ := w
    obtain ⟨o, ρ1, e1, e⟩ := Res.bind_eq e
    refine ⟨ρ, T, o, _, c, Rp, e1, fun v H' c' R' => ?_⟩
    have R2 := R'.frz
    split at e
    · rename_i es hd
      cases e
      rw [hd] at R2
      obtain ⟨p, vs, rfl, hp, lp, _⟩ := R2.lend.shL (List.mem_cons_self ..) rfl
      exact ⟨p, vs, rfl, .inl ⟨.inl hp, k _ _ _ c' (Itv_list lp) R2⟩⟩
    · rename_i es hd
      cases e
      rw [hd] at R2
      obtain ⟨p, vs, rfl, hp, lp, _⟩ := R2.lend.shT (List.mem_cons_self ..) rfl
      exact ⟨p, vs, rfl, .inr ⟨hp, k _ _ _ c' (Itv_tup lp) R2⟩⟩
    · cases e
end
end FB

/-! Comprehensions; defs and their calls. -/
namespace FB
open PySem PySem.Spec L2
open PyProof.Rows hiding St

section
variable {X : Cx} {K : PySem.W.Frag} {mg : Str → Option Value}
/-! ### comprehensions -/
abbrev own2 (own : List (Str × Nat)) : List Nat := own.map (·.2)
def wipeE (ρ : Env) : List Nat → Env
  | [] => ρ
  | v :: vs => (wipeE ρ vs).set v none
/-- the own names as they stood ahead -/
def backE (ρ2 ρ1 : Env) : List Nat → Env
  | [] => ρ2
  | v :: vs => match (wipeE ρ1 vs)[v]? with
    | some (some o) => (backE ρ2 ρ1 vs).set v (some o)
    | _ => backE ρ2 ρ1 vs
theorem wipeE_len (ρ : Env) : ∀ own : List Nat, (wipeE ρ own).length = ρ.length
  | [] => rfl
  | v :: vs => by unfold wipeE; rw [List.length_set, wipeE_len ρ vs]
theorem Cov.wipe {σ : L2.St} {ρ : Env} (c : Cov σ ρ) : ∀ own : List Nat, Cov (wipe σ own) (wipeE ρ own)
  | [] => c
  | v :: vs => by
    have ih := Cov.wipe c vs
    unfold L2.wipe wipeE
    refine ⟨by simp [ih.len], fun i o h => ?_⟩
    by_cases e : v = i
    · subst e
      have : v < (wipeE ρ vs).length := by
        have := (List.getElem?_eq_some_iff.mp h).1
        simpa using this
      simp [this] at h
    · rw [List.getElem?_set_ne e] at h ⊢
      exact ih.ex i o h
theorem wipeE_cons (ρ : Env) (v : Nat) (vs : List Nat) : wipeE ρ (v :: vs) = (wipeE ρ vs).set v none := rfl
theorem wipeE_none {ρ : Env} : ∀ {own : List Nat} {v : Nat} {o : O}, v ∈ own → (wipeE ρ own)[v]? ≠ some (some o)
  | [], _, _, h => by simp at h
  | w :: ws, v, o, h => by
    rw [wipeE_cons]
    by_cases e : w = v
    · subst e
      intro z
      have : w < (wipeE ρ ws).length := by
        have := (List.getElem?_eq_some_iff.mp z).1
        simpa using this
      simp [this] at z
    · rw [List.getElem?_set_ne e]
      have : v ∈ ws := by rcases List.mem_cons.mp h with q | q; exact absurd q.symm e; exact q
      exact wipeE_none this
theorem wipe_out {σ : L2.St} {i : Nat} : ∀ {vs : List Nat}, i ∉ vs → (wipe σ vs)[i]? = σ[i]?
  | [], _ => rfl
  | v :: vs, h => by
    unfold wipe
    rw [List.getElem?_set_ne (fun z => h (by rw [z]; exact List.mem_cons_self ..))]
    exact wipe_out fun z => h (List.mem_cons_of_mem _ z)
theorem pairs_congr : ∀ {σ σ' : L2.St} {ρ : Env}, σ.length = σ'.length → (∀ (i : Nat) (o : O), ρ[i]? = some (some o) → σ[i]? = σ'[i]?) → pairs σ ρ = pairs σ' ρ
  | [], [], _, _, _ => rfl
  | [], _ :: _, _, hl, _ => by simp at hl
  | _ :: _, [], _, hl, _ => by simp at hl
  | a :: σ, a' :: σ', [], _, _ => by rw [pairs_nil', pairs_nil']
  | a :: σ, a' :: σ', b :: ρ, hl, h => by
    have t := pairs_congr (σ := σ) (σ' := σ') (ρ := ρ) (by simpa using hl) (fun i o e => by simpa using h (i + 1) o (by simpa using e))
    cases b with
    | none => rw [pairs_sn, pairs_sn, t]
    | some b =>
      have e := h 0 b (by simp)
      simp at e
      subst e
      cases a with
      | none => rw [pairs_ns, pairs_ns, t]
      | some a => rw [pairs_ss, pairs_ss, t]
theorem pairs_wipe {σ : L2.St} {ρ : Env} (own : List Nat) : pairs (wipe σ own) (wipeE ρ own) = pairs σ (wipeE ρ own) :=
  pairs_congr (wipe_length _ _) fun i o e => wipe_out fun z => wipeE_none z e
theorem pairs_wipe2 {σ : L2.St} {ρ : Env} {own : List Nat} (h : ∀ v ∈ own, ∀ o, ρ[v]? ≠ some (some o)) : pairs (wipe σ own) ρ = pairs σ ρ :=
  pairs_congr (wipe_length _ _) fun i o e => wipe_out fun z => h i z o e
/-- the own slots' things stand aside -/
theorem aside {σ : L2.St} {ρ : Env} (c : Cov σ ρ) : ∀ own : List Nat, own.Nodup → ∃ R : List Item, (pairs σ ρ).Perm (R ++ pairs σ (wipeE ρ own)) ∧
    ∀ ρ2 : Env, Cov σ ρ2 → (∀ v ∈ own, ∀ o, ρ2[v]? ≠ some (some o)) → Cov σ (backE ρ2 ρ own) ∧ (R ++ pairs σ ρ2).Perm (pairs σ (backE ρ2 ρ own))
  | [], _ => ⟨[], .refl _, fun ρ2 c2 _ => ⟨c2, .refl _⟩⟩
  | v :: vs, nd => by
    obtain ⟨hv, nd'⟩ := List.nodup_cons.mp nd
    obtain ⟨R, p, back⟩ := aside c vs nd'
    have cw := Cov.wipe c vs
    by_cases q : ∃ o, (wipeE ρ vs)[v]? = some (some o)
    · obtain ⟨o, e⟩ := q
      obtain ⟨w, hw0⟩ := cw.ex v o e
      have hw : σ[v]? = some (some w) := (wipe_some hw0).1
      refine ⟨.ov w o :: R, ?_, fun ρ2 c2 hn => ?_⟩
      · refine p.trans ?_
        rw [wipeE_cons]
        exact ((pairs_take hw e).append_left R).trans List.perm_middle
      · obtain ⟨c3, p3⟩ := back ρ2 c2 fun u hu => hn u (List.mem_cons_of_mem _ hu)
        have e2 : backE ρ2 ρ (v :: vs) = (backE ρ2 ρ vs).set v (some o) := by
          show (match (wipeE ρ vs)[v]? with | some (some o) => (backE ρ2 ρ vs).set v (some o) | _ => backE ρ2 ρ vs) = _
          rw [e]
        rw [e2]
        have hl : v < ρ.length := by
          have := (List.getElem?_eq_some_iff.mp e).1
          rwa [wipeE_len] at this
        have hl3 : v < (backE ρ2 ρ vs).length := by rw [← c3.len, c.len]; exact hl
        have hnone : ∀ u, (backE ρ2 ρ vs)[v]? ≠ some (some u) := by
          have out : ∀ {vs : List Nat}, v ∉ vs → ∀ u, (backE ρ2 ρ vs)[v]? ≠ some (some u) := by
            intro vs
            induction vs with
            | nil => intro _ u; exact hn v (List.mem_cons_self ..) u
            | cons a as ih =>
              intro hm u
              unfold backE
              have h1 : v ≠ a := fun z => hm (by rw [z]; exact List.mem_cons_self ..)
              have h2 := ih (fun z => hm (List.mem_cons_of_mem _ z)) u
              split
              · rw [List.getElem?_set_ne (Ne.symm h1)]; exact h2
              · exact h2
          exact out hv
        refine ⟨c3.put hw _, ?_⟩
        refine (p3.cons (.ov w o)).trans ?_
        have e3 : pairs σ ((backE ρ2 ρ vs).set v none) = pairs σ (backE ρ2 ρ vs) := pairs_none hnone
        have := pairs_back (σ := σ) (ρ := backE ρ2 ρ vs) (o := o) hw hl3
        rw [e3] at this
        exact this
    · refine ⟨R, ?_, fun ρ2 c2 hn => ?_⟩
      · rw [wipeE_cons, pairs_none fun o e => q ⟨o, e⟩]
        exact p
      · obtain ⟨c3, p3⟩ := back ρ2 c2 fun u hu => hn u (List.mem_cons_of_mem _ hu)
        have e2 : backE ρ2 ρ (v :: vs) = backE ρ2 ρ vs := by
          show (match (wipeE ρ vs)[v]? with | some (some o) => (backE ρ2 ρ vs).set v (some o) | _ => backE ρ2 ρ vs) = _
          split
          · rename_i o e; exact absurd ⟨o, e⟩ q
          · rfl
        rw [e2]
        exact ⟨c3, p3⟩
theorem wipe_wipe (σ : L2.St) (own : List Nat) : wipe (wipe σ own) own = wipe σ own := by
  apply List.ext_getElem?
  intro i
  by_cases h : i ∈ own
  · have n : ∀ (τ : L2.St), (wipe τ own)[i]? = if i < τ.length then some none else none := fun τ => by
      split
      · rename_i hi
        cases q : (wipe τ own)[i]? with
        | none => rw [List.getElem?_eq_none_iff, wipe_length] at q; omega
        | some u =>
          cases u with
          | none => rfl
          | some x => exact absurd h (wipe_some q).2
      · rename_i hi
        rw [List.getElem?_eq_none_iff, wipe_length]; omega
    rw [n, n, wipe_length]
  · rw [wipe_out h]
theorem wipeE_id {ρ : Env} : ∀ {own : List Nat}, (∀ v ∈ own, ∀ o, ρ[v]? ≠ some (some o)) → wipeE ρ own = ρ
  | [], _ => rfl
  | v :: vs, h => by
    rw [wipeE_cons, wipeE_id fun u hu => h u (List.mem_cons_of_mem _ hu)]
    apply List.ext_getElem?
    intro i
    by_cases e : v = i
    · subst e
      by_cases hv : v < ρ.length
      · rw [List.getElem?_set_self hv]
        cases q : ρ[v]? with
        | none => rw [List.getElem?_eq_none_iff] at q; omega
        | some u => cases u with
          | none => rfl
          | some o => exact absurd q (h v (List.mem_cons_self ..) o)
      · rw [List.getElem?_eq_none_iff.mpr (by simpa using hv), List.getElem?_eq_none_iff.mpr (by omega)]
    · rw [List.getElem?_set_ne e]
def compL (own : List Nat) (a : D → Env → Option Env) (t : M Bool) (e : M O) : List D → M (List O)
  | [] => fun ρ => .ok [] ρ
  | d :: ds => fun ρ => match a d ρ with
    | none => .no
    | some ρ1 => (t ρ1).bind fun b ρ2 => if b = true then (e ρ2).bind fun o ρ3 => (compL own a t e ds (wipeE ρ3 own)).bind fun os ρ4 => .ok (o :: os) ρ4 else compL own a t e ds (wipeE ρ2 own)
def mComp (it : M (List D)) (own : List Nat) (a : D → Env → Option Env) (t : M Bool) (e : M O) : M O := fun ρ => (it ρ).bind fun ds ρ1 => if ds.length ≤ 1000000 then (compL own a t e ds (wipeE ρ1 own)).bind fun os ρ2 => .ok (.lst os) (backE (wipeE ρ2 own) ρ1 own) else .no
def mTrue : M Bool := fun ρ => .ok true ρ
def SETs (X : Cx) (ifs : List Expr) (m : M Bool) : Prop := PTs X ifs (tMT X.K X.mg m)
theorem sets_nil : SETs X [] mTrue := ⟨fun pins s σ H Q I w => by
  obtain ⟨ρ, T, b, ρ', c, R, e, k⟩ := w
  cases e
  exact pts_nil.run pins s σ H Q I (k H c R)⟩
theorem sets_one {c : Expr} {m : M Bool} (h : SET X c m) : SETs X [c] m := pts_one h
theorem compL_len {own : List Nat} {a : D → Env → Option Env} {t : M Bool} {e : M O} : ∀ {ds : List D} {ρ ρ' : Env} {os : List O}, compL own a t e ds ρ = .ok os ρ' → os.length ≤ ds.length
  | [], ρ, ρ', os, h => by cases h; simp
  | d :: ds, ρ, ρ', os, h => by
    unfold compL at h
    cases e1 : a d ρ with
    | none => rw [e1] at h; cases h
    | some ρ1 =>
      rw [e1] at h
      obtain ⟨b, ρ2, e2, h⟩ := Res.bind_eq h
      split at h
      · obtain ⟨o, ρ3, e3, h⟩ := Res.bind_eq h
        obtain ⟨os', ρ4, e4, h⟩ := Res.bind_eq h
        cases h
        have := compL_len e4
        simp; omega
      · have := compL_len h
        simp; omega
theorem comp_core0 {own : List Nat} {g : TG} {tt : TT} {te : TE} {a : D → Env → Option Env} {t : M Bool} {e : M O} {J : It} {ks T : List Item} {ds : List D} {ρ1 ρ2 : Env} {fin : List O} {σ : L2.St} {H1 : Hp} {Q : VK} {D : Addr} (nd : own.Nodup)
    (hg : ∀ v σ H Q, tG K mg (Wip own) a v σ H Q → g v σ H Q) (ht : ∀ σ H Q, tMT K mg t σ H Q → tt σ H Q) (he : ∀ σ H Q, tM K mg e σ H Q → te σ H Q) (hlen : ds.length ≤ 1000000) (c1 : Cov σ ρ1) (hJ : Its K mg J ks ds)
    (R1 : Rep K mg H1 (ks ++ (pairs σ ρ1 ++ T)) []) (e2 : compL own a t e ds (wipeE ρ1 own) = .ok fin ρ2) (hD : H1 D = none)
    (k : ∀ H', Cov σ (backE (wipeE ρ2 own) ρ1 own) → Rep K mg H' (.ov (.ref D) (.lst fin) :: (ks ++ (pairs σ (backE (wipeE ρ2 own) ρ1 own) ++ T))) [] → Q (.ref D) H') :
    ∃ W : Nat → Nat → Hp → Prop, (∃ m, W 0 m (upd H1 D (.lst []))) ∧ ∀ i m H, W i m H →
      (J.stop i H ∧ Q (.ref D) H) ∨ (J.go i H ∧ ∃ Nx : Hp → Prop, (∀ H', Nx H' → ∃ m', m' < m ∧ W (i + 1) m' H') ∧ ∀ x H', J.yld i H x H' → g x (wipe σ own) H' fun σ2 H2 => wipe σ2 own = wipe σ own ∧ tt σ2 H2 fun b H3 =>
        if b = true then te σ2 H3 fun y H4 => ∃ acc, H4 D = some (.lst acc) ∧ acc.length < sizeLine ∧ Nx (upd H4 D (.lst (acc ++ [y]))) else Nx H3) := by
  obtain ⟨R, p, back⟩ := aside c1 own nd
  have cw := Cov.wipe c1 own
  let W : Nat → Hp → Prop := fun i H' => ∃ ρ' acc os os', i ≤ ds.length ∧ Cov (wipe σ own) ρ' ∧ (∀ v ∈ own, ∀ o, ρ'[v]? ≠ some (some o)) ∧ acc.length = os.length ∧ fin = os ++ os' ∧
    Rep K mg H' (.raw D (.lst acc) :: (zipI acc os ++ (ks ++ (pairs (wipe σ own) ρ' ++ (R ++ T))))) [] ∧ compL own a t e (ds.drop i) ρ' = .ok os' ρ2
  refine ⟨fun i n H' => n = ds.length - i ∧ W i H', ⟨ds.length, by simp, wipeE ρ1 own, [], [], fin, Nat.zero_le _, cw, fun v hv o => wipeE_none hv, rfl, rfl, ?_, e2⟩, ?_⟩
  · rw [pairs_wipe]
    refine (R1.perm ?_).new hD
    show (ks ++ (pairs σ ρ1 ++ T)).Perm (ks ++ (pairs σ (wipeE ρ1 own) ++ (R ++ T)))
    refine List.Perm.append_left _ ?_
    rw [← List.append_assoc]
    exact (p.trans List.perm_append_comm).append_right T
  · rintro i n H2 ⟨rfl, ρ3, acc, os, os', hi', c3, hn3, hl, hf, R3, e3⟩
    have p3 : ∀ (Z : List Item) (M : List Item), (.raw D (.lst acc) :: (zipI acc os ++ (ks ++ M)) : List Item).Perm (ks ++ (.raw D (.lst acc) :: (zipI acc os ++ M))) := fun _ M => by
      refine List.Perm.trans (List.Perm.cons _ ?_) List.perm_middle.symm
      rw [← List.append_assoc, ← List.append_assoc]
      exact List.perm_append_comm.append_right _
    by_cases hlt : i < ds.length
    · have hd : ds[i]? = some ds[i] := by simp [hlt]
      obtain ⟨hgo, hy⟩ := (hJ _ H2 (R3.perm (p3 [] _))).1 i _ hd
      refine .inr ⟨hgo, fun H' => W (i + 1) H', fun H' q => ⟨ds.length - (i + 1), by omega, rfl, q⟩, fun x H3 y => ?_⟩
      obtain ⟨_, R4⟩ := hy x H3 y
      rw [drop_cons hlt] at e3
      unfold compL at e3
      cases e4 : a ds[i] ρ3 with
      | none => rw [e4] at e3; cases e3
      | some ρ4 =>
        rw [e4] at e3
        obtain ⟨b, ρ5, e5, e3⟩ := Res.bind_eq e3
        -- the frame of the turn
        have F : List Item := ks ++ (.raw D (.lst acc) :: (zipI acc os ++ (R ++ T)))
        have pF : ∀ (M : List Item), (ks ++ (.raw D (.lst acc) :: (zipI acc os ++ (M ++ (R ++ T)))) : List Item).Perm (M ++ (ks ++ (.raw D (.lst acc) :: (zipI acc os ++ (R ++ T))))) := fun M => by
          have q1 : (zipI acc os ++ (M ++ (R ++ T))).Perm (M ++ (zipI acc os ++ (R ++ T))) := rot _ _ _
          have q2 : (.raw D (.lst acc) :: (zipI acc os ++ (M ++ (R ++ T))) : List Item).Perm (M ++ (.raw D (.lst acc) :: (zipI acc os ++ (R ++ T)))) := (q1.cons _).trans List.perm_middle.symm
          exact (q2.append_left ks).trans (rot _ _ _)
        refine hg x (wipe σ own) H3 _ ⟨ρ3, _, ds[i], ρ4, c3, R4.perm ((pF _).cons _), e4, fun σ4 f4 c4 R5 => ?_⟩
        have fw : wipe σ4 own = wipe σ own := by
          have q : wipe σ4 own = wipe (wipe σ own) own := f4
          rw [q]
          exact wipe_wipe σ own
        refine ⟨fw, ht σ4 H3 _ ⟨ρ4, _, b, ρ5, c4, R5, e5, fun H5 c5 R6 => ?_⟩⟩
        have next : ∀ {H' : Hp} {ρ' : Env} {acc' : List V} {os2 : List O} {os3 : List O}, Cov σ4 ρ' → acc'.length = os2.length → fin = os2 ++ os3 → Rep K mg H' (pairs σ4 ρ' ++ (ks ++ (.raw D (.lst acc') :: (zipI acc' os2 ++ (R ++ T))))) [] → compL own a t e (ds.drop (i + 1)) (wipeE ρ' own) = .ok os3 ρ2 → W (i + 1) H' := by
          intro H' ρ' acc' os2 os3 cv hl' hf' R' e'
          refine ⟨wipeE ρ' own, acc', os2, os3, hlt, by rw [← fw]; exact Cov.wipe cv own, fun v hv o => wipeE_none hv, hl', hf', ?_, e'⟩
          obtain ⟨Rx, px, _⟩ := aside cv own nd
          have R7 : Rep K mg H' (Rx ++ (pairs σ4 (wipeE ρ' own) ++ (ks ++ (.raw D (.lst acc') :: (zipI acc' os2 ++ (R ++ T)))))) [] := R'.perm ((px.append_right _).trans (by rw [List.append_assoc]))
          have R8 := R7.drops
          have e8 : pairs σ4 (wipeE ρ' own) = pairs (wipe σ own) (wipeE ρ' own) := by rw [← fw, pairs_wipe]
          rw [e8] at R8
          refine R8.perm ?_
          have q0 : (ks ++ (.raw D (.lst acc') :: (zipI acc' os2 ++ (R ++ T))) : List Item).Perm (.raw D (.lst acc') :: (zipI acc' os2 ++ (ks ++ (R ++ T)))) := by
            exact List.perm_middle.trans (List.Perm.cons _ (rot _ _ _))
          refine (q0.append_left _).trans ?_
          refine List.perm_middle.trans (List.Perm.cons _ ?_)
          exact (rot _ _ _).trans (List.Perm.append_left _ (rot _ _ _))
        cases b with
        | true =>
          rw [if_pos rfl] at e3
          refine iteT ?_
          obtain ⟨o, ρ6, e6, e3⟩ := Res.bind_eq e3
          obtain ⟨os'', ρ7, e7, e3⟩ := Res.bind_eq e3
          cases e3
          refine he σ4 H5 _ ⟨ρ5, _, o, ρ6, c5, R6, e6, fun y H6 c6 R7 => ?_⟩
          have pD : (.ov y o :: (pairs σ4 ρ6 ++ (ks ++ (.raw D (.lst acc) :: (zipI acc os ++ (R ++ T))))) : List Item).Perm (.raw D (.lst acc) :: (.ov y o :: (pairs σ4 ρ6 ++ (ks ++ (zipI acc os ++ (R ++ T)))))) := by
            refine List.Perm.trans (List.Perm.cons _ ?_) (.swap _ _ _)
            exact (List.Perm.append_left _ List.perm_middle).trans List.perm_middle
          have R8 := R7.perm pD
          have hlen3 : acc.length < 1000000 := by
            have q := compL_len e2
            rw [hf, List.length_append, List.length_cons] at q
            omega
          refine ⟨acc, R8.rawAt, by rw [sizeLine_eq]; omega, ?_⟩
          have R9 := R8.write (o' := .lst (acc ++ [y]))
          refine next (acc' := acc ++ [y]) (os2 := os ++ [o]) (os3 := os'') c6 (by simp [hl]) (by rw [hf, List.append_assoc]; rfl) (R9.perm ?_) e7
          have ez : zipI (acc ++ [y]) (os ++ [o]) = zipI acc os ++ [.ov y o] := by
            unfold zipI
            rw [List.zipWith_append hl]; rfl
          rw [ez]
          refine List.Perm.trans ?_ (List.Perm.append_left _ (List.Perm.append_left _ (List.Perm.cons _ (List.Perm.append_right _ List.perm_append_comm))))
          show (.raw D (.lst (acc ++ [y])) :: .ov y o :: (pairs σ4 ρ6 ++ (ks ++ (zipI acc os ++ (R ++ T)))) : List Item).Perm (pairs σ4 ρ6 ++ (ks ++ (.raw D (.lst (acc ++ [y])) :: .ov y o :: (zipI acc os ++ (R ++ T)))))
          have q : ∀ (A B C : List Item) (u w : Item), (u :: w :: (A ++ (B ++ C))).Perm (A ++ (B ++ (u :: w :: C))) := fun A B C u w => by
            refine List.Perm.trans ?_ (List.Perm.append_left _ (List.perm_middle.symm))
            refine List.Perm.trans ?_ List.perm_middle.symm
            refine List.Perm.cons _ ?_
            refine List.Perm.trans ?_ (List.Perm.append_left _ (List.perm_middle.symm))
            exact List.perm_middle.symm
          exact q _ _ _ _ _
        | false =>
          rw [if_neg Bool.false_ne_true] at e3
          refine iteF ?_
          exact next c5 hl hf R6 e3
    · have ei : i = ds.length := by omega
      subst ei
      rw [List.drop_length] at e3
      cases e3
      rw [List.append_nil] at hf
      subst hf
      refine .inl ⟨(hJ _ H2 (R3.perm (p3 [] _))).2, ?_⟩
      have e4 : wipeE ρ2 own = ρ2 := wipeE_id hn3
      have c4 : Cov σ ρ2 := ⟨by rw [← c3.len, wipe_length], fun i o h => by
        obtain ⟨v, hv⟩ := c3.ex i o h
        exact ⟨v, (wipe_some hv).1⟩⟩
      obtain ⟨c5, p5⟩ := back ρ2 c4 hn3
      rw [e4] at k
      refine k H2 c5 ?_
      rw [pairs_wipe2 hn3] at R3
      have R4 := Rep.closeL R3 hl
      refine R4.perm (List.Perm.cons _ (List.Perm.append_left _ ?_))
      rw [← List.append_assoc]
      exact (List.perm_append_comm.trans p5).append_right T
theorem comp_core {tg iter elt : Expr} {own : List Nat} {wi : TI} {g : TG} {tt : TT} {te : TE} {it : M (List D)} {a : D → Env → Option Env} {t : M Bool} {e : M O} (nd : own.Nodup)
    (hi : ∀ σ H R, tI K mg it σ H R → wi σ H R) (hg : ∀ v σ H Q, tG K mg (Wip own) a v σ H Q → g v σ H Q) (ht : ∀ σ H Q, tMT K mg t σ H Q → tt σ H Q) (he : ∀ σ H Q, tM K mg e σ H Q → te σ H Q)
    (σ : L2.St) (H : Hp) (Q : VK) (w : tM K mg (mComp it own a t e) σ H Q) : tLc wi g tt te own σ H Q := by
  obtain ⟨ρ, T, o, ρ', c, Rp, e0, k⟩ := w
  obtain ⟨ds, ρ1, e1, e0⟩ := Res.bind_eq e0
  split at e0
  · rename_i hlen
    obtain ⟨fin, ρ2, e2, e0⟩ := Res.bind_eq e0
    cases e0
    refine hi σ H _ ⟨ρ, T, ds, ρ1, c, Rp, e1, fun J ks H1 c1 hJ R1 D hD => ?_⟩
    exact comp_core0 nd hg ht he hlen c1 hJ R1 e2 hD fun H' c' R' => k _ H' c' ((R'.perm List.perm_middle.symm).drops)
  · cases e0
theorem se_comp {tg iter elt : Expr} {ifs : List Expr} {scope : Scope} {own : List (Str × Nat)} {pos : Pos} {it : M (List D)} {a : D → Env → Option Env} {t : M Bool} {e : M O} (ok : CxOk X) (hi : SI X tg iter it) (bo : BlkOk X.N X.env.scope scope own)
    (hg : ∀ (s : Shared) (H : Hp) (C : Addr) (cl : List (Str × Addr)) (fp : List Addr), SG (X.blk s H scope (compEnvC scope cl C X.env) fp) (Wip (own2 own)) tg a) (ht : ∀ (s : Shared) (H : Hp) (C : Addr) (cl : List (Str × Addr)) (fp : List Addr), SETs (X.blk s H scope (compEnvC scope cl C X.env) fp) ifs t)
    (he : ∀ (s : Shared) (H : Hp) (C : Addr) (cl : List (Str × Addr)) (fp : List Addr), SE (X.blk s H scope (compEnvC scope cl C X.env) fp) elt e) (nd : (own2 own).Nodup := by decide) (hs : ∀ x, foldedSetIterable iter X.env x = pure x := by intro _; rfl) :
    SE X (.ListComp elt [⟨tg, iter, ifs, 0⟩] scope pos) (mComp it (own2 own) a t e) := PE.imp (pe_lc (wi := tI X.K X.mg it) (g := tG X.K X.mg (Wip (own2 own)) a) (tt := tMT X.K X.mg t) (te := tM X.K X.mg e) ok.calm ok.nd hi bo hg ht he hs) (comp_core (tg := tg) (iter := iter) (elt := elt) nd (fun _ _ _ w => w) (fun _ _ _ _ w => w) (fun _ _ _ w => w) (fun _ _ _ w => w))

/-- name = [..], on one line, the name a local of the def's -/
theorem ss_setLcO (i : Nat) {P : List Nat} {y : Str} {py : Pos} {tg iter elt : Expr} {ifs : List Expr} {scope : Scope} {own : List (Str × Nat)} {pos spos : Pos} {it : M (List D)} {a : D → Env → Option Env} {t : M Bool} {e : M O} (ok : CxOk X) (hy : X.N[i]? = some y) (hyl : X.env.scope.names.lookup y = some .local)
    (hsw : swapsWith (.ListComp elt [⟨tg, iter, ifs, 0⟩] scope pos) (some (.Name y py)) spos.line X.env = pure true) (hi : SI X tg iter it) (bo : BlkOk X.N X.env.scope scope own)
    (hg : ∀ (s : Shared) (H : Hp) (C : Addr) (cl : List (Str × Addr)) (fp : List Addr), SG (X.blk s H scope (compEnvC scope cl C X.env) fp) (Wip (own2 own)) tg a) (ht : ∀ (s : Shared) (H : Hp) (C : Addr) (cl : List (Str × Addr)) (fp : List Addr), SETs (X.blk s H scope (compEnvC scope cl C X.env) fp) ifs t)
    (he : ∀ (s : Shared) (H : Hp) (C : Addr) (cl : List (Str × Addr)) (fp : List Addr), SE (X.blk s H scope (compEnvC scope cl C X.env) fp) elt e) (hP : i ∉ P := by decide) (nd : (own2 own).Nodup := by decide) (hs : ∀ x, foldedSetIterable iter X.env x = pure x := by intro _; rfl) :
    SS X P (.Assign [.Name y py] (.ListComp elt [⟨tg, iter, ifs, 0⟩] scope pos) spos) (mSetO i (mComp it (own2 own) a t e)) :=
  PS.imp (ps_setLc (wi := tI X.K X.mg it) (g := tG X.K X.mg (Wip (own2 own)) a) (tt := tMT X.K X.mg t) (te := tM X.K X.mg e) ok.calm ok.nd hy hyl hsw hi bo hg ht he hs) fun D σ H w => by
    obtain ⟨ρ, T, c, R, h⟩ := tS_iff.mp w
    unfold mSetO at h
    cases e1 : mComp it (own2 own) a t e ρ with
    | ok o ρ1 =>
      rw [e1] at h
      exact comp_core (tg := tg) (iter := iter) (elt := elt) nd (fun _ _ _ w => w) (fun _ _ _ _ w => w) (fun _ _ _ w => w) (fun _ _ _ w => w) σ H _ ⟨ρ, T, o, ρ1, c, R, e1, fun v H' c' R' => h _ H' (Fix.set hP) (c'.set i v o) (Rep.store c' R')⟩
    | exc x ρ1 => rw [e1] at h; exact h.elim
    | no => rw [e1] at h; exact h.elim
theorem ss_setLcP (i : Nat) {P : List Nat} {y : Str} {py : Pos} {tg iter elt : Expr} {ifs : List Expr} {scope : Scope} {own : List (Str × Nat)} {pos spos : Pos} {it : M (List D)} {a : D → Env → Option Env} {t : M Bool} {e : M O} (ok : CxOk X) (hy : X.N[i]? = some y) (hyl : X.env.scope.names.lookup y = some .local)
    (hsw : swapsWith (.ListComp elt [⟨tg, iter, ifs, 0⟩] scope pos) (some (.Name y py)) spos.line X.env = pure true) (hi : SI X tg iter it) (bo : BlkOk X.N X.env.scope scope own)
    (hg : ∀ (s : Shared) (H : Hp) (C : Addr) (cl : List (Str × Addr)) (fp : List Addr), SG (X.blk s H scope (compEnvC scope cl C X.env) fp) (Wip (own2 own)) tg a) (ht : ∀ (s : Shared) (H : Hp) (C : Addr) (cl : List (Str × Addr)) (fp : List Addr), SETs (X.blk s H scope (compEnvC scope cl C X.env) fp) ifs t)
    (he : ∀ (s : Shared) (H : Hp) (C : Addr) (cl : List (Str × Addr)) (fp : List Addr), SE (X.blk s H scope (compEnvC scope cl C X.env) fp) elt e) (hP : i ∉ P := by decide) (nd : (own2 own).Nodup := by decide) (hs : ∀ x, foldedSetIterable iter X.env x = pure x := by intro _; rfl) :
    SS X P (.Assign [.Name y py] (.ListComp elt [⟨tg, iter, ifs, 0⟩] scope pos) spos) (mSetP i (mComp it (own2 own) a t e)) :=
  PS.imp (ps_setLc (wi := tI X.K X.mg it) (g := tG X.K X.mg (Wip (own2 own)) a) (tt := tMT X.K X.mg t) (te := tM X.K X.mg e) ok.calm ok.nd hy hyl hsw hi bo hg ht he hs) fun D σ H w => by
    obtain ⟨ρ, T, c, R, h⟩ := tS_iff.mp w
    unfold mSetP at h
    cases e1 : mComp it (own2 own) a t e ρ with
    | ok o ρ1 =>
      rw [e1] at h
      exact comp_core (tg := tg) (iter := iter) (elt := elt) nd (fun _ _ _ w => w) (fun _ _ _ _ w => w) (fun _ _ _ w => w) (fun _ _ _ w => w) σ H _ ⟨ρ, T, o, ρ1, c, R, e1, fun v H' c' R' => h _ H' (Fix.set hP) (c'.set i v _) (Rep.store c' R'.frz)⟩
    | exc x ρ1 => rw [e1] at h; exact h.elim
    | no => rw [e1] at h; exact h.elim

/-! ### defs, calls -/
abbrev FSem := List O → Option (O × Env)
def maskE (n : Nat) (P : List Nat) (ρ : Env) : Env := (List.range n).map fun i => if P.contains i = true then (ρ[i]?).join else none
def runF (n N : Nat) (P : List Nat) (b : M Fl) : FSem := fun os => match b (os.map some ++ List.replicate (N - os.length) none) with
  | .ok .nx ρ' => some (.val .non, maskE n P ρ')
  | .ok (.ret o) ρ' => some (o, maskE n P ρ')
  | _ => none
/-- a def of n parameters means F -/
def spF (K : PySem.W.Frag) (mg : Str → Option Value) (n : Nat) (F : FSem) : Sp := fun vs H Q _ => ∃ os T o ρ', vs.length = n ∧ os.length = n ∧ Rep K mg H (zipI vs os ++ T) [] ∧ F os = some (o, ρ') ∧ ∀ v H', Rep K mg H' (.ov v o :: (pairs (vs.map some) ρ' ++ T)) [] → Q v H'
theorem pairs_start : ∀ (vs : List V) (os : List O) (m : Nat), vs.length = os.length → pairs (vs.map some ++ List.replicate m none) (os.map some ++ List.replicate m none) = zipI vs os
  | [], [], m, _ => by
    induction m with
    | zero => rfl
    | succ m ih => rw [List.map_nil, List.map_nil, List.nil_append, List.nil_append, List.replicate_succ, List.replicate_succ, pairs_ns]; exact ih
  | [], _ :: _, _, h => by simp at h
  | _ :: _, [], _, h => by simp at h
  | v :: vs, o :: os, m, h => by
    show pairs (some v :: (vs.map some ++ List.replicate m none)) (some o :: (os.map some ++ List.replicate m none)) = .ov v o :: zipI vs os
    rw [pairs_ss, pairs_start vs os m (by simpa using h)]
theorem cov_start (vs : List V) (os : List O) (m : Nat) (h : vs.length = os.length) : Cov (vs.map some ++ List.replicate m none) (os.map some ++ List.replicate m none) := by
  refine ⟨by simp [h], fun i o e => ?_⟩
  by_cases hi : i < os.length
  · refine ⟨vs[i]'(by omega), ?_⟩
    rw [List.getElem?_append_left (by simp; omega), List.getElem?_map]
    simp [show i < vs.length by omega]
  · rw [List.getElem?_append_right (by simp; omega), List.getElem?_replicate] at e
    split at e <;> cases e
/-- some items of the environment, those kept -/
theorem pairs_mask {H : Hp} {T M : List Item} : ∀ {σ : L2.St} {ρ ρ' : Env}, ρ'.length ≤ ρ.length → (∀ (i : Nat) (o : O), ρ'[i]? = some (some o) → ρ[i]? = some (some o)) → Rep K mg H (M ++ (pairs σ ρ ++ T)) [] → Rep K mg H (M ++ (pairs σ ρ' ++ T)) []
  | [], ρ, ρ', hl, h, R => by
    rw [pairs_nil] at R ⊢; exact R
  | s :: σ, ρ, [], hl, h, R => by
    rw [pairs_nil']
    exact (R.perm (rot _ _ _)).drops
  | s :: σ, [], b :: ρ', hl, h, R => by simp at hl
  | s :: σ, a :: ρ, b :: ρ', hl, h, R => by
    have h' : ∀ (i : Nat) (o : O), ρ'[i]? = some (some o) → ρ[i]? = some (some o) := fun i o e => by simpa using h (i + 1) o (by simpa using e)
    have hl' : ρ'.length ≤ ρ.length := by simpa using hl
    cases s with
    | none =>
      rw [pairs_ns] at R ⊢
      exact pairs_mask hl' h' R
    | some v =>
      cases b with
      | none =>
        rw [pairs_sn]
        cases a with
        | none => rw [pairs_sn] at R; exact pairs_mask hl' h' R
        | some o =>
          rw [pairs_ss] at R
          exact pairs_mask hl' h' ((R.perm (List.perm_middle)).drop)
      | some o =>
        have e := h 0 o (by simp)
        simp at e
        subst e
        rw [pairs_ss] at R ⊢
        have R1 : Rep K mg H ((M ++ [.ov v o]) ++ (pairs σ ρ ++ T)) [] := R.perm (by rw [List.append_assoc]; exact List.Perm.refl _)
        exact (pairs_mask hl' h' R1).perm (by rw [List.append_assoc]; exact List.Perm.refl _)
theorem maskE_len (n : Nat) (P : List Nat) (ρ : Env) : (maskE n P ρ).length = n := by unfold maskE; simp
theorem maskE_get {n : Nat} {P : List Nat} {ρ : Env} {i : Nat} {o : O} (h : (maskE n P ρ)[i]? = some (some o)) : i ∈ P ∧ i < n ∧ ρ[i]? = some (some o) := by
  unfold maskE at h
  rw [List.getElem?_map] at h
  by_cases hi : i < n
  · rw [List.getElem?_range hi] at h
    simp only [Option.map_some] at h
    split at h
    · rename_i hP
      refine ⟨by simpa using hP, hi, ?_⟩
      cases q : ρ[i]? with
      | none => rw [q] at h; simp at h
      | some u => rw [q] at h; simp at h; rw [h]
    · simp at h
  · rw [List.getElem?_eq_none_iff.mpr (by simpa using hi)] at h; simp at h
theorem fn_post {H' : Hp} {T M : List Item} {N n : Nat} {P : List Nat} {vs : List V} {σ' : L2.St} {ρ' : Env} (hvn : vs.length = n) (hN : n ≤ N) (hf : Fix P (vs.map some ++ List.replicate (N - n) none) σ') (c : Cov σ' ρ') (hl : σ'.length = N) (R : Rep K mg H' (M ++ (pairs σ' ρ' ++ T)) []) : Rep K mg H' (M ++ (pairs (vs.map some) (maskE n P ρ') ++ T)) [] := by
  have e1 : pairs (vs.map some) (maskE n P ρ') = pairs σ' (maskE n P ρ') := by
    have q1 : pairs (vs.map some) (maskE n P ρ') = pairs (σ'.take n) (maskE n P ρ') := pairs_congr (by simp [hvn, hl]; omega) fun i o e => by
      obtain ⟨hp, hi, _⟩ := maskE_get e
      rw [List.getElem?_take_of_lt hi, hf.2 i hp, List.getElem?_append_left (by simp; omega)]
    have q2 : ∀ {σ : L2.St} {ρ : Env} {n : Nat}, ρ.length = n → pairs (σ.take n) ρ = pairs σ ρ := by
      intro σ
      induction σ with
      | nil => intro ρ n _; simp
      | cons a σ ih =>
        intro ρ n hr
        cases ρ with
        | nil => rw [pairs_nil', pairs_nil']
        | cons b ρ =>
          cases n with
          | zero => simp at hr
          | succ n =>
            rw [List.take_succ_cons]
            have t := ih (ρ := ρ) (n := n) (by simpa using hr)
            cases a with
            | none => rw [pairs_ns, pairs_ns, t]
            | some a =>
              cases b with
              | none => rw [pairs_sn, pairs_sn, t]
              | some b => rw [pairs_ss, pairs_ss, t]
    rw [q1, q2 (maskE_len _ _ _)]
  rw [e1]
  exact pairs_mask (by rw [maskE_len, ← c.len, hl]; exact hN) (fun i o e => (maskE_get e).2.2) R
end
section
variable {P : Program} {w : World} {K : PySem.W.Frag} {mg : Str → Option Value} {base : Heap}
theorem sp_len {n : Nat} {F : FSem} : ∀ vs H Q E, spF K mg n F vs H Q E → vs.length = n := fun vs H Q E h => by
  obtain ⟨os, T, o, ρ', h1, _⟩ := h
  exact h1
theorem body_sem {X : Cx} {N n : Nat} {Pr : List Nat} {st : List Stmt} {b : M Fl} {Ns : List Str} (hNs : Ns.length = N) (hn : n ≤ N) (hb : SSs X Pr st b) {vs : List V} {H : Hp} {Q : VK} {E : XK} (hsp : spF X.K X.mg n (runF n N Pr b) vs H Q E) : ∃ t, PSs X st t ∧ t { nx := fun _ H' => Q .non H', rt := Q } (L2.start Ns vs) H := by
  obtain ⟨os, T, o, ρ', h1, h2, R, e, k⟩ := hsp
  refine ⟨_, hb, tS_iff.mpr ⟨os.map some ++ List.replicate (N - os.length) none, T, ?_, ?_, ?_⟩⟩
  · have : L2.start Ns vs = vs.map some ++ List.replicate (N - os.length) none := by unfold L2.start; rw [hNs, h1, h2]
    rw [this]; exact cov_start vs os _ (by omega)
  · have : L2.start Ns vs = vs.map some ++ List.replicate (N - os.length) none := by unfold L2.start; rw [hNs, h1, h2]
    rw [this, pairs_start vs os _ (by omega)]; exact R
  · unfold runF at e
    have es : L2.start Ns vs = vs.map some ++ List.replicate (N - n) none := by unfold L2.start; rw [hNs, h1]
    cases e1 : b (os.map some ++ List.replicate (N - os.length) none) with
    | exc x ρ1 => rw [e1] at e; cases e
    | no => rw [e1] at e; cases e
    | ok fl ρ1 =>
      rw [e1] at e
      cases fl with
      | brk => cases e
      | ct => cases e
      | nx =>
        cases e
        intro σ' H' f c R'
        rw [es] at f
        have hl : σ'.length = N := by rw [f.1]; simp [h1]; omega
        refine k .non H' (fn_post (M := [.ov .non (.val .non)]) h1 hn f c hl ?_)
        exact R'.scal fun _ => .non
      | ret o =>
        cases e
        intro v σ' H' f c R'
        rw [es] at f
        have hl : σ'.length = N := by rw [f.1]; simp [h1]; omega
        exact k v H' (fn_post (M := [.ov v o]) h1 hn f c hl R')
end
end FB

/-! Calls of defs by name; lists and dicts changed at a name. -/
namespace FB
open PySem PySem.Spec L2
open PyProof.Rows hiding St

section
variable {P : Program} {w : World} {K : PySem.W.Frag} {mg : Str → Option Value} {base : Heap}
/-- the context of a def's body -/
abbrev bodyX (P : Program) (w : World) (K : PySem.W.Frag) (mg : Str → Option Value) (base : Heap) (N : List Str) (qual : Str) (st : Stmt) (f : Addr) (cdv : Value) (A : Around) (outer : List PySem.Env) (s : Shared) (H : Hp) (E : XK) : Cx :=
  (cxOf C8.CX0 P w K mg base N qual (C8.fnScope st) f cdv A outer s H E).nox
theorem bodyOk {N ps : List Str} {qual : Str} {st : Stmt} {f : Addr} {cdv : Value} {A : Around} {outer : List PySem.Env} {s : Shared} {H : Hp} {E : XK} {k : Nat} (S : FnScope N ps (C8.fnScope st)) (hr : Room k (A.deeper (envOfC qual (C8.fnScope st) s.heap.objs.size f cdv))) :
    CxOk (cxOf C8.CX0 P w K mg base N qual (C8.fnScope st) f cdv A outer s H E).nox :=
  ⟨rfl, by show (A.deeper (envOfC qual (C8.fnScope st) s.heap.objs.size f cdv)).units + 65 < cLine; have := hr.un; omega, S.nd⟩
theorem CxOk.blk {X : Cx} (ok : CxOk X) {s : Shared} {H : Hp} {sc : Scope} {e : PySem.Env} {fp : List Addr} : CxOk (X.blk s H sc e fp) := ⟨ok.calm, ok.units, ok.nd⟩
theorem cal_sem {x : Str} {st : Stmt} {f : Addr} {fd : FuncData} {N ps : List Str} {k n m : Nat} {Pr : List Nat} {b : M Fl} (F : C8.Def K mg x st f fd) (bi : Binds K fd ps []) (S : FnScope N ps (C8.fnScope st)) (hn : ps.length = n := by rfl) (hm : N.length = m := by rfl) (hnm : n ≤ m := by decide)
    (hb : ∀ (cdv : Value) (A : Around) (outer : List PySem.Env) (s : Shared) (H : Hp) (E : XK), Room k (A.deeper (envOfC x (C8.fnScope st) s.heap.objs.size f cdv)) → SSs (cxOf C8.CX0 P w K mg base N x (C8.fnScope st) f cdv A outer s H E).nox Pr (C8.fnBody st) b) :
    C8.Cal P w K mg base (k + 1) x (spF K mg n (runF n m Pr b)) [] :=
  C8.cal0 F bi .nil S (fun vs H Q E h => by rw [hn]; exact sp_len vs H Q E h) fun cdv A outer s H vs Q E hr h => body_sem (X := (cxOf C8.CX0 P w K mg base N x (C8.fnScope st) f cdv A outer s H E).nox) (E := E) hm hnm (hb cdv A outer s H E hr) h
end

section
variable {X : Cx} {K : PySem.W.Frag} {mg : Str → Option Value}
/-! ### arguments -/
inductive Arg where
  | v (m : M O)
  | io (i : Nat)
def evA : List Arg → M (List (Option O))
  | [] => fun ρ => .ok [] ρ
  | .v m :: as => fun ρ => (m ρ).bind fun o ρ1 => (evA as ρ1).bind fun os ρ2 => .ok (some o :: os) ρ2
  | .io i :: as => fun ρ => match ρ[i]? with
    | some (some _) => (evA as ρ).bind fun os ρ2 => .ok (none :: os) ρ2
    | _ => .no
def IoOk : List Arg → L2.St → List V → Prop
  | [], _, [] => True
  | .v _ :: as, σ, _ :: vs => IoOk as σ vs
  | .io i :: as, σ, v :: vs => σ[i]? = some (some v) ∧ IoOk as σ vs
  | _, _, _ => False
def takeA : List Arg → List (Option O) → Env → Option (List O × Env)
  | [], [], ρ => some ([], ρ)
  | .v _ :: as, some o :: os, ρ => (takeA as os ρ).map fun r => (o :: r.1, r.2)
  | .io i :: as, none :: os, ρ => match ρ[i]? with
    | some (some o) => (takeA as os (ρ.set i none)).map fun r => (o :: r.1, r.2)
    | _ => none
  | _, _, _ => none
def giveA : List Arg → Env → Env → Env
  | .v _ :: as, _ :: ρc, ρ => giveA as ρc ρ
  | .io i :: as, some o :: ρc, ρ => giveA as ρc (ρ.set i (some o))
  | .io _ :: as, none :: ρc, ρ => giveA as ρc ρ
  | _, _, ρ => ρ
def tAs (K : PySem.W.Frag) (mg : Str → Option Value) (as : List Arg) : TA := fun σ H Q => ∃ ρ T os ρ', Cov σ ρ ∧ Rep K mg H (pairs σ ρ ++ T) [] ∧ evA as ρ = .ok os ρ' ∧
  ∀ vs H', Cov σ ρ' → vs.length = os.length → IoOk as σ vs → Rep K mg H' (pairs (vs.map some) os ++ (pairs σ ρ' ++ T)) [] → Q vs H'
def SAs (X : Cx) (es : List Expr) (as : List Arg) : Prop := PA X es (tAs X.K X.mg as)
theorem sas_nil : SAs X [] [] := PA.imp pa_nil fun σ H Q w => by
  obtain ⟨ρ, T, os, ρ', c, R, e, k⟩ := w
  cases e
  exact k [] H c rfl True.intro R
theorem sas_v {e : Expr} {es : List Expr} {m : M O} {as : List Arg} (h : SE X e m) (hs : SAs X es as) (hst : starEach (e :: es) X.env = (false, eval e X.env) :: starEach es X.env := by rfl) : SAs X (e :: es) (.v m :: as) :=
  PA.imp (pa_cons h hs hst) fun σ H Q w => by
    obtain ⟨ρ, T, os, ρ', c, R, e, k⟩ := w
    obtain ⟨o, ρ1, e1, e⟩ := Res.bind_eq e
    obtain ⟨os', ρ2, e2, e⟩ := Res.bind_eq e
    cases e
    refine ⟨ρ, T, o, ρ1, c, R, e1, fun v H1 c1 R1 => ⟨ρ1, .ov v o :: T, os', ρ', c1, R1.perm List.perm_middle.symm, e2, fun vs H2 c2 hl io R2 => k (v :: vs) H2 c2 (by simp [hl]) io (R2.perm ?_)⟩⟩
    show (pairs (vs.map some) os' ++ (pairs σ ρ' ++ .ov v o :: T)).Perm (.ov v o :: (pairs (vs.map some) os' ++ (pairs σ ρ' ++ T)))
    exact ((List.perm_middle (a := Item.ov v o)).append_left _).trans List.perm_middle
theorem sas_io (i : Nat) {x : Str} {pos : Pos} {es : List Expr} {as : List Arg} (hs : SAs X es as) (hN : X.N[i]? = some x := by rfl) (hv : Vis X.env.scope x := by first | exact Or.inl rfl | exact Or.inr (Or.inl rfl) | exact Or.inr (Or.inr rfl)) (hd : (x == ("__debug__" : Str)) = false := by decide)
    (hcd : (x == ("__classdict__" : Str)) = false := by decide) (hst : starEach (.Name x pos :: es) X.env = (false, eval (.Name x pos) X.env) :: starEach es X.env := by rfl) : SAs X (.Name x pos :: es) (.io i :: as) :=
  PA.imp (pa_cons (pv i hN hv hd hcd) hs hst) fun σ H Q w => by
    obtain ⟨ρ, T, os, ρ', c, R, e, k⟩ := w
    unfold evA at e
    split at e
    · rename_i o e1
      obtain ⟨v, hv⟩ := c.ex i o e1
      obtain ⟨os', ρ2, e2, e⟩ := Res.bind_eq e
      cases e
      exact ⟨v, hv, ρ, T, os', ρ', c, R, e2, fun vs H2 c2 hl io R2 => k (v :: vs) H2 c2 (by simp [hl]) ⟨hv, io⟩ (by
        show Rep X.K X.mg H2 (pairs (some v :: vs.map some) (none :: os') ++ (pairs σ ρ' ++ T)) []
        rw [pairs_sn]; exact R2)⟩
    · cases e
theorem take_ok {H : Hp} {T : List Item} {σ : L2.St} : ∀ {as : List Arg} {os : List (Option O)} {vs : List V} {ρ ρ' : Env} {os' : List O}, Cov σ ρ → IoOk as σ vs → takeA as os ρ = some (os', ρ') → Rep K mg H (pairs (vs.map some) os ++ (pairs σ ρ ++ T)) [] →
    Cov σ ρ' ∧ vs.length = os'.length ∧ Rep K mg H (zipI vs os' ++ (pairs σ ρ' ++ T)) []
  | [], [], [], ρ, ρ', os', c, io, e, R => by cases e; exact ⟨c, rfl, R⟩
  | [], [], _ :: _, _, _, _, _, io, _, _ => io.elim
  | [], _ :: _, _, _, _, _, _, _, e, _ => by cases e
  | .v _ :: _, [], _, _, _, _, _, _, e, _ => by cases e
  | .v _ :: _, none :: _, _, _, _, _, _, _, e, _ => by cases e
  | .v _ :: _, some _ :: _, [], _, _, _, _, io, _, _ => io.elim
  | .v _ :: as, some o :: os, v :: vs, ρ, ρ', os', c, io, e, R => by
    have e : (takeA as os ρ).map (fun r => (o :: r.1, r.2)) = some (os', ρ') := e
    cases e1 : takeA as os ρ with
    | none => rw [e1] at e; cases e
    | some r =>
      rw [e1] at e
      cases e
      have R1 : Rep K mg H (.ov v o :: (pairs (vs.map some) os ++ (pairs σ ρ ++ T))) [] := R
      have R2 : Rep K mg H (pairs (vs.map some) os ++ (pairs σ ρ ++ (.ov v o :: T))) [] := R1.perm (by
        refine List.Perm.trans ?_ (List.Perm.append_left _ List.perm_middle.symm)
        exact List.perm_middle.symm)
      obtain ⟨c', hl, R3⟩ := take_ok (as := as) c io e1 R2
      refine ⟨c', by simp [hl], R3.perm ?_⟩
      show (zipI vs r.1 ++ (pairs σ r.2 ++ .ov v o :: T)).Perm (.ov v o :: (zipI vs r.1 ++ (pairs σ r.2 ++ T)))
      exact (List.Perm.append_left _ List.perm_middle).trans List.perm_middle
  | .io _ :: _, [], _, _, _, _, _, _, e, _ => by cases e
  | .io _ :: _, some _ :: _, _, _, _, _, _, _, e, _ => by cases e
  | .io _ :: _, none :: _, [], _, _, _, _, io, _, _ => io.elim
  | .io i :: as, none :: os, v :: vs, ρ, ρ', os', c, io, e, R => by
    unfold takeA at e
    split at e
    · rename_i o e0
      cases e1 : takeA as os (ρ.set i none) with
      | none => rw [e1] at e; cases e
      | some r =>
        rw [e1] at e
        cases e
        have R1 : Rep K mg H (pairs (vs.map some) os ++ (pairs σ ρ ++ T)) [] := by
          have R : Rep K mg H (pairs (some v :: vs.map some) (none :: os) ++ (pairs σ ρ ++ T)) [] := R
          rw [pairs_sn] at R; exact R
        have p : (pairs σ ρ ++ T).Perm (pairs σ (ρ.set i none) ++ (.ov v o :: T)) :=
          ((pairs_take io.1 e0).append_right T).trans List.perm_middle.symm
        obtain ⟨c', hl, R3⟩ := take_ok (c.setn i) io.2 e1 (R1.perm (p.append_left _))
        refine ⟨c', by simp [hl], R3.perm ?_⟩
        show (zipI vs r.1 ++ (pairs σ r.2 ++ .ov v o :: T)).Perm (.ov v o :: (zipI vs r.1 ++ (pairs σ r.2 ++ T)))
        exact (List.Perm.append_left _ List.perm_middle).trans List.perm_middle
    · cases e
theorem give_ok {H : Hp} {T M : List Item} {σ : L2.St} : ∀ {as : List Arg} {vs : List V} {ρc ρ : Env}, Cov σ ρ → IoOk as σ vs → Rep K mg H (M ++ (pairs (vs.map some) ρc ++ (pairs σ ρ ++ T))) [] →
    Cov σ (giveA as ρc ρ) ∧ Rep K mg H (M ++ (pairs σ (giveA as ρc ρ) ++ T)) []
  | [], vs, ρc, ρ, c, io, R => by
    refine ⟨c, ?_⟩
    exact ((R.perm (rot _ _ _)).drops)
  | .v _ :: as, [], ρc, ρ, c, io, R => io.elim
  | .io _ :: as, [], ρc, ρ, c, io, R => io.elim
  | .v _ :: as, v :: vs, [], ρ, c, io, R => by
    refine ⟨c, ?_⟩
    rw [pairs_nil'] at R
    exact R
  | .io _ :: as, v :: vs, [], ρ, c, io, R => by
    refine ⟨c, ?_⟩
    rw [pairs_nil'] at R
    exact R
  | .v _ :: as, v :: vs, u :: ρc, ρ, c, io, R => by
    have R : Rep K mg H (M ++ (pairs (some v :: vs.map some) (u :: ρc) ++ (pairs σ ρ ++ T))) [] := R
    refine give_ok (as := as) c io ?_
    cases u with
    | none => rw [pairs_sn] at R; exact R
    | some o =>
      rw [pairs_ss] at R
      exact (R.perm List.perm_middle).drop
  | .io i :: as, v :: vs, none :: ρc, ρ, c, io, R => by
    have R : Rep K mg H (M ++ (pairs (some v :: vs.map some) (none :: ρc) ++ (pairs σ ρ ++ T))) [] := R
    rw [pairs_sn] at R
    exact give_ok (as := as) c io.2 R
  | .io i :: as, v :: vs, some o :: ρc, ρ, c, io, R => by
    have R : Rep K mg H (M ++ (pairs (some v :: vs.map some) (some o :: ρc) ++ (pairs σ ρ ++ T))) [] := R
    rw [pairs_ss] at R
    refine give_ok (as := as) (c.put io.1 o) io.2 ?_
    by_cases hi : i < ρ.length
    · have R1 : Rep K mg H ((.ov v o :: (M ++ pairs (vs.map some) ρc)) ++ (pairs σ ρ ++ T)) [] := R.perm (by
        refine List.perm_middle.trans ?_
        show (.ov v o :: (M ++ (pairs (vs.map some) ρc ++ (pairs σ ρ ++ T)))).Perm _
        rw [← List.append_assoc]; exact List.Perm.refl _)
      have R2 := Rep.slotDrop c i R1
      refine R2.perm ?_
      have p := (pairs_back (o := o) io.1 hi).append_right T
      have q1 : ((.ov v o :: (M ++ pairs (vs.map some) ρc)) ++ (pairs σ (ρ.set i none) ++ T)).Perm ((M ++ pairs (vs.map some) ρc) ++ ((.ov v o :: pairs σ (ρ.set i none)) ++ T)) := List.perm_middle.symm
      refine q1.trans ?_
      rw [List.append_assoc]
      exact List.Perm.append_left _ (List.Perm.append_left _ p)
    · rw [List.set_eq_of_length_le (by omega)]
      exact (R.perm List.perm_middle).drop
def mCall (F : FSem) (as : List Arg) : M O := fun ρ => (evA as ρ).bind fun os ρ1 => match takeA as os ρ1 with
  | none => .no
  | some r => match F r.1 with
    | none => .no
    | some q => .ok q.1 (giveA as q.2 r.2)
theorem call_core {n : Nat} {F : FSem} {as : List Arg} {Ex : XK} (σ : L2.St) (H : Hp) (Q : VK) (w : tM K mg (mCall F as) σ H Q) : tCall (spF K mg n F) [] Ex (tAs K mg as) σ H Q ∨ as.length ≠ n := by
  by_cases hn : as.length = n
  · left
    obtain ⟨ρ, T, o, ρ', c, R, e, k⟩ := w
    obtain ⟨os, ρ1, e1, e⟩ := Res.bind_eq e
    split at e
    · cases e
    · rename_i r e2
      split at e
      · cases e
      · rename_i q e3
        cases e
        refine ⟨ρ, T, os, ρ1, c, R, e1, fun vs H1 c1 hl io R1 => ?_⟩
        obtain ⟨c2, hl2, R2⟩ := take_ok c1 io e2 R1
        have lenA : ∀ {as : List Arg} {vs : List V}, IoOk as σ vs → vs.length = as.length := by
          intro as
          induction as with
          | nil => intro vs io; cases vs with
            | nil => rfl
            | cons => exact io.elim
          | cons a as ih => intro vs io; cases vs with
            | nil => cases a <;> exact io.elim
            | cons v vs => cases a with
              | v _ => simp [ih (vs := vs) io]
              | io _ => simp [ih (vs := vs) io.2]
        have hv : vs.length = n := by rw [lenA io, hn]
        rw [List.append_nil]
        refine ⟨r.1, pairs σ r.2 ++ T, q.1, q.2, hv, by omega, R2, e3, fun v H2 R3 => ?_⟩
        obtain ⟨c3, R4⟩ := give_ok (M := [.ov v q.1]) c2 io R3
        exact k v H2 c3 R4
  · right; exact hn
theorem se_call {n k j : Nat} {F : FSem} {x : Str} {p pos : Pos} {e : Expr} {es : List Expr} {as : List Arg} (cl : C8.Cal X.prog X.w X.K X.mg X.base k x (spF X.K X.mg n F) []) (hr : Room j X.A) (hk : k ≤ j) (hg : Gl X x) (ha : SAs X (e :: es) as) (hn : as.length = n := by rfl)
    (hdb : (x == ("__debug__" : Str)) = false := by decide) (he : starEach (e :: es) X.env = (false, eval e X.env) :: starEach es X.env := by rfl) (hpl : (backTo pos (starEach es X.env)).any (·.1) = false := by rfl) :
    SE X (.Call (.Name x p) (e :: es) [] pos) (mCall F as) := PE.imp (C8.pe_c cl hr hk hg ha hdb he hpl) fun σ H Q w => (call_core σ H Q w).resolve_right fun h => h hn

/-! ### lists changed at a name -/
def mAppend (i : Nat) (m : M O) : M O := fun ρ => match ρ[i]? with
  | some (some (.lst _)) => (m ρ).bind fun o ρ1 => match ρ1[i]? with
    | some (some (.lst os)) => if os.length < 1000000 then .ok (.val .non) (ρ1.set i (some (.lst (os ++ [o])))) else .no
    | _ => .no
  | _ => .no
theorem Rep.slot {H : Hp} {T M : List Item} {σ : L2.St} {ρ : Env} {i : Nat} {v : V} {o : O} (hv : σ[i]? = some (some v)) (e : ρ[i]? = some (some o)) (R : Rep K mg H (M ++ (pairs σ ρ ++ T)) []) : Rep K mg H (.ov v o :: (M ++ (pairs σ (ρ.set i none) ++ T))) [] :=
  R.perm ((((pairs_take hv e).append_right T).append_left M).trans List.perm_middle)
theorem Rep.unslot {H : Hp} {T M : List Item} {σ : L2.St} {ρ : Env} {i : Nat} {v : V} {o o' : O} (hv : σ[i]? = some (some v)) (e : ρ[i]? = some (some o)) (R : Rep K mg H (.ov v o' :: (M ++ (pairs σ (ρ.set i none) ++ T))) []) : Rep K mg H (M ++ (pairs σ (ρ.set i (some o')) ++ T)) [] := by
  have hi : i < ρ.length := (List.getElem?_eq_some_iff.mp e).1
  refine R.perm (List.perm_middle.symm.trans (List.Perm.append_left _ ?_))
  exact (pairs_back (o := o') hv hi).append_right T
theorem se_append (i : Nat) {x : Str} {p apos cpos : Pos} {e : Expr} {m : M O} (h : SE X e m) (hN : X.N[i]? = some x := by rfl) (hv : Vis X.env.scope x := by first | exact Or.inl rfl | exact Or.inr (Or.inl rfl) | exact Or.inr (Or.inr rfl)) (hd : (x == ("__debug__" : Str)) = false := by decide)
    (hcd : (x == ("__classdict__" : Str)) = false := by decide) (hst : starEach (e :: []) X.env = (false, eval e X.env) :: starEach [] X.env := by rfl)
    (hbase : attributeBase (.Name x p) "append" X.env (eval (.Name x p) X.env) = eval (.Name x p) X.env := by rfl)
    (hfew : ((backTo cpos (starEach (e :: []) X.env)).all (fun x => !x.1) && (backToKw cpos (keywordEach [] X.env)).all (fun x => x.1.isSome)
      && decide ((e :: []).length + ([] : List Keyword).length + (if ([] : List Keyword).isEmpty then 0 else 1) < 30)) = true := by rfl)
    (hline : (apos.endLine == cpos.line) = true := by rfl) (hplain : (backTo cpos (starEach [] X.env)).any (·.1) = false := by rfl) :
    SE X (.Call (.Attribute (.Name x p) "append" apos) [e] [] cpos) (mAppend i m) :=
  PE.imp (pe_bm PySem.F.plainAttrs_list PySem.F.slot_list_append PySem.F.type_list_append mt_append (pv i hN hv hd hcd) (pa_cons h pa_nil hst) hbase hfew hline hst hplain) fun σ H Q w => by
    obtain ⟨ρ, T, o, ρ', c, R, e0, k⟩ := w
    unfold mAppend at e0
    split at e0
    · rename_i os0 e1
      obtain ⟨v, hv⟩ := c.ex i _ e1
      have R0 : Rep X.K X.mg H ([] ++ (pairs σ ρ ++ T)) [] := R
      obtain ⟨q, vs, ev, hl, R1⟩ := (Rep.slot hv e1 R0).openL
      subst ev
      have hq := R1.rawAt
      obtain ⟨u, ρ1, e2, e0⟩ := Res.bind_eq e0
      split at e0
      · rename_i os e3
        split at e0
        · rename_i hlt
          cases e0
          refine ⟨_, hv, .inl ⟨rfl, _, SqL.of hq⟩, ρ, T, u, ρ1, c, R, e2, fun y H1 c1 R2 => ?_⟩
          have R3 := Rep.slot (M := [.ov y u]) hv e3 R2
          obtain ⟨q', ws, ev, hl2, R4⟩ := R3.openL
          cases ev
          refine ⟨q, ws, y, rfl, rfl, R4.rawAt, by rw [sizeLine_eq]; omega, ?_⟩
          have R5 := R4.write (o' := .lst (ws ++ [y]))
          have ez : zipI (ws ++ [y]) (os ++ [u]) = zipI ws os ++ [.ov y u] := by
            unfold zipI
            rw [List.zipWith_append hl2]; rfl
          have R6 : Rep X.K X.mg (upd H1 q (.lst (ws ++ [y]))) (.ov (.ref q) (.lst (os ++ [u])) :: (pairs σ (ρ1.set i none) ++ T)) [] := by
            refine Rep.closeL (vs := ws ++ [y]) ?_ (by simp [hl2])
            rw [ez, List.append_assoc]
            exact R5
          have R7 : Rep X.K X.mg _ ([] ++ (pairs σ (ρ1.set i (some (.lst (os ++ [u])))) ++ T)) [] := Rep.unslot hv e3 R6
          exact k .non _ (c1.put hv _) (R7.scal fun _ => .non)
        · cases e0
      · cases e0
    · cases e0

/-! ### x[k] = e, a list or a dict at a name -/
def keyO : O → Option Key
  | .val (.int i) => some (.inl i)
  | .val (.str s) => some (.inr s)
  | _ => none
def idxK (ks : List Key) (k : Key) : Option Nat := ks.findIdx? fun k' => decide (k' = k)
def putL {α : Type} (ks : List Key) (os : List α) (k : Key) (o : α) : List Key × List α := match idxK ks k with
  | some j => (ks, os.set j o)
  | none => (ks ++ [k], os ++ [o])
def setItO (a b u : O) : Option O := match a with
  | .lst os => match b with
    | .val (.int i) => (ixN os.length i).map fun j => .lst (os.set j u)
    | _ => none
  | .dct ks os => (keyO b).bind fun k => if ks.length < 1000000 then some (.dct (putL ks os k u).1 (putL ks os k u).2) else none
  | _ => none
theorem idxK_valV : ∀ (kvs : List (Key × V)) (k : Key), valV kvs k = (idxK (kvs.map (·.1)) k).bind fun j => (kvs.map (·.2))[j]?
  | [], k => rfl
  | (k', v) :: r, k => by
    have ih := idxK_valV r k
    by_cases e : k' = k
    · rw [valV_pos (p := (k', v)) e]
      unfold idxK
      rw [List.map_cons, List.findIdx?_cons, if_pos (decide_eq_true e)]
      rfl
    · rw [valV_neg (p := (k', v)) e, ih]
      unfold idxK
      rw [List.map_cons, List.findIdx?_cons, if_neg (by simpa using e), List.map_cons]
      cases q : List.findIdx? (fun k' => decide (k' = k)) (List.map (fun x => x.1) r) with
      | none => rfl
      | some j => simp
theorem putK_eq : ∀ (kvs : List (Key × V)) (k : Key) (v : V), (kvs.map (·.1)).Nodup → (putK kvs k v).map (·.1) = (putL (kvs.map (·.1)) (kvs.map (·.2)) k v).1 ∧ (putK kvs k v).map (·.2) = (putL (kvs.map (·.1)) (kvs.map (·.2)) k v).2 := by
  intro kvs k v nd
  have hany : (kvs.any fun kv => decide (kv.1 = k)) = (idxK (kvs.map (·.1)) k).isSome := by
    unfold idxK
    rw [List.findIdx?_isSome, List.any_map]
    rfl
  unfold putK putL
  rw [hany]
  cases q : idxK (kvs.map (·.1)) k with
  | none =>
    rw [if_neg (by simp)]
    simp
  | some j =>
    rw [if_pos (show (Option.some j).isSome = true from rfl)]
    refine ⟨by
      rw [List.map_map]
      refine List.map_congr_left fun a _ => ?_
      show (if a.1 = k then (a.1, v) else a).1 = a.1
      split <;> rfl, ?_⟩
    -- just the j-th is another one
    have key : ∀ (kvs : List (Key × V)) (j : Nat), (kvs.map (·.1)).Nodup → idxK (kvs.map (·.1)) k = some j → (kvs.map fun kv => if kv.1 = k then (kv.1, v) else kv).map (·.2) = (kvs.map (·.2)).set j v := by
      intro kvs
      induction kvs with
      | nil => intro j _ h; cases h
      | cons a r ih =>
        intro j nd h
        rw [List.map_cons, List.nodup_cons] at nd
        unfold idxK at h
        rw [List.map_cons, List.findIdx?_cons] at h
        by_cases e : a.1 = k
        · rw [if_pos (decide_eq_true e)] at h
          cases h
          rw [List.map_cons, if_pos e, List.map_cons, List.map_cons, List.set_cons_zero]
          congr 1
          rw [List.map_map]
          refine List.map_congr_left fun b hb => ?_
          show (if b.1 = k then (b.1, v) else b).2 = b.2
          rw [if_neg]
          intro z
          exact nd.1 (by rw [e, ← z]; exact List.mem_map_of_mem hb)
        · rw [if_neg (by simpa using e)] at h
          cases q : List.findIdx? (fun k' => decide (k' = k)) (List.map (fun x => x.1) r) with
          | none => rw [q] at h; cases h
          | some i =>
            rw [q] at h
            cases h
            rw [List.map_cons, if_neg e, List.map_cons, List.map_cons, List.set_cons_succ]
            congr 1
            exact ih i nd.2 q
    exact key kvs j nd q
def rSetF : TSet := fun o i v H Q => rSetL o i v H Q ∨ ∃ a H4, o = .ref a ∧ DPut H a i v H4 ∧ Q H4
theorem set_F (ok : CxOk X) : PSet X rSetF := by
  intro pins s σ H o i v ov iv u Q I ro ri rv h
  rcases h with h | ⟨a, H4, e, g, q⟩
  · exact set_list pins s σ H o i v ov iv u Q I ro ri rv h
  · subst e
    obtain rfl : ov = Value.ref a := ro
    exact d_setItem (by have := ok.units; omega) I g ri rv fun s4 I4 => ⟨H4, I4, q⟩
theorem keyO_V {H : Hp} {L : List Item} {B : List (V × O)} {y : V} {oy : O} {k : Key} (R : Rep K mg H L B) (hy : (y, oy) ∈ B) (e : keyO oy = some k) : y = kV k := by
  unfold keyO at e
  split at e
  · cases e; exact R.shInt hy rfl
  · cases e; exact R.shStr hy rfl
  · cases e
theorem nodup_put {ks : List Key} {k : Key} {os : List O} {o : O} (nd : ks.Nodup) : (putL ks os k o).1.Nodup := by
  unfold putL
  cases q : idxK ks k with
  | some j => exact nd
  | none =>
    have : k ∉ ks := fun z => by
      have h : (ks.findIdx? fun k' => decide (k' = k)) = none := q
      rw [List.findIdx?_eq_none_iff] at h
      have := h k z
      simp at this
    exact List.nodup_append.mpr ⟨nd, by simp, fun a ha b hb e => this (by simp at hb; rw [← hb, ← e]; exact ha)⟩
theorem zip_set : ∀ {vs : List V} {os : List O} {j : Nat} {v : V} {u : O}, vs.length = os.length → j < os.length → ∃ A C w, zipI vs os = A ++ w :: C ∧ zipI (vs.set j v) (os.set j u) = A ++ .ov v u :: C
  | [], [], j, v, u, _, h => by simp at h
  | [], _ :: _, _, _, _, h, _ => by simp at h
  | _ :: _, [], _, _, _, h, _ => by simp at h
  | a :: vs, b :: os, 0, v, u, _, _ => ⟨[], zipI vs os, .ov a b, rfl, rfl⟩
  | a :: vs, b :: os, j + 1, v, u, hl, hj => by
    obtain ⟨A, C, w, e1, e2⟩ := zip_set (vs := vs) (os := os) (j := j) (v := v) (u := u) (by simpa using hl) (by simpa using hj)
    exact ⟨.ov a b :: A, C, w, by show .ov a b :: zipI vs os = _; rw [e1]; rfl, by show .ov a b :: zipI (vs.set j v) (os.set j u) = _; rw [e2]; rfl⟩
theorem perm_set (A C L : List Item) (h w y n : Item) : (h :: ((A ++ w :: C) ++ y :: n :: L)).Perm (w :: y :: (h :: ((A ++ n :: C) ++ L))) := by
  have h1 : ((A ++ w :: C) ++ y :: n :: L).Perm (w :: y :: ((A ++ n :: C) ++ L)) := by
    rw [List.append_assoc]
    refine List.perm_middle.trans (List.Perm.cons _ ?_)
    show (A ++ (C ++ y :: n :: L)).Perm _
    rw [← List.append_assoc]
    refine List.perm_middle.trans (List.Perm.cons _ ?_)
    refine List.perm_middle.trans ?_
    rw [List.append_assoc, List.append_assoc]
    exact List.perm_middle.symm
  refine (List.Perm.cons _ h1).trans ?_
  exact (List.Perm.swap _ _ _).trans (List.Perm.cons _ (List.Perm.swap _ _ _))
/-- a part of an owned list or dict is stored -/
theorem setIt_core {H : Hp} {L : List Item} {x y v : V} {a b u o' : O} {Q : Hp → Prop} (R : Rep K mg H (.ov x a :: .ov y b :: .ov v u :: L) []) (e : setItO a b u = some o') (k : ∀ H', Rep K mg H' (.ov x o' :: L) [] → Q H') : rSetF x y v H Q := by
  have Rb : Rep K mg H (.ov x a :: .ov y b :: .ov v u :: L) [(y, b)] := ((R.perm (.swap _ _ _)).lend).perm (.swap _ _ _)
  generalize hY : Item.ov y b = Y at R
  unfold setItO at e
  split at e
  · rename_i os
    split at e
    · rename_i i
      cases ej : ixN os.length i with
      | none => rw [ej] at e; cases e
      | some j =>
        rw [ej] at e; cases e
        have ey := Rb.shInt (List.mem_cons_self ..) rfl
        obtain ⟨p, vs, rfl, hl, R1⟩ := R.openL
        have hj : j < os.length := (ixN_seq ej).2.1
        refine .inl ⟨p, vs, i, j, rfl, ey, R1.rawAt, by rw [hl]; exact ej, k _ ?_⟩
        have R2 := R1.write (o' := .lst (vs.set j v))
        refine Rep.closeL (vs := vs.set j v) ?_ (by simp [hl])
        obtain ⟨A, C, w, z1, z2⟩ := zip_set (v := v) (u := u) hl hj
        rw [z1] at R2
        rw [z2]
        exact (R2.perm (perm_set _ _ _ _ _ _ _)).drop.drop
    · cases e
  · rename_i ks os
    cases ek : keyO b with
    | none => rw [ek] at e; cases e
    | some key =>
      rw [ek] at e
      have e : (if ks.length < 1000000 then some (O.dct (putL ks os key u).1 (putL ks os key u).2) else none) = some o' := e
      split at e
      · rename_i hlt
        cases e
        have ey := keyO_V Rb (List.mem_cons_self ..) ek
        obtain ⟨p, kvs, rfl, hl, hk, R1⟩ := R.openD
        obtain ⟨hk, nd⟩ := hk
        have hlen : kvs.length < sizeLine := by rw [sizeLine_eq]; have : kvs.length = ks.length := by rw [← hk]; simp
                                                omega
        have g : DPut H p y v (upd H p (.dK (putK kvs key v))) := by rw [ey]; exact DPut.k R1.rawAt hlen
        refine .inr ⟨p, _, rfl, g, k _ ?_⟩
        have R2 := R1.write (o' := .dK (putK kvs key v))
        obtain ⟨f1, f2⟩ := putK_eq kvs key v (by rw [hk]; exact nd)
        have hlo : (kvs.map (·.2)).length = os.length := by simpa using hl
        refine Rep.closeD (kvs := putK kvs key v) (ks := (putL ks os key u).1) (os := (putL ks os key u).2) ?_ ?_ ⟨?_, nodup_put nd⟩
        · rw [f2]
          unfold putL
          rw [hk]
          cases q : idxK ks key with
          | none =>
            show Rep K mg _ (.raw p (.dK (putK kvs key v)) :: (zipI (kvs.map (·.2) ++ [v]) (os ++ [u]) ++ L)) []
            have ez : zipI (kvs.map (·.2) ++ [v]) (os ++ [u]) = zipI (kvs.map (·.2)) os ++ [.ov v u] := by
              unfold zipI
              rw [List.zipWith_append hlo]; rfl
            rw [ez, List.append_assoc]
            have p1 : (.raw p (.dK (putK kvs key v)) :: (zipI (kvs.map (·.2)) os ++ Y :: .ov v u :: L) : List Item).Perm (Y :: (.raw p (.dK (putK kvs key v)) :: (zipI (kvs.map (·.2)) os ++ .ov v u :: L))) :=
              (List.Perm.cons _ List.perm_middle).trans (.swap _ _ _)
            exact (R2.perm p1).drop
          | some j =>
            show Rep K mg _ (.raw p (.dK (putK kvs key v)) :: (zipI ((kvs.map (·.2)).set j v) (os.set j u) ++ L)) []
            have hj : j < os.length := by
              have h : (ks.findIdx? fun k' => decide (k' = key)) = some j := q
              rw [List.findIdx?_eq_some_iff_getElem] at h
              obtain ⟨h, _⟩ := h
              have : kvs.length = ks.length := by rw [← hk]; simp
              omega
            obtain ⟨A, C, w, z1, z2⟩ := zip_set (v := v) (u := u) hlo hj
            rw [z1] at R2
            rw [z2]
            exact (R2.perm (perm_set _ _ _ _ _ _ _)).drop.drop
        · have h1 : (putK kvs key v).length = (putL (kvs.map (·.1)) (kvs.map (·.2)) key v).2.length := by rw [← f2]; simp
          rw [h1, hk]
          unfold putL
          cases q : idxK ks key with
          | none => simp [hl]
          | some j => simp [hl]
        · rw [f1, hk]
          unfold putL
          cases q : idxK ks key <;> rfl
      · cases e
  · cases e
/-- name[k] = e -/
def mSetIt (i : Nat) (n m : M O) : M Fl := fun ρ => (m ρ).bind fun u ρ1 => match ρ1[i]? with
  | some (some _) => (n ρ1).bind fun b ρ2 => match ρ2[i]? with
    | some (some a) => match setItO a b u with
      | some o => .ok .nx (ρ2.set i (some o))
      | none => .no
    | _ => .no
  | _ => .no
theorem ss_setIt (i : Nat) {P : List Nat} {x : Str} {p tpos pos : Pos} {ix e : Expr} {n m : M O} (ok : CxOk X) (hn : SE X ix n) (h : SE X e m) (hN : X.N[i]? = some x := by rfl) (hv : Vis X.env.scope x := by first | exact Or.inl rfl | exact Or.inr (Or.inl rfl) | exact Or.inr (Or.inr rfl)) (hd : (x == ("__debug__" : Str)) = false := by decide)
    (hcd : (x == ("__classdict__" : Str)) = false := by decide)
    (ha : ∀ v, assign (.Subscript (.Name x p) ix tpos) X.env v = (do
      let ov ← holding [v] (eval (.Name x p) X.env)
      let iv ← holding [v, ov] (eval ix X.env)
      standAt tpos
      holding [v, ov, iv] (setItem ov iv v)
      release [v, ov, iv] []) := by intro _; rfl)
    (hs : swapsWithSole [.Subscript (.Name x p) ix tpos] e pos.line X.env = pure false := by rfl) (hw : swappedStores [.Subscript (.Name x p) ix tpos] e X.env = pure none := by rfl)
    (h1 : (assignEach [.Subscript (.Name x p) ix tpos] X.env).map (·.2) = [assign (.Subscript (.Name x p) ix tpos) X.env] := by rfl) :
    SS X P (.Assign [.Subscript (.Name x p) ix tpos] e pos) (mSetIt i n m) :=
  PS.imp (ps_asg h (pg_sub (pv i hN hv hd hcd) hn (set_F ok) ha) hs hw h1) fun D σ H w => by
    obtain ⟨ρ, T, c, R, h⟩ := tS_iff.mp w
    unfold mSetIt at h
    cases e1 : m ρ with
    | exc z ρ1 => rw [e1] at h; exact h.elim
    | no => rw [e1] at h; exact h.elim
    | ok u ρ1 =>
      rw [e1] at h
      have h : Post X.K X.mg P T D σ (match ρ1[i]? with
        | some (some _) => (n ρ1).bind fun b ρ2 => match ρ2[i]? with
          | some (some a) => match setItO a b u with
            | some o => .ok .nx (ρ2.set i (some o))
            | none => .no
          | _ => .no
        | _ => .no) := h
      refine ⟨ρ, T, u, ρ1, c, R, e1, fun v H1 c1 R1 => ?_⟩
      split at h
      · rename_i a0 e2
        obtain ⟨vx, hvx⟩ := c1.ex i _ e2
        refine ⟨vx, hvx, ρ1, .ov v u :: T, ?_⟩
        cases e3 : n ρ1 with
        | exc z ρ2 => rw [e3] at h; exact h.elim
        | no => rw [e3] at h; exact h.elim
        | ok b ρ2 =>
          rw [e3] at h
          refine ⟨b, ρ2, c1, R1.perm List.perm_middle.symm, rfl, fun y H2 c2 R2 => ?_⟩
          have h : Post X.K X.mg P T D σ (match ρ2[i]? with
            | some (some a) => match setItO a b u with
              | some o => .ok .nx (ρ2.set i (some o))
              | none => .no
            | _ => .no) := h
          split at h
          · rename_i a e4
            split at h
            · rename_i o' e5
              have R3 : Rep X.K X.mg H2 ([.ov y b] ++ (pairs σ ρ2 ++ (.ov v u :: T))) [] := R2
              have R4 := Rep.slot hvx e4 R3
              have R5 : Rep X.K X.mg H2 (.ov vx a :: .ov y b :: .ov v u :: (pairs σ (ρ2.set i none) ++ T)) [] := R4.perm ((List.Perm.cons _ (List.Perm.cons _ List.perm_middle)))
              refine setIt_core R5 e5 fun H3 R6 => h σ H3 (Fix.refl _ _) (c2.put hvx _) ?_
              exact Rep.unslot (M := []) hvx e4 R6
            · exact h.elim
          · exact h.elim
      · exact h.elim
end
end FB

/-! Displays among readings; the law's own def; the end. -/
namespace FB
open PySem PySem.Spec L2
open PyProof.Rows hiding St

section
variable {X : Cx} {K : PySem.W.Frag} {mg : Str → Option Value}
def tPs (K : PySem.W.Frag) (mg : Str → Option Value) (f : Env → Option (List D)) : TA := fun σ H Q => ∃ ρ T B ds, Cov σ ρ ∧ Rep K mg H (pairs σ ρ ++ T) B ∧ f ρ = some ds ∧ ∀ vs H', Same H H' → vs.length = ds.length → Rep K mg H' (zipI vs (ds.map O.val) ++ (pairs σ ρ ++ T)) B → Q vs H'
def SPs (X : Cx) (es : List Expr) (f : Env → Option (List D)) : Prop := PA X es (tPs X.K X.mg f)
def pNil : Env → Option (List D) := fun _ => some []
def pCons (f : Pf) (g : Env → Option (List D)) : Env → Option (List D) := fun ρ => match f ρ with
  | some (.val d) => (g ρ).map (d :: ·)
  | _ => none
theorem sps_nil : SPs X [] pNil := PA.imp pa_nil fun σ H Q w => by
  obtain ⟨ρ, T, B, ds, c, R, e, k⟩ := w
  cases e
  exact k [] H (Same.refl _) rfl R
theorem sps_cons {e : Expr} {es : List Expr} {f : Pf} {g : Env → Option (List D)} (h : SP X e f) (hs : SPs X es g) (hst : starEach (e :: es) X.env = (false, eval e X.env) :: starEach es X.env := by rfl) : SPs X (e :: es) (pCons f g) :=
  PA.imp (pa_cons h hs hst) fun σ H Q w => by
    obtain ⟨ρ, T, B, ds, c, R, e, k⟩ := w
    unfold pCons at e
    split at e
    · rename_i d e1
      cases e2 : g ρ with
      | none => rw [e2] at e; cases e
      | some ds' =>
        rw [e2] at e
        cases e
        refine ⟨ρ, T, B, .val d, c, R, e1, fun v H1 s1 R1 => ⟨ρ, .ov v (.val d) :: T, B, ds', c, R1.keep.perm List.perm_middle.symm, e2, fun vs H2 s2 hl R2 => k (v :: vs) H2 (s1.trans s2) (by simp [hl]) (R2.perm ?_)⟩⟩
        show (zipI vs (ds'.map O.val) ++ (pairs σ ρ ++ .ov v (.val d) :: T)).Perm (.ov v (.val d) :: (zipI vs (ds'.map O.val) ++ (pairs σ ρ ++ T)))
        exact ((List.perm_middle (a := Item.ov v (.val d))).append_left _).trans List.perm_middle
    · cases e
def pLst (g : Env → Option (List D)) : Pf := fun ρ => (g ρ).bind fun ds => if ds.length ≤ 1000000 then some (.val (.lst ds)) else none
def pTup (g : Env → Option (List D)) : Pf := fun ρ => (g ρ).bind fun ds => if ds.length ≤ 1000000 then some (.val (.tup ds)) else none
theorem sp_lst {es : List Expr} {pos : Pos} {g : Env → Option (List D)} (h : SPs X es g) : SP X (.List es pos) (pLst g) := PE.imp (pe_lst h) fun σ H Q w => by
  obtain ⟨ρ, T, B, o, c, R, e, k⟩ := w
  unfold pLst at e
  cases e1 : g ρ with
  | none => rw [e1] at e; cases e
  | some ds =>
    rw [e1] at e
    have e : (if ds.length ≤ 1000000 then some (O.val (.lst ds)) else none) = some o := e
    split at e
    · rename_i hl
      cases e
      exact ⟨ρ, T, B, ds, c, R, e1, fun vs H' s' hv R' => ⟨line6 (by omega), fun p hp => k _ _ (s'.trans (sameNew hp)) (R'.lentL hv hp)⟩⟩
    · cases e
theorem sp_tup {es : List Expr} {x1 : Nat} {pos : Pos} {g : Env → Option (List D)} (h : SPs X es g) : SP X (.Tuple es x1 pos) (pTup g) := PE.imp (pe_tup h) fun σ H Q w => by
  obtain ⟨ρ, T, B, o, c, R, e, k⟩ := w
  unfold pTup at e
  cases e1 : g ρ with
  | none => rw [e1] at e; cases e
  | some ds =>
    rw [e1] at e
    have e : (if ds.length ≤ 1000000 then some (O.val (.tup ds)) else none) = some o := e
    split at e
    · rename_i hl
      cases e
      exact ⟨ρ, T, B, ds, c, R, e1, fun vs H' s' hv R' => ⟨line6 (by omega), fun p hp => k _ _ (s'.trans (sameNew hp)) (R'.lentT hv hp)⟩⟩
    · cases e
end

section
variable {P : Program} {w : World} {K : PySem.W.Frag} {mg : Str → Option Value} {base : Heap}
/-- .. the same, for the law's own def -/
theorem fn_sem {x : Str} {st : Stmt} {f : Addr} {fd : FuncData} {N ps : List Str} {k n m : Nat} {Pr : List Nat} {b : M Fl} (F : C8.Fun K x x st f fd) (S : FnScope N ps (C8.fnScope st)) (hn : ps.length = n := by rfl) (hm : N.length = m := by rfl) (hnm : n ≤ m := by decide)
    (hb : ∀ (cdv : Value) (A : Around) (outer : List PySem.Env) (s : Shared) (H : Hp) (E : XK), Room k (A.deeper (envOfC x (C8.fnScope st) s.heap.objs.size f cdv)) → SSs (cxOf C8.CX0 P w K mg base N x (C8.fnScope st) f cdv A outer s H E).nox Pr (C8.fnBody st) b) :
    FnOk P w K mg base C8.CX0 (k + 1) f fd ps (spF K mg n (runF n m Pr b)) :=
  C8.fn0 F S (fun vs H Q E h => by rw [hn]; exact sp_len vs H Q E h) fun cdv A outer s H vs Q E hr h => body_sem (X := (cxOf C8.CX0 P w K mg base N x (C8.fnScope st) f cdv A outer s H E).nox) (E := E) hm hnm (hb cdv A outer s H E hr) h
theorem law_end {F : FSem} {H : Hp} {a : Addr} {ns : List Int} (h : ∃ r, F [.val (.scr ns)] = some (.val (.bl true), r)) (hS : SqL K H a (ns.map V.int)) : spF K mg 1 F [.ref a] H (fun v _ => v = .bl true) fun _ _ _ => False := by
  obtain ⟨r, e⟩ := h
  refine ⟨[.val (.scr ns)], [], _, r, rfl, rfl, ?_, e, fun v H' R => ?_⟩
  · refine ⟨[], List.nodup_nil, ?_, fun _ h => by simp at h⟩
    exact IsOk.append (as := []) (IsOk.zip (VOs.vals (Vws.cons (Vw.scr hS) Vws.nil))) IsOk.nil
  · have q := R.lend.view (List.mem_cons_self ..)
    cases q
    rfl
end
end FB

/-! From the head's facts to the walk. -/
namespace FB
open PySem PySem.Spec L2
open PyProof.Rows hiding St
@[irreducible] def fuel : Nat := 1000000
theorem fuel_eq : fuel = 1000000 := by unfold fuel; rfl
theorem fun_of {K : PySem.W.Frag} {x qual : Str} {st : Stmt} {f : Addr} {fd : FuncData} (D : FunD K x qual (C8.fnArgs st) (C8.fnBody st) (C8.fnScope st) [] [] f fd) : C8.Fun K x qual st f fd := by
  obtain ⟨oc, od, dV, kV, doc, pm, an, cdv, ct, osl, e, lk, hc, _, _⟩ := D.ex
  exact ⟨oc, od, dV, kV, doc, pm, an, cdv, ct, osl, e, lk, hc⟩
end FB
namespace FB
open PySem PySem.Spec L2
theorem CxOk.u64 {X : Cx} (ok : CxOk X) : X.A.units + 64 < cLine := by have := ok.units; omega
end FB

/-! What the combinators compute: rules for simp, rules for loops. -/
namespace FB
open PySem PySem.Spec L2
open PyProof.Rows hiding St

variable {ρ : Env}
-- readings
@[simp] theorem e_pVar (i : Nat) : pVar i ρ = (ρ[i]?).join := (rfl)
@[simp] theorem e_pC (d : D) : pC d ρ = some (.val d) := (rfl)
def p2K (op : O → O → Option O) : Option O → Option O → Option O
  | some a, some b => op a b
  | _, _ => none
@[simp] theorem e_p2 (op : O → O → Option O) (f g : Pf) : p2 op f g ρ = p2K op (f ρ) (g ρ) := by
  unfold p2 p2K; cases f ρ <;> cases g ρ <;> rfl
@[simp] theorem e_p2K (op : O → O → Option O) (a b : O) : p2K op (some a) (some b) = op a b := (rfl)
def p1K (op : O → Option O) : Option O → Option O
  | some a => op a
  | none => none
@[simp] theorem e_p1 (op : O → Option O) (f : Pf) : p1 op f ρ = p1K op (f ρ) := by
  unfold p1 p1K; cases f ρ <;> rfl
@[simp] theorem e_p1K (op : O → Option O) (a : O) : p1K op (some a) = op a := (rfl)
@[simp] theorem e_mP (f : Pf) : mP f ρ = okV (f ρ) ρ := by unfold mP okV; rfl
@[simp] theorem e_okV (d : D) : okV (some (.val d)) ρ = .ok (.val d) ρ := (rfl)
@[simp] theorem e_pNil : pNil ρ = some [] := (rfl)
def pcK : Option O → Option (List D) → Option (List D)
  | some (.val d), some ds => some (d :: ds)
  | _, _ => none
@[simp] theorem e_pCons (f : Pf) (g : Env → Option (List D)) : pCons f g ρ = pcK (f ρ) (g ρ) := by
  unfold pCons pcK
  cases f ρ with
  | none => rfl
  | some o => cases o <;> cases g ρ <;> rfl
@[simp] theorem e_pcK (d : D) (ds : List D) : pcK (some (.val d)) (some ds) = some (d :: ds) := (rfl)
def plK (k : List D → D) : Option (List D) → Option O
  | some ds => if ds.length ≤ 1000000 then some (.val (k ds)) else none
  | none => none
@[simp] theorem e_pLst (g : Env → Option (List D)) : pLst g ρ = plK .lst (g ρ) := by unfold pLst plK; cases g ρ <;> rfl
@[simp] theorem e_pTup (g : Env → Option (List D)) : pTup g ρ = plK .tup (g ρ) := by unfold pTup plK; cases g ρ <;> rfl
@[simp] theorem e_plK (k : List D → D) (ds : List D) (h : ds.length ≤ 1000000) : plK k (some ds) = some (.val (k ds)) := by unfold plK; simp [h]
def pslK : Option O → Option (Option Int) → Option (Option Int) → Option O
  | some a, some l, some h => slO a l h
  | _, _, _ => none
@[simp] theorem e_pSl (f : Pf) (lo hi : Env → Option (Option Int)) : pSl f lo hi ρ = pslK (f ρ) (lo ρ) (hi ρ) := by
  unfold pSl pslK; cases f ρ <;> cases lo ρ <;> cases hi ρ <;> rfl
@[simp] theorem e_pslK (a : O) (l h : Option Int) : pslK (some a) (some l) (some h) = slO a l h := (rfl)
@[simp] theorem e_pNone : pNone ρ = some none := (rfl)
def piK : Option O → Option (Option Int)
  | some (.val (.int i)) => some (some i)
  | _ => none
@[simp] theorem e_pInt (f : Pf) : pInt f ρ = piK (f ρ) := by unfold pInt piK; rfl
@[simp] theorem e_piK (i : Int) : piK (some (.val (.int i))) = some (some i) := (rfl)
-- expressions
def mvK (i : Nat) (ρ : Env) : Option (Option O) → Res O
  | some (some o) => .ok o (ρ.set i none)
  | _ => .no
@[simp] theorem e_mMove (i : Nat) : mMove i ρ = mvK i ρ (ρ[i]?) := (rfl)
@[simp] theorem e_mvK (i : Nat) (o : O) : mvK i ρ (some (some o)) = .ok o (ρ.set i none) := (rfl)
def frK (i : Nat) (ρ : Env) : Option (Option O) → Res O
  | some (some o) => .ok (.val o.toD) (ρ.set i (some (.val o.toD)))
  | _ => .no
@[simp] theorem e_mFrz (i : Nat) : mFrz i ρ = frK i ρ (ρ[i]?) := (rfl)
@[simp] theorem e_frK (i : Nat) (o : O) : frK i ρ (some (some o)) = .ok (.val o.toD) (ρ.set i (some (.val o.toD))) := (rfl)
def m2B (op : O → O → Option O) (a : O) : Res O → Res O
  | .ok b ρ2 => okV (op a b) ρ2
  | .exc x ρ => .exc x ρ
  | .no => .no
def m2A (op : O → O → Option O) (n : M O) : Res O → Res O
  | .ok a ρ1 => m2B op a (n ρ1)
  | .exc x ρ => .exc x ρ
  | .no => .no
@[simp] theorem e_m2 (op : O → O → Option O) (m n : M O) : m2 op m n ρ = m2A op n (m ρ) := by
  unfold m2 m2A
  cases m ρ with
  | ok a ρ1 => show (n ρ1).bind _ = m2B op a (n ρ1); unfold m2B; cases n ρ1 <;> rfl
  | exc _ _ => rfl
  | no => rfl
@[simp] theorem e_m2A (op : O → O → Option O) (n : M O) (a : O) : m2A op n (.ok a ρ) = m2B op a (n ρ) := (rfl)
@[simp] theorem e_m2B (op : O → O → Option O) (a b : O) : m2B op a (.ok b ρ) = okV (op a b) ρ := (rfl)
def m1K (op : O → Option O) : Res O → Res O
  | .ok a ρ1 => okV (op a) ρ1
  | .exc x ρ => .exc x ρ
  | .no => .no
@[simp] theorem e_m1 (op : O → Option O) (m : M O) : m1 op m ρ = m1K op (m ρ) := by unfold m1 m1K; cases m ρ <;> rfl
@[simp] theorem e_m1K (op : O → Option O) (a : O) : m1K op (.ok a ρ) = okV (op a) ρ := (rfl)
def mBK : Res O → Res Bool
  | .ok (.val (.bl b)) ρ => .ok b ρ
  | .ok _ _ => .no
  | .exc x ρ => .exc x ρ
  | .no => .no
@[simp] theorem e_mB (m : M O) : mB m ρ = mBK (m ρ) := by
  unfold mB mBK
  cases m ρ with
  | ok o ρ1 =>
    cases o with
    | val d => cases d <;> rfl
    | lst _ => rfl
    | dct _ _ => rfl
    | ins _ _ _ => rfl
  | exc _ _ => rfl
  | no => rfl
@[simp] theorem e_mBK (b : Bool) : mBK (.ok (.val (.bl b)) ρ) = .ok b ρ := (rfl)
def andK (b : M Bool) : Res Bool → Res Bool
  | .ok c ρ => if c = true then b ρ else .ok false ρ
  | .exc x ρ => .exc x ρ
  | .no => .no
@[simp] theorem e_mAnd (a b : M Bool) : mAnd a b ρ = andK b (a ρ) := by unfold mAnd andK; cases a ρ <;> rfl
@[simp] theorem e_andK (b : M Bool) (c : Bool) : andK b (.ok c ρ) = if c = true then b ρ else .ok false ρ := (rfl)
def orK (b : M Bool) : Res Bool → Res Bool
  | .ok c ρ => if c = true then .ok true ρ else b ρ
  | .exc x ρ => .exc x ρ
  | .no => .no
@[simp] theorem e_mOr (a b : M Bool) : mOr a b ρ = orK b (a ρ) := by unfold mOr orK; cases a ρ <;> rfl
@[simp] theorem e_orK (b : M Bool) (c : Bool) : orK b (.ok c ρ) = if c = true then .ok true ρ else b ρ := (rfl)
def notK : Res Bool → Res Bool
  | .ok c ρ => .ok (!c) ρ
  | .exc x ρ => .exc x ρ
  | .no => .no
@[simp] theorem e_mNot (a : M Bool) : mNot a ρ = notK (a ρ) := by unfold mNot notK; cases a ρ <;> rfl
@[simp] theorem e_notK (c : Bool) : notK (.ok c ρ) = .ok (!c) ρ := (rfl)
def andVK (b : M O) : Res O → Res O
  | .ok (.val (.bl c)) ρ => if c = true then b ρ else .ok (.val (.bl false)) ρ
  | .ok _ _ => .no
  | .exc x ρ => .exc x ρ
  | .no => .no
@[simp] theorem e_mAndV (a b : M O) : mAndV a b ρ = andVK b (a ρ) := by
  unfold mAndV andVK
  cases a ρ with
  | ok o ρ1 =>
    cases o with
    | val d =>
      cases d with
      | bl c => cases c <;> rfl
      | _ => rfl
    | lst _ => rfl
    | dct _ _ => rfl
    | ins _ _ _ => rfl
  | exc _ _ => rfl
  | no => rfl
@[simp] theorem e_andVK (b : M O) (c : Bool) : andVK b (.ok (.val (.bl c)) ρ) = if c = true then b ρ else .ok (.val (.bl false)) ρ := (rfl)
def orVK (b : M O) : Res O → Res O
  | .ok (.val (.bl c)) ρ => if c = true then .ok (.val (.bl true)) ρ else b ρ
  | .ok _ _ => .no
  | .exc x ρ => .exc x ρ
  | .no => .no
@[simp] theorem e_mOrV (a b : M O) : mOrV a b ρ = orVK b (a ρ) := by
  unfold mOrV orVK
  cases a ρ with
  | ok o ρ1 =>
    cases o with
    | val d =>
      cases d with
      | bl c => cases c <;> rfl
      | _ => rfl
    | lst _ => rfl
    | dct _ _ => rfl
    | ins _ _ _ => rfl
  | exc _ _ => rfl
  | no => rfl
@[simp] theorem e_orVK (b : M O) (c : Bool) : orVK b (.ok (.val (.bl c)) ρ) = if c = true then .ok (.val (.bl true)) ρ else b ρ := (rfl)
def notVK : Res O → Res O
  | .ok (.val (.bl c)) ρ => .ok (.val (.bl (!c))) ρ
  | .ok _ _ => .no
  | .exc x ρ => .exc x ρ
  | .no => .no
@[simp] theorem e_mNotV (a : M O) : mNotV a ρ = notVK (a ρ) := by
  unfold mNotV notVK
  cases a ρ with
  | ok o ρ1 =>
    cases o with
    | val d => cases d <;> rfl
    | lst _ => rfl
    | dct _ _ => rfl
    | ins _ _ _ => rfl
  | exc _ _ => rfl
  | no => rfl
@[simp] theorem e_notVK (c : Bool) : notVK (.ok (.val (.bl c)) ρ) = .ok (.val (.bl (!c))) ρ := (rfl)
def ifK {α : Type} (a b : M α) : Res Bool → Res α
  | .ok c ρ => if c = true then a ρ else b ρ
  | .exc x ρ => .exc x ρ
  | .no => .no
@[simp] theorem e_mIfE (t : M Bool) (a b : M O) : mIfE t a b ρ = ifK a b (t ρ) := by unfold mIfE ifK; cases t ρ <;> rfl
@[simp] theorem e_mIf (t : M Bool) (a b : M Fl) : mIf t a b ρ = ifK a b (t ρ) := by unfold mIf ifK; cases t ρ <;> rfl
@[simp] theorem e_ifK {α : Type} (a b : M α) (c : Bool) : ifK a b (.ok c ρ) = if c = true then a ρ else b ρ := (rfl)
@[simp] theorem e_mNil : mNil ρ = .ok [] ρ := (rfl)
def csB (o : O) : Res (List O) → Res (List O)
  | .ok os ρ => .ok (o :: os) ρ
  | .exc x ρ => .exc x ρ
  | .no => .no
def csA (ms : M (List O)) : Res O → Res (List O)
  | .ok o ρ => csB o (ms ρ)
  | .exc x ρ => .exc x ρ
  | .no => .no
@[simp] theorem e_mCons (m : M O) (ms : M (List O)) : mCons m ms ρ = csA ms (m ρ) := by
  unfold mCons csA
  cases m ρ with
  | ok a ρ1 => show (ms ρ1).bind _ = csB a (ms ρ1); unfold csB; cases ms ρ1 <;> rfl
  | exc _ _ => rfl
  | no => rfl
@[simp] theorem e_csA (ms : M (List O)) (o : O) : csA ms (.ok o ρ) = csB o (ms ρ) := (rfl)
@[simp] theorem e_csB (o : O) (os : List O) : csB o (.ok os ρ) = .ok (o :: os) ρ := (rfl)
def lsK (k : List O → O) : Res (List O) → Res O
  | .ok os ρ => if os.length ≤ 1000000 then .ok (k os) ρ else .no
  | .exc x ρ => .exc x ρ
  | .no => .no
@[simp] theorem e_mLst (ms : M (List O)) : mLst ms ρ = lsK .lst (ms ρ) := by unfold mLst lsK; cases ms ρ <;> rfl
@[simp] theorem e_mTup (ms : M (List O)) : mTup ms ρ = lsK (fun os => .val (.tup (O.toDs os))) (ms ρ) := by unfold mTup lsK; cases ms ρ <;> rfl
@[simp] theorem e_lsK (k : List O → O) (os : List O) (h : os.length ≤ 1000000) : lsK k (.ok os ρ) = .ok (k os) ρ := by unfold lsK; simp [h]
@[simp] theorem e_mNone : mNone ρ = .ok none ρ := (rfl)
def miK : Res O → Res (Option Int)
  | .ok (.val (.int i)) ρ => .ok (some i) ρ
  | .ok _ _ => .no
  | .exc x ρ => .exc x ρ
  | .no => .no
@[simp] theorem e_mInt (m : M O) : mInt m ρ = miK (m ρ) := by
  unfold mInt miK
  cases m ρ with
  | ok o ρ1 =>
    cases o with
    | val d => cases d <;> rfl
    | lst _ => rfl
    | dct _ _ => rfl
    | ins _ _ _ => rfl
  | exc _ _ => rfl
  | no => rfl
@[simp] theorem e_miK (i : Int) : miK (.ok (.val (.int i)) ρ) = .ok (some i) ρ := (rfl)
-- statements
@[simp] theorem e_mSkip : mSkip ρ = .ok .nx ρ := (rfl)
@[simp] theorem e_mBreak : mBreak ρ = .ok .brk ρ := (rfl)
@[simp] theorem e_mCont : mCont ρ = .ok .ct ρ := (rfl)
def sqK (b : M Fl) : Res Fl → Res Fl
  | .ok .nx ρ => b ρ
  | .ok f ρ => .ok f ρ
  | .exc x ρ => .exc x ρ
  | .no => .no
@[simp] theorem e_mSeq (a b : M Fl) : mSeq a b ρ = sqK b (a ρ) := by
  unfold mSeq sqK
  cases a ρ with
  | ok f ρ1 => cases f <;> rfl
  | exc _ _ => rfl
  | no => rfl
@[simp] theorem e_sqK (b : M Fl) : sqK b (.ok .nx ρ) = b ρ := (rfl)
@[simp] theorem e_sqKr (b : M Fl) (o : O) : sqK b (.ok (.ret o) ρ) = .ok (.ret o) ρ := (rfl)
@[simp] theorem e_sqKb (b : M Fl) : sqK b (.ok .brk ρ) = .ok .brk ρ := (rfl)
@[simp] theorem e_sqKc (b : M Fl) : sqK b (.ok .ct ρ) = .ok .ct ρ := (rfl)
def exK : Res O → Res Fl
  | .ok _ ρ => .ok .nx ρ
  | .exc x ρ => .exc x ρ
  | .no => .no
@[simp] theorem e_mEx (m : M O) : mEx m ρ = exK (m ρ) := by unfold mEx exK; cases m ρ <;> rfl
@[simp] theorem e_exK (o : O) : exK (.ok o ρ) = .ok .nx ρ := (rfl)
def rtK : Res O → Res Fl
  | .ok o ρ => .ok (.ret o) ρ
  | .exc x ρ => .exc x ρ
  | .no => .no
@[simp] theorem e_mRet (m : M O) : mRet m ρ = rtK (m ρ) := by unfold mRet rtK; cases m ρ <;> rfl
@[simp] theorem e_rtK (o : O) : rtK (.ok o ρ) = .ok (.ret o) ρ := (rfl)
@[simp] theorem e_mRetN : mRetN ρ = .ok (.ret (.val .non)) ρ := (rfl)
def soK (i : Nat) : Res O → Res Fl
  | .ok o ρ => .ok .nx (ρ.set i (some o))
  | .exc x ρ => .exc x ρ
  | .no => .no
@[simp] theorem e_mSetO (i : Nat) (m : M O) : mSetO i m ρ = soK i (m ρ) := by unfold mSetO soK; cases m ρ <;> rfl
@[simp] theorem e_soK (i : Nat) (o : O) : soK i (.ok o ρ) = .ok .nx (ρ.set i (some o)) := (rfl)
def spK (i : Nat) : Res O → Res Fl
  | .ok o ρ => .ok .nx (ρ.set i (some (.val o.toD)))
  | .exc x ρ => .exc x ρ
  | .no => .no
@[simp] theorem e_mSetP (i : Nat) (m : M O) : mSetP i m ρ = spK i (m ρ) := by unfold mSetP spK; cases m ρ <;> rfl
@[simp] theorem e_spK (i : Nat) (o : O) : spK i (.ok o ρ) = .ok .nx (ρ.set i (some (.val o.toD))) := (rfl)
def asA (a : D → Env → Option Env) : Res O → Res Fl
  | .ok o ρ => match a o.toD ρ with
    | some ρ2 => .ok .nx ρ2
    | none => .no
  | .exc x ρ => .exc x ρ
  | .no => .no
def asB : Option Env → Res Fl
  | some ρ => .ok .nx ρ
  | none => .no
@[simp] theorem e_mAsg (a : D → Env → Option Env) (m : M O) : mAsg a m ρ = asA a (m ρ) := by unfold mAsg asA; cases m ρ <;> rfl
@[simp] theorem e_asA (a : D → Env → Option Env) (o : O) : asA a (.ok o ρ) = asB (a o.toD ρ) := by
  show (match a o.toD ρ with | some ρ2 => Res.ok Fl.nx ρ2 | none => .no) = _
  unfold asB; cases a o.toD ρ <;> rfl
@[simp] theorem e_asB : asB (some ρ) = .ok .nx ρ := (rfl)
@[simp] theorem e_aN (i : Nat) (d : D) : aN i d ρ = some (ρ.set i (some (.val d))) := (rfl)
@[simp] theorem e_aNil : aNil [] ρ = some ρ := (rfl)
def acK (as : List D → Env → Option Env) (ds : List D) : Option Env → Option Env
  | some ρ => as ds ρ
  | none => none
@[simp] theorem e_aCons (a : D → Env → Option Env) (as : List D → Env → Option Env) (d : D) (ds : List D) : aCons a as (d :: ds) ρ = acK as ds (a d ρ) := by
  show (a d ρ).bind (fun ρ1 => as ds ρ1) = _
  unfold acK; cases a d ρ <;> rfl
@[simp] theorem e_acK (as : List D → Env → Option Env) (ds : List D) : acK as ds (some ρ) = as ds ρ := (rfl)
@[simp] theorem e_aTup (as : List D → Env → Option Env) (ds : List D) : aTup as (.tup ds) ρ = as ds ρ := (rfl)
@[simp] theorem e_mWhile (fu : Env → Nat) (t : M Bool) (b : M Fl) : mWhile fu t b ρ = whileN t b (fu ρ) ρ := (rfl)
def foK (a : D → Env → Option Env) (b : M Fl) : Res (List D) → Res Fl
  | .ok ds ρ => forL a b ds ρ
  | .exc x ρ => .exc x ρ
  | .no => .no
@[simp] theorem e_mFor (m : M (List D)) (a : D → Env → Option Env) (b : M Fl) : mFor m a b ρ = foK a b (m ρ) := by unfold mFor foK; cases m ρ <;> rfl
@[simp] theorem e_foK (a : D → Env → Option Env) (b : M Fl) (ds : List D) : foK a b (.ok ds ρ) = forL a b ds ρ := (rfl)
def siC (i : Nat) (u b : O) (ρ : Env) : Option (Option O) → Res Fl
  | some (some a) => match setItO a b u with
    | some o => .ok .nx (ρ.set i (some o))
    | none => .no
  | _ => .no
def siB (i : Nat) (u : O) : Res O → Res Fl
  | .ok b ρ2 => siC i u b ρ2 (ρ2[i]?)
  | .exc x ρ => .exc x ρ
  | .no => .no
def siA' (i : Nat) (n : M O) (u : O) (ρ : Env) : Option (Option O) → Res Fl
  | some (some _) => siB i u (n ρ)
  | _ => .no
def siA (i : Nat) (n : M O) : Res O → Res Fl
  | .ok u ρ1 => siA' i n u ρ1 (ρ1[i]?)
  | .exc x ρ => .exc x ρ
  | .no => .no
@[simp] theorem e_mSetIt (i : Nat) (n m : M O) : mSetIt i n m ρ = siA i n (m ρ) := by
  unfold mSetIt siA
  cases m ρ with
  | ok u ρ1 =>
    show (match ρ1[i]? with | some (some _) => _ | _ => Res.no) = siA' i n u ρ1 (ρ1[i]?)
    unfold siA'
    cases ρ1[i]? with
    | none => rfl
    | some q =>
      cases q with
      | none => rfl
      | some _ =>
        unfold siB
        cases n ρ1 <;> rfl
  | exc _ _ => rfl
  | no => rfl
@[simp] theorem e_siA (i : Nat) (n : M O) (u : O) : siA i n (.ok u ρ) = siA' i n u ρ (ρ[i]?) := (rfl)
@[simp] theorem e_siA' (i : Nat) (n : M O) (u o : O) : siA' i n u ρ (some (some o)) = siB i u (n ρ) := (rfl)
@[simp] theorem e_siB (i : Nat) (u b : O) : siB i u (.ok b ρ) = siC i u b ρ (ρ[i]?) := (rfl)
def siD (i : Nat) (ρ : Env) : Option O → Res Fl
  | some o => .ok .nx (ρ.set i (some o))
  | none => .no
@[simp] theorem e_siC (i : Nat) (u b a : O) : siC i u b ρ (some (some a)) = siD i ρ (setItO a b u) := by
  show (match setItO a b u with | some o => Res.ok Fl.nx (ρ.set i (some o)) | none => .no) = _
  unfold siD; cases setItO a b u <;> rfl
@[simp] theorem e_siD (i : Nat) (o : O) : siD i ρ (some o) = .ok .nx (ρ.set i (some o)) := (rfl)
def apC (i : Nat) (o : O) (ρ : Env) : Option (Option O) → Res O
  | some (some (.lst os)) => if os.length < 1000000 then .ok (.val .non) (ρ.set i (some (.lst (os ++ [o])))) else .no
  | _ => .no
def apB (i : Nat) : Res O → Res O
  | .ok o ρ => apC i o ρ (ρ[i]?)
  | .exc x ρ => .exc x ρ
  | .no => .no
def apA (i : Nat) (m : M O) (ρ : Env) : Option (Option O) → Res O
  | some (some (.lst _)) => apB i (m ρ)
  | _ => .no
@[simp] theorem e_mAppend (i : Nat) (m : M O) : mAppend i m ρ = apA i m ρ (ρ[i]?) := by
  unfold mAppend apA
  cases ρ[i]? with
  | none => rfl
  | some q =>
    cases q with
    | none => rfl
    | some o =>
      cases o with
      | lst os =>
        unfold apB
        cases m ρ <;> rfl
      | _ => rfl
@[simp] theorem e_apA (i : Nat) (m : M O) (os : List O) : apA i m ρ (some (some (.lst os))) = apB i (m ρ) := (rfl)
@[simp] theorem e_apB (i : Nat) (o : O) : apB i (.ok o ρ) = apC i o ρ (ρ[i]?) := (rfl)
@[simp] theorem e_apC (i : Nat) (o : O) (os : List O) (h : os.length < 1000000) : apC i o ρ (some (some (.lst os))) = .ok (.val .non) (ρ.set i (some (.lst (os ++ [o])))) := by unfold apC; simp [h]
def caC (as : List Arg) (ρ : Env) : Option (O × Env) → Res O
  | some q => .ok q.1 (giveA as q.2 ρ)
  | none => .no
def caB (F : FSem) (as : List Arg) : Option (List O × Env) → Res O
  | some r => caC as r.2 (F r.1)
  | none => .no
def caA (F : FSem) (as : List Arg) : Res (List (Option O)) → Res O
  | .ok os ρ => caB F as (takeA as os ρ)
  | .exc x ρ => .exc x ρ
  | .no => .no
@[simp] theorem e_mCall (F : FSem) (as : List Arg) : mCall F as ρ = caA F as (evA as ρ) := by
  unfold mCall caA
  cases evA as ρ with
  | ok os ρ1 =>
    show (match takeA as os ρ1 with | none => Res.no | some r => match F r.1 with | none => .no | some q => .ok q.1 (giveA as q.2 r.2)) = caB F as (takeA as os ρ1)
    unfold caB
    cases takeA as os ρ1 with
    | none => rfl
    | some r =>
      show (match F r.1 with | none => Res.no | some q => .ok q.1 (giveA as q.2 r.2)) = caC as r.2 (F r.1)
      unfold caC
      cases F r.1 <;> rfl
  | exc _ _ => rfl
  | no => rfl
@[simp] theorem e_caA (F : FSem) (as : List Arg) (os : List (Option O)) : caA F as (.ok os ρ) = caB F as (takeA as os ρ) := (rfl)
@[simp] theorem e_caB (F : FSem) (as : List Arg) (os : List O) : caB F as (some (os, ρ)) = caC as ρ (F os) := (rfl)
@[simp] theorem e_caC (as : List Arg) (o : O) (ρc : Env) : caC as ρ (some (o, ρc)) = .ok o (giveA as ρc ρ) := (rfl)
@[simp] theorem e_evA0 : evA [] ρ = .ok [] ρ := (rfl)
def evB (o : O) : Res (List (Option O)) → Res (List (Option O))
  | .ok os ρ => .ok (some o :: os) ρ
  | .exc x ρ => .exc x ρ
  | .no => .no
def evC (as : List Arg) : Res O → Res (List (Option O))
  | .ok o ρ => evB o (evA as ρ)
  | .exc x ρ => .exc x ρ
  | .no => .no
@[simp] theorem e_evAv (m : M O) (as : List Arg) : evA (.v m :: as) ρ = evC as (m ρ) := by
  show (m ρ).bind (fun o ρ1 => (evA as ρ1).bind fun os ρ2 => .ok (some o :: os) ρ2) = _
  unfold evC
  cases m ρ with
  | ok o ρ1 => show (evA as ρ1).bind _ = evB o (evA as ρ1); unfold evB; cases evA as ρ1 <;> rfl
  | exc _ _ => rfl
  | no => rfl
@[simp] theorem e_evC (as : List Arg) (o : O) : evC as (.ok o ρ) = evB o (evA as ρ) := (rfl)
@[simp] theorem e_evB (os : List (Option O)) (o : O) : evB o (.ok os ρ) = .ok (some o :: os) ρ := (rfl)
def evD : Res (List (Option O)) → Res (List (Option O))
  | .ok os ρ => .ok (none :: os) ρ
  | .exc x ρ => .exc x ρ
  | .no => .no
def evE (as : List Arg) (ρ : Env) : Option (Option O) → Res (List (Option O))
  | some (some _) => evD (evA as ρ)
  | _ => .no
@[simp] theorem e_evAi (i : Nat) (as : List Arg) : evA (.io i :: as) ρ = evE as ρ (ρ[i]?) := by
  show (match ρ[i]? with | some (some _) => (evA as ρ).bind fun os ρ2 => .ok (none :: os) ρ2 | _ => .no) = _
  unfold evE
  cases ρ[i]? with
  | none => rfl
  | some q =>
    cases q with
    | none => rfl
    | some o => show (evA as ρ).bind _ = evD (evA as ρ); unfold evD; cases evA as ρ <;> rfl
@[simp] theorem e_evE (as : List Arg) (o : O) : evE as ρ (some (some o)) = evD (evA as ρ) := (rfl)
@[simp] theorem e_evD (os : List (Option O)) : evD (.ok os ρ) = .ok (none :: os) ρ := (rfl)
@[simp] theorem e_tk0 : takeA [] [] ρ = some ([], ρ) := (rfl)
def tkK (o : O) : Option (List O × Env) → Option (List O × Env)
  | some r => some (o :: r.1, r.2)
  | none => none
@[simp] theorem e_tkv (m : M O) (as : List Arg) (o : O) (os : List (Option O)) : takeA (.v m :: as) (some o :: os) ρ = tkK o (takeA as os ρ) := by
  show (takeA as os ρ).map (fun r : List O × Env => (o :: r.1, r.2)) = tkK o (takeA as os ρ)
  unfold tkK; cases takeA as os ρ <;> rfl
@[simp] theorem e_tkK (o : O) (os : List O) : tkK o (some (os, ρ)) = some (o :: os, ρ) := (rfl)
def tkI (i : Nat) (as : List Arg) (os : List (Option O)) (ρ : Env) : Option (Option O) → Option (List O × Env)
  | some (some o) => tkK o (takeA as os (ρ.set i none))
  | _ => none
@[simp] theorem e_tki (i : Nat) (as : List Arg) (os : List (Option O)) : takeA (.io i :: as) (none :: os) ρ = tkI i as os ρ (ρ[i]?) := by
  show (match ρ[i]? with
    | some (some o) => (takeA as os (ρ.set i none)).map fun r : List O × Env => (o :: r.1, r.2)
    | _ => none) = tkI i as os ρ (ρ[i]?)
  unfold tkI
  cases ρ[i]? with
  | none => rfl
  | some q =>
    cases q with
    | none => rfl
    | some o =>
      show (takeA as os (ρ.set i none)).map (fun r => (o :: r.1, r.2)) = tkK o (takeA as os (ρ.set i none))
      unfold tkK
      cases takeA as os (ρ.set i none) <;> rfl
@[simp] theorem e_tkI (i : Nat) (as : List Arg) (os : List (Option O)) (o : O) : tkI i as os ρ (some (some o)) = tkK o (takeA as os (ρ.set i none)) := (rfl)
@[simp] theorem e_gv0 (ρc : Env) : giveA [] ρc ρ = ρ := by cases ρc <;> rfl
@[simp] theorem e_gvv (m : M O) (as : List Arg) (u : Option O) (ρc : Env) : giveA (.v m :: as) (u :: ρc) ρ = giveA as ρc ρ := (rfl)
@[simp] theorem e_gvi (i : Nat) (as : List Arg) (o : O) (ρc : Env) : giveA (.io i :: as) (some o :: ρc) ρ = giveA as ρc (ρ.set i (some o)) := (rfl)
@[simp] theorem e_gvn (i : Nat) (as : List Arg) (ρc : Env) : giveA (.io i :: as) (none :: ρc) ρ = giveA as ρc ρ := (rfl)
-- iterables
def itB (ρ : Env) : Option (List D) → Res (List D)
  | some ds => .ok ds ρ
  | none => .no
def itA : Res O → Res (List D)
  | .ok o ρ => itB ρ o.toD.items?
  | .exc x ρ => .exc x ρ
  | .no => .no
@[simp] theorem e_mI (m : M O) : mI m ρ = itA (m ρ) := by
  unfold mI itA
  cases m ρ with
  | ok o ρ1 =>
    show (match o.toD.items? with | some ds => Res.ok ds ρ1 | none => .no) = itB ρ1 o.toD.items?
    unfold itB; cases o.toD.items? <;> rfl
  | exc _ _ => rfl
  | no => rfl
@[simp] theorem e_itA (o : O) : itA (.ok o ρ) = itB ρ o.toD.items? := (rfl)
@[simp] theorem e_itB (ds : List D) : itB ρ (some ds) = .ok ds ρ := (rfl)
@[simp] theorem e_mTrue : mTrue ρ = .ok true ρ := (rfl)
def r1K : Res O → Res (List D)
  | .ok (.val (.int j)) ρ => if small j = true then .ok (rangeL 0 j.toNat) ρ else .no
  | .ok _ _ => .no
  | .exc x ρ => .exc x ρ
  | .no => .no
@[simp] theorem e_mR1 (m : M O) : mR1 m ρ = r1K (m ρ) := by
  unfold r1K mR1
  cases m ρ with
  | ok o ρ1 =>
    cases o with
    | val d => cases d <;> rfl
    | lst _ => rfl
    | dct _ _ => rfl
    | ins _ _ _ => rfl
  | exc _ _ => rfl
  | no => rfl
@[simp] theorem e_r1K (j : Int) (h : small j = true) : r1K (.ok (.val (.int j)) ρ) = .ok (rangeL 0 j.toNat) ρ := by unfold r1K; simp [h]
-- values
@[simp] theorem e_lift2 (f : D → D → Option D) (x y : D) : lift2 f (.val x) (.val y) = (f x y).map O.val := (rfl)
@[simp] theorem e_add (i j : Int) : addD (.int i) (.int j) = some (.int (i + j)) := (rfl)
@[simp] theorem e_sub (i j : Int) : subD (.int i) (.int j) = some (.int (i - j)) := (rfl)
@[simp] theorem e_lt (i j : Int) : ltD (.int i) (.int j) = some (.bl (decide (i < j))) := (rfl)
@[simp] theorem e_le (i j : Int) : leD (.int i) (.int j) = some (.bl (decide (i ≤ j))) := (rfl)
@[simp] theorem e_gt (i j : Int) : gtD (.int i) (.int j) = some (.bl (decide (j < i))) := (rfl)
@[simp] theorem e_ge (i j : Int) : geD (.int i) (.int j) = some (.bl (decide (j ≤ i))) := (rfl)
theorem mulOk_l {i j : Int} (h : i.natAbs < 2 ^ 64) : mulOk i j = true := by unfold mulOk; simp [h]
theorem mulOk_r {i j : Int} (h : j.natAbs < 2 ^ 64) : mulOk i j = true := by unfold mulOk; simp [h]
theorem e_mul {i j : Int} (h : mulOk i j = true) : mulD (.int i) (.int j) = some (.int (i * j)) := by unfold mulD; simp [h]
theorem e_mulr {i : Int} (j : Int) (h : j.natAbs < 2 ^ 64) : mulD (.int i) (.int j) = some (.int (i * j)) := e_mul (mulOk_r h)
theorem e_mull {i : Int} (j : Int) (h : i.natAbs < 2 ^ 64) : mulD (.int i) (.int j) = some (.int (i * j)) := e_mul (mulOk_l h)
theorem e_mod {i j : Int} (h : 0 < j) : modD (.int i) (.int j) = some (.int (i % j)) := by unfold modD; simp [h]
theorem e_fdiv {i j : Int} (h : 0 < j) (h2 : j.natAbs.log2 < 9000) : fdivD (.int i) (.int j) = some (.int (i / j)) := by unfold fdivD; simp [h, h2]
theorem e_pow {i j : Int} (h : 0 ≤ j) (h2 : j ≤ 1000000) (h3 : i.natAbs < 2 ^ 64) : powD (.int i) (.int j) = some (.int (i ^ j.toNat)) := by unfold powD; simp [h, h2, h3]
@[simp] theorem e_toD_val (d : D) : (O.val d).toD = d := (rfl)
@[simp] theorem e_toD_lst (os : List O) : (O.lst os).toD = .lst (O.toDs os) := (rfl)
@[simp] theorem e_toDs0 : O.toDs [] = [] := (rfl)
@[simp] theorem e_toDs1 (o : O) (os : List O) : O.toDs (o :: os) = o.toD :: O.toDs os := (rfl)
@[simp] theorem e_toDsv (ds : List D) : O.toDs (ds.map O.val) = ds := toDs_vals ds
@[simp] theorem e_negO (i : Int) : negO (.val (.int i)) = some (.val (.int (-i))) := (rfl)
@[simp] theorem e_items_l (ds : List D) : (D.lst ds).items? = some ds := (rfl)
@[simp] theorem e_items_t (ds : List D) : (D.tup ds).items? = some ds := (rfl)
@[simp] theorem e_items_s (ns : List Int) : (D.scr ns).items? = some (ns.map D.int) := (rfl)

def endF (n : Nat) (P : List Nat) : Res Fl → Option (O × Env)
  | .ok .nx ρ' => some (.val .non, maskE n P ρ')
  | .ok (.ret o) ρ' => some (o, maskE n P ρ')
  | _ => none
theorem runF_eq (n N : Nat) (P : List Nat) (b : M Fl) (os : List O) : runF n N P b os = endF n P (b (os.map some ++ List.replicate (N - os.length) none)) := by
  unfold runF endF
  rfl
@[simp] theorem e_endR (n : Nat) (P : List Nat) (o : O) : endF n P (.ok (.ret o) ρ) = some (o, maskE n P ρ) := (rfl)
@[simp] theorem e_endN (n : Nat) (P : List Nat) : endF n P (.ok .nx ρ) = some (.val .non, maskE n P ρ) := (rfl)

/-! ### loops -/
theorem forL_inv {a : D → Env → Option Env} {b : M Fl} {ds : List D} (I : Nat → Env → Prop) {ρ : Env} (h0 : I 0 ρ) (hs : ∀ i d ρ, ds[i]? = some d → I i ρ → ∃ ρ1 ρ2, a d ρ = some ρ1 ∧ (b ρ1 = .ok .nx ρ2 ∨ b ρ1 = .ok .ct ρ2) ∧ I (i + 1) ρ2) :
    ∃ ρ', forL a b ds ρ = .ok .nx ρ' ∧ I ds.length ρ' := by
  induction ds generalizing I ρ with
  | nil => exact ⟨ρ, rfl, h0⟩
  | cons d ds ih =>
    obtain ⟨ρ1, ρ2, e1, e2, h1⟩ := hs 0 d ρ rfl h0
    obtain ⟨ρ', e3, h3⟩ := ih (fun i => I (i + 1)) h1 fun i d ρ h => hs (i + 1) d ρ (by simpa using h)
    refine ⟨ρ', ?_, by simpa using h3⟩
    unfold forL
    rw [e1]
    rcases e2 with e2 | e2 <;> simp only [e2, Res.bind_ok] <;> exact e3
theorem while_inv {t : M Bool} {b : M Fl} (I J : Env → Prop) (μ : Env → Nat) (hs : ∀ ρ, I ρ → (∃ ρ1, t ρ = .ok false ρ1 ∧ J ρ1) ∨ ∃ ρ1 ρ2, t ρ = .ok true ρ1 ∧ (b ρ1 = .ok .nx ρ2 ∨ b ρ1 = .ok .ct ρ2) ∧ I ρ2 ∧ μ ρ2 < μ ρ) :
    ∀ (n : Nat) (ρ : Env), I ρ → μ ρ < n → ∃ ρ', whileN t b n ρ = .ok .nx ρ' ∧ J ρ' := by
  intro n
  induction n with
  | zero => intro ρ _ h; omega
  | succ n ih =>
    intro ρ hI hn
    rcases hs ρ hI with ⟨ρ1, e1, h1⟩ | ⟨ρ1, ρ2, e1, e2, h1, h2⟩
    · exact ⟨ρ1, by unfold whileN; rw [e1]; simp, h1⟩
    · obtain ⟨ρ', e3, h3⟩ := ih ρ2 h1 (by omega)
      refine ⟨ρ', ?_, h3⟩
      unfold whileN
      rw [e1]
      rcases e2 with e2 | e2 <;> simp [e2, e3]
theorem compL_pure {own : List Nat} {a : D → Env → Option Env} {t : M Bool} {e : M O} {ρ : Env} (c : D → Bool) (g : D → O) : ∀ {ds : List D},
    (∀ d ∈ ds, ∃ ρ1 ρ2, a d ρ = some ρ1 ∧ t ρ1 = .ok (c d) ρ2 ∧ (c d = false → wipeE ρ2 own = ρ) ∧ (c d = true → ∃ ρ3, e ρ2 = .ok (g d) ρ3 ∧ wipeE ρ3 own = ρ)) → compL own a t e ds ρ = .ok ((ds.filter c).map g) ρ
  | [], _ => rfl
  | d :: ds, h => by
    obtain ⟨ρ1, ρ2, e1, e2, h1, h2⟩ := h d (List.mem_cons_self ..)
    have ih := compL_pure (own := own) (a := a) (t := t) (e := e) (ρ := ρ) c g (ds := ds) fun d hd => h d (List.mem_cons_of_mem _ hd)
    unfold compL
    rw [e1]
    simp only [e2, Res.bind_ok]
    cases hc : c d with
    | true =>
      obtain ⟨ρ3, e3, h3⟩ := h2 hc
      simp [e3, h3, ih, hc]
    | false => simp [h1 hc, ih, hc]
end FB

/-! Plain facts of data: equality, slices, places. -/
namespace FB
open PySem PySem.Spec L2
open PyProof.Rows hiding St

@[simp] theorem eqv_int (i j : Int) : D.eqv (.int i) (.int j) = decide (i = j) := by
  unfold D.eqv D.pd; simp only [PyData.eqv]; first | rfl | (simp; done) | (by_cases h : i = j <;> simp [h])
def eqvs (xs ys : List D) : Bool := PyData.eqvAll (D.pds xs) (D.pds ys)
@[simp] theorem eqv_lst (xs ys : List D) : D.eqv (.lst xs) (.lst ys) = eqvs xs ys := by unfold D.eqv D.pd eqvs; simp only [PyData.eqv]
@[simp] theorem eqv_tup (xs ys : List D) : D.eqv (.tup xs) (.tup ys) = eqvs xs ys := by unfold D.eqv D.pd eqvs; simp only [PyData.eqv]
@[simp] theorem eqvs_nn : eqvs [] [] = true := by unfold eqvs D.pds; simp only [PyData.eqvAll]
@[simp] theorem eqvs_nc (y : D) (ys : List D) : eqvs [] (y :: ys) = false := by unfold eqvs D.pds; simp only [PyData.eqvAll]
@[simp] theorem eqvs_cn (y : D) (ys : List D) : eqvs (y :: ys) [] = false := by unfold eqvs D.pds; simp only [PyData.eqvAll]
@[simp] theorem eqvs_cc (x y : D) (xs ys : List D) : eqvs (x :: xs) (y :: ys) = (D.eqv x y && eqvs xs ys) := by
  show PyData.eqvAll (x.pd :: D.pds xs) (y.pd :: D.pds ys) = _
  simp only [PyData.eqvAll]; rfl
@[simp] theorem eqvs_n (xs : List D) : eqvs xs [] = xs.isEmpty := by cases xs <;> simp
@[simp] theorem okE_int (n : Nat) (i : Int) : D.okE n (.int i) = true := by unfold D.okE; first | rfl | (cases n <;> rfl)
@[simp] theorem okE_bl (n : Nat) (i : Bool) : D.okE n (.bl i) = true := by unfold D.okE; first | rfl | (cases n <;> rfl)
@[simp] theorem okE_non (n : Nat) : D.okE n .non = true := by unfold D.okE; first | rfl | (cases n <;> rfl)
@[simp] theorem okE_str (n : Nat) (s : Str) : D.okE n (.str s) = true := by unfold D.okE; first | rfl | (cases n <;> rfl)
@[simp] theorem okE_lst (n : Nat) (xs : List D) : D.okE (n + 1) (.lst xs) = xs.all (D.okE n) := by rw [D.okE]
@[simp] theorem okE_tup (n : Nat) (xs : List D) : D.okE (n + 1) (.tup xs) = xs.all (D.okE n) := by rw [D.okE]
theorem e_eqO {a b : O} (ha : a.toD.okE 9 = true) (hb : b.toD.okE 9 = true) : eqO a b = some (.val (.bl (a.toD.eqv b.toD))) := by unfold eqO; simp [ha, hb]
theorem e_neO {a b : O} (ha : a.toD.okE 9 = true) (hb : b.toD.okE 9 = true) : neO a b = some (.val (.bl (!a.toD.eqv b.toD))) := by unfold neO; simp [ha, hb]
@[simp] theorem eqO_int (i j : Int) : eqO (.val (.int i)) (.val (.int j)) = some (.val (.bl (decide (i = j)))) := by rw [e_eqO (by simp) (by simp)]; simp
@[simp] theorem neO_int (i j : Int) : neO (.val (.int i)) (.val (.int j)) = some (.val (.bl (!decide (i = j)))) := by rw [e_neO (by simp) (by simp)]; simp
theorem okE_ints (n : Nat) (ns : List Int) : ((ns.map D.int).all (D.okE n)) = true := by simp
theorem neO_ints (ns : List Int) : neO (.val (.lst (ns.map D.int))) (.val (.lst [])) = some (.val (.bl (!ns.isEmpty))) := by
  rw [e_neO (by show D.okE (8 + 1) _ = true; simp) (by show D.okE (8 + 1) _ = true; simp)]; simp
theorem cut_to {α : Type} (xs : List α) (n : Nat) : cutL xs none (some (n : Int)) = xs.take n := by
  unfold cutL
  rw [HT.sIx_none, HT.sIx_nat]
  simp [List.take_eq_take_iff]
theorem cut_from {α : Type} (xs : List α) (n : Nat) : cutL xs (some (n : Int)) none = xs.drop n := by
  unfold cutL
  rw [HT.sIx_none, HT.sIx_nat]
  rw [List.take_of_length_le (by simp)]
  by_cases h : n ≤ xs.length
  · rw [Nat.min_eq_left h]
  · rw [Nat.min_eq_right (by omega), List.drop_length, List.drop_of_length_le (by omega)]
@[simp] theorem slO_val_lst (ds : List D) (lo hi : Option Int) : slO (.val (.lst ds)) lo hi = some (.val (.lst (cutL ds lo hi))) := (rfl)
@[simp] theorem slO_val_tup (ds : List D) (lo hi : Option Int) : slO (.val (.tup ds)) lo hi = some (.val (.tup (cutL ds lo hi))) := (rfl)
@[simp] theorem slO_val_scr (ns : List Int) (lo hi : Option Int) : slO (.val (.scr ns)) lo hi = some (.val (.lst ((cutL ns lo hi).map D.int))) := (rfl)
@[simp] theorem listO_lst (ds : List D) : listO (.val (.lst ds)) = some (.val (.lst ds)) := by first | rfl | (unfold listO; simp)
@[simp] theorem ixO_lst (os : List O) (i : Int) : ixO (.lst os) (.val (.int i)) = atI os i := (rfl)
@[simp] theorem ixO_vlst (ds : List D) (i : Int) : ixO (.val (.lst ds)) (.val (.int i)) = (atI ds i).map O.val := (rfl)
@[simp] theorem ixO_vtup (ds : List D) (i : Int) : ixO (.val (.tup ds)) (.val (.int i)) = (atI ds i).map O.val := (rfl)
@[simp] theorem atI_0 {α : Type} (x : α) (xs : List α) : atI (x :: xs) 0 = some x := by unfold atI ixN; simp
theorem atN {α : Type} (xs : List α) (i : Nat) : atI xs (i : Int) = xs[i]? := by
  unfold atI ixN
  by_cases h : i < xs.length
  · simp [h]
  · simp [h]
@[simp] theorem atI_1 {α : Type} (x y : α) (xs : List α) : atI (x :: y :: xs) 1 = some y := by rw [show (1 : Int) = ((1 : Nat) : Int) from rfl, atN]; rfl
@[simp] theorem atI_2 {α : Type} (x y z : α) (xs : List α) : atI (x :: y :: z :: xs) 2 = some z := by rw [show (2 : Int) = ((2 : Nat) : Int) from rfl, atN]; rfl
theorem atI_last {α : Type} (xs : List α) (x : α) : atI (xs ++ [x]) (-1) = some x := by
  unfold atI ixN
  rw [if_neg (by omega), if_pos (by simp; omega)]
  have e : ((-1 : Int) + ((xs ++ [x]).length : Nat)).toNat = xs.length := by simp; omega
  show (xs ++ [x])[((-1 : Int) + ((xs ++ [x]).length : Nat)).toNat]? = some x
  rw [e]
  simp
@[simp] theorem setItO_lst (os : List O) (i : Nat) (u : O) (h : i < os.length) : setItO (.lst os) (.val (.int (i : Int))) u = some (.lst (os.set i u)) := by
  unfold setItO ixN
  simp [h]
@[simp] theorem setItO_0 (a : O) (os : List O) (u : O) : setItO (.lst (a :: os)) (.val (.int 0)) u = some (.lst (u :: os)) := setItO_lst (a :: os) 0 u (by simp)
@[simp] theorem setItO_1 (a b : O) (os : List O) (u : O) : setItO (.lst (a :: b :: os)) (.val (.int 1)) u = some (.lst (a :: u :: os)) := setItO_lst (a :: b :: os) 1 u (by simp)
@[simp] theorem setItO_2 (a b c : O) (os : List O) (u : O) : setItO (.lst (a :: b :: c :: os)) (.val (.int 2)) u = some (.lst (a :: b :: u :: os)) := setItO_lst (a :: b :: c :: os) 2 u (by simp)
theorem small_of {j : Int} (h : j ≤ 1000000) (h2 : -1000000 ≤ j) : small j = true := by unfold small; simp; omega
theorem log_of {j : Int} (h0 : 0 < j) (h : j < 9223372036854775808) : j.natAbs.log2 < 9000 := by
  have : j.natAbs.log2 < 63 := (Nat.log2_lt (by omega)).2 (by
    have e : (2 : Nat) ^ 63 = 9223372036854775808 := by decide
    omega)
  omega
def coK2 (own : List Nat) (ρ1 : Env) : Res (List O) → Res O
  | .ok os ρ2 => .ok (.lst os) (backE (wipeE ρ2 own) ρ1 own)
  | .exc x ρ => .exc x ρ
  | .no => .no
def coK (own : List Nat) (a : D → Env → Option Env) (t : M Bool) (e : M O) : Res (List D) → Res O
  | .ok ds ρ1 => if ds.length ≤ 1000000 then coK2 own ρ1 (compL own a t e ds (wipeE ρ1 own)) else .no
  | .exc x ρ => .exc x ρ
  | .no => .no
variable {ρ : Env}
@[simp] theorem e_mComp (it : M (List D)) (own : List Nat) (a : D → Env → Option Env) (t : M Bool) (e : M O) : mComp it own a t e ρ = coK own a t e (it ρ) := by
  unfold mComp coK
  cases it ρ with
  | ok ds ρ1 =>
    show (if ds.length ≤ 1000000 then (compL own a t e ds (wipeE ρ1 own)).bind _ else Res.no) = if ds.length ≤ 1000000 then coK2 own ρ1 (compL own a t e ds (wipeE ρ1 own)) else Res.no
    unfold coK2
    cases compL own a t e ds (wipeE ρ1 own) <;> rfl
  | exc _ _ => rfl
  | no => rfl
@[simp] theorem e_coK (own : List Nat) (a : D → Env → Option Env) (t : M Bool) (e : M O) (ds : List D) (h : ds.length ≤ 1000000) : coK own a t e (.ok ds ρ) = coK2 own ρ (compL own a t e ds (wipeE ρ own)) := by unfold coK; simp [h]
@[simp] theorem e_coK2 (own : List Nat) (os : List O) (ρ1 : Env) : coK2 own ρ1 (.ok os ρ) = .ok (.lst os) (backE (wipeE ρ own) ρ1 own) := (rfl)
@[simp] theorem e_wipe0 : wipeE ρ [] = ρ := (rfl)
@[simp] theorem e_wipe1 (v : Nat) (vs : List Nat) : wipeE ρ (v :: vs) = (wipeE ρ vs).set v none := (rfl)
def bkK (v : Nat) (ρ : Env) : Option (Option O) → Env
  | some (some o) => ρ.set v (some o)
  | _ => ρ
@[simp] theorem e_back0 (ρ2 : Env) : backE ρ2 ρ [] = ρ2 := (rfl)
@[simp] theorem e_back1 (ρ2 : Env) (v : Nat) (vs : List Nat) : backE ρ2 ρ (v :: vs) = bkK v (backE ρ2 ρ vs) ((wipeE ρ vs)[v]?) := by
  show (match (wipeE ρ vs)[v]? with | some (some o) => (backE ρ2 ρ vs).set v (some o) | _ => backE ρ2 ρ vs) = _
  unfold bkK; rfl
@[simp] theorem e_bkKs (v : Nat) (o : O) : bkK v ρ (some (some o)) = ρ.set v (some o) := (rfl)
@[simp] theorem e_bkKn (v : Nat) : bkK v ρ (some none) = ρ := (rfl)
@[simp] theorem e_bkKx (v : Nat) : bkK v ρ none = ρ := (rfl)
theorem bkK_eta (v : Nat) (c : Option O) (ρ : Env) (h : ρ[v]? = some none) : bkK v ρ (some c) = ρ.set v c := by
  cases c with
  | some o => rfl
  | none =>
    show ρ = _
    apply List.ext_getElem?
    intro j
    by_cases hj : v = j
    · subst hj
      have hl : v < ρ.length := (List.getElem?_eq_some_iff.mp h).1
      rw [h]; simp [hl]
    · rw [List.getElem?_set_ne hj]
theorem compL_of {α : Type} {own : List Nat} {a : D → Env → Option Env} {t : M Bool} {e : M O} (f : α → D) (c : α → Bool) (g : α → O) : ∀ {xs : List α},
    (∀ x ∈ xs, ∃ ρ1 ρ2, a (f x) ρ = some ρ1 ∧ t ρ1 = .ok (c x) ρ2 ∧ (c x = false → wipeE ρ2 own = ρ) ∧ (c x = true → ∃ ρ3, e ρ2 = .ok (g x) ρ3 ∧ wipeE ρ3 own = ρ)) → compL own a t e (xs.map f) ρ = .ok ((xs.filter c).map g) ρ
  | [], _ => rfl
  | d :: ds, h => by
    obtain ⟨ρ1, ρ2, e1, e2, h1, h2⟩ := h d (List.mem_cons_self ..)
    have ih := compL_of (own := own) (a := a) (t := t) (e := e) f c g (xs := ds) fun d hd => h d (List.mem_cons_of_mem _ hd)
    rw [List.map_cons]
    unfold compL
    rw [e1]
    simp only [e2, Res.bind_ok]
    cases hc : c d with
    | true =>
      obtain ⟨ρ3, e3, h3⟩ := h2 hc
      simp [e3, h3, ih, hc]
    | false => simp [h1 hc, ih, hc]
theorem compL_all {α : Type} {own : List Nat} {a : D → Env → Option Env} {t : M Bool} {e : M O} (f : α → D) (g : α → O) {xs : List α}
    (h : ∀ x ∈ xs, ∃ ρ1 ρ2 ρ3, a (f x) ρ = some ρ1 ∧ t ρ1 = .ok true ρ2 ∧ e ρ2 = .ok (g x) ρ3 ∧ wipeE ρ3 own = ρ) : compL own a t e (xs.map f) ρ = .ok (xs.map g) ρ := by
  have q := compL_of (own := own) (a := a) (t := t) (e := e) (ρ := ρ) f (fun _ => true) g (xs := xs) fun x hx => by
    obtain ⟨ρ1, ρ2, ρ3, e1, e2, e3, e4⟩ := h x hx
    refine ⟨ρ1, ρ2, e1, e2, ?_, fun _ => ⟨ρ3, e3, e4⟩⟩
    intro z
    exact absurd z (by simp)
  rw [q, List.filter_eq_self.mpr fun _ _ => rfl]
@[simp] theorem lenO_lst (os : List O) : lenO (.lst os) = some (.val (.int os.length)) := by first | rfl | (unfold lenO; simp)
@[simp] theorem lenO_vlst (os : List D) : lenO (.val (.lst os)) = some (.val (.int os.length)) := by first | rfl | (unfold lenO; simp)
@[simp] theorem lenO_vtup (os : List D) : lenO (.val (.tup os)) = some (.val (.int os.length)) := by first | rfl | (unfold lenO; simp)
@[simp] theorem lenO_scr (os : List Int) : lenO (.val (.scr os)) = some (.val (.int os.length)) := by first | rfl | (unfold lenO; simp)
@[simp] theorem addD_lst (xs ys : List D) (h : xs.length + ys.length ≤ 1000000) : addD (.lst xs) (.lst ys) = some (.lst (xs ++ ys)) := by unfold addD; simp [h]
@[simp] theorem lift2_lst (f : D → D → Option D) (xs : List D) (y : D) : lift2 f (.lst (xs.map O.val)) (.val y) = (f (.lst xs) y).map O.val := by unfold lift2; simp
@[simp] theorem tupO_lst (ds : List D) : tupO (.lst (ds.map O.val)) = some (.val (.tup ds)) := by unfold tupO; simp
@[simp] theorem tupO_vlst (ds : List D) : tupO (.val (.lst ds)) = some (.val (.tup ds)) := by unfold tupO; simp
theorem small_nat {n : Nat} (h : n ≤ 1000000) : small (n : Int) = true := by unfold small; simp; omega
@[simp] theorem isi_int_int (i : Int) : isiO "int" (.val (.int i)) = some (.val (.bl true)) := by rfl
@[simp] theorem isi_int_bool (i : Int) : isiO "bool" (.val (.int i)) = some (.val (.bl false)) := by rfl
@[simp] theorem isNO_int (i : Int) : isNO (.val (.int i)) (.val .non) = some (.val (.bl false)) := by rfl
@[simp] theorem isNO_non : isNO (.val .non) (.val .non) = some (.val (.bl true)) := by rfl
@[simp] theorem lints_lst (ns : List Int) : (D.lst (ns.map D.int)).lints? = some ns := by unfold D.lints?; simp [ints?_map]
/-- an owned list of shared things -/
def vO (ds : List D) : O := .lst (ds.map O.val)
theorem vO_nil : vO [] = .lst [] := rfl
@[simp] theorem vO_sh (ds : List D) : (vO ds).sh = some (.lst ds) := O.sh_lst ds
@[simp] theorem vO_toD (ds : List D) : (vO ds).toD = .lst ds := by show D.lst (O.toDs _) = _; rw [toDs_vals]
@[simp] theorem vO_apA (i : Nat) (m : M O) (ds : List D) : apA i m ρ (some (some (vO ds))) = apB i (m ρ) := (rfl)
@[simp] theorem vO_apC (i : Nat) (d : D) (ds : List D) (h : ds.length < 1000000) : apC i (.val d) ρ (some (some (vO ds))) = .ok (.val .non) (ρ.set i (some (vO (ds ++ [d])))) := by
  unfold vO; rw [e_apC _ _ _ (by simpa using h)]; simp
@[simp] theorem vO_len (ds : List D) : lenO (vO ds) = some (.val (.int ds.length)) := by unfold vO; simp
@[simp] theorem vO_ix (ds : List D) (i : Int) : ixO (vO ds) (.val (.int i)) = (atI ds i).map O.val := by
  unfold vO; rw [ixO_lst]; unfold atI; simp; rfl
@[simp] theorem vO_lift2 (f : D → D → Option D) (ds : List D) (y : D) : lift2 f (vO ds) (.val y) = (f (.lst ds) y).map O.val := lift2_lst f ds y
@[simp] theorem vO_sl (ds : List D) (lo hi : Option Int) : slO (vO ds) lo hi = some (.val (.lst (cutL ds lo hi))) := by unfold slO; simp
@[simp] theorem vO_tup (ds : List D) : tupO (vO ds) = some (.val (.tup ds)) := tupO_lst ds
@[simp] theorem vO_list (ds : List D) : listO (vO ds) = some (.val (.lst ds)) := by unfold listO; simp
theorem vO_set (ds : List D) (i : Nat) (d : D) (h : i < ds.length) : setItO (vO ds) (.val (.int (i : Int))) (.val d) = some (vO (ds.set i d)) := by
  unfold vO; rw [setItO_lst _ _ _ (by simpa using h)]; simp
end FB

/-! Constants of the module; a new dict. -/
namespace FB
open PySem PySem.Spec L2
open PyProof.Rows hiding St

section
variable {X : Cx} {K : PySem.W.Frag} {mg : Str → Option Value}
theorem sp_gc {x : Str} {pos : Pos} {i : Int} (hg : Gl X x) (h : ∃ u, X.mg x = some u ∧ RelV (.int i) u) (hd : (x == ("__debug__" : Str)) = false := by decide) : SP X (.Name x pos) (pC (.int i)) := sp_c (C8.pe_gc hg h hd) fun _ => .int i
def mDict0 : M O := fun ρ => .ok (.dct [] []) ρ
theorem se_dict0 {pos : Pos} : SE X (.Dict [] [] pos) mDict0 := PE.imp pe_dnewK fun σ H Q w => by
  obtain ⟨ρ, T, o, ρ', c, R, e, k⟩ := w
  cases e
  intro p hp
  exact k _ _ c (Rep.closeD (kvs := []) (R.new hp) rfl ⟨rfl, List.nodup_nil⟩)
/-! a new list of its own, by list(..) -/
def UnW (K : PySem.W.Frag) (mg : Str → Option Value) (r : V → Hp → VK → Prop) (f : O → Option (List D)) : Prop :=
  ∀ (H : Hp) (L : List Item) (B : List (V × O)) (x : V) (ox : O) (ds : List D) (Q : VK), Rep K mg H L B → (x, ox) ∈ B → f ox = some ds → (∀ v H', Rep K mg H' (.ov v (.lst (ds.map O.val)) :: L) [] → Q v H') → r x H Q
def listW (a : O) : Option (List D) := match a.sh with
  | some (.lst ds) => some ds
  | some (.tup ds) => some ds
  | some (.scr ns) => some (ns.map D.int)
  | _ => none
theorem unw_list : UnW K mg (fun x H Q => ∃ p ys, [x] = [.ref p] ∧ (SqL K H p ys ∨ SqT K H p ys) ∧ ∀ l, H l = none → Q (.ref l) (upd H l (.lst ys))) listW := by
  intro H L B x ox ds Q R hx e k
  unfold listW at e
  split at e
  · rename_i ds e1
    cases e
    obtain ⟨p, vs, rfl, hp, lp, R1⟩ := R.shL hx e1
    exact ⟨p, vs, rfl, .inl (.inl hp), fun q hq => k _ _ (R1.nob.newL lp hq)⟩
  · rename_i ds e1
    cases e
    obtain ⟨p, vs, rfl, hp, lp, R1⟩ := R.shT hx e1
    exact ⟨p, vs, rfl, .inr hp, fun q hq => k _ _ (R1.nob.newL lp hq)⟩
  · rename_i ns e1
    cases e
    have q : Vw K mg H x (.scr ns) := R.sh hx e1
    cases q with
    | scr h => exact ⟨_, _, rfl, .inl h, fun q hq => k _ _ ((R.ints ns).nob.newL (by simp) hq)⟩
  · cases e
def mW (op : O → Option (List D)) (f : Pf) : M O := fun ρ => match (f ρ).bind op with
  | some ds => .ok (.lst (ds.map O.val)) ρ
  | none => .no
theorem tUn_w {r : V → Hp → VK → Prop} {op : O → Option (List D)} {f : Pf} (h : UnW K mg r op) (σ : L2.St) (H : Hp) (Q : VK) (q : tM K mg (mW op f) σ H Q) : tUn r (tP K mg f) σ H Q := by
  obtain ⟨ρ, T, o, ρ', c, R, e, k⟩ := q
  unfold mW at e
  cases e1 : f ρ with
  | none => rw [e1] at e; cases e
  | some a =>
    rw [e1] at e
    have e : (match op a with | some ds => Res.ok (O.lst (ds.map O.val)) ρ | none => .no) = .ok o ρ' := e
    cases e2 : op a with
    | none => rw [e2] at e; cases e
    | some ds =>
      rw [e2] at e
      cases e
      exact ⟨ρ, T, [], a, c, R, e1, fun x H1 s1 R1 => h H1 _ _ x a ds Q R1 (List.mem_cons_self ..) e2 fun v H' R' => k v H' c R'⟩
theorem se_tw {T : String} {x : Str} {a : Expr} {p pos : Pos} {f : Pf} {r : List V → Hp → VK → Prop} {op : O → Option (List D)} (hc : CallR X (.type T) r) (h : UnW X.K X.mg (fun x H Q => r [x] H Q) op) (hg : Gl X x) (hm : X.mg x = none) (hv : bootBuiltins x = some (.type T)) (ha : SP X a f)
    (hn : x ≠ "__name__" := by decide) (hdb : (x == ("__debug__" : Str)) = false := by decide) (hst : starEach (a :: []) X.env = (false, eval a X.env) :: starEach [] X.env := by rfl) (hpl : (backTo pos (starEach [] X.env)).any (·.1) = false := by rfl) :
    SE X (.Call (.Name x p) [a] [] pos) (mW op f) := PE.imp (pe_callTy hc hg hm hv (pa_cons ha pa_nil hst) hn hdb hst hpl) (tUn_w h)
@[simp] theorem e_mDict0 {ρ : Env} : mDict0 ρ = .ok (.dct [] []) ρ := (rfl)
theorem int_gl {h : Heap} {x : Str} {i : Int} (X : K.In h) (G : h.Ns mainGlobals mg) (c : (He.Fa.int x i).ok K = true) : ∃ u, mg x = some u ∧ RelV (.int i) u := by
  obtain ⟨t, e⟩ := He.int_ok X G c
  exact ⟨_, e, t, rfl⟩
end
end FB
namespace FB
open PySem PySem.Spec L2
variable {ρ : Env}
def chC (op' : O → O → Option O) (l : M O) (b : O) (ρ : Env) : Option O → Res O
  | some (.val (.bl c)) => if c = true then m2B op' b (l ρ) else .ok (.val (.bl false)) ρ
  | _ => .no
def chB (op op' : O → O → Option O) (l : M O) (a : O) : Res O → Res O
  | .ok b ρ => chC op' l b ρ (op a b)
  | .exc x ρ => .exc x ρ
  | .no => .no
def chA (op op' : O → O → Option O) (n l : M O) : Res O → Res O
  | .ok a ρ => chB op op' l a (n ρ)
  | .exc x ρ => .exc x ρ
  | .no => .no
@[simp] theorem e_mChain (op op' : O → O → Option O) (m n l : M O) : mChain op op' m n l ρ = chA op op' n l (m ρ) := by
  unfold mChain chA
  cases m ρ with
  | ok a ρ1 =>
    show (n ρ1).bind _ = chB op op' l a (n ρ1)
    unfold chB
    cases n ρ1 with
    | ok b ρ2 =>
      unfold chC
      simp only [Res.bind_ok]
      cases op a b with
      | none => rfl
      | some o =>
        cases o with
        | val d =>
          cases d with
          | bl c =>
            cases c with
            | true =>
              show (l ρ2).bind _ = m2B op' b (l ρ2)
              unfold m2B
              cases l ρ2 <;> rfl
            | false => rfl
          | _ => rfl
        | _ => rfl
    | exc _ _ => rfl
    | no => rfl
  | exc _ _ => rfl
  | no => rfl
@[simp] theorem e_chA (op op' : O → O → Option O) (n l : M O) (a : O) : chA op op' n l (.ok a ρ) = chB op op' l a (n ρ) := (rfl)
@[simp] theorem e_chB (op op' : O → O → Option O) (l : M O) (a b : O) : chB op op' l a (.ok b ρ) = chC op' l b ρ (op a b) := (rfl)
@[simp] theorem e_chC (op' : O → O → Option O) (l : M O) (b : O) (c : Bool) : chC op' l b ρ (some (.val (.bl c))) = if c = true then m2B op' b (l ρ) else .ok (.val (.bl false)) ρ := (rfl)
theorem mZip_tt {m n : M O} {xs ys : List D} {ρ1 ρ2 : Env} (h1 : m ρ = .ok (.val (.tup xs)) ρ1) (h2 : n ρ1 = .ok (.val (.tup ys)) ρ2) : mZip m n ρ = .ok (zipL xs ys) ρ2 := by
  unfold mZip
  rw [h1, Res.bind_ok, h2, Res.bind_ok]
  rfl
theorem mZip_ll {m n : M O} {xs ys : List D} {ρ1 ρ2 : Env} (h1 : m ρ = .ok (.val (.lst xs)) ρ1) (h2 : n ρ1 = .ok (.val (.lst ys)) ρ2) : mZip m n ρ = .ok (zipL xs ys) ρ2 := by
  unfold mZip
  rw [h1, Res.bind_ok, h2, Res.bind_ok]
  rfl
@[simp] theorem intO_bl (b : Bool) : intO (.val (.bl b)) = some (.val (.int (if b = true then 1 else 0))) := by cases b <;> rfl
@[simp] theorem intO_int (i : Int) : intO (.val (.int i)) = some (.val (.int i)) := (rfl)
@[simp] theorem eqv_bl (a b : Bool) : D.eqv (.bl a) (.bl b) = (a == b) := by cases a <;> cases b <;> (unfold D.eqv D.pd; simp [PyData.eqv])
@[simp] theorem eqO_bl (a b : Bool) : eqO (.val (.bl a)) (.val (.bl b)) = some (.val (.bl (a == b))) := by rw [e_eqO (by simp) (by simp)]; simp
@[simp] theorem isi_bool_non  : isiO "bool" (.val .non) = some (.val (.bl false)) := by rfl
@[simp] theorem isi_bool_bl (x : Bool) : isiO "bool" (.val (.bl x)) = some (.val (.bl true)) := by rfl
@[simp] theorem isi_bool_str (x : Str) : isiO "bool" (.val (.str x)) = some (.val (.bl false)) := by rfl
@[simp] theorem isi_bool_tup (x : List D) : isiO "bool" (.val (.tup x)) = some (.val (.bl false)) := by rfl
@[simp] theorem isi_bool_lst (x : List D) : isiO "bool" (.val (.lst x)) = some (.val (.bl false)) := by rfl
@[simp] theorem isi_bool_dct (k : List Key) (x : List D) : isiO "bool" (.val (.dct k x)) = some (.val (.bl false)) := by rfl
@[simp] theorem isi_int_non  : isiO "int" (.val .non) = some (.val (.bl false)) := by rfl
@[simp] theorem isi_int_bl (x : Bool) : isiO "int" (.val (.bl x)) = some (.val (.bl true)) := by rfl
@[simp] theorem isi_int_str (x : Str) : isiO "int" (.val (.str x)) = some (.val (.bl false)) := by rfl
@[simp] theorem isi_int_tup (x : List D) : isiO "int" (.val (.tup x)) = some (.val (.bl false)) := by rfl
@[simp] theorem isi_int_lst (x : List D) : isiO "int" (.val (.lst x)) = some (.val (.bl false)) := by rfl
@[simp] theorem isi_int_dct (k : List Key) (x : List D) : isiO "int" (.val (.dct k x)) = some (.val (.bl false)) := by rfl
@[simp] theorem isi_str_non  : isiO "str" (.val .non) = some (.val (.bl false)) := by rfl
@[simp] theorem isi_str_bl (x : Bool) : isiO "str" (.val (.bl x)) = some (.val (.bl false)) := by rfl
@[simp] theorem isi_str_int (x : Int) : isiO "str" (.val (.int x)) = some (.val (.bl false)) := by rfl
@[simp] theorem isi_str_str (x : Str) : isiO "str" (.val (.str x)) = some (.val (.bl true)) := by rfl
@[simp] theorem isi_str_tup (x : List D) : isiO "str" (.val (.tup x)) = some (.val (.bl false)) := by rfl
@[simp] theorem isi_str_lst (x : List D) : isiO "str" (.val (.lst x)) = some (.val (.bl false)) := by rfl
@[simp] theorem isi_str_dct (k : List Key) (x : List D) : isiO "str" (.val (.dct k x)) = some (.val (.bl false)) := by rfl
@[simp] theorem isi_tuple_non  : isiO "tuple" (.val .non) = some (.val (.bl false)) := by rfl
@[simp] theorem isi_tuple_bl (x : Bool) : isiO "tuple" (.val (.bl x)) = some (.val (.bl false)) := by rfl
@[simp] theorem isi_tuple_int (x : Int) : isiO "tuple" (.val (.int x)) = some (.val (.bl false)) := by rfl
@[simp] theorem isi_tuple_str (x : Str) : isiO "tuple" (.val (.str x)) = some (.val (.bl false)) := by rfl
@[simp] theorem isi_tuple_tup (x : List D) : isiO "tuple" (.val (.tup x)) = some (.val (.bl true)) := by rfl
@[simp] theorem isi_tuple_lst (x : List D) : isiO "tuple" (.val (.lst x)) = some (.val (.bl false)) := by rfl
@[simp] theorem isi_tuple_dct (k : List Key) (x : List D) : isiO "tuple" (.val (.dct k x)) = some (.val (.bl false)) := by rfl
@[simp] theorem isi_list_non  : isiO "list" (.val .non) = some (.val (.bl false)) := by rfl
@[simp] theorem isi_list_bl (x : Bool) : isiO "list" (.val (.bl x)) = some (.val (.bl false)) := by rfl
@[simp] theorem isi_list_int (x : Int) : isiO "list" (.val (.int x)) = some (.val (.bl false)) := by rfl
@[simp] theorem isi_list_str (x : Str) : isiO "list" (.val (.str x)) = some (.val (.bl false)) := by rfl
@[simp] theorem isi_list_tup (x : List D) : isiO "list" (.val (.tup x)) = some (.val (.bl false)) := by rfl
@[simp] theorem isi_list_lst (x : List D) : isiO "list" (.val (.lst x)) = some (.val (.bl true)) := by rfl
@[simp] theorem isi_list_dct (k : List Key) (x : List D) : isiO "list" (.val (.dct k x)) = some (.val (.bl false)) := by rfl
@[simp] theorem isi_dict_non  : isiO "dict" (.val .non) = some (.val (.bl false)) := by rfl
@[simp] theorem isi_dict_bl (x : Bool) : isiO "dict" (.val (.bl x)) = some (.val (.bl false)) := by rfl
@[simp] theorem isi_dict_int (x : Int) : isiO "dict" (.val (.int x)) = some (.val (.bl false)) := by rfl
@[simp] theorem isi_dict_str (x : Str) : isiO "dict" (.val (.str x)) = some (.val (.bl false)) := by rfl
@[simp] theorem isi_dict_tup (x : List D) : isiO "dict" (.val (.tup x)) = some (.val (.bl false)) := by rfl
@[simp] theorem isi_dict_lst (x : List D) : isiO "dict" (.val (.lst x)) = some (.val (.bl false)) := by rfl
@[simp] theorem isi_dict_dct (k : List Key) (x : List D) : isiO "dict" (.val (.dct k x)) = some (.val (.bl true)) := by rfl
theorem forL_find {α γ : Type} {a : D → Env → Option Env} {b : M Fl} {o : O} (E : γ → Env) (f : α → D) (p : α → Bool) : ∀ {xs : List α} (c : γ),
    (∀ x ∈ xs, ∀ c, ∃ ρ1, a (f x) (E c) = some ρ1 ∧ ((p x = true ∧ ∃ c', b ρ1 = .ok .nx (E c')) ∨ (p x = false ∧ ∃ ρ2, b ρ1 = .ok (.ret o) ρ2))) →
    (xs.all p = true ∧ ∃ c', forL a b (xs.map f) (E c) = .ok .nx (E c')) ∨ (xs.all p = false ∧ ∃ ρ2, forL a b (xs.map f) (E c) = .ok (.ret o) ρ2)
  | [], c, _ => .inl ⟨rfl, c, rfl⟩
  | x :: xs, c, h => by
    obtain ⟨ρ1, e1, q⟩ := h x (List.mem_cons_self ..) c
    rw [List.map_cons]
    unfold forL
    rw [e1]
    rcases q with ⟨hp, c', e2⟩ | ⟨hp, ρ2, e2⟩
    · simp only [e2, Res.bind_ok, List.all_cons, hp, Bool.true_and]
      exact forL_find E f p c' fun y hy => h y (List.mem_cons_of_mem _ hy)
    · simp only [e2, Res.bind_ok, List.all_cons, hp, Bool.false_and]
      exact .inr ⟨trivial, ρ2, rfl⟩
def wK (op : O → Option (List D)) (ρ : Env) : Option O → Res O
  | some a => match op a with
    | some ds => .ok (vO ds) ρ
    | none => .no
  | none => .no
def wK2 (ρ : Env) : Option (List D) → Res O
  | some ds => .ok (vO ds) ρ
  | none => .no
@[simp] theorem e_mW (op : O → Option (List D)) (f : Pf) : mW op f ρ = wK op ρ (f ρ) := by
  unfold mW wK
  cases f ρ with
  | none => rfl
  | some a => rfl
@[simp] theorem e_wK (op : O → Option (List D)) (a : O) : wK op ρ (some a) = wK2 ρ (op a) := (rfl)
@[simp] theorem e_wK2 (ds : List D) : wK2 ρ (some ds) = .ok (vO ds) ρ := (rfl)
@[simp] theorem listW_lst (ds : List D) : listW (.val (.lst ds)) = some ds := (rfl)
@[simp] theorem listW_tup (ds : List D) : listW (.val (.tup ds)) = some ds := (rfl)
@[simp] theorem listW_scr (ns : List Int) : listW (.val (.scr ns)) = some (ns.map D.int) := (rfl)
@[simp] theorem listW_vO (ds : List D) : listW (vO ds) = some ds := by unfold listW; simp
end FB

/-! Objects: attributes read and stored, methods, making. -/
namespace FB
open PySem PySem.Spec L2
open PyProof.Rows hiding St

section
variable {X : Cx} {K : PySem.W.Frag} {mg : Str → Option Value}
/-- an own class under its name, with the attributes that its instances may have -/
structure CO (K : PySem.W.Frag) (mg : Str → Option Value) (c : Str) (C : Addr) (fs : List Str) : Prop where
  mgc : mg c = some (.ref C)
  cl : Cls K C
  no : ∀ f ∈ fs, NoAttr K C f
theorem CO.eq {c : Str} {C C' : Addr} {fs : List Str} (co : CO K mg c C fs) (h : mg c = some (.ref C')) : C' = C := by
  have := co.mgc.symm.trans h
  injection this with this
  injection this with this
  exact this.symm
def fidx : List Str → Str → Option Nat
  | [], _ => none
  | g :: gs, f => if g = f then some 0 else (fidx gs f).map (· + 1)
theorem fidx_look : ∀ {fs : List (Str × V)} {f : Str} {j : Nat}, fidx (fs.map (·.1)) f = some j → ∃ v, fs.lookup f = some v ∧ (fs.map (·.2))[j]? = some v
  | [], f, j, h => by cases h
  | (g, v) :: fs, f, j, h => by
    have h : (if g = f then some 0 else (fidx (fs.map (·.1)) f).map (· + 1)) = some j := h
    by_cases e : g = f
    · rw [if_pos e] at h
      cases h
      subst e
      exact ⟨v, by simp [List.lookup], rfl⟩
    · rw [if_neg e] at h
      cases q : fidx (fs.map (·.1)) f with
      | none => rw [q] at h; cases h
      | some i =>
        rw [q] at h
        cases h
        obtain ⟨w, h1, h2⟩ := fidx_look q
        refine ⟨w, ?_, by simpa using h2⟩
        have : (f == g) = false := beq_eq_false_iff_ne.mpr (Ne.symm e)
        simp [List.lookup, this, h1]
theorem fidx_none : ∀ {fs : List (Str × V)} {f : Str}, fidx (fs.map (·.1)) f = none → fs.lookup f = none
  | [], f, _ => rfl
  | (g, v) :: fs, f, h => by
    have h : (if g = f then some 0 else (fidx (fs.map (·.1)) f).map (· + 1)) = none := h
    by_cases e : g = f
    · rw [if_pos e] at h; cases h
    · rw [if_neg e] at h
      have : (f == g) = false := beq_eq_false_iff_ne.mpr (Ne.symm e)
      have h : fidx (fs.map (·.1)) f = none := by
        cases q : fidx (fs.map (·.1)) f with
        | none => rfl
        | some i => rw [q] at h; cases h
      simp [List.lookup, this, fidx_none h]
theorem VOs.sub {G H : Hp} : ∀ {vs : List V} {os : List O} {as : List Addr} {j : Nat} {v : V} {o : O}, VOs K mg G H vs os as → os[j]? = some o → vs[j]? = some v → ∃ bs, VO K mg G H v o bs ∧ ∀ a ∈ bs, a ∈ as
  | [], os, as, j, v, o, t, h1, h2 => by simp at h2
  | w :: vs, os, as, j, v, o, t, h1, h2 => by
    cases t with
    | cons t r =>
      cases j with
      | zero =>
        simp at h1 h2
        subst h1 h2
        exact ⟨_, t, fun a ha => by simp [ha]⟩
      | succ j =>
        obtain ⟨bs, q1, q2⟩ := VOs.sub r (by simpa using h1) (by simpa using h2)
        exact ⟨bs, q1, fun a ha => by simp [q2 a ha]⟩
def fldO (c f : Str) (a : O) : Option O := match a with
  | .ins c' ns os => if c' = c then (fidx ns f).bind fun j => os[j]? else none
  | _ => none
theorem sp_fld {c f : Str} {C : Addr} {fs : List Str} {e : Expr} {pos : Pos} {g : Pf} (co : CO X.K X.mg c C fs) (hf : f ∈ fs) (he : SP X e g) (hb : attributeBase e f X.env (eval e X.env) = eval e X.env := by rfl) : SP X (.Attribute e f pos) (p1 (fldO c f) g) :=
  PE.imp (pe_fld he hb) fun σ H Q q => by
    obtain ⟨ρ, T, B, o, cv, R, e, k⟩ := q
    unfold p1 at e
    cases e1 : g ρ with
    | none => rw [e1] at e; cases e
    | some a =>
      rw [e1] at e
      have e : fldO c f a = some o := e
      refine ⟨ρ, T, B, a, cv, R, e1, fun x H1 s1 R1 => ?_⟩
      cases a with
      | val _ => cases e
      | lst _ => cases e
      | dct _ _ => cases e
      | ins c' ns os =>
        have e9 : (if c' = c then (fidx ns f).bind fun j => os[j]? else none) = some o := e
        by_cases ec : c' = c
        · rw [if_pos ec] at e9
          subst ec
          cases ej : fidx ns f with
          | none => rw [ej] at e9; cases e9
          | some j =>
            rw [ej] at e9
            have e8 : os[j]? = some o := e9
            obtain ⟨A, nd, ok, hb⟩ := id R1
            obtain ⟨as, h1, h2⟩ := hb _ (List.mem_cons_self ..)
            cases h1 with
            | ins h1 hm hn hs =>
              rename_i p C' dx fs' as'
              have := co.eq hm
              subst this
              subst hn
              obtain ⟨v, l1, l2⟩ := fidx_look ej
              refine ⟨p, C', dx, fs', v, rfl, h1, co.cl, co.no f hf, l1, k v H1 s1 ⟨A, nd, ok, fun b q => ?_⟩⟩
              rcases List.mem_cons.mp q with q | q
              · subst q
                obtain ⟨bs, q1, q2⟩ := VOs.sub hs e8 l2
                exact ⟨bs, q1, fun a ha => h2 a (by simp [q2 a ha])⟩
              · exact hb b (List.mem_cons_of_mem _ q)
        · rw [if_neg ec] at e9; cases e9
/-! stored -/
def putFO (ns : List Str) (os : List O) (f : Str) (u : O) : List Str × List O := match fidx ns f with
  | some j => (ns, os.set j u)
  | none => (ns ++ [f], os ++ [u])
theorem putF_eq2 : ∀ (fs : List (Str × V)) (f : Str) (v : V), (fidx (fs.map (·.1)) f = none → putF f v fs = fs ++ [(f, v)]) ∧ ∀ j, fidx (fs.map (·.1)) f = some j → (putF f v fs).map (·.1) = fs.map (·.1) ∧ (putF f v fs).map (·.2) = (fs.map (·.2)).set j v
  | [], f, v => ⟨fun _ => rfl, fun j h => by cases h⟩
  | (g, w) :: fs, f, v => by
    obtain ⟨i1, i2⟩ := putF_eq2 fs f v
    have ef : fidx (((g, w) :: fs).map (·.1)) f = if g = f then some 0 else (fidx (fs.map (·.1)) f).map (· + 1) := rfl
    have ep : putF f v ((g, w) :: fs) = if g = f then (g, v) :: fs else (g, w) :: putF f v fs := rfl
    rw [ef, ep]
    by_cases e : g = f
    · rw [if_pos e, if_pos e]
      exact ⟨fun h => (by cases h), fun j h => (by cases h; exact ⟨rfl, rfl⟩)⟩
    · rw [if_neg e, if_neg e]
      cases q : fidx (fs.map (·.1)) f with
      | none => exact ⟨fun _ => (by rw [i1 q]; rfl), fun j h => (by cases h)⟩
      | some i =>
        obtain ⟨h1, h2⟩ := i2 i q
        refine ⟨fun h => (by cases h), fun j h => ?_⟩
        cases h
        exact ⟨(by rw [List.map_cons, h1]; rfl), (by rw [List.map_cons, h2]; rfl)⟩
def mSetF (i : Nat) (c f : Str) (m : M O) : M Fl := fun ρ => (m ρ).bind fun u ρ1 => match ρ1[i]? with
  | some (some (.ins c' ns os)) => if c' = c ∧ ns.length < 1000 then .ok .nx (ρ1.set i (some (.ins c (putFO ns os f u).1 (putFO ns os f u).2))) else .no
  | _ => .no
theorem ss_setF (i : Nat) {P : List Nat} {c f : Str} {C : Addr} {fs : List Str} {x : Str} {p tpos pos : Pos} {e : Expr} {m : M O} (co : CO X.K X.mg c C fs) (hf : f ∈ fs) (h : SE X e m) (hN : X.N[i]? = some x := by rfl) (hv : Vis X.env.scope x := by first | exact Or.inl rfl | exact Or.inr (Or.inl rfl) | exact Or.inr (Or.inr rfl)) (hd : (x == ("__debug__" : Str)) = false := by decide)
    (hcd : (x == ("__classdict__" : Str)) = false := by decide) (hs : swapsWith e (some (.Attribute (.Name x p) f tpos)) pos.line X.env = pure false := by rfl) : SS X P (.Assign [.Attribute (.Name x p) f tpos] e pos) (mSetF i c f m) :=
  PS.imp (ps_fld (pv i hN hv hd hcd) h hs) fun D σ H w => by
    obtain ⟨ρ, T, cv, R, h⟩ := tS_iff.mp w
    unfold mSetF at h
    cases e1 : m ρ with
    | exc z ρ1 => rw [e1] at h; exact h.elim
    | no => rw [e1] at h; exact h.elim
    | ok u ρ1 =>
      rw [e1, Res.bind_ok] at h
      refine ⟨ρ, T, u, ρ1, cv, R, e1, fun v H1 c1 R1 => ?_⟩
      split at h
      · rename_i c' ns os e2
        split at h
        · rename_i hc
          obtain ⟨rfl, hlen⟩ := hc
          obtain ⟨vx, hvx⟩ := c1.ex i _ e2
          refine ⟨vx, hvx, ?_⟩
          have R2 := Rep.slot (M := [.ov v u]) hvx e2 R1
          obtain ⟨q, C', dx, fs', rfl, hm, hl, hn, R3⟩ := R2.openI
          have := co.eq hm
          subst this
          have hlf : fs'.length = ns.length := by rw [← hn]; simp
          refine ⟨q, C', dx, fs', rfl, R3.rawAt, co.cl, co.no f hf, by omega, ?_⟩
          refine h σ _ (Fix.refl _ _) (c1.put hvx _) ?_
          refine Rep.unslot (M := []) hvx e2 ?_
          have R4 := R3.write (o' := .ins C' dx (putF f v fs'))
          obtain ⟨f1, f2⟩ := putF_eq2 fs' f v
          have hlo : (fs'.map (·.2)).length = os.length := by simpa using hl
          generalize hL : pairs σ (ρ1.set i none) ++ T = L at R4 ⊢
          have R4 : Rep X.K X.mg _ (.raw q (.ins C' dx (putF f v fs')) :: (zipI (fs'.map (·.2)) os ++ .ov v u :: L)) [] := R4
          show Rep X.K X.mg _ (.ov (.ref q) (.ins c' (putFO ns os f u).1 (putFO ns os f u).2) :: L) []
          unfold putFO
          cases ej : fidx ns f with
          | none =>
            rw [← hn] at ej
            have e5 := f1 ej
            refine Rep.closeI (dx := dx) (C := C') (fs := putF f v fs') ?_ (by rw [e5]; simp [hl]) hm (by rw [e5]; simp [hn])
            rw [e5] at R4 ⊢
            have ez : zipI ((fs' ++ [(f, v)]).map (·.2)) (os ++ [u]) = zipI (fs'.map (·.2)) os ++ [.ov v u] := by
              unfold zipI
              rw [List.map_append, List.zipWith_append hlo]; rfl
            rw [ez, List.append_assoc]
            exact R4
          | some j =>
            rw [← hn] at ej
            obtain ⟨e5, e6⟩ := f2 j ej
            have hj : j < os.length := by
              obtain ⟨w, _, l2⟩ := fidx_look ej
              have := (List.getElem?_eq_some_iff.mp l2).1
              simp at this
              omega
            have hpl : (putF f v fs').length = fs'.length := by
              have := congrArg List.length e5
              simpa using this
            refine Rep.closeI (dx := dx) (C := C') (fs := putF f v fs') ?_ (by rw [hpl]; simp [hl]) hm (by rw [e5, hn])
            obtain ⟨A, Cc, w, z1, z2⟩ := zip_set (v := v) (u := u) hlo hj
            rw [e6, z2]
            rw [z1] at R4
            have p1 : (.raw q (.ins C' dx (putF f v fs')) :: ((A ++ w :: Cc) ++ .ov v u :: L) : List Item).Perm (w :: (.raw q (.ins C' dx (putF f v fs')) :: ((A ++ .ov v u :: Cc) ++ L))) := by
              refine (fun h0 => (List.Perm.cons _ h0).trans (.swap _ _ _) : ((A ++ w :: Cc) ++ .ov v u :: L).Perm (w :: ((A ++ .ov v u :: Cc) ++ L)) → _) ?_
              rw [List.append_assoc]
              refine List.perm_middle.trans (List.Perm.cons _ ?_)
              show (A ++ (Cc ++ .ov v u :: L)).Perm _
              rw [← List.append_assoc]
              refine List.perm_middle.trans ?_
              rw [List.append_assoc, List.append_assoc]
              exact List.perm_middle.symm
            exact (R4.perm p1).drop
        · exact h.elim
      · exact h.elim
end
end FB

/-! Methods called, objects made. -/
namespace FB
open PySem PySem.Spec L2
open PyProof.Rows hiding St

section
variable {P : Program} {w : World} {K : PySem.W.Frag} {mg : Str → Option Value} {base : Heap}
theorem met_sem {m qual : Str} {C : Addr} {st : Stmt} {f : Addr} {fd : FuncData} {N ps : List Str} {k n l : Nat} {Pr : List Nat} {b : M Fl} (c : Cls K C) (me : Meth K C m f) (F : C8.Fun K m qual st f fd) (bi : Binds K fd ps []) (S : FnScope N ps (C8.fnScope st)) (hn : ps.length = n := by rfl) (hm : N.length = l := by rfl) (hnm : n ≤ l := by decide)
    (hb : ∀ (cdv : Value) (A : Around) (outer : List PySem.Env) (s : Shared) (H : Hp) (E : XK), Room k (A.deeper (envOfC qual (C8.fnScope st) s.heap.objs.size f cdv)) → SSs (cxOf C8.CX0 P w K mg base N qual (C8.fnScope st) f cdv A outer s H E).nox Pr (C8.fnBody st) b) :
    C8.Met P w K mg base (k + 1) C m (spF K mg n (runF n l Pr b)) [] :=
  C8.met0 c me F bi S (fun vs H Q E h => by rw [hn]; exact sp_len vs H Q E h) fun cdv A outer s H vs Q E hr h => body_sem (X := (cxOf C8.CX0 P w K mg base N qual (C8.fnScope st) f cdv A outer s H E).nox) (E := E) hm hnm (hb cdv A outer s H E hr) h
theorem mak_sem {x qual : Str} {C : Addr} {st : Stmt} {f : Addr} {fd : FuncData} {N ps : List Str} {k n l : Nat} {Pr : List Nat} {b : M Fl} (M : Mk K C f) (hx : mg x = some (.ref C)) (F : C8.Fun K "__init__" qual st f fd) (bi : Binds K fd ps []) (S : FnScope N ps (C8.fnScope st)) (hn : ps.length = n := by rfl) (hm : N.length = l := by rfl) (hnm : n ≤ l := by decide)
    (hb : ∀ (cdv : Value) (A : Around) (outer : List PySem.Env) (s : Shared) (H : Hp) (E : XK), Room k (A.deeper (envOfC qual (C8.fnScope st) s.heap.objs.size f cdv)) → SSs (cxOf C8.CX0 P w K mg base N qual (C8.fnScope st) f cdv A outer s H E).nox Pr (C8.fnBody st) b) :
    C8.Mak P w K mg base (k + 1) x C (spF K mg n (runF n l Pr b)) [] :=
  C8.mak0 M hx F bi .nil S (fun vs H Q E h => by rw [hn]; exact sp_len vs H Q E h) fun cdv A outer s H vs Q E hr h => body_sem (X := (cxOf C8.CX0 P w K mg base N qual (C8.fnScope st) f cdv A outer s H E).nox) (E := E) hm hnm (hb cdv A outer s H E hr) h
end

section
variable {X : Cx} {K : PySem.W.Frag} {mg : Str → Option Value}
theorem ioLen {σ : L2.St} : ∀ {as : List Arg} {vs : List V}, IoOk as σ vs → vs.length = as.length
  | [], [], _ => rfl
  | [], _ :: _, io => io.elim
  | .v _ :: as, [], io => io.elim
  | .io _ :: as, [], io => io.elim
  | .v _ :: as, v :: vs, io => by simp [ioLen (as := as) (vs := vs) io]
  | .io _ :: as, v :: vs, io => by simp [ioLen (as := as) (vs := vs) io.2]
/-! o.m(..), o a name -/
def mMeth (i : Nat) (c m : Str) (F : FSem) (as : List Arg) : M O := fun ρ => match ρ[i]? with
  | some (some (.ins c' ns _)) => if c' = c ∧ fidx ns m = none then mCall F (.io i :: as) ρ else .no
  | _ => .no
theorem meth_core {n i : Nat} {c m : Str} {C : Addr} {fs : List Str} {F : FSem} {as : List Arg} (co : CO K mg c C fs) (hn : as.length + 1 = n) (σ : L2.St) (H : Hp) (Q : VK) (w : tM K mg (mMeth i c m F as) σ H Q) :
    ∃ v, σ[i]? = some (some v) ∧ ∃ a dx fs, v = .ref a ∧ H a = some (.ins C dx fs) ∧ fs.lookup m = none ∧ tAs K mg as σ H fun vs H2 => spF K mg n F (v :: (vs ++ [])) H2 Q E0 := by
  obtain ⟨ρ, T, o, ρ', cv, R, e, k⟩ := w
  unfold mMeth at e
  split at e
  · rename_i c' ns os e0
    split at e
    · rename_i hc
      obtain ⟨rfl, hm⟩ := hc
      obtain ⟨v, hv⟩ := cv.ex i _ e0
      have R0 := R.perm ((pairs_take hv e0).append_right T)
      obtain ⟨p, C', dx, fs', rfl, hmg, hl, hns, R1⟩ := Rep.openI R0
      have := co.eq hmg
      subst this
      subst hns
      refine ⟨_, hv, p, dx, fs', rfl, R1.rawAt, fidx_none hm, ?_⟩
      unfold mCall at e
      obtain ⟨os1, ρ1, e1, e⟩ := Res.bind_eq e
      unfold evA at e1
      rw [e0] at e1
      obtain ⟨os2, ρ2, e2, e1⟩ := Res.bind_eq e1
      cases e1
      split at e
      · cases e
      · rename_i r e3
        split at e
        · cases e
        · rename_i q e4
          cases e
          refine ⟨ρ, T, os2, ρ1, cv, R, e2, fun vs H1 c1 hl1 io R1 => ?_⟩
          have io' : IoOk (.io i :: as) σ (.ref p :: vs) := ⟨hv, io⟩
          have R2 : Rep K mg H1 (pairs ((V.ref p :: vs).map some) (none :: os2) ++ (pairs σ ρ1 ++ T)) [] := by
            rw [List.map_cons, pairs_sn]; exact R1
          obtain ⟨c2, hl2, R3⟩ := take_ok c1 io' e3 R2
          have hvl := ioLen io'
          show spF K mg n F (V.ref p :: (vs ++ [])) H1 Q E0
          rw [List.append_nil]
          refine ⟨r.1, pairs σ r.2 ++ T, q.1, q.2, by rw [hvl, ← hn]; rfl, by rw [← hl2, hvl, ← hn]; rfl, R3, e4, fun u H2 R4 => ?_⟩
          obtain ⟨c3, R5⟩ := give_ok (as := .io i :: as) (vs := .ref p :: vs) (M := [.ov u q.1]) c2 io' R4
          exact k u H2 c3 R5
    · cases e
  · cases e
theorem se_meth {n k j : Nat} (i : Nat) {c m : Str} {C : Addr} {fs : List Str} {F : FSem} {x : Str} {p apos pos : Pos} {e : Expr} {es : List Expr} {as : List Arg} (co : CO X.K X.mg c C fs) (cl : C8.Met X.prog X.w X.K X.mg X.base k C m (spF X.K X.mg n F) []) (hr : Room j X.A) (hk : k ≤ j) (ha : SAs X (e :: es) as) (hn : as.length + 1 = n := by rfl)
    (hN : X.N[i]? = some x := by rfl) (hv : Vis X.env.scope x := by first | exact Or.inl rfl | exact Or.inr (Or.inl rfl) | exact Or.inr (Or.inr rfl)) (hd : (x == ("__debug__" : Str)) = false := by decide) (hcd : (x == ("__classdict__" : Str)) = false := by decide)
    (hst : starEach (e :: es) X.env = (false, eval e X.env) :: starEach es X.env := by rfl) (hpl : (backTo pos (starEach es X.env)).any (·.1) = false := by rfl) {pl : Sem Bool}
    (ht : eval (.Call (.Attribute (.Name x p) m apos) (e :: es) [] pos) X.env = (do
      let ov ← eval (.Name x p) X.env
      standAt apos.atName
      let (f, first) ← holding [ov] (getMethod ov m pl)
      callWith pos f first (backTo pos (starEach (e :: es) X.env)) (backToKw pos (keywordEach [] X.env))) := by rfl) :
    SE X (.Call (.Attribute (.Name x p) m apos) (e :: es) [] pos) (mMeth i c m F as) := PE.imp (C8.pe_mt (pl := pl) cl hr hk (pv i hN hv hd hcd) ha hst hpl ht) fun σ H Q w => meth_core co hn σ H Q w
theorem se_meth0 {n k j : Nat} (i : Nat) {c m : Str} {C : Addr} {fs : List Str} {F : FSem} {x : Str} {p apos pos : Pos} (co : CO X.K X.mg c C fs) (cl : C8.Met X.prog X.w X.K X.mg X.base k C m (spF X.K X.mg n F) []) (hr : Room j X.A) (hk : k ≤ j) (hn : 1 = n := by rfl)
    (hN : X.N[i]? = some x := by rfl) (hv : Vis X.env.scope x := by first | exact Or.inl rfl | exact Or.inr (Or.inl rfl) | exact Or.inr (Or.inr rfl)) (hd : (x == ("__debug__" : Str)) = false := by decide) (hcd : (x == ("__classdict__" : Str)) = false := by decide) {pl : Sem Bool}
    (ht : eval (.Call (.Attribute (.Name x p) m apos) [] [] pos) X.env = (do
      let ov ← eval (.Name x p) X.env
      standAt apos.atName
      let (f, first) ← holding [ov] (getMethod ov m pl)
      callWith pos f first (backTo pos (starEach [] X.env)) (backToKw pos (keywordEach [] X.env))) := by rfl) :
    SE X (.Call (.Attribute (.Name x p) m apos) [] [] pos) (mMeth i c m F []) := PE.imp (C8.pe_mt0 (pl := pl) cl hr hk (pv i hN hv hd hcd) ht) fun σ H Q w => by
  obtain ⟨v, hv, a, dx, fs', ea, h1, h2, ρ, T, os, ρ', c, R, e, k⟩ := meth_core (as := []) co hn σ H Q w
  cases e
  exact ⟨v, hv, a, dx, fs', ea, h1, h2, k [] H c rfl trivial R⟩
/-! C(..) -/
def mMake (c : Str) (F : FSem) (as : List Arg) : M O := fun ρ => (evA as ρ).bind fun os ρ1 => match takeA as os ρ1 with
  | none => .no
  | some r => match F (.ins c [] [] :: r.1) with
    | some (.val .non, some o :: ρc) => .ok o (giveA as ρc r.2)
    | _ => .no
theorem se_make {n k j : Nat} {c : Str} {C : Addr} {fs : List Str} {F : FSem} {p pos : Pos} {e : Expr} {es : List Expr} {as : List Arg} (co : CO X.K X.mg c C fs) (cl : C8.Mak X.prog X.w X.K X.mg X.base k c C (spF X.K X.mg n F) []) (hr : Room j X.A) (hk : k + 1 ≤ j) (hg : Gl X c) (ha : SAs X (e :: es) as) (hn : as.length + 1 = n := by rfl)
    (hdb : (c == ("__debug__" : Str)) = false := by decide) (he : starEach (e :: es) X.env = (false, eval e X.env) :: starEach es X.env := by rfl) (hpl : (backTo pos (starEach es X.env)).any (·.1) = false := by rfl) :
    SE X (.Call (.Name c p) (e :: es) [] pos) (mMake c F as) := PE.imp (C8.pe_mk cl hr hk hg ha hdb he hpl) fun σ H Q w => by
  obtain ⟨ρ, T, o, ρ', cv, R, e, k⟩ := w
  unfold mMake at e
  obtain ⟨os1, ρ1, e1, e⟩ := Res.bind_eq e
  split at e
  · cases e
  · rename_i r e3
    split at e
    · rename_i o' ρc e4
      cases e
      refine ⟨ρ, T, os1, ρ1, cv, R, e1, fun vs H1 c1 hl1 io R1 => ?_⟩
      obtain ⟨c2, hl2, R3⟩ := take_ok c1 io e3 R1
      intro x dx hx hdx hne
      have hvl := ioLen io
      rw [List.append_nil]
      have hx' : upd H1 dx (.own x) x = none := by rw [upd_ne hne.symm]; exact hx
      have R4 := (R3.grow (sameNew (o := .own x) hdx)).new (o := .ins C dx []) hx'
      have R5 : Rep X.K X.mg _ (.ov (.ref x) (.ins c [] []) :: (zipI vs r.1 ++ (pairs σ r.2 ++ T))) [] := Rep.closeI (C := C) (dx := dx) (fs := []) R4 rfl co.mgc rfl
      refine ⟨.ins c [] [] :: r.1, pairs σ r.2 ++ T, .val .non, some o :: ρc, by simp [hvl, ← hn], by simp [← hl2, hvl, ← hn], R5, e4, fun u H2 R6 => ⟨?_, ?_⟩⟩
      · have q := R6.lend.view (List.mem_cons_self ..)
        cases q
        rfl
      · have R7 := R6.drop
        rw [List.map_cons, pairs_ss] at R7
        obtain ⟨c3, R8⟩ := give_ok (as := as) (vs := vs) (M := [.ov (.ref x) o]) c2 io R7
        exact k _ H2 c3 R8
    · cases e
end
end FB

/-! self.f[k] = e; self.f[k] += e. -/
namespace FB
open PySem PySem.Spec L2
open PyProof.Rows hiding St

section
variable {X : Cx} {K : PySem.W.Frag} {mg : Str → Option Value}
theorem zip_at : ∀ {vs : List V} {os : List O} {j : Nat} {w : V} {a : O}, vs[j]? = some w → os[j]? = some a → ∃ A C, zipI vs os = A ++ .ov w a :: C ∧ ∀ a', zipI vs (os.set j a') = A ++ .ov w a' :: C
  | [], _, _, _, _, h, _ => by simp at h
  | _ :: _, [], _, _, _, _, h => by simp at h
  | v :: vs, o :: os, 0, w, a, h1, h2 => by
    simp at h1 h2
    subst h1 h2
    exact ⟨[], zipI vs os, rfl, fun _ => rfl⟩
  | v :: vs, o :: os, j + 1, w, a, h1, h2 => by
    obtain ⟨A, C, e1, e2⟩ := zip_at (vs := vs) (os := os) (j := j) (w := w) (a := a) (by simpa using h1) (by simpa using h2)
    exact ⟨.ov v o :: A, C, by show .ov v o :: zipI vs os = _; rw [e1]; rfl, fun a' => by show .ov v o :: zipI vs (os.set j a') = _; rw [e2]; rfl⟩
theorem perm4 (A C L : List Item) (h w y v : Item) : (h :: ((A ++ w :: C) ++ y :: v :: L)).Perm (w :: y :: v :: h :: (A ++ (C ++ L))) := by
  have h1 : ((A ++ w :: C) ++ y :: v :: L).Perm (w :: y :: v :: (A ++ (C ++ L))) := by
    rw [List.append_assoc]
    refine List.perm_middle.trans (List.Perm.cons _ ?_)
    show (A ++ (C ++ y :: v :: L)).Perm _
    rw [← List.append_assoc, ← List.append_assoc]
    exact List.perm_middle.trans (List.Perm.cons _ List.perm_middle)
  exact (List.Perm.cons _ h1).trans ((List.Perm.swap _ _ _).trans (List.Perm.cons _ ((List.Perm.swap _ _ _).trans (List.Perm.cons _ (List.Perm.swap _ _ _)))))
theorem perm5 (A C L : List Item) (h w : Item) : (w :: h :: (A ++ (C ++ L))).Perm (h :: ((A ++ w :: C) ++ L)) := by
  refine (List.Perm.swap _ _ _).trans (List.Perm.cons _ ?_)
  rw [List.append_assoc]
  exact List.perm_middle.symm
/-- the slot's object, its attribute lent -/
theorem fld_lend {H : Hp} {T : List Item} {B : List (V × O)} {σ : L2.St} {ρ : Env} {i j : Nat} {c f : Str} {C : Addr} {fs ns : List Str} {os : List O} {a : O} (co : CO K mg c C fs) (cv : Cov σ ρ) (e2 : ρ[i]? = some (some (.ins c ns os))) (ej : fidx ns f = some j) (ea : os[j]? = some a) (R : Rep K mg H (pairs σ ρ ++ T) B) :
    ∃ p dx fs' w, σ[i]? = some (some (.ref p)) ∧ H p = some (.ins C dx fs') ∧ fs'.lookup f = some w ∧ Rep K mg H (pairs σ ρ ++ T) ((w, a) :: B) := by
  obtain ⟨vx, hvx⟩ := cv.ex i _ e2
  have pm := (pairs_take hvx e2).append_right T
  have R1 := (R.perm pm).lend
  obtain ⟨A, nd, ok, hb⟩ := id R1
  obtain ⟨as, h1, h2⟩ := hb _ (List.mem_cons_self ..)
  cases h1 with
  | ins h1 hm hn hs =>
    rename_i p C' dx fs' as'
    have := co.eq hm
    subst this
    subst hn
    obtain ⟨w, l1, l2⟩ := fidx_look ej
    have R2 : Rep K mg H (.ov (.ref p) (.ins c (fs'.map (·.1)) os) :: pairs σ (ρ.set i none) ++ T) ((w, a) :: B) := ⟨A, nd, ok, fun b q => by
      rcases List.mem_cons.mp q with q | q
      · subst q
        obtain ⟨bs, q1, q2⟩ := VOs.sub hs ea l2
        exact ⟨bs, q1, fun z hz => h2 z (by simp [q2 z hz])⟩
      · exact hb b (List.mem_cons_of_mem _ q)⟩
    exact ⟨p, dx, fs', w, hvx, h1, l1, R2.perm pm.symm⟩
theorem fld_core {H : Hp} {T : List Item} {σ : L2.St} {ρ : Env} {i j : Nat} {c f : Str} {C p dx : Addr} {fs ns : List Str} {fs' : List (Str × V)} {os : List O} {a a' b u : O} {w y v : V} {Q : Hp → Prop} (co : CO K mg c C fs) (e2 : ρ[i]? = some (some (.ins c ns os))) (ej : fidx ns f = some j) (ea : os[j]? = some a) (es : setItO a b u = some a')
    (hv : σ[i]? = some (some (.ref p))) (hH : H p = some (.ins C dx fs')) (hw : fs'.lookup f = some w) (R : Rep K mg H (.ov y b :: .ov v u :: (pairs σ ρ ++ T)) [])
    (k : ∀ H', Rep K mg H' (pairs σ (ρ.set i (some (.ins c ns (os.set j a')))) ++ T) [] → Q H') : rSetF w y v H Q := by
  have R2 := Rep.slot (M := [.ov y b, .ov v u]) hv e2 R
  obtain ⟨q, C2, dx2, fs2, eq, hm, hl, hn, R3⟩ := R2.openI
  cases eq
  have h9 := R3.rawAt.symm.trans hH
  cases h9
  subst hn
  obtain ⟨w', l1, l2⟩ := fidx_look ej
  have : w' = w := by rw [l1] at hw; exact Option.some.inj hw
  subst this
  obtain ⟨A, Cc, z1, z2⟩ := zip_at l2 ea
  rw [z1] at R3
  have R4 := R3.perm (perm4 A Cc (pairs σ (ρ.set i none) ++ T) (.raw p (.ins C dx fs')) (.ov w' a) (.ov y b) (.ov v u))
  refine setIt_core R4 es fun H' R5 => k H' ?_
  have R6 := R5.perm (perm5 A Cc (pairs σ (ρ.set i none) ++ T) (.raw p (.ins C dx fs')) (.ov w' a'))
  rw [← z2 a'] at R6
  have R7 : Rep K mg H' (.ov (.ref p) (.ins c (fs'.map (·.1)) (os.set j a')) :: (pairs σ (ρ.set i none) ++ T)) [] := Rep.closeI (C := C) (dx := dx) (fs := fs') R6 (by simpa using hl) hm rfl
  exact Rep.unslot (M := []) hv e2 R7
def stFO (c f : Str) (o b u : O) : Option O := match o with
  | .ins c' ns os => if c' = c then (fidx ns f).bind fun j => (os[j]?).bind fun a => (setItO a b u).map fun a' => .ins c ns (os.set j a') else none
  | _ => none
theorem stFO_eq {c f : Str} {o b u o' : O} (h : stFO c f o b u = some o') : ∃ ns os j a a', o = .ins c ns os ∧ fidx ns f = some j ∧ os[j]? = some a ∧ setItO a b u = some a' ∧ o' = .ins c ns (os.set j a') := by
  cases o with
  | ins c' ns os =>
    have h : (if c' = c then (fidx ns f).bind fun j => (os[j]?).bind fun a => (setItO a b u).map fun a' => O.ins c ns (os.set j a') else none) = some o' := h
    by_cases e : c' = c
    · rw [if_pos e] at h
      subst e
      cases e1 : fidx ns f with
      | none => rw [e1] at h; cases h
      | some j =>
        rw [e1] at h
        have h : ((os[j]?).bind fun a => (setItO a b u).map fun a' => O.ins c' ns (os.set j a')) = some o' := h
        cases e2 : os[j]? with
        | none => rw [e2] at h; cases h
        | some a =>
          rw [e2] at h
          have h : ((setItO a b u).map fun a' => O.ins c' ns (os.set j a')) = some o' := h
          cases e3 : setItO a b u with
          | none => rw [e3] at h; cases h
          | some a' => rw [e3] at h; cases h; exact ⟨ns, os, j, a, a', rfl, e1, e2, e3, rfl⟩
    · rw [if_neg e] at h; cases h
  | _ => cases h
/-- name.f[k] = e -/
def mSetFI (i : Nat) (c f : Str) (n : Pf) (m : M O) : M Fl := fun ρ => (m ρ).bind fun u ρ1 => match ρ1[i]?, n ρ1 with
  | some (some o), some (.val d) => match stFO c f o (.val d) u with
    | some o' => .ok .nx (ρ1.set i (some o'))
    | none => .no
  | _, _ => .no
theorem ss_setFI (i : Nat) {P : List Nat} {c f : Str} {C : Addr} {fs : List Str} {x : Str} {p apos tpos pos : Pos} {ix e : Expr} {n : Pf} {m : M O} (ok : CxOk X) (co : CO X.K X.mg c C fs) (hf : f ∈ fs) (hn : SP X ix n) (h : SE X e m) (hN : X.N[i]? = some x := by rfl) (hv : Vis X.env.scope x := by first | exact Or.inl rfl | exact Or.inr (Or.inl rfl) | exact Or.inr (Or.inr rfl)) (hd : (x == ("__debug__" : Str)) = false := by decide)
    (hcd : (x == ("__classdict__" : Str)) = false := by decide) (hb : attributeBase (.Name x p) f X.env (eval (.Name x p) X.env) = eval (.Name x p) X.env := by rfl)
    (ha : ∀ v, assign (.Subscript (.Attribute (.Name x p) f apos) ix tpos) X.env v = (do
      let ov ← holding [v] (eval (.Attribute (.Name x p) f apos) X.env)
      let iv ← holding [v, ov] (eval ix X.env)
      standAt tpos
      holding [v, ov, iv] (setItem ov iv v)
      release [v, ov, iv] []) := by intro _; rfl)
    (hs : swapsWithSole [.Subscript (.Attribute (.Name x p) f apos) ix tpos] e pos.line X.env = pure false := by rfl) (hw : swappedStores [.Subscript (.Attribute (.Name x p) f apos) ix tpos] e X.env = pure none := by rfl)
    (h1 : (assignEach [.Subscript (.Attribute (.Name x p) f apos) ix tpos] X.env).map (·.2) = [assign (.Subscript (.Attribute (.Name x p) f apos) ix tpos) X.env] := by rfl) :
    SS X P (.Assign [.Subscript (.Attribute (.Name x p) f apos) ix tpos] e pos) (mSetFI i c f n m) :=
  PS.imp (ps_asg h (pg_sub (pe_fld (pv i hN hv hd hcd) hb) hn (set_F ok) ha) hs hw h1) fun D σ H w => by
    obtain ⟨ρ, T, cv, R, h⟩ := tS_iff.mp w
    unfold mSetFI at h
    cases e1 : m ρ with
    | exc z ρ1 => rw [e1] at h; exact h.elim
    | no => rw [e1] at h; exact h.elim
    | ok u ρ1 =>
      rw [e1, Res.bind_ok] at h
      refine ⟨ρ, T, u, ρ1, cv, R, e1, fun v H1 c1 R1 => ?_⟩
      split at h
      · rename_i o d e2 e3
        split at h
        · rename_i o' e4
          obtain ⟨ns, os, j, a, a', rfl, g1, g2, g3, rfl⟩ := stFO_eq e4
          have R1' := R1.perm List.perm_middle.symm
          obtain ⟨q, dx, fs', wv, hv1, hH, hl, R2⟩ := fld_lend (T := .ov v u :: T) co c1 e2 g1 g2 R1'
          refine ⟨_, hv1, q, C, dx, fs', wv, rfl, hH, co.cl, co.no f hf, hl, ?_⟩
          refine ⟨ρ1, .ov v u :: T, [], .val d, c1, R1', e3, fun y H2 s2 R3 => ?_⟩
          have R4 : Rep X.K X.mg H2 (.ov y (.val d) :: .ov v u :: (pairs σ ρ1 ++ T)) [] := R3.keep.perm (List.Perm.cons _ List.perm_middle)
          exact fld_core co e2 g1 g2 g3 hv1 (s2 _ _ hH) hl R4 fun H3 R5 => h σ H3 (Fix.refl _ _) (c1.put hv1 _) R5
        · exact h.elim
      · exact h.elim
theorem pget_list : PGet X (rIxL X.K) := by
  intro pins s σ H x y v u Q I rx ry h
  obtain ⟨p, xs, i, z, rfl, rfl, hq, he, q⟩ := h
  cases rx
  obtain ⟨t, rfl⟩ := ry
  obtain ⟨its, r, pl, hz⟩ := I.list hq
  obtain ⟨j, h1, h2, h3, h4, h5⟩ := atI_get he
  obtain ⟨w, ew, rw'⟩ := r.get h2
  have hl := r.length
  have hn := line63
  have fin : EP X pins σ Q w s := ⟨z, H, I, rw', q⟩
  by_cases h0 : 0 ≤ i
  · have hj : i.toNat = j := by
      rw [seqIndex_of h0 h5] at h1
      exact Option.some.inj h1
    exact wpAny_getItem_list pl.isList h0 (by omega) (by rw [hj]; simpa using ew) fin
  · have hj : (i + (its.toArray.size : Int)).toNat = j := by
      rw [seqIndex_neg (by omega) h4] at h1
      rw [List.size_toArray, ← hl]
      exact Option.some.inj h1
    exact wpAny_getItem_list_neg pl.isList (by omega) (by rw [List.size_toArray] <;> omega) (by omega) (by rw [hj]; simpa using ew) fin
def ixL (a b : O) : Option O := match a, b with
  | .lst os, .val (.int i) => atI os i
  | _, _ => none
theorem opv_ixL : OpV K mg (rIxL K) ixL := by
  intro H L B x y ox oy o Q R hx hy e k
  unfold ixL at e
  split at e
  · rename_i os i
    have ey : y = .int i := R.shInt hy rfl
    obtain ⟨A, nd, ok, hb⟩ := id R
    obtain ⟨as, h1, h2⟩ := hb _ hx
    cases h1 with
    | lst h1 hs =>
      obtain ⟨j, v, e1, e2, e3⟩ := atI_len hs.length e
      refine ⟨_, _, i, v, rfl, ey, SqL.of h1, e3, k v H (Same.refl _) ⟨A, nd, ok, fun b q => ?_⟩⟩
      rcases List.mem_cons.mp q with q | q
      · subst q
        obtain ⟨bs, q1, q2⟩ := VOs.sub hs e1 e2
        exact ⟨bs, q1, fun a ha => h2 a (by simp [q2 a ha])⟩
      · exact hb b q
  · cases e
/-- name.f[k] += e, ints -/
def augO (g : Int → Int → Int) (a b u : O) : Option O := match ixL a b, u with
  | some (.val (.int x)), .val (.int y) => some (.val (.int (g x y)))
  | _, _ => none
def fldAt (c f : Str) (o : O) : Option O := fldO c f o
def mAugFI (i : Nat) (c f : Str) (g : Int → Int → Int) (n m : Pf) : M Fl := fun ρ => match ρ[i]?, n ρ, m ρ with
  | some (some o), some (.val d), some (.val (.int y)) => match (fldO c f o).bind fun a => augO g a (.val d) (.val (.int y)) with
    | some u => match stFO c f o (.val d) u with
      | some o' => .ok .nx (ρ.set i (some o'))
      | none => .no
    | none => .no
  | _, _, _ => .no
theorem fldO_ins {c f : Str} {ns : List Str} {os : List O} {j : Nat} {a : O} (g1 : fidx ns f = some j) (g2 : os[j]? = some a) : fldO c f (.ins c ns os) = some a := by
  show (if c = c then (fidx ns f).bind fun j => os[j]? else none) = _
  rw [if_pos rfl, g1]; exact g2
theorem ss_augFI (i : Nat) {P : List Nat} {c f : Str} {C : Addr} {fs : List Str} {x : Str} {p apos tpos pos : Pos} {ix e : Expr} {op : Operator} {g : Int → Int → Int} {n m : Pf} (ok : CxOk X) (co : CO X.K X.mg c C fs) (hf : f ∈ fs) (hop : PIp X op (ipI g)) (hn : SP X ix n) (h : SP X e m) (hN : X.N[i]? = some x := by rfl) (hv : Vis X.env.scope x := by first | exact Or.inl rfl | exact Or.inr (Or.inl rfl) | exact Or.inr (Or.inr rfl)) (hd : (x == ("__debug__" : Str)) = false := by decide)
    (hcd : (x == ("__classdict__" : Str)) = false := by decide) (hb : attributeBase (.Name x p) f X.env (eval (.Name x p) X.env) = eval (.Name x p) X.env := by rfl)
    (ha : ∀ ov iv new, augStore ix ov iv new = (do holding [new, ov, iv] (setItem ov iv new); release [new, ov, iv] []; pure .next) := by intros; rfl) :
    SS X P (.AugAssign (.Subscript (.Attribute (.Name x p) f apos) ix tpos) op e pos) (mAugFI i c f g n m) :=
  PS.imp (ps_augS (pe_fld (pv i hN hv hd hcd) hb) hn pget_list h hop (set_F ok) ha) fun D σ H w => by
    obtain ⟨ρ, T, cv, R, h⟩ := tS_iff.mp w
    unfold mAugFI at h
    split at h
    · rename_i o d yi e2 e3 e5
      split at h
      · rename_i u e6
        split at h
        · rename_i o' e4
          obtain ⟨ns, os, j, a, a', rfl, g1, g2, g3, rfl⟩ := stFO_eq e4
          rw [fldO_ins g1 g2] at e6
          have e6 : augO g a (.val d) (.val (.int yi)) = some u := e6
          unfold augO at e6
          split at e6
          · rename_i xi y' e7 e8
            cases e8
            cases e6
            obtain ⟨q, dx, fs', wv, hv1, hH, hl, R2⟩ := fld_lend co cv e2 g1 g2 R
            refine ⟨_, hv1, q, C, dx, fs', wv, rfl, hH, co.cl, co.no f hf, hl, ?_⟩
            refine ⟨ρ, T, _, .val d, cv, R2, e3, fun y H2 s2 R3 => ?_⟩
            refine opv_ixL H2 _ _ wv y a (.val d) _ _ R3 (by simp) (by simp) e7 fun xv H3 s3 R4 => ?_
            refine ⟨ρ, T, _, .val (.int yi), cv, R4, e5, fun zv H4 s4 R5 => ?_⟩
            have ex : xv = .int xi := R5.shInt (List.mem_cons_of_mem _ (List.mem_cons_self ..)) rfl
            have ez : zv = .int yi := R5.shInt (List.mem_cons_self ..) rfl
            refine ⟨xi, yi, ex, ez, ?_⟩
            have R6 : Rep X.K X.mg H4 (pairs σ ρ ++ T) [(y, .val d)] := R5.bsub fun z hz => by
              have := List.mem_singleton.mp hz
              subst this
              simp
            have R7 := (R6.keep.scal (v := .int (g xi yi)) (d := .int (g xi yi)) fun _ => .int _).perm (.swap _ _ _)
            exact fld_core co e2 g1 g2 g3 hv1 (s4 _ _ (s3 _ _ (s2 _ _ hH))) hl R7 fun H5 R8 => h σ H5 (Fix.refl _ _) (cv.put hv1 _) R8
          · cases e6
        · exact h.elim
      · exact h.elim
    · exact h.elim
end
end FB

/-! Rules for simp: objects. -/
namespace FB
open PySem PySem.Spec L2
open PyProof.Rows hiding St
variable {ρ : Env}
def mtK (i : Nat) (c m : Str) (F : FSem) (as : List Arg) (ρ : Env) : Option (Option O) → Res O
  | some (some (.ins c' ns _)) => if c' = c ∧ fidx ns m = none then mCall F (.io i :: as) ρ else .no
  | _ => .no
@[simp] theorem e_mMeth (i : Nat) (c m : Str) (F : FSem) (as : List Arg) : mMeth i c m F as ρ = mtK i c m F as ρ (ρ[i]?) := (rfl)
@[simp] theorem e_mtK (i : Nat) (c m : Str) (F : FSem) (as : List Arg) (ns : List Str) (os : List O) (h : fidx ns m = none) : mtK i c m F as ρ (some (some (.ins c ns os))) = mCall F (.io i :: as) ρ := by unfold mtK; simp [h]
def mkC (as : List Arg) (ρ : Env) : Option (O × Env) → Res O
  | some (.val .non, some o :: ρc) => .ok o (giveA as ρc ρ)
  | _ => .no
def mkB (c : Str) (F : FSem) (as : List Arg) : Option (List O × Env) → Res O
  | some r => mkC as r.2 (F (.ins c [] [] :: r.1))
  | none => .no
def mkA (c : Str) (F : FSem) (as : List Arg) : Res (List (Option O)) → Res O
  | .ok os ρ => mkB c F as (takeA as os ρ)
  | .exc x ρ => .exc x ρ
  | .no => .no
@[simp] theorem e_mMake (c : Str) (F : FSem) (as : List Arg) : mMake c F as ρ = mkA c F as (evA as ρ) := by
  unfold mMake mkA
  cases evA as ρ with
  | ok os ρ1 =>
    show (match takeA as os ρ1 with
      | none => Res.no
      | some r => match F (.ins c [] [] :: r.1) with
        | some (.val .non, some o :: ρc) => .ok o (giveA as ρc r.2)
        | _ => .no) = mkB c F as (takeA as os ρ1)
    unfold mkB
    cases takeA as os ρ1 with
    | none => rfl
    | some r => rfl
  | exc _ _ => rfl
  | no => rfl
@[simp] theorem e_mkA (c : Str) (F : FSem) (as : List Arg) (os : List (Option O)) : mkA c F as (.ok os ρ) = mkB c F as (takeA as os ρ) := (rfl)
@[simp] theorem e_mkB (c : Str) (F : FSem) (as : List Arg) (os : List O) : mkB c F as (some (os, ρ)) = mkC as ρ (F (.ins c [] [] :: os)) := (rfl)
@[simp] theorem e_mkC (as : List Arg) (o : O) (ρc : Env) : mkC as ρ (some (.val .non, some o :: ρc)) = .ok o (giveA as ρc ρ) := (rfl)
def sfB (i : Nat) (c f : Str) (u : O) (ρ : Env) : Option (Option O) → Res Fl
  | some (some (.ins c' ns os)) => if c' = c ∧ ns.length < 1000 then .ok .nx (ρ.set i (some (.ins c (putFO ns os f u).1 (putFO ns os f u).2))) else .no
  | _ => .no
def sfA (i : Nat) (c f : Str) : Res O → Res Fl
  | .ok u ρ => sfB i c f u ρ (ρ[i]?)
  | .exc x ρ => .exc x ρ
  | .no => .no
@[simp] theorem e_mSetF (i : Nat) (c f : Str) (m : M O) : mSetF i c f m ρ = sfA i c f (m ρ) := by
  unfold mSetF sfA
  cases m ρ <;> rfl
@[simp] theorem e_sfA (i : Nat) (c f : Str) (u : O) : sfA i c f (.ok u ρ) = sfB i c f u ρ (ρ[i]?) := (rfl)
theorem e_sfS (i : Nat) (c f : Str) (u : O) (ns : List Str) (os : List O) (j : Nat) (hl : ns.length < 1000) (h : fidx ns f = some j) : sfB i c f u ρ (some (some (.ins c ns os))) = .ok .nx (ρ.set i (some (.ins c ns (os.set j u)))) := by
  unfold sfB putFO; simp [hl, h]
theorem e_sfN (i : Nat) (c f : Str) (u : O) (ns : List Str) (os : List O) (hl : ns.length < 1000) (h : fidx ns f = none) : sfB i c f u ρ (some (some (.ins c ns os))) = .ok .nx (ρ.set i (some (.ins c (ns ++ [f]) (os ++ [u])))) := by
  unfold sfB putFO; simp [hl, h]
theorem e_fldO (c f : Str) (ns : List Str) (os : List O) (j : Nat) (h : fidx ns f = some j) : fldO c f (.ins c ns os) = os[j]? := by
  show (if c = c then (fidx ns f).bind fun j => os[j]? else none) = _
  rw [if_pos rfl, h]; rfl
def fiB (i : Nat) (c f : Str) (u : O) (ρ : Env) : Option (Option O) → Option O → Res Fl
  | some (some o), some (.val d) => siD i ρ (stFO c f o (.val d) u)
  | _, _ => .no
def fiA (i : Nat) (c f : Str) (n : Pf) : Res O → Res Fl
  | .ok u ρ => fiB i c f u ρ (ρ[i]?) (n ρ)
  | .exc x ρ => .exc x ρ
  | .no => .no
@[simp] theorem e_mSetFI (i : Nat) (c f : Str) (n : Pf) (m : M O) : mSetFI i c f n m ρ = fiA i c f n (m ρ) := by
  unfold mSetFI fiA
  cases m ρ with
  | ok u ρ1 =>
    show (match ρ1[i]?, n ρ1 with
      | some (some o), some (.val d) => match stFO c f o (.val d) u with
        | some o' => Res.ok Fl.nx (ρ1.set i (some o'))
        | none => .no
      | _, _ => .no) = fiB i c f u ρ1 (ρ1[i]?) (n ρ1)
    unfold fiB
    cases ρ1[i]? with
    | none => rfl
    | some q =>
      cases q with
      | none => rfl
      | some o =>
        cases n ρ1 with
        | none => rfl
        | some z =>
          cases z with
          | val d =>
            show (match stFO c f o (.val d) u with | some o' => Res.ok Fl.nx (ρ1.set i (some o')) | none => .no) = siD i ρ1 (stFO c f o (.val d) u)
            unfold siD
            cases stFO c f o (.val d) u <;> rfl
          | _ => rfl
  | exc _ _ => rfl
  | no => rfl
@[simp] theorem e_fiA (i : Nat) (c f : Str) (n : Pf) (u : O) : fiA i c f n (.ok u ρ) = fiB i c f u ρ (ρ[i]?) (n ρ) := (rfl)
@[simp] theorem e_fiB (i : Nat) (c f : Str) (u o : O) (d : D) : fiB i c f u ρ (some (some o)) (some (.val d)) = siD i ρ (stFO c f o (.val d) u) := (rfl)
theorem e_stFO (c f : Str) (ns : List Str) (os : List O) (b u : O) (j : Nat) (a a' : O) (h : fidx ns f = some j) (h1 : os[j]? = some a) (h2 : setItO a b u = some a') : stFO c f (.ins c ns os) b u = some (.ins c ns (os.set j a')) := by
  show (if c = c then (fidx ns f).bind fun j => (os[j]?).bind fun a => (setItO a b u).map fun a' => O.ins c ns (os.set j a') else none) = _
  rw [if_pos rfl, h]
  show ((os[j]?).bind fun a => (setItO a b u).map fun a' => O.ins c ns (os.set j a')) = _
  rw [h1]
  show ((setItO a b u).map fun a' => O.ins c ns (os.set j a')) = _
  rw [h2]; rfl
theorem e_mAugFI (i : Nat) (c f : Str) (g : Int → Int → Int) (n m : Pf) (ns : List Str) (os : List O) (d : D) (x y : Int) (j : Nat) (a a' : O) (h0 : ρ[i]? = some (some (.ins c ns os))) (hn : n ρ = some (.val d)) (hm : m ρ = some (.val (.int y))) (h : fidx ns f = some j) (h1 : os[j]? = some a) (hx : ixL a (.val d) = some (.val (.int x))) (h2 : setItO a (.val d) (.val (.int (g x y))) = some a') :
    mAugFI i c f g n m ρ = .ok .nx (ρ.set i (some (.ins c ns (os.set j a')))) := by
  unfold mAugFI
  rw [h0, hn, hm]
  have e : ((fldO c f (.ins c ns os)).bind fun a => augO g a (.val d) (.val (.int y))) = some (.val (.int (g x y))) := by
    rw [e_fldO c f ns os j h, h1]
    show augO g a (.val d) (.val (.int y)) = _
    unfold augO
    rw [hx]
  show (match (fldO c f (.ins c ns os)).bind fun a => augO g a (.val d) (.val (.int y)) with
    | some u => match stFO c f (.ins c ns os) (.val d) u with
      | some o' => Res.ok Fl.nx (ρ.set i (some o'))
      | none => .no
    | none => .no) = _
  rw [e]
  show (match stFO c f (.ins c ns os) (.val d) (.val (.int (g x y))) with
      | some o' => Res.ok Fl.nx (ρ.set i (some o'))
      | none => .no) = _
  rw [e_stFO c f ns os _ _ j a a' h h1 h2]
@[simp] theorem ixL_vO (ds : List D) (i : Int) : ixL (vO ds) (.val (.int i)) = (atI ds i).map O.val := vO_ix ds i
def enK : Res O → Res (List D)
  | .ok o ρ => match o.toD with
    | .lst ds => .ok (enumL ds) ρ
    | _ => .no
  | .exc x ρ => .exc x ρ
  | .no => .no
@[simp] theorem e_mEnum (m : M O) : mEnum m ρ = enK (m ρ) := by
  unfold mEnum enK
  cases m ρ <;> rfl
@[simp] theorem e_enK (ds : List D) : enK (.ok (.val (.lst ds)) ρ) = .ok (enumL ds) ρ := (rfl)
end FB

/-! A loop over an own list that stands meanwhile; isinstance as a reading. -/
namespace FB
open PySem PySem.Spec L2
open PyProof.Rows hiding St

section
variable {X : Cx} {K : PySem.W.Frag} {mg : Str → Option Value}
theorem sp_isi (T : String) {x : Str} {a : Expr} {p q pos : Pos} {f : Pf} (hg : Gl X "isinstance") (hm : X.mg "isinstance" = none) (hgT : Gl X x) (hmT : X.mg x = none) (hvT : bootBuiltins x = some (.type T)) (ha : SP X a f) (hT : T ∈ ["bool", "int", "str", "tuple", "list", "dict"] := by decide)
    (hn : x ≠ "__name__" := by decide) (hdb : (x == ("__debug__" : Str)) = false := by decide) (hst : starEach (a :: [.Name x q]) X.env = (false, eval a X.env) :: starEach [.Name x q] X.env := by rfl) (hst2 : starEach (.Name x q :: []) X.env = (false, eval (.Name x q) X.env) :: starEach [] X.env := by rfl) (hpl : (backTo pos (starEach [.Name x q] X.env)).any (·.1) = false := by rfl) :
    SP X (.Call (.Name "isinstance" p) [a, .Name x q] [] pos) (p1 (isiO T) f) :=
  PE.imp (pe_callB call_isi hg hm boot_isinstance (pa_cons ha (pa_cons (pe_bltn (v := .ty T) hgT hmT hvT rfl hn hdb) pa_nil hst2) hst) (by decide) (by decide) hst hpl) (tUn_p (unv_isi hT))
open Classical in
noncomputable def forK (i : Nat) (o : O) (a : D → Env → Option Env) (b : M Fl) : List D → M Fl
  | [] => fun ρ => if ρ[i]? = some (some o) then .ok .nx ρ else .no
  | d :: ds => fun ρ => if ρ[i]? = some (some o) then match a d ρ with
    | none => .no
    | some ρ1 => (b ρ1).bind fun f ρ2 => match f with
      | .nx => forK i o a b ds ρ2
      | .ct => forK i o a b ds ρ2
      | .brk => .ok .nx ρ2
      | .ret o => .ok (.ret o) ρ2
    else .no
noncomputable def mForL (i : Nat) (a : D → Env → Option Env) (b : M Fl) : M Fl := fun ρ => match ρ[i]? with
  | some (some o) => match o.sh with
    | some (.lst ds) => forK i o a b ds ρ
    | _ => .no
  | _ => .no
theorem Fix.less {i : Nat} {P : List Nat} {σ σ' : L2.St} (h : Fix (i :: P) σ σ') : Fix P σ σ' := ⟨h.1, fun j hj => h.2 j (List.mem_cons_of_mem _ hj)⟩
theorem slotAt {H : Hp} {T : List Item} {σ : L2.St} {ρ : Env} {i : Nat} {v : V} {o : O} {ds : List D} (hv : σ[i]? = some (some v)) (e : ρ[i]? = some (some o)) (es : o.sh = some (.lst ds)) (R : Rep K mg H (pairs σ ρ ++ T) []) :
    ∃ p vs, v = .ref p ∧ Rd H p (.lst vs) ∧ vs.length = ds.length ∧ ∀ (k : Nat) (x : V) (d : D), vs[k]? = some x → ds[k]? = some d → Rep K mg H (.ov x (.val d) :: (pairs σ ρ ++ T)) [] := by
  have pm := (pairs_take hv e).append_right T
  obtain ⟨p, vs, e1, h1, h2, R2⟩ := Rep.shL ((R.perm pm).lend) (List.mem_cons_self ..) es
  refine ⟨p, vs, e1, h1, h2, fun k x d q1 q2 => ?_⟩
  have R3 := (R2.nob.nth q1 q2).keep
  exact R3.perm (List.Perm.cons _ pm.symm)
theorem ss_forL (i : Nat) {P : List Nat} {x : Str} {p pos : Pos} {tg : Expr} {body : List Stmt} {a : D → Env → Option Env} {b : M Fl} (ok : CxOk X) (hp : PassesOwn (model X.prog X.w) X.A X.env X.xe) (hg : SG X (Fix (i :: P)) tg a) (hb : SSs X (i :: P) body b)
    (hN : X.N[i]? = some x := by rfl) (hv : Vis X.env.scope x := by first | exact Or.inl rfl | exact Or.inr (Or.inl rfl) | exact Or.inr (Or.inr rfl)) (hd : (x == ("__debug__" : Str)) = false := by decide) (hcd : (x == ("__classdict__" : Str)) = false := by decide)
    (hs : ∀ y, foldedSetIterable (.Name x p) X.env y = pure y := by intro _; rfl) : SS X P (.For tg (.Name x p) body [] pos) (mForL i a b) :=
  PS.imp (ps_for hp ok.calm (pi_list (pv i hN hv hd hcd)) hg hb hs) fun D σ H w => by
    obtain ⟨ρ, T, cv, R, h⟩ := tS_iff.mp w
    unfold mForL at h
    split at h
    · rename_i o e0
      split at h
      · rename_i ds es
        obtain ⟨v, hv⟩ := cv.ex i _ e0
        obtain ⟨q, vs0, rfl, hq, hl0, _⟩ := slotAt hv e0 es R
        refine ⟨_, hv, q, rfl, ⟨vs0, .inl hq⟩, ?_⟩
        let W : Nat → L2.St → Hp → Prop := fun k σ' H' => ∃ ρ', k ≤ ds.length ∧ Fix (i :: P) σ σ' ∧ Cov σ' ρ' ∧ Rep X.K X.mg H' (pairs σ' ρ' ++ T) [] ∧ Post X.K X.mg P T D σ (forK i o a b (ds.drop k) ρ')
        refine ⟨fun k n σ' H' => n = ds.length - k ∧ W k σ' H', ⟨ds.length, by simp, ρ, Nat.zero_le _, Fix.refl _ _, cv, R, h⟩, ?_⟩
        rintro k n σ1 H1 ⟨rfl, ρ2, hk, f1, c1, R1, h1⟩
        have hv1 : σ1[i]? = some (some (.ref q)) := (f1.2 i (List.mem_cons_self ..)).trans hv
        by_cases hlt : k < ds.length
        · rw [drop_cons hlt] at h1
          unfold forK at h1
          by_cases e3 : ρ2[i]? = some (some o)
          · rw [if_pos e3] at h1
            obtain ⟨q', vs, eq, hq1, hl1, hit⟩ := slotAt hv1 e3 es R1
            cases eq
            have hkv : k < vs.length := by omega
            have hd : ds[k]? = some ds[k] := by simp [hlt]
            refine .inr ⟨⟨vs, vs[k], .inl hq1, by simp [hkv]⟩, fun σ' H' => W (k + 1) σ' H', fun σ' H' z => ⟨ds.length - (k + 1), by omega, rfl, z⟩, fun y H2 hy => ?_⟩
            obtain ⟨rfl, hy⟩ := hy
            have R2 := hit k y ds[k] (hy vs (.inl hq1)) hd
            have h1 : Post X.K X.mg P T D σ (match a ds[k] ρ2 with
              | none => .no
              | some ρ1 => (b ρ1).bind fun f ρ2 => match f with
                | .nx => forK i o a b (ds.drop (k + 1)) ρ2
                | .ct => forK i o a b (ds.drop (k + 1)) ρ2
                | .brk => .ok .nx ρ2
                | .ret o => .ok (.ret o) ρ2) := h1
            cases e4 : a ds[k] ρ2 with
            | none => rw [e4] at h1; exact h1.elim
            | some ρ3 =>
              rw [e4] at h1
              refine ⟨ρ2, T, ds[k], ρ3, c1, R2, e4, fun σ3 f3 c3 R3 => ?_⟩
              refine tS_iff.mpr ⟨ρ3, T, c3, R3, ?_⟩
              have h1 : Post X.K X.mg P T D σ ((b ρ3).bind fun f ρ2 => match f with
                | .nx => forK i o a b (ds.drop (k + 1)) ρ2
                | .ct => forK i o a b (ds.drop (k + 1)) ρ2
                | .brk => .ok .nx ρ2
                | .ret o => .ok (.ret o) ρ2) := h1
              cases e5 : b ρ3 with
              | exc z ρ4 => rw [e5] at h1; exact h1.elim
              | no => rw [e5] at h1; exact h1.elim
              | ok fl ρ4 =>
                rw [e5] at h1
                cases fl with
                | nx => exact fun σ' H' f' c' R' => ⟨ρ4, hlt, f1.trans (f3.trans f'), c', R', h1⟩
                | ct => exact fun σ' H' f' c' R' => ⟨ρ4, hlt, f1.trans (f3.trans f'), c', R', h1⟩
                | brk => exact fun σ' H' f' c' R' => h1 σ' H' (f1.trans (f3.trans f')).less c' R'
                | ret o => exact fun v σ' H' f' c' R' => h1 v σ' H' (f1.trans (f3.trans f')).less c' R'
          · rw [if_neg e3] at h1; exact h1.elim
        · have e : k = ds.length := by omega
          subst e
          rw [List.drop_length] at h1
          unfold forK at h1
          by_cases e3 : ρ2[i]? = some (some o)
          · rw [if_pos e3] at h1
            obtain ⟨q', vs, eq, hq1, hl1, hit⟩ := slotAt hv1 e3 es R1
            cases eq
            exact .inl ⟨⟨vs, .inl hq1, by omega⟩, h1 σ1 H1 f1.less c1 R1⟩
          · rw [if_neg e3] at h1; exact h1.elim
      · exact h.elim
    · exact h.elim
/-- an argument is shared from now on -/
def mFz (m : M O) : M O := fun ρ => (m ρ).bind fun o ρ1 => .ok (.val o.toD) ρ1
theorem se_fz {e : Expr} {m : M O} (h : SE X e m) : SE X e (mFz m) := PE.imp h fun σ H Q w => by
  obtain ⟨ρ, T, o, ρ', c, R, e, k⟩ := w
  obtain ⟨a, ρ1, e1, e⟩ := Res.bind_eq e
  cases e
  exact ⟨ρ, T, a, _, c, R, e1, fun v H' c' R' => k v H' c' R'.frz⟩
end
def fzK : Res O → Res O
  | .ok o ρ => .ok (.val o.toD) ρ
  | .exc x ρ => .exc x ρ
  | .no => .no
@[simp] theorem e_mFz {ρ : Env} (m : M O) : mFz m ρ = fzK (m ρ) := by unfold mFz fzK; cases m ρ <;> rfl
@[simp] theorem e_fzK {ρ : Env} (o : O) : fzK (.ok o ρ) = .ok (.val o.toD) ρ := (rfl)
theorem forK_inv {i : Nat} {o : O} {a : D → Env → Option Env} {b : M Fl} {ds : List D} (I : Nat → Env → Prop) {ρ : Env} (hI : ∀ k ρ, I k ρ → ρ[i]? = some (some o)) (h0 : I 0 ρ) (hs : ∀ k d ρ, ds[k]? = some d → I k ρ → ∃ ρ1 ρ2, a d ρ = some ρ1 ∧ (b ρ1 = .ok .nx ρ2 ∨ b ρ1 = .ok .ct ρ2) ∧ I (k + 1) ρ2) :
    ∃ ρ', forK i o a b ds ρ = .ok .nx ρ' ∧ I ds.length ρ' := by
  induction ds generalizing I ρ with
  | nil =>
    refine ⟨ρ, ?_, h0⟩
    unfold forK
    rw [if_pos (hI 0 ρ h0)]
  | cons d ds ih =>
    obtain ⟨ρ1, ρ2, e1, e2, h1⟩ := hs 0 d ρ rfl h0
    obtain ⟨ρ', e3, h3⟩ := ih (fun k => I (k + 1)) (fun k => hI (k + 1)) h1 fun k d ρ h => hs (k + 1) d ρ (by simpa using h)
    refine ⟨ρ', ?_, by simpa using h3⟩
    unfold forK
    rw [if_pos (hI 0 ρ h0), e1]
    rcases e2 with e2 | e2 <;> simp only [e2, Res.bind_ok] <;> exact e3
theorem e_mForL {i : Nat} {a : D → Env → Option Env} {b : M Fl} {ρ : Env} {o : O} {ds : List D} (h : ρ[i]? = some (some o)) (hs : o.sh = some (.lst ds)) : mForL i a b ρ = forK i o a b ds ρ := by
  unfold mForL
  rw [h]
  show (match o.sh with | some (.lst ds) => forK i o a b ds ρ | _ => .no) = _
  rw [hs]
end FB

/-! zip of any two of lists and tuples. -/
namespace MZ
open PySem PySem.Sem
/-- u: a list, else a tuple -/
def CSeq (u : Bool) (h : Heap) (l : Addr) (xs : Array Value) : Prop := if u = true then h.IsList l xs else h.IsTuple l xs
def CIt (u : Bool) (h : Heap) (it l : Addr) (k : Nat) : Prop := if u = true then h.IsListIter it l k else h.IsTupleIter it l k
theorem CSeq.ext {u : Bool} {h h' : Heap} {l b : Addr} {xs : Array Value} (x : CSeq u h l xs) (q : Heap.ExtBut b h h') (n : l ≠ b) : CSeq u h' l xs := by
  cases u with
  | true => exact Heap.IsList.extBut (show h.IsList l xs from x) q n
  | false => exact Heap.IsTuple.extBut (show h.IsTuple l xs from x) q n
theorem CIt.ext {u : Bool} {h h' : Heap} {it l b : Addr} {k : Nat} (x : CIt u h it l k) (q : Heap.ExtBut b h h') (n : it ≠ b) : CIt u h' it l k := by
  cases u with
  | true => exact Heap.IsListIter.extBut (show h.IsListIter it l k from x) q n
  | false => exact Heap.IsTupleIter.extBut (show h.IsTupleIter it l k from x) q n
theorem CIt.move {u : Bool} {h h' : Heap} {it l : Addr} {k : Nat} (x : CIt u h it l k) (q : ∀ o, h.get? it = some o → h'.get? it = some o) : CIt u h' it l k := by
  cases u with
  | true => exact Heap.IsListIter.at (show h.IsListIter it l k from x) q
  | false => exact Heap.IsTupleIter.at (show h.IsTupleIter it l k from x) q
theorem CIt.some {u : Bool} {h : Heap} {it l : Addr} {k : Nat} (x : CIt u h it l k) : ∃ o, h.get? it = some o ∧ ∀ v, o.data ≠ .cell v := by
  cases u with
  | true =>
    obtain ⟨o, e, _, d⟩ := show h.IsListIter it l k from x
    exact ⟨o, e, fun v q => by rw [d] at q; cases q⟩
  | false =>
    obtain ⟨o, e, _, d⟩ := show h.IsTupleIter it l k from x
    exact ⟨o, e, fun v q => by rw [d] at q; cases q⟩
section
variable {prog : Program} {w : World} {A : Around} {E : Value → Shared → Prop} {s : Shared}
theorem nx_item {u : Bool} {it l : Addr} {k : Nat} {xs : Array Value} {x : Value} {Q : Value → Shared → Prop} (ci : CIt u s.heap it l k) (cs : CSeq u s.heap l xs) (hx : xs[k]? = some x)
    (hQ : ∀ h', CIt u h' it l (k + 1) → Heap.SameBut it s.heap h' → Q x { s with heap := h' }) : wpAny (model prog w) A (Builtin.SmallTypes.nextOf (.ref it)) Q E s := by
  cases u with
  | true => exact wpAny_nextOf_list_item ci cs hx hQ
  | false => exact RZ.nextOf_tuple_item ci cs hx hQ
theorem nx_end {u : Bool} {it l : Addr} {k : Nat} {xs : Array Value} {Q : Value → Shared → Prop} (hh : A.handled = none) (ci : CIt u s.heap it l k) (cs : CSeq u s.heap l xs) (hx : xs[k]? = none)
    (hE : ∀ h' e, Heap.ExtBut it s.heap h' → (∃ o, h'.get? e = some o ∧ o.cls = .type "StopIteration") → E (.ref e) { s with heap := h' }) : wpAny (model prog w) A (Builtin.SmallTypes.nextOf (.ref it)) Q E s := by
  cases u with
  | true => exact wpAny_nextOf_list_end hh ci cs hx hE
  | false => exact RZ.nextOf_tuple_end hh ci cs hx hE
/-- all but the four stand -/
def Stay (z TO i j : Addr) (h h' : Heap) : Prop := ∀ c o, c ≠ z → c ≠ TO → c ≠ i → c ≠ j → h.get? c = some o → h'.get? c = some o
variable {u1 u2 : Bool} {z TI TO i j l m : Addr} {k n : Nat} {xs ys : Array Value} {x y a b : Value}
theorem step_item {Q : Value → Shared → Prop} (D : ZipApart z TI TO i j l m) (Z : IsZip s.heap z TI TO .none) (PI : IsPair s.heap TI (.ref i) (.ref j)) (PO : IsPair s.heap TO a b)
    (c1 : CIt u1 s.heap i l k) (c2 : CIt u2 s.heap j m n) (q1 : CSeq u1 s.heap l xs) (q2 : CSeq u2 s.heap m ys) (hx : xs[k]? = some x) (hy : ys[n]? = some y)
    (fin : ∀ h', IsZip h' z TI TO (rawInt s.heap.objs.size) → IsPair h' TO x y → CIt u1 h' i l (k + 1) → CIt u2 h' j m (n + 1) → IsPair h' s.heap.objs.size x y → h'.objs.size = s.heap.objs.size + 1 →
      Stay z TO i j s.heap h' → Q (.ref s.heap.objs.size) { s with heap := h' }) :
    wpAny (model prog w) A (Builtin.«zip.__next__» ⟨[.ref z], []⟩) (fun r s' => ∃ v, r = .done (.ret v) ∧ Q v s') E s := by
  show wpAny _ _ (field (.ref z) 2 >>= _) _ _ _
  refine wpAny_bind (wpAny_field Z rfl (x := .bool false) rfl ?_)
  show wpAny _ _ (field (.ref z) 3 >>= _) _ _ _
  refine wpAny_bind (wpAny_field Z rfl (x := .ref TI) rfl ?_)
  refine wpAny_bind (wpAny_seqItems PI rfl ?_)
  show wpAny _ _ (Builtin.SmallTypes.ownedTupleIsFree (.ref z) >>= _) _ _ _
  refine wpAny_bind ?_
  unfold Builtin.SmallTypes.ownedTupleIsFree
  refine wpAny_bind (wpAny_field Z rfl (x := .none) rfl (wpAny_pure ?_))
  simp only [if_true]
  refine wpAny_bind (wpAny_rule ?_)
  refine wpAny_bind (wpAny_field Z rfl (x := .ref TO) rfl ?_)
  refine wpAny_bind (wpAny_setField_rec Z (by simp) fun ha Za sa => ?_)
  have Za : IsZip ha z TI TO .ellipsis := Za
  refine wpAny_bind ?_
  simp only [List.zipIdx_cons, List.zipIdx_nil, List.forIn_cons, List.forIn_nil]
  refine wpAny_bind (wpAny_bind (wpAny_onRaise ?_))
  show wpAny _ _ (Builtin.SmallTypes.nextOf (.ref i) >>= _) _ _ _
  refine wpAny_bind (nx_item (c1.ext sa.extBut D.i1z) (q1.ext sa.extBut D.l1z) hx fun hb c1b sb => wpAny_pure ?_)
  have POb : IsPair hb TO a b := sb.extBut _ _ D.TOi1 (sa.extBut _ _ D.TOz PO)
  refine wpAny_bind (wpAny_seqItems POb rfl ?_)
  refine wpAny_bind (wpAny_updateSeq_pair POb fun hc POc sc => ?_)
  have POc : IsPair hc TO x b := POc
  refine wpAny_bind (wpAny_letGo (wpAny_pure ?_))
  refine wpAny_bind (wpAny_bind (wpAny_onRaise ?_))
  show wpAny _ _ (Builtin.SmallTypes.nextOf (.ref j) >>= _) _ _ _
  have c2c : CIt u2 hc j m n := ((c2.ext sa.extBut D.i2z).ext sb.extBut D.i12.symm).ext sc.extBut D.TOi2.symm
  have q2c : CSeq u2 hc m ys := ((q2.ext sa.extBut D.l2z).ext sb.extBut D.l2i1).ext sc.extBut D.l2TO
  refine wpAny_bind (nx_item c2c q2c hy fun hd c2d sd => wpAny_pure ?_)
  have POd : IsPair hd TO x b := sd.extBut _ _ D.TOi2 POc
  refine wpAny_bind (wpAny_seqItems POd rfl ?_)
  refine wpAny_bind (wpAny_updateSeq_pair POd fun he POe se => ?_)
  have POe : IsPair he TO x y := POe
  refine wpAny_bind (wpAny_letGo (wpAny_pure (wpAny_pure ?_)))
  refine wpAny_bind (wpAny_seqItems POe rfl ?_)
  refine wpAny_bind (wpAny_newTuple ?_)
  have sz : he.objs.size = s.heap.objs.size := by rw [se.1, sd.1, sc.1, sb.1, sa.1]
  have Ze : IsZip he z TI TO .ellipsis := se.extBut _ _ D.TOz.symm (sd.extBut _ _ D.i2z.symm (sc.extBut _ _ D.TOz.symm (sb.extBut _ _ D.i1z.symm Za)))
  have ke : Stay z TO i j s.heap he := fun c o d1 d2 d3 d4 e => se.extBut _ _ d2 (sd.extBut _ _ d4 (sc.extBut _ _ d2 (sb.extBut _ _ d3 (sa.extBut _ _ d1 e))))
  have c1e : CIt u1 he i l (k + 1) := ((c1b.ext sc.extBut D.TOi1.symm).ext sd.extBut D.i12).ext se.extBut D.TOi1.symm
  have c2e : CIt u2 he j m (n + 1) := c2d.ext se.extBut D.TOi2.symm
  have zlt : z < he.objs.size := Heap.lt_size Ze
  show wpAny _ _ (Builtin.SmallTypes.ownedTupleHandOut (.ref z) (.ref he.objs.size) >>= _) _ _ _
  refine wpAny_bind ?_
  unfold Builtin.SmallTypes.ownedTupleHandOut
  have Zf : IsZip (he.push { cls := .type "tuple", data := .seq #[x, y] }) z TI TO .ellipsis := Heap.get?_push_of_some _ Ze
  refine wpAny_bind (wpAny_setField_rec Zf (by simp) fun hg Zg sg => ?_)
  have Zg : IsZip hg z TI TO (rawInt he.objs.size) := Zg
  refine wpAny_setField_rec Zg (by simp) fun hk Zk sk => ?_
  have Zk : IsZip hk z TI TO (rawInt he.objs.size) := Zk
  have up : ∀ c o, c ≠ z → he.get? c = some o → hk.get? c = some o := fun c o d e => sk.extBut _ _ d (sg.extBut _ _ d (Heap.get?_push_of_some _ e))
  have Pk : IsPair hk he.objs.size x y := sk.extBut _ _ (Nat.ne_of_gt zlt) (sg.extBut _ _ (Nat.ne_of_gt zlt) (Heap.get?_push_size _ rfl))
  have sk2 : hk.objs.size = he.objs.size + 1 := by rw [sk.1, sg.1, Heap.size_push]
  rw [sz] at Zk Pk sk2
  refine wpAny_pure ⟨_, rfl, ?_⟩
  show Q (.ref he.objs.size) _
  rw [sz]
  exact fin hk Zk (up _ _ D.TOz POe) (c1e.move fun o e => up _ o D.i1z e) (c2e.move fun o e => up _ o D.i2z e) Pk sk2 fun c o d1 d2 d3 d4 e => up c o d1 (ke c o d1 d2 d3 d4 e)
theorem step_end {Q : Fin → Shared → Prop} (hh : A.handled = none) (D : ZipApart z TI TO i j l m) (Z : IsZip s.heap z TI TO .none) (PI : IsPair s.heap TI (.ref i) (.ref j)) (PO : IsPair s.heap TO a b)
    (c1 : CIt u1 s.heap i l k) (c2 : CIt u2 s.heap j m n) (q1 : CSeq u1 s.heap l xs) (q2 : CSeq u2 s.heap m ys) (hend : xs[k]? = none ∨ ys[n]? = none)
    (fin : ∀ h' e, Stay z TO i j s.heap h' → (∃ o, h'.get? e = some o ∧ o.cls = .type "StopIteration") → E (.ref e) { s with heap := h' }) : wpAny (model prog w) A (Builtin.«zip.__next__» ⟨[.ref z], []⟩) Q E s := by
  show wpAny _ _ (field (.ref z) 2 >>= _) _ _ _
  refine wpAny_bind (wpAny_field Z rfl (x := .bool false) rfl ?_)
  show wpAny _ _ (field (.ref z) 3 >>= _) _ _ _
  refine wpAny_bind (wpAny_field Z rfl (x := .ref TI) rfl ?_)
  refine wpAny_bind (wpAny_seqItems PI rfl ?_)
  show wpAny _ _ (Builtin.SmallTypes.ownedTupleIsFree (.ref z) >>= _) _ _ _
  refine wpAny_bind ?_
  unfold Builtin.SmallTypes.ownedTupleIsFree
  refine wpAny_bind (wpAny_field Z rfl (x := .none) rfl (wpAny_pure ?_))
  simp only [if_true]
  refine wpAny_bind (wpAny_rule ?_)
  refine wpAny_bind (wpAny_field Z rfl (x := .ref TO) rfl ?_)
  refine wpAny_bind (wpAny_setField_rec Z (by simp) fun ha Za sa => ?_)
  have Za : IsZip ha z TI TO .ellipsis := Za
  refine wpAny_bind ?_
  simp only [List.zipIdx_cons, List.zipIdx_nil, List.forIn_cons, List.forIn_nil]
  refine wpAny_bind (wpAny_bind (wpAny_onRaise ?_))
  show wpAny _ _ (Builtin.SmallTypes.nextOf (.ref i) >>= _) _ _ _
  cases hx : xs[k]? with
  | none =>
    refine wpAny_bind (nx_end hh (c1.ext sa.extBut D.i1z) (q1.ext sa.extBut D.l1z) hx fun hb e sb st => ?_)
    obtain ⟨oe, g, ce⟩ := st
    have Zb : IsZip hb z TI TO .ellipsis := sb _ _ D.i1z.symm Za
    have nz : e ≠ z := fun t => by subst t; rw [Zb] at g; cases g; simp at ce
    refine wpAny_setField_rec Zb (by simp) fun hc _ sc => fin hc e (fun c o d1 _ d3 _ t => sc.extBut _ _ d1 (sb _ _ d3 (sa.extBut _ _ d1 t))) ⟨oe, sc.extBut _ _ nz g, ce⟩
  | some x =>
    have hy : ys[n]? = none := by
      rcases hend with t | t
      · rw [hx] at t; cases t
      · exact t
    refine wpAny_bind (nx_item (c1.ext sa.extBut D.i1z) (q1.ext sa.extBut D.l1z) hx fun hb c1b sb => wpAny_pure ?_)
    have POb : IsPair hb TO a b := sb.extBut _ _ D.TOi1 (sa.extBut _ _ D.TOz PO)
    refine wpAny_bind (wpAny_seqItems POb rfl ?_)
    refine wpAny_bind (wpAny_updateSeq_pair POb fun hc POc sc => ?_)
    refine wpAny_bind (wpAny_letGo (wpAny_pure ?_))
    refine wpAny_bind (wpAny_bind (wpAny_onRaise ?_))
    show wpAny _ _ (Builtin.SmallTypes.nextOf (.ref j) >>= _) _ _ _
    have c2c : CIt u2 hc j m n := ((c2.ext sa.extBut D.i2z).ext sb.extBut D.i12.symm).ext sc.extBut D.TOi2.symm
    have q2c : CSeq u2 hc m ys := ((q2.ext sa.extBut D.l2z).ext sb.extBut D.l2i1).ext sc.extBut D.l2TO
    refine wpAny_bind (nx_end hh c2c q2c hy fun hd e sd st => ?_)
    obtain ⟨oe, g, ce⟩ := st
    have Zd : IsZip hd z TI TO .ellipsis := sd _ _ D.i2z.symm (sc.extBut _ _ D.TOz.symm (sb.extBut _ _ D.i1z.symm Za))
    have nz : e ≠ z := fun t => by subst t; rw [Zd] at g; cases g; simp at ce
    refine wpAny_setField_rec Zd (by simp) fun he _ se => fin he e (fun c o d1 d2 d3 d4 t => se.extBut _ _ d1 (sd _ _ d4 (sc.extBut _ _ d2 (sb.extBut _ _ d3 (sa.extBut _ _ d1 t))))) ⟨oe, se.extBut _ _ nz g, ce⟩
theorem py_item {Q : Option Value → Shared → Prop} (D : ZipApart z TI TO i j l m) (Z : IsZip s.heap z TI TO .none) (PI : IsPair s.heap TI (.ref i) (.ref j)) (PO : IsPair s.heap TO a b)
    (c1 : CIt u1 s.heap i l k) (c2 : CIt u2 s.heap j m n) (q1 : CSeq u1 s.heap l xs) (q2 : CSeq u2 s.heap m ys) (hx : xs[k]? = some x) (hy : ys[n]? = some y)
    (fin : ∀ h', IsZip h' z TI TO (rawInt s.heap.objs.size) → IsPair h' TO x y → CIt u1 h' i l (k + 1) → CIt u2 h' j m (n + 1) → IsPair h' s.heap.objs.size x y → h'.objs.size = s.heap.objs.size + 1 →
      Stay z TO i j s.heap h' → Q (some (.ref s.heap.objs.size)) { s with heap := h' }) : wpAny (model prog w) A (pyNext (.ref z)) Q E s := by
  have ty : s.TypeIs (.ref z) "zip" := ⟨_, Z, rfl⟩
  unfold pyNext
  refine wpAny_bind (wpAny_attempt (wpAny_callSpecial?_slot (name := Str.ofString "__next__") ty F.slot_zip_next (wpAny_call_entry F.slot_zip_next ty F.entry_zip_next ?_ (F.args_zip_next_1 _))))
  exact step_item D Z PI PO c1 c2 q1 q2 hx hy fun h' t1 t2 t3 t4 t5 t6 t7 => wpAny_pure (fin h' t1 t2 t3 t4 t5 t6 t7)
theorem py_end {Q : Option Value → Shared → Prop} (hh : A.handled = none) (D : ZipApart z TI TO i j l m) (Z : IsZip s.heap z TI TO .none) (PI : IsPair s.heap TI (.ref i) (.ref j)) (PO : IsPair s.heap TO a b)
    (c1 : CIt u1 s.heap i l k) (c2 : CIt u2 s.heap j m n) (q1 : CSeq u1 s.heap l xs) (q2 : CSeq u2 s.heap m ys) (hend : xs[k]? = none ∨ ys[n]? = none)
    (fin : ∀ h', Stay z TO i j s.heap h' → Q none { s with heap := h' }) : wpAny (model prog w) A (pyNext (.ref z)) Q E s := by
  have ty : s.TypeIs (.ref z) "zip" := ⟨_, Z, rfl⟩
  unfold pyNext
  refine wpAny_bind (wpAny_attempt (wpAny_callSpecial?_slot (name := Str.ofString "__next__") ty F.slot_zip_next (wpAny_call_entry F.slot_zip_next ty F.entry_zip_next ?_ (F.args_zip_next_1 _))))
  refine step_end hh D Z PI PO c1 c2 q1 q2 hend fun h' e st he => ?_
  obtain ⟨o, g, ce⟩ := he
  refine wpAny_bind (wpAny_isInstance (T := "StopIteration") (b := true) ⟨o, g, ce⟩ isSubtype_stop ?_)
  exact wpAny_pure (fin _ st)
end
/-! ### it is made -/
def itObj (u : Bool) (l : Addr) : Obj := { cls := .type (if u = true then "list_iterator" else "tuple_iterator"), data := .fields #[.ref l, .int 0 0] }
abbrev m1 (u1 : Bool) (h : Heap) (l : Addr) : Heap := h.push (itObj u1 l)
abbrev m2 (u1 u2 : Bool) (h : Heap) (l m : Addr) : Heap := (m1 u1 h l).push (itObj u2 m)
abbrev m3 (u1 u2 : Bool) (h : Heap) (l m : Addr) : Heap := (m2 u1 u2 h l m).push { cls := .type "tuple", data := .seq #[.ref h.objs.size, .ref (m1 u1 h l).objs.size] }
abbrev m4 (u1 u2 : Bool) (h : Heap) (l m : Addr) : Heap := (m3 u1 u2 h l m).push { cls := .type "tuple", data := .seq #[.none, .none] }
abbrev m5 (u1 u2 : Bool) (h : Heap) (l m : Addr) : Heap := (m4 u1 u2 h l m).push { cls := .type "zip", data := .fields #[.none, .bool false, .bool false, .ref (m2 u1 u2 h l m).objs.size, .ref (m3 u1 u2 h l m).objs.size] }
theorem CSeq.push {u : Bool} {h : Heap} {l : Addr} {xs : Array Value} (q : CSeq u h l xs) (o : Obj) : CSeq u (h.push o) l xs := by
  cases u with
  | true => exact Heap.IsList.push (show h.IsList l xs from q) o
  | false => exact Heap.IsTuple.push (show h.IsTuple l xs from q) o
set_option maxHeartbeats 1000000 in
theorem meets_lt (l m : Addr) (xs ys : Array Value) :
    Meets (Builtin.«zip.__new__» ⟨[.type "zip", .ref l, .ref m], []⟩) (fun _ R s => s.heap.IsList l xs ∧ s.heap.IsTuple m ys ∧ R (.ok (.ret (.ref (m4 true false s.heap l m).objs.size))) { s with heap := m5 true false s.heap l m }) :=
  .of_wp fun prog w A R s t => by
    obtain ⟨hp, g, d, tk, os⟩ := s
    obtain ⟨q1, q2, t⟩ := t
    have hsub := sub_zip
    have L1 : Heap.IsList (Shared.heap ⟨hp, g, d, tk, os⟩) l xs := q1
    have L2 : Heap.IsTuple (Shared.heap ⟨hp.push { cls := .type "list_iterator", data := .fields #[.ref l, .int 0 0] }, g, d, tk, os⟩) m ys := Heap.IsTuple.push q2 _
    wp_walk using wpAny_pyIter_list L1, wpAny_pyIter_tuple L2
    exact ⟨_, rfl, t⟩
set_option maxHeartbeats 1000000 in
theorem meets_tl (l m : Addr) (xs ys : Array Value) :
    Meets (Builtin.«zip.__new__» ⟨[.type "zip", .ref l, .ref m], []⟩) (fun _ R s => s.heap.IsTuple l xs ∧ s.heap.IsList m ys ∧ R (.ok (.ret (.ref (m4 false true s.heap l m).objs.size))) { s with heap := m5 false true s.heap l m }) :=
  .of_wp fun prog w A R s t => by
    obtain ⟨hp, g, d, tk, os⟩ := s
    obtain ⟨q1, q2, t⟩ := t
    have hsub := sub_zip
    have L1 : Heap.IsTuple (Shared.heap ⟨hp, g, d, tk, os⟩) l xs := q1
    have L2 : Heap.IsList (Shared.heap ⟨hp.push { cls := .type "tuple_iterator", data := .fields #[.ref l, .int 0 0] }, g, d, tk, os⟩) m ys := Heap.IsList.push q2 _
    wp_walk using wpAny_pyIter_tuple L1, wpAny_pyIter_list L2
    exact ⟨_, rfl, t⟩
theorem meets_mix (u1 u2 : Bool) (l m : Addr) (xs ys : Array Value) :
    Meets (Builtin.«zip.__new__» ⟨[.type "zip", .ref l, .ref m], []⟩) (fun _ R s => CSeq u1 s.heap l xs ∧ CSeq u2 s.heap m ys ∧ R (.ok (.ret (.ref (m4 u1 u2 s.heap l m).objs.size))) { s with heap := m5 u1 u2 s.heap l m }) := by
  cases u1 <;> cases u2
  · exact RZ.meets_zipT_new l m xs ys
  · exact meets_tl l m xs ys
  · exact meets_lt l m xs ys
  · exact meets_zip_new l m xs ys
theorem cit_obj {u : Bool} {h : Heap} {it l : Addr} (e : h.get? it = some (itObj u l)) : CIt u h it l 0 := by
  cases u with
  | true => exact ⟨_, e, rfl, rfl⟩
  | false => exact ⟨_, e, rfl, rfl⟩
theorem call_mix {prog : Program} {w : World} {A : Around} {E : Value → Shared → Prop} {s : Shared} {u1 u2 : Bool} {l m : Addr} {xs ys : Array Value} {Q : Value → Shared → Prop} (q1 : CSeq u1 s.heap l xs) (q2 : CSeq u2 s.heap m ys)
    (fin : ∀ h', IsZip h' (s.heap.objs.size + 4) (s.heap.objs.size + 2) (s.heap.objs.size + 3) .none → IsPair h' (s.heap.objs.size + 2) (.ref s.heap.objs.size) (.ref (s.heap.objs.size + 1)) →
      IsPair h' (s.heap.objs.size + 3) .none .none → CIt u1 h' s.heap.objs.size l 0 → CIt u2 h' (s.heap.objs.size + 1) m 0 → (∀ c o, s.heap.get? c = some o → h'.get? c = some o) → Q (.ref (s.heap.objs.size + 4)) { s with heap := h' }) :
    wpAny (model prog w) A (call (.type "zip") [.ref l, .ref m]) Q E s := by
  refine callType_new F.called_zip (by decide) (F.typeCall_zip_2 _ _) (F.newCall_zip_2 _ _) (fun o => F.args_object_init_3 o _ _) F.entry_zip_new (meets_mix u1 u2 l m xs ys) ⟨q1, q2, ?_⟩
  have n1 : (m1 u1 s.heap l).objs.size = s.heap.objs.size + 1 := Heap.size_push ..
  have n2 : (m2 u1 u2 s.heap l m).objs.size = s.heap.objs.size + 2 := by rw [Heap.size_push, n1]
  have n3 : (m3 u1 u2 s.heap l m).objs.size = s.heap.objs.size + 3 := by rw [Heap.size_push, n2]
  have n4 : (m4 u1 u2 s.heap l m).objs.size = s.heap.objs.size + 4 := by rw [Heap.size_push, n3]
  have e5 : (m5 u1 u2 s.heap l m).get? (m4 u1 u2 s.heap l m).objs.size = some _ := Heap.get?_push_size _ rfl
  have e4 : (m5 u1 u2 s.heap l m).get? (m3 u1 u2 s.heap l m).objs.size = some _ := Heap.get?_push_of_some _ (Heap.get?_push_size _ rfl)
  have up3 : ∀ {c o}, (m3 u1 u2 s.heap l m).get? c = some o → (m5 u1 u2 s.heap l m).get? c = some o := fun e => Heap.get?_push_of_some _ (Heap.get?_push_of_some _ e)
  have up1 : ∀ {c o}, (m1 u1 s.heap l).get? c = some o → (m5 u1 u2 s.heap l m).get? c = some o := fun e => up3 (Heap.get?_push_of_some _ (Heap.get?_push_of_some _ e))
  have e3 : (m5 u1 u2 s.heap l m).get? (m2 u1 u2 s.heap l m).objs.size = some _ := up3 (Heap.get?_push_size _ rfl)
  have e2 : (m5 u1 u2 s.heap l m).get? (m1 u1 s.heap l).objs.size = some (itObj u2 m) := up3 (Heap.get?_push_of_some _ (Heap.get?_push_size _ (by cases u2 <;> rfl)))
  have e1 : (m5 u1 u2 s.heap l m).get? s.heap.objs.size = some (itObj u1 l) := up1 (Heap.get?_push_size _ (by cases u1 <;> rfl))
  show _ ∧ _
  rw [n2, n3, n4] at e5
  rw [n1, n2] at e3
  rw [n3] at e4
  rw [n1] at e2
  rw [n4]
  exact ⟨⟨_, e5, rfl⟩, fin _ e5 e3 e4 (cit_obj e1) (cit_obj e2) fun c o t => up1 (Heap.get?_push_of_some _ t)⟩
end MZ
namespace MZ
open PySem PySem.Spec L2
open PyProof.Rows hiding St
def SqC (K : PySem.W.Frag) (u : Bool) (H : Hp) (a : Addr) (xs : List V) : Prop := if u = true then SqL K H a xs else SqT K H a xs
theorem SqC.its {X : Cx} {pins : List (Addr × Obj)} {σ : L2.St} {H : Hp} {s : Shared} {u : Bool} {a : Addr} {xs : List V} (I : Inv X pins σ H s) (q : SqC X.K u H a xs) : ∃ its : List Value, Vals xs its ∧ CSeq u s.heap a its.toArray ∧ a < s.heap.objs.size := by
  cases u with
  | true =>
    obtain ⟨its, r, p, _⟩ := I.list (show SqL X.K H a xs from q)
    exact ⟨its, r, p.isList, p.lt⟩
  | false =>
    obtain ⟨its, r, p, _⟩ := I.tuple (show SqT X.K H a xs from q)
    obtain ⟨o, e, _⟩ := id p
    exact ⟨its, r, show s.heap.IsTuple a its.toArray from p, Heap.lt_size e⟩
theorem SqC.inj {X : Cx} {pins : List (Addr × Obj)} {σ : L2.St} {H : Hp} {s : Shared} {u : Bool} {a : Addr} {xs ys : List V} (I : Inv X pins σ H s) (q : SqC X.K u H a xs) (q' : SqC X.K u H a ys) : xs = ys := by
  cases u with
  | true => exact I.list_inj q q'
  | false => exact I.tuple_inj q q'
/-- pairs of the things at a and b -/
def ItM (K : PySem.W.Frag) (u1 u2 : Bool) (a b : Addr) : It :=
  ⟨fun i H => ∃ (xs ys : List V) (x y : V), SqC K u1 H a xs ∧ SqC K u2 H b ys ∧ xs[i]? = some x ∧ ys[i]? = some y,
    fun i H v H' => ∃ T x y, v = .ref T ∧ H T = none ∧ H' = upd H T (.tup [x, y]) ∧ (∀ xs, SqC K u1 H a xs → xs[i]? = some x) ∧ ∀ ys, SqC K u2 H b ys → ys[i]? = some y,
    fun i H => ∃ xs ys : List V, SqC K u1 H a xs ∧ SqC K u2 H b ys ∧ (xs.length ≤ i ∨ ys.length ≤ i)⟩
def St5 (u1 u2 : Bool) (z TI TO i j a b : Addr) (k : Nat) (h : Heap) : Prop := IsZip h z TI TO .none ∧ IsPair h TI (.ref i) (.ref j) ∧ (∃ x y, IsPair h TO x y) ∧ CIt u1 h i a k ∧ CIt u2 h j b k
theorem mem5 {c z TI TO i j : Addr} (h : c ∈ [z, TI, TO, i, j]) : c = z ∨ c = TI ∨ c = TO ∨ c = i ∨ c = j := by simpa using h
theorem turn_mix {P : Program} {w : World} {K : PySem.W.Frag} {es : List Expr} {kk : Nat} {tp : Pos} {u1 u2 : Bool} {a b z TI TO i j : Addr} (D : ZipApart z TI TO i j a b) : Turn P w K (.Tuple es kk tp) (ItM K u1 u2 a b) [z, TI, TO, i, j] z (St5 u1 u2 z TI TO i j a b) where
  mem := by simp
  obj := fun k h t c hc => by
    obtain ⟨Z, PI, ⟨x, y, PO⟩, c1, c2⟩ := t
    rcases mem5 hc with e | e | e | e | e
    · exact e ▸ ⟨_, Z, fun v q => nomatch q⟩
    · exact e ▸ ⟨_, PI, fun v q => nomatch q⟩
    · exact e ▸ ⟨_, PO, fun v q => nomatch q⟩
    · exact e ▸ c1.some
    · exact e ▸ c2.some
  keep := fun k h h' t q => by
    obtain ⟨Z, PI, ⟨x, y, PO⟩, c1, c2⟩ := t
    exact ⟨q z (by simp) _ Z, q TI (by simp) _ PI, ⟨x, y, q TO (by simp) _ PO⟩, c1.move fun o e => q i (by simp) o e, c2.move fun o e => q j (by simp) o e⟩
  item := by
    intro X hP hw hK hc k pins s σ H E I hf t hg
    subst hP hw hK
    obtain ⟨Z, PI, ⟨x0, y0, PO⟩, c1, c2⟩ := t
    obtain ⟨xs, ys, x, y, sx, sy, hx, hy⟩ := hg
    obtain ⟨its, rx, p1, _⟩ := sx.its I
    obtain ⟨its2, ry, p2, _⟩ := sy.its I
    obtain ⟨v, hv, rv⟩ := rx.get hx
    obtain ⟨v2, hv2, rv2⟩ := ry.get hy
    have zl : z < s.heap.objs.size := Heap.lt_size Z
    refine py_item D Z PI PO c1 c2 p1 p2 (x := v) (y := v2) (by simpa using hv) (by simpa using hv2) fun h' Z' PO' c1' c2' PT _ stay => ?_
    refine ⟨_, rfl, wpAny_letOwnedTupleGo_zip (s := { s with heap := h' }) Z' fun hb Zb sb => ?_⟩
    have PTb : hb.get? s.heap.objs.size = some { cls := .type "tuple", data := .seq #[v, v2] } := (sb.2 _ (Nat.ne_of_gt zl)).trans PT
    have new : ObjOk X.prog X.w (upd H s.heap.objs.size (.tup [x, y])) hb s.heap.objs.size (.tup [x, y]) := ⟨by show 2 ≤ sizeLine; decide, [v, v2], .cons rv (.cons rv2 .nil), ⟨_, PTb, rfl, _, rfl⟩⟩
    have keepH : ∀ c o, c ∉ [z, TI, TO, i, j] → s.heap.get? c = some o → hb.get? c = some o := fun c o nc e =>
      (sb.2 c (fun q => nc (by simp [q]))).trans (stay c o (fun q => nc (by simp [q])) (fun q => nc (by simp [q])) (fun q => nc (by simp [q])) (fun q => nc (by simp [q])) e)
    have J : Inv X pins σ (upd H s.heap.objs.size (.tup [x, y])) { s with heap := hb } := I.turnedNew (t' := s.toks) keepH hf (Nat.le_refl _) new
    have hTI : TI < s.heap.objs.size := Heap.lt_size PI
    have hTO : TO < s.heap.objs.size := Heap.lt_size PO
    obtain ⟨o1, g1, _⟩ := c1.some
    obtain ⟨o2, g2, _⟩ := c2.some
    have all : ∀ c ∈ [z, TI, TO, i, j], c < s.heap.objs.size := fun c hcm => by
      rcases mem5 hcm with e | e | e | e | e
      · exact e ▸ zl
      · exact e ▸ hTI
      · exact e ▸ hTO
      · exact e ▸ Heap.lt_size g1
      · exact e ▸ Heap.lt_size g2
    refine ⟨.ref s.heap.objs.size, _, J, rfl, ⟨_, x, y, rfl, I.hok.fresh (Nat.le_refl _), rfl, fun ws hl => ?_, fun ws hl => ?_⟩, ⟨Zb, ?_, ⟨v, v2, ?_⟩, ?_, ?_⟩, fun c hcm => ?_⟩
    · rw [hl.inj I sx]; exact hx
    · rw [hl.inj I sy]; exact hy
    · exact (sb.2 _ D.TIz).trans (stay _ _ D.TIz D.TITO D.TIi1 D.TIi2 PI)
    · exact (sb.2 _ D.TOz).trans PO'
    · exact c1'.move fun o e => (sb.2 _ D.i1z).trans e
    · exact c2'.move fun o e => (sb.2 _ D.i2z).trans e
    · rw [upd_ne (Nat.ne_of_lt (all c hcm))]
      exact (hf c hcm).1
  done := by
    intro X hP hw hK hc k pins s σ H E I hf t hg
    subst hP hw hK
    obtain ⟨Z, PI, ⟨x0, y0, PO⟩, c1, c2⟩ := t
    obtain ⟨xs, ys, sx, sy, hend⟩ := hg
    obtain ⟨its, rx, p1, _⟩ := sx.its I
    obtain ⟨its2, ry, p2, _⟩ := sy.its I
    have n1 := rx.length
    have n2 := ry.length
    have he : its.toArray[k]? = none ∨ its2.toArray[k]? = none := by
      rcases hend with q | q
      · left; simp; omega
      · right; simp; omega
    refine py_end (I.ok.hd hc) D Z PI PO c1 c2 p1 p2 he fun h' stay => ⟨rfl, I.turnedL (t' := s.toks) (ch := [z, TI, TO, i, j]) (fun c o nc e => ?_) hf⟩
    exact stay c o (fun q => nc (by simp [q])) (fun q => nc (by simp [q])) (fun q => nc (by simp [q])) (fun q => nc (by simp [q])) e
  self := fun A k s Q E t h => wpAny_pyIter_zip t.1 h
def iMix (K : PySem.W.Frag) (ta : TA) : TI := fun σ H R => ta σ H fun vs H1 => ∃ a b xs ys u1 u2, vs = [.ref a, .ref b] ∧ SqC K u1 H1 a xs ∧ SqC K u2 H1 b ys ∧ R (ItM K u1 u2 a b) H1
theorem pi_mix {X : Cx} {e e2 : Expr} {ta : TA} {p pos tp : Pos} {es : List Expr} {kk : Nat} (hg : Gl X "zip") (hm : X.mg "zip" = none) (ha : PA X [e, e2] ta)
    (hs : starEach [e, e2] X.env = (false, eval e X.env) :: starEach [e2] X.env := by rfl) (hpl : (backTo pos (starEach [e2] X.env)).any (·.1) = false := by rfl) : PI X (.Tuple es kk tp) (.Call (.Name "zip" p) [e, e2] [] pos) (iMix X.K ta) := by
  refine ⟨fun pins s σ H R I t => Call_ (ld_blt I hg hm PyProof.Rows.boot_zip (PyProof.Rows.callWith_type1 (thn (ha.run pos pins s σ H _ I t) fun us s1 ⟨vs, H1, J, r1, q⟩ => ?_) hs hpl))⟩
  obtain ⟨a, b, xs, ys, u1, u2, ex, sx, sy, q⟩ := q
  subst ex
  cases r1 with
  | cons r rr =>
    cases rr with
    | cons r' rr =>
      cases rr
      cases r
      cases r'
      obtain ⟨its, rx, p1, l1⟩ := sx.its J
      obtain ⟨its2, ry, p2, l2⟩ := sy.its J
      refine call_mix p1 p2 fun h' Z PI PO c1 c2 up => wpAny_pyIter_zip Z ?_
      have J2 : Inv X pins σ H1 { s1 with heap := h' } := J.kept (t' := s1.toks) up
      refine ⟨s1.heap.objs.size + 4, [s1.heap.objs.size + 4, s1.heap.objs.size + 2, s1.heap.objs.size + 3, s1.heap.objs.size, s1.heap.objs.size + 1], _, _, H1, rfl, J2, turn_mix (u1 := u1) (u2 := u2) (PySem.W.ktu_apart s1.heap.objs.size a b l1 l2), ⟨Z, PI, ⟨_, _, PO⟩, c1, c2⟩, fun c hcm => ?_, q⟩
      have le : s1.heap.objs.size ≤ c := by
        rcases mem5 hcm with e | e | e | e | e
        · rw [e]; exact Nat.le_add_right _ _
        · rw [e]; exact Nat.le_add_right _ _
        · rw [e]; exact Nat.le_add_right _ _
        · rw [e]; exact Nat.le_refl _
        · rw [e]; exact Nat.le_add_right _ _
      exact J.fpOk le (J.hok.fresh le)
end MZ
namespace FB
open PySem PySem.Spec L2
open PyProof.Rows hiding St
section
variable {X : Cx} {K : PySem.W.Frag} {mg : Str → Option Value}
/-- a list or a tuple of shared things -/
def qD (u : Bool) (ds : List D) : D := if u = true then .lst ds else .tup ds
theorem Rep.shC {H : Hp} {L : List Item} {B : List (V × O)} {x : V} {u : Bool} {ds : List D} (h : Rep K mg H L B) (hx : (x, .val (qD u ds)) ∈ B) : ∃ p vs, x = .ref p ∧ MZ.SqC K u H p vs ∧ vs.length = ds.length ∧ Rep K mg H (zipI vs (ds.map O.val) ++ L) B := by
  cases u with
  | true =>
    obtain ⟨p, vs, e, hp, l, R⟩ := h.shL hx rfl
    exact ⟨p, vs, e, .inl hp, l, R⟩
  | false =>
    obtain ⟨p, vs, e, hp, l, R⟩ := h.shT hx rfl
    exact ⟨p, vs, e, hp, l, R⟩
theorem its_mix {u1 u2 : Bool} {a b : Addr} {xs ys : List D} : Its K mg (MZ.ItM K u1 u2 a b) [.ov (.ref a) (.val (qD u1 xs)), .ov (.ref b) (.val (qD u2 ys))] (zipL xs ys) := by
  intro L H R
  have R0 : Rep K mg H ([.ov (.ref a) (.val (qD u1 xs)), .ov (.ref b) (.val (qD u2 ys))] ++ L) [(.ref b, .val (qD u2 ys)), (.ref a, .val (qD u1 xs))] := ((Rep.lend R).perm (.swap _ _ _)).lend.perm (.swap _ _ _)
  obtain ⟨p, vs, e, hp, lp, R1⟩ := R0.shC (x := .ref a) (u := u1) (ds := xs) (by simp)
  cases e
  obtain ⟨p, ws, e, hq, lq, R2⟩ := R1.shC (x := .ref b) (u := u2) (ds := ys) (by simp)
  cases e
  have hl : (zipL xs ys).length = min xs.length ys.length := by unfold zipL; simp
  refine ⟨fun i d hd => ?_, ⟨vs, ws, hp, hq, by rw [hl]; omega⟩⟩
  obtain ⟨x, y, hx, hy, rfl⟩ := zipL_get hd
  have hi : i < xs.length := (List.getElem?_eq_some_iff.mp hx).1
  have hj : i < ys.length := (List.getElem?_eq_some_iff.mp hy).1
  have hv : vs[i]? = some (vs[i]'(by omega)) := by simp
  have hw : ws[i]? = some (ws[i]'(by omega)) := by simp
  refine ⟨⟨vs, ws, _, _, hp, hq, hv, hw⟩, fun z H' q => ?_⟩
  obtain ⟨T, v, v', rfl, hT, rfl, q1, q2⟩ := q
  refine ⟨sameNew hT, ?_⟩
  have R7 : Rep K mg H (zipI [v, v'] ([x, y].map O.val) ++ ([.ov (.ref a) (.val (qD u1 xs)), .ov (.ref b) (.val (qD u2 ys))] ++ L)) [] :=
    ((R2.nth (q2 ws hq) hy).keep.perm (List.perm_middle.symm)).nth' (q1 vs hp) hx
  exact Rep.newT R7 rfl hT
def D.seqB? : D → Option (Bool × List D)
  | .lst ds => some (true, ds)
  | .tup ds => some (false, ds)
  | _ => none
theorem seqB_eq {d : D} {u : Bool} {ds : List D} (h : d.seqB? = some (u, ds)) : d = qD u ds := by
  cases d with
  | lst es => cases h; rfl
  | tup es => cases h; rfl
  | _ => cases h
def zipX (a b : O) (ρ : Env) : Res (List D) := match a.toD.seqB?, b.toD.seqB? with
  | some (_, xs), some (_, ys) => .ok (zipL xs ys) ρ
  | _, _ => .no
def mZipM (m n : M O) : M (List D) := fun ρ => (m ρ).bind fun a ρ1 => (n ρ1).bind fun b ρ2 => zipX a b ρ2
theorem si_zipM {a b : Expr} {p pos tp : Pos} {es : List Expr} {kk : Nat} {m n : M O} (hg : Gl X "zip") (hm : X.mg "zip" = none) (ha : SE X a m) (hb : SE X b n) (hs : starEach (a :: [b]) X.env = (false, eval a X.env) :: starEach [b] X.env := by rfl) (hs2 : starEach (b :: []) X.env = (false, eval b X.env) :: starEach [] X.env := by rfl)
    (hpl : (backTo pos (starEach [b] X.env)).any (·.1) = false := by rfl) : SI X (.Tuple es kk tp) (.Call (.Name "zip" p) [a, b] [] pos) (mZipM m n) :=
  PI.imp (MZ.pi_mix hg hm (pa_cons ha (pa_cons hb pa_nil hs2) hs) hs hpl) fun σ H R w => by
    obtain ⟨ρ, T, ds, ρ', c, Rp, e, k⟩ := w
    obtain ⟨o, ρ1, e1, w1⟩ := Res.bind_eq e
    clear e
    obtain ⟨v, ρ2, e2, e⟩ := Res.bind_eq w1
    clear w1
    refine ⟨ρ, T, _, _, c, Rp, e1, fun v H1 c1 R1 => ⟨ρ1, .ov v _ :: T, _, _, c1, R1.perm List.perm_middle.symm, e2, fun v2 H2 c2 R2 => ?_⟩⟩
    have R3 := (R2.frz.perm ((List.perm_middle.cons _).trans (.swap _ _ _))).frz
    unfold zipX at e
    split at e
    · rename_i u1 xs u2 ys h1 h2
      cases e
      rw [seqB_eq h1, seqB_eq h2] at R3
      obtain ⟨p, vs, rfl, hp, lp, _⟩ := R3.lend.shC (List.mem_cons_self ..)
      obtain ⟨q, ws, rfl, hq, lq, _⟩ := (R3.perm (.swap _ _ _)).lend.shC (List.mem_cons_self ..)
      exact ⟨p, q, vs, ws, u1, u2, rfl, hp, hq, k _ _ _ c2 its_mix R3⟩
    · cases e
end
def zX2 (a : O) : Res O → Res (List D)
  | .ok b ρ2 => zipX a b ρ2
  | .exc x ρ => .exc x ρ
  | .no => .no
def zX1 (n : M O) : Res O → Res (List D)
  | .ok a ρ1 => zX2 a (n ρ1)
  | .exc x ρ => .exc x ρ
  | .no => .no
@[simp] theorem e_mZipM (m n : M O) (ρ : Env) : mZipM m n ρ = zX1 n (m ρ) := by
  unfold mZipM zX1
  cases m ρ with
  | ok a ρ1 =>
    show (n ρ1).bind _ = zX2 a (n ρ1)
    cases n ρ1 <;> rfl
  | exc _ _ => rfl
  | no => rfl
@[simp] theorem e_zX1 (n : M O) (a : O) (ρ : Env) : zX1 n (.ok a ρ) = zX2 a (n ρ) := (rfl)
@[simp] theorem e_zX2 (a b : O) (ρ : Env) : zX2 a (.ok b ρ) = zipX a b ρ := (rfl)
@[simp] theorem e_zipX_ll (xs ys : List D) (ρ : Env) : zipX (.val (.lst xs)) (.val (.lst ys)) ρ = .ok (zipL xs ys) ρ := (rfl)
@[simp] theorem e_zipX_lt (xs ys : List D) (ρ : Env) : zipX (.val (.lst xs)) (.val (.tup ys)) ρ = .ok (zipL xs ys) ρ := (rfl)
@[simp] theorem e_zipX_tl (xs ys : List D) (ρ : Env) : zipX (.val (.tup xs)) (.val (.lst ys)) ρ = .ok (zipL xs ys) ρ := (rfl)
@[simp] theorem e_zipX_tt (xs ys : List D) (ρ : Env) : zipX (.val (.tup xs)) (.val (.tup ys)) ρ = .ok (zipL xs ys) ρ := (rfl)
end FB

/-! Loops and comprehensions over what an own object lends meanwhile. -/
namespace FB
open PySem PySem.Spec L2
open PyProof.Rows hiding St
section
variable {X : Cx} {K : PySem.W.Frag} {mg : Str → Option Value}
/-- the thing at slot i lends what is walked; it stands aside meanwhile -/
def tIL (K : PySem.W.Frag) (mg : Str → Option Value) (i : Nat) (f : O → Option (List D)) : TI := fun σ H R => ∃ ρ T v o ds, Cov σ ρ ∧ Rep K mg H (pairs σ ρ ++ T) [] ∧ ρ[i]? = some (some o) ∧ σ[i]? = some (some v) ∧ f o = some ds ∧
  ∀ J ks, Its K mg J ks ds → Rep K mg H (ks ++ (pairs σ (ρ.set i none) ++ T)) [] → (∀ H' L, Rep K mg H' (ks ++ L) [] → Rep K mg H' (.ov v o :: L) []) → R J H
def SIL (X : Cx) (tg it : Expr) (i : Nat) (f : O → Option (List D)) : Prop := PI X tg it (tIL X.K X.mg i f)
def backB (i : Nat) (o : O) : Res Fl → Res Fl
  | .ok f ρ => .ok f (ρ.set i (some o))
  | .exc x ρ => .exc x ρ
  | .no => .no
def mForB (i : Nat) (f : O → Option (List D)) (a : D → Env → Option Env) (b : M Fl) : M Fl := fun ρ => match ρ[i]? with
  | some (some o) => (match f o with
    | some ds => backB i o (forL a b ds (ρ.set i none))
    | none => .no)
  | _ => .no
theorem back_rep {H : Hp} {M T ks : List Item} {σ : L2.St} {ρ : Env} {i : Nat} {v : V} {o : O} (hv : σ[i]? = some (some v)) (c : Cov σ ρ) (re : ∀ H' L, Rep K mg H' (ks ++ L) [] → Rep K mg H' (.ov v o :: L) []) (R : Rep K mg H (M ++ (pairs σ ρ ++ (ks ++ T))) []) : Rep K mg H (M ++ (pairs σ (ρ.set i (some o)) ++ T)) [] := by
  have R1 := Rep.slotDrop (M := M) (T := ks ++ T) c i R
  have hi : i < ρ.length := by rw [← c.len]; exact (List.getElem?_eq_some_iff.mp hv).1
  have R2 : Rep K mg H (ks ++ (M ++ (pairs σ (ρ.set i none) ++ T))) [] := R1.perm (by
    refine (List.Perm.append_left _ (rot _ _ _)).trans ?_
    exact rot _ _ _)
  refine (re _ _ R2).perm ?_
  refine List.perm_middle.symm.trans (List.Perm.append_left _ ?_)
  exact (pairs_back hv hi).append_right T
theorem post_back {P : List Nat} {T ks : List Item} {D : Ends} {σ : L2.St} {i : Nat} {v : V} {o : O} {r : Res Fl} (hv : σ[i]? = some (some v)) (re : ∀ H' L, Rep K mg H' (ks ++ L) [] → Rep K mg H' (.ov v o :: L) []) (h : Post K mg P T D σ (backB i o r)) : Post K mg (i :: P) (ks ++ T) D σ r := by
  cases r with
  | exc x ρ => exact h
  | no => exact h
  | ok fl ρ =>
    have q : ∀ {σ' : L2.St}, Fix (i :: P) σ σ' → σ'[i]? = some (some v) := fun f => (f.2 i (List.mem_cons_self ..)).trans hv
    cases fl with
    | nx => exact fun σ' H' f c R => h σ' H' f.less (c.put (q f) _) (back_rep (M := []) (q f) c re R)
    | brk => exact fun σ' H' f c R => h σ' H' f.less (c.put (q f) _) (back_rep (M := []) (q f) c re R)
    | ct => exact fun σ' H' f c R => h σ' H' f.less (c.put (q f) _) (back_rep (M := []) (q f) c re R)
    | ret u => exact fun w σ' H' f c R => h w σ' H' f.less (c.put (q f) _) (back_rep (M := [.ov w u]) (q f) c re R)
theorem ss_forB {i : Nat} {P : List Nat} {tg iter : Expr} {body : List Stmt} {pos : Pos} {f : O → Option (List D)} {a : D → Env → Option Env} {b : M Fl} (ok : CxOk X) (hp : PassesOwn (model X.prog X.w) X.A X.env X.xe) (hi : SIL X tg iter i f) (hg : SG X (Fix (i :: P)) tg a) (hb : SSs X (i :: P) body b)
    (hs : ∀ x, foldedSetIterable iter X.env x = pure x := by intro _; rfl) : SS X P (.For tg iter body [] pos) (mForB i f a b) :=
  PS.imp (ps_for hp ok.calm hi hg hb hs) fun D σ H w => by
    obtain ⟨ρ, T, cv, R, h⟩ := tS_iff.mp w
    unfold mForB at h
    split at h
    · rename_i o e0
      split at h
      · rename_i ds e1
        obtain ⟨v, hv⟩ := cv.ex i _ e0
        exact ⟨ρ, T, v, o, ds, cv, R, e0, hv, e1, fun J ks hJ R' re => for_core (cv.setn i) hJ R' (post_back hv re h)⟩
      · exact h.elim
    · exact h.elim
def mCompB (i : Nat) (f : O → Option (List D)) (own : List Nat) (a : D → Env → Option Env) (t : M Bool) (e : M O) : M O := fun ρ => match ρ[i]? with
  | some (some o) => (match f o with
    | some ds => if ds.length ≤ 1000000 then (compL own a t e ds (wipeE (ρ.set i none) own)).bind fun os ρ2 => .ok (.lst os) ((backE (wipeE ρ2 own) (ρ.set i none) own).set i (some o)) else .no
    | none => .no)
  | _ => .no
theorem se_compB {i : Nat} {tg iter elt : Expr} {ifs : List Expr} {scope : Scope} {own : List (Str × Nat)} {pos : Pos} {f : O → Option (List D)} {a : D → Env → Option Env} {t : M Bool} {e : M O} (ok : CxOk X) (hi : SIL X tg iter i f) (bo : BlkOk X.N X.env.scope scope own)
    (hg : ∀ (s : Shared) (H : Hp) (C : Addr) (cl : List (Str × Addr)) (fp : List Addr), SG (X.blk s H scope (compEnvC scope cl C X.env) fp) (Wip (own2 own)) tg a) (ht : ∀ (s : Shared) (H : Hp) (C : Addr) (cl : List (Str × Addr)) (fp : List Addr), SETs (X.blk s H scope (compEnvC scope cl C X.env) fp) ifs t)
    (he : ∀ (s : Shared) (H : Hp) (C : Addr) (cl : List (Str × Addr)) (fp : List Addr), SE (X.blk s H scope (compEnvC scope cl C X.env) fp) elt e) (nd : (own2 own).Nodup := by decide) (hs : ∀ x, foldedSetIterable iter X.env x = pure x := by intro _; rfl) :
    SE X (.ListComp elt [⟨tg, iter, ifs, 0⟩] scope pos) (mCompB i f (own2 own) a t e) :=
  PE.imp (pe_lc (wi := tIL X.K X.mg i f) (g := tG X.K X.mg (Wip (own2 own)) a) (tt := tMT X.K X.mg t) (te := tM X.K X.mg e) ok.calm ok.nd hi bo hg ht he hs) fun σ H Q w => by
    obtain ⟨ρ, T, o', ρ', cv, R, h, k⟩ := w
    unfold mCompB at h
    split at h
    · rename_i o e0
      split at h
      · rename_i ds e1
        split at h
        · rename_i hl
          obtain ⟨fin, ρ2, e2, h⟩ := Res.bind_eq h
          cases h
          obtain ⟨v, hv⟩ := cv.ex i _ e0
          refine ⟨ρ, T, v, o, ds, cv, R, e0, hv, e1, fun J ks hJ R' re D hD => ?_⟩
          refine comp_core0 nd (fun _ _ _ _ w => w) (fun _ _ _ w => w) (fun _ _ _ w => w) hl (cv.setn i) hJ R' e2 hD fun H' c' R2 => k _ H' (c'.put hv _) ?_
          exact back_rep (M := [.ov (.ref D) (.lst fin)]) hv c' re (R2.perm (List.Perm.cons _ (rot _ _ _)))
        · cases h
      · cases h
    · cases h
/-! zip of two attributes -/
def zipB (c f g : Str) (o : O) : Option (List D) := match fldO c f o, fldO c g o with
  | some a, some b => (match a.sh, b.sh with
    | some (.lst xs), some (.lst ys) => some (zipL xs ys)
    | _, _ => none)
  | _, _ => none
theorem two_of {α : Type} {l : List α} {i j : Nat} {x y : α} (h : i ≠ j) (h1 : l[i]? = some x) (h2 : l[j]? = some y) : ∃ M, l.Perm (x :: y :: M) := by
  have hi : i < l.length := (List.getElem?_eq_some_iff.mp h1).1
  have ex : l[i] = x := by rw [List.getElem?_eq_getElem hi] at h1; exact Option.some.inj h1
  have p : l.Perm (x :: l.eraseIdx i) := by
    have q : l = l.take i ++ (l[i] :: l.drop (i + 1)) := by rw [← List.drop_eq_getElem_cons hi, List.take_append_drop]
    rw [List.eraseIdx_eq_take_drop_succ, ← ex]
    exact (List.Perm.of_eq q).trans List.perm_middle
  have m : y ∈ l.eraseIdx i := List.mem_eraseIdx_iff_getElem?.mpr ⟨j, Ne.symm h, h2⟩
  obtain ⟨s, t, e⟩ := List.append_of_mem m
  rw [e] at p
  exact ⟨s ++ t, p.trans (List.Perm.cons _ List.perm_middle)⟩
theorem its_zipS {a b : Addr} {oa ob : O} {xs ys : List D} {ks M : List Item} (p : ks.Perm (.ov (.ref a) oa :: .ov (.ref b) ob :: M)) (ea : oa.sh = some (.lst xs)) (eb : ob.sh = some (.lst ys)) : Its K mg (Itz K a b) ks (zipL xs ys) := by
  intro L H R
  have pm := p.append_right L
  have R0 : Rep K mg H (.ov (.ref a) oa :: .ov (.ref b) ob :: (M ++ L)) [(.ref b, ob), (.ref a, oa)] := (((R.perm pm).lend.perm (.swap _ _ _)).lend.perm (.swap _ _ _))
  obtain ⟨p1, vs, e, hp, lp, R1⟩ := R0.shL (x := .ref a) (o := oa) (by simp) ea
  cases e
  obtain ⟨p2, ws, e, hq, lq, R2⟩ := R1.shL (x := .ref b) (o := ob) (by simp) eb
  cases e
  have hl : (zipL xs ys).length = min xs.length ys.length := by unfold zipL; simp
  refine ⟨fun i d hd => ?_, ⟨vs, ws, .inl hp, .inl hq, by rw [hl]; omega⟩⟩
  obtain ⟨x, y, hx, hy, rfl⟩ := zipL_get hd
  have hi : i < xs.length := (List.getElem?_eq_some_iff.mp hx).1
  have hj : i < ys.length := (List.getElem?_eq_some_iff.mp hy).1
  have hv : vs[i]? = some (vs[i]'(by omega)) := by simp
  have hw : ws[i]? = some (ws[i]'(by omega)) := by simp
  refine ⟨⟨vs, ws, _, _, .inl hp, .inl hq, hv, hw⟩, fun z H' q => ?_⟩
  obtain ⟨T, v, v', rfl, hT, rfl, q1, q2⟩ := q
  refine ⟨sameNew hT, ?_⟩
  have R7 : Rep K mg H (zipI [v, v'] ([x, y].map O.val) ++ (.ov (.ref a) oa :: .ov (.ref b) ob :: (M ++ L))) [] :=
    ((R2.nth (q2 ws (.inl hq)) hy).keep.perm (List.perm_middle.symm)).nth' (q1 vs (.inl hp)) hx
  have R8 := Rep.newT R7 rfl hT
  exact R8.perm (List.Perm.cons _ pm.symm)
theorem si_zipB (i : Nat) {c f g : Str} {C : Addr} {fs : List Str} {x : Str} {p p1 p2 q1 q2 pos tp : Pos} {es : List Expr} {kk : Nat} (co : CO X.K X.mg c C fs) (hf : f ∈ fs) (hf2 : g ∈ fs) (hne : (f == g) = false) (hg : Gl X "zip") (hm : X.mg "zip" = none)
    (hN : X.N[i]? = some x := by rfl) (hv : Vis X.env.scope x := by first | exact Or.inl rfl | exact Or.inr (Or.inl rfl) | exact Or.inr (Or.inr rfl)) (hd : (x == ("__debug__" : Str)) = false := by decide) (hcd : (x == ("__classdict__" : Str)) = false := by decide)
    (hb : attributeBase (.Name x p1) f X.env (eval (.Name x p1) X.env) = eval (.Name x p1) X.env := by rfl) (hb2 : attributeBase (.Name x p2) g X.env (eval (.Name x p2) X.env) = eval (.Name x p2) X.env := by rfl)
    (hs : starEach [.Attribute (.Name x p1) f q1, .Attribute (.Name x p2) g q2] X.env = (false, eval (.Attribute (.Name x p1) f q1) X.env) :: starEach [.Attribute (.Name x p2) g q2] X.env := by rfl) (hs2 : starEach [.Attribute (.Name x p2) g q2] X.env = (false, eval (.Attribute (.Name x p2) g q2) X.env) :: starEach [] X.env := by rfl)
    (hpl : (backTo pos (starEach [.Attribute (.Name x p2) g q2] X.env)).any (·.1) = false := by rfl) :
    SIL X (.Tuple es kk tp) (.Call (.Name "zip" p) [.Attribute (.Name x p1) f q1, .Attribute (.Name x p2) g q2] [] pos) i (zipB c f g) :=
  PI.imp (pi_zip hg hm (pa_cons (pe_fld (pv i hN hv hd hcd) hb) (pa_cons (pe_fld (pv i hN hv hd hcd) hb2) pa_nil hs2) hs) hs hpl) fun σ H R w => by
    obtain ⟨ρ, T, v, o, ds, cv, Rp, e0, hv, e1, k⟩ := w
    unfold zipB at e1
    split at e1
    · rename_i a b ea eb
      split at e1
      · rename_i xs ys sa sb
        cases e1
        cases o with
        | val _ => cases ea
        | lst _ => cases ea
        | dct _ _ => cases ea
        | ins c' ns os =>
          have ea9 : (if c' = c then (fidx ns f).bind fun j => os[j]? else none) = some a := ea
          have eb9 : (if c' = c then (fidx ns g).bind fun j => os[j]? else none) = some b := eb
          clear ea eb
          by_cases ec : c' = c
          · rw [if_pos ec] at ea9 eb9
            subst ec
            cases ej : fidx ns f with
            | none => rw [ej] at ea9; cases ea9
            | some j =>
              cases ej2 : fidx ns g with
              | none => rw [ej2] at eb9; cases eb9
              | some j2 =>
                rw [ej] at ea9
                rw [ej2] at eb9
                have ea : os[j]? = some a := ea9
                have eb : os[j2]? = some b := eb9
                have R1 := Rp.perm ((pairs_take hv e0).append_right T)
                obtain ⟨pa, C', dx, fs', rfl, hmc, hl, hn, R2⟩ := Rep.openI R1
                have := co.eq hmc
                subst this
                subst hn
                obtain ⟨w1, l1, l2⟩ := fidx_look ej
                obtain ⟨w2, m1, m2⟩ := fidx_look ej2
                have hj : j ≠ j2 := fun z => by
                  subst z
                  have inj : ∀ {ns : List Str} {j : Nat}, fidx ns f = some j → fidx ns g = some j → f = g := by
                    intro ns
                    induction ns with
                    | nil => intro j h; cases h
                    | cons n ns ih =>
                      intro j h1 h2
                      have h1 : (if n = f then some 0 else (fidx ns f).map (· + 1)) = some j := h1
                      have h2 : (if n = g then some 0 else (fidx ns g).map (· + 1)) = some j := h2
                      by_cases q1 : n = f
                      · by_cases q2 : n = g
                        · exact q1.symm.trans q2
                        · rw [if_pos q1] at h1; rw [if_neg q2] at h2
                          cases h1
                          cases z : fidx ns g <;> rw [z] at h2 <;> simp at h2
                      · by_cases q2 : n = g
                        · rw [if_neg q1] at h1; rw [if_pos q2] at h2
                          cases h2
                          cases z : fidx ns f <;> rw [z] at h1 <;> simp at h1
                        · rw [if_neg q1] at h1; rw [if_neg q2] at h2
                          cases z : fidx ns f with
                          | none => rw [z] at h1; cases h1
                          | some a =>
                            cases z2 : fidx ns g with
                            | none => rw [z2] at h2; cases h2
                            | some b =>
                              rw [z] at h1; rw [z2] at h2
                              simp at h1 h2
                              exact ih z (by rw [z2]; congr 1; omega)
                  have := inj ej ej2
                  subst this
                  simp at hne
                have g1 : (zipI (fs'.map (·.2)) os)[j]? = some (.ov w1 a) := by unfold zipI; rw [List.getElem?_zipWith, l2, ea]
                have g2 : (zipI (fs'.map (·.2)) os)[j2]? = some (.ov w2 b) := by unfold zipI; rw [List.getElem?_zipWith, m2, eb]
                obtain ⟨M, pm⟩ := two_of hj g1 g2
                have R3 := R2.perm (List.Perm.cons _ (pm.append_right _))
                have hH : H pa = some (.ins C' dx fs') := R2.rawAt
                have pk : (.raw pa (.ins C' dx fs') :: zipI (fs'.map (·.2)) os : List Item).Perm (.ov w1 a :: .ov w2 b :: (.raw pa (.ins C' dx fs') :: M)) := by
                  refine (List.Perm.cons _ pm).trans ?_
                  exact (List.Perm.swap _ _ _).trans (List.Perm.cons _ (List.Perm.swap _ _ _))
                have R4 : Rep X.K X.mg H ((.raw pa (.ins C' dx fs') :: zipI (fs'.map (·.2)) os) ++ (pairs σ (ρ.set i none) ++ T)) [] := R2
                have R5 := (((R4.perm (pk.append_right _)).lend.perm (.swap _ _ _)).lend.perm (.swap _ _ _))
                obtain ⟨pa1, vs, ev1, hp1, _, _⟩ := R5.shL (x := w1) (o := a) (by simp) sa
                obtain ⟨pa2, ws, ev2, hp2, _, _⟩ := R5.shL (x := w2) (o := b) (by simp) sb
                subst ev1
                subst ev2
                refine ⟨_, hv, pa, C', dx, fs', .ref pa1, rfl, hH, co.cl, co.no f hf, l1, _, hv, pa, C', dx, fs', .ref pa2, rfl, hH, co.cl, co.no g hf2, m1, pa1, pa2, vs, ws, rfl, .inl hp1, .inl hp2, ?_⟩
                refine k _ _ (its_zipS pk sa sb) R4 fun H' L R' => ?_
                exact Rep.closeI (C := C') (dx := dx) (fs := fs') R' (by simpa using hl) hmc rfl
          · rw [if_neg ec] at ea9; cases ea9
      · cases e1
    · cases e1
end
@[simp] theorem e_backB (i : Nat) (o : O) (f : Fl) (ρ : Env) : backB i o (.ok f ρ) = .ok f (ρ.set i (some o)) := (rfl)
theorem e_mForB {i : Nat} {f : O → Option (List D)} {a : D → Env → Option Env} {b : M Fl} {ρ : Env} {o : O} {ds : List D} (h : ρ[i]? = some (some o)) (hf : f o = some ds) : mForB i f a b ρ = backB i o (forL a b ds (ρ.set i none)) := by
  unfold mForB
  rw [h]
  show (match f o with | some ds => backB i o (forL a b ds (ρ.set i none)) | none => .no) = _
  rw [hf]
theorem e_mCompB {i : Nat} {f : O → Option (List D)} {own : List Nat} {a : D → Env → Option Env} {t : M Bool} {e : M O} {ρ ρ2 : Env} {o : O} {ds : List D} {os : List O} (h : ρ[i]? = some (some o)) (hf : f o = some ds) (hl : ds.length ≤ 1000000) (hc : compL own a t e ds (wipeE (ρ.set i none) own) = .ok os ρ2) :
    mCompB i f own a t e ρ = .ok (.lst os) ((backE (wipeE ρ2 own) (ρ.set i none) own).set i (some o)) := by
  unfold mCompB
  rw [h]
  show (match f o with
    | some ds => if ds.length ≤ 1000000 then (compL own a t e ds (wipeE (ρ.set i none) own)).bind fun os ρ2 => .ok (O.lst os) ((backE (wipeE ρ2 own) (ρ.set i none) own).set i (some o)) else Res.no
    | none => Res.no) = _
  rw [hf]
  show (if ds.length ≤ 1000000 then (compL own a t e ds (wipeE (ρ.set i none) own)).bind fun os ρ2 => Res.ok (O.lst os) ((backE (wipeE ρ2 own) (ρ.set i none) own).set i (some o)) else .no) = _
  rw [if_pos hl, hc]; rfl
theorem zipB_ins (c f g : Str) (ns : List Str) (os : List O) (j j2 : Nat) (a b : O) (xs ys : List D) (h1 : fidx ns f = some j) (h2 : fidx ns g = some j2) (e1 : os[j]? = some a) (e2 : os[j2]? = some b) (s1 : a.sh = some (.lst xs)) (s2 : b.sh = some (.lst ys)) : zipB c f g (.ins c ns os) = some (zipL xs ys) := by
  unfold zipB
  rw [fldO_ins h1 e1, fldO_ins h2 e2]
  show (match a.sh, b.sh with
    | some (.lst xs), some (.lst ys) => some (zipL xs ys)
    | _, _ => none) = _
  rw [s1, s2]
end FB

/-! More rules for simp; loops that end at the first. -/
namespace FB
open PySem PySem.Spec L2
open PyProof.Rows hiding St
variable {ρ : Env}
def slC3 (a : O) (l : Option Int) : Res (Option Int) → Res O
  | .ok h ρ => okV (slO a l h) ρ
  | .exc x ρ => .exc x ρ
  | .no => .no
def slB3 (a : O) (hi : M (Option Int)) : Res (Option Int) → Res O
  | .ok l ρ => slC3 a l (hi ρ)
  | .exc x ρ => .exc x ρ
  | .no => .no
def slA3 (lo hi : M (Option Int)) : Res O → Res O
  | .ok a ρ => slB3 a hi (lo ρ)
  | .exc x ρ => .exc x ρ
  | .no => .no
@[simp] theorem e_mSl (m : M O) (lo hi : M (Option Int)) : mSl m lo hi ρ = slA3 lo hi (m ρ) := by
  unfold mSl slA3
  cases m ρ with
  | ok a ρ1 =>
    show (lo ρ1).bind _ = slB3 a hi (lo ρ1)
    unfold slB3
    cases lo ρ1 with
    | ok l ρ2 =>
      show (hi ρ2).bind _ = slC3 a l (hi ρ2)
      cases hi ρ2 <;> rfl
    | exc _ _ => rfl
    | no => rfl
  | exc _ _ => rfl
  | no => rfl
@[simp] theorem e_slA3 (lo hi : M (Option Int)) (a : O) : slA3 lo hi (.ok a ρ) = slB3 a hi (lo ρ) := (rfl)
@[simp] theorem e_slB3 (a : O) (hi : M (Option Int)) (l : Option Int) : slB3 a hi (.ok l ρ) = slC3 a l (hi ρ) := (rfl)
@[simp] theorem e_slC3 (a : O) (l h : Option Int) : slC3 a l (.ok h ρ) = okV (slO a l h) ρ := (rfl)
def r2C (ρ : Env) : O → O → Res (List D)
  | .val (.int i), .val (.int j) => if (small i && small j) = true then .ok (rangeL i (j - i).toNat) ρ else .no
  | _, _ => .no
def r2B (a : O) : Res O → Res (List D)
  | .ok b ρ => r2C ρ a b
  | .exc x ρ => .exc x ρ
  | .no => .no
def r2A (n : M O) : Res O → Res (List D)
  | .ok a ρ => r2B a (n ρ)
  | .exc x ρ => .exc x ρ
  | .no => .no
@[simp] theorem e_mR2 (m n : M O) : mR2 m n ρ = r2A n (m ρ) := by
  unfold mR2 r2A
  cases m ρ with
  | ok a ρ1 =>
    show (n ρ1).bind _ = r2B a (n ρ1)
    unfold r2B
    cases n ρ1 with
    | ok b ρ2 => rfl
    | exc _ _ => rfl
    | no => rfl
  | exc _ _ => rfl
  | no => rfl
@[simp] theorem e_r2A (n : M O) (a : O) : r2A n (.ok a ρ) = r2B a (n ρ) := (rfl)
@[simp] theorem e_r2B (a b : O) : r2B a (.ok b ρ) = r2C ρ a b := (rfl)
@[simp] theorem e_r2C (i j : Int) (h1 : small i = true) (h2 : small j = true) : r2C ρ (.val (.int i)) (.val (.int j)) = .ok (rangeL i (j - i).toNat) ρ := by unfold r2C; simp [h1, h2]
def r3D (ρ : Env) : O → O → O → Res (List D)
  | .val (.int i), .val (.int j), .val (.int (-1)) => if (small i && small j) = true then .ok (rangeC i (-1) (i - j).toNat) ρ else .no
  | _, _, _ => .no
def r3C (a b : O) : Res O → Res (List D)
  | .ok c ρ => r3D ρ a b c
  | .exc x ρ => .exc x ρ
  | .no => .no
def r3B (a : O) (l : M O) : Res O → Res (List D)
  | .ok b ρ => r3C a b (l ρ)
  | .exc x ρ => .exc x ρ
  | .no => .no
def r3A (n l : M O) : Res O → Res (List D)
  | .ok a ρ => r3B a l (n ρ)
  | .exc x ρ => .exc x ρ
  | .no => .no
@[simp] theorem e_mR3 (m n l : M O) : mR3 m n l ρ = r3A n l (m ρ) := by
  unfold mR3 r3A
  cases m ρ with
  | ok a ρ1 =>
    show (n ρ1).bind _ = r3B a l (n ρ1)
    unfold r3B
    cases n ρ1 with
    | ok b ρ2 =>
      show (l ρ2).bind _ = r3C a b (l ρ2)
      unfold r3C
      cases l ρ2 with
      | ok c ρ3 => rfl
      | exc _ _ => rfl
      | no => rfl
    | exc _ _ => rfl
    | no => rfl
  | exc _ _ => rfl
  | no => rfl
@[simp] theorem e_r3A (n l : M O) (a : O) : r3A n l (.ok a ρ) = r3B a l (n ρ) := (rfl)
@[simp] theorem e_r3B (a : O) (l : M O) (b : O) : r3B a l (.ok b ρ) = r3C a b (l ρ) := (rfl)
@[simp] theorem e_r3C (a b c : O) : r3C a b (.ok c ρ) = r3D ρ a b c := (rfl)
@[simp] theorem e_r3D (i j : Int) (h1 : small i = true) (h2 : small j = true) : r3D ρ (.val (.int i)) (.val (.int j)) (.val (.int (-1))) = .ok (rangeC i (-1) (i - j).toNat) ρ := by unfold r3D; simp [h1, h2]
@[simp] theorem max2D_int (i j : Int) : max2D (.int i) (.int j) = some (.int (max i j)) := (rfl)
@[simp] theorem min2D_int (i j : Int) : min2D (.int i) (.int j) = some (.int (min i j)) := (rfl)
@[simp] theorem neO_bl (a b : Bool) : neO (.val (.bl a)) (.val (.bl b)) = some (.val (.bl (!(a == b)))) := by rw [e_neO (by simp) (by simp)]; simp
def oI : Option Int → D
  | none => .non
  | some i => .int i
@[simp] theorem oI_n : oI none = .non := (rfl)
@[simp] theorem oI_s (i : Int) : oI (some i) = .int i := (rfl)
theorem neO_oI (a : Option Int) : neO (.val (oI a)) (.val (oI a)) = some (.val (.bl false)) := by
  cases a with
  | none => rw [e_neO (by simp) (by simp)]; rfl
  | some i => simp
/-- a loop that may return at some turn -/
theorem forL_first {a : D → Env → Option Env} {b : M Fl} (I : Nat → Env → Prop) (Z : Nat → Env → Prop) (p : Nat → Bool) (g : Nat → O) : ∀ {ds : List D} {ρ : Env}, I 0 ρ →
    (∀ k d ρ, ds[k]? = some d → I k ρ → ∃ ρ1, a d ρ = some ρ1 ∧ ((p k = true ∧ ∃ ρ2, b ρ1 = .ok (.ret (g k)) ρ2 ∧ Z k ρ2) ∨ (p k = false ∧ ∃ ρ2, (b ρ1 = .ok .nx ρ2 ∨ b ρ1 = .ok .ct ρ2) ∧ I (k + 1) ρ2))) →
    ((∀ k, k < ds.length → p k = false) ∧ ∃ ρ', forL a b ds ρ = .ok .nx ρ' ∧ I ds.length ρ') ∨ ∃ k, k < ds.length ∧ p k = true ∧ (∀ j, j < k → p j = false) ∧ ∃ ρ', forL a b ds ρ = .ok (.ret (g k)) ρ' ∧ Z k ρ' := by
  intro ds
  induction ds generalizing I Z p g with
  | nil => intro ρ h0 _; exact .inl ⟨fun k h => absurd h (by simp), ρ, rfl, h0⟩
  | cons d ds ih =>
    intro ρ h0 h
    obtain ⟨ρ1, e1, q⟩ := h 0 d ρ rfl h0
    unfold forL
    rw [e1]
    rcases q with ⟨hp, ρ2, e2, z⟩ | ⟨hp, ρ2, e2, h1⟩
    · refine .inr ⟨0, by simp, hp, fun j hj => absurd hj (by omega), ρ2, ?_, z⟩
      simp only [e2, Res.bind_ok]
    · have q := ih (fun k => I (k + 1)) (fun k => Z (k + 1)) (fun k => p (k + 1)) (fun k => g (k + 1)) h1 fun k d ρ hd hI => h (k + 1) d ρ (by simpa using hd) hI
      rcases q with ⟨hn, ρ', e3, h3⟩ | ⟨k, hk, hpk, hj, ρ', e3, z⟩
      · refine .inl ⟨fun k hk => ?_, ρ', ?_, by simpa using h3⟩
        · cases k with
          | zero => exact hp
          | succ k => exact hn k (by simp at hk; omega)
        · rcases e2 with e2 | e2 <;> simp only [e2, Res.bind_ok] <;> exact e3
      · refine .inr ⟨k + 1, by simp; omega, hpk, fun j hj' => ?_, ρ', ?_, z⟩
        · cases j with
          | zero => exact hp
          | succ j => exact hj j (by omega)
        · rcases e2 with e2 | e2 <;> simp only [e2, Res.bind_ok] <;> exact e3
theorem rangeL_len (lo : Int) (n : Nat) : (rangeL lo n).length = n := by unfold rangeL; simp
theorem rangeL_get {lo : Int} {n k : Nat} {d : D} (h : (rangeL lo n)[k]? = some d) : k < n ∧ d = .int (lo + k) := by
  have hk : k < n := by
    have := (List.getElem?_eq_some_iff.mp h).1
    rwa [rangeL_len] at this
  unfold rangeL at h
  rw [List.getElem?_map, List.getElem?_range hk] at h
  exact ⟨hk, (Option.some.inj h).symm⟩
theorem rangeC_len (lo c : Int) (n : Nat) : (rangeC lo c n).length = n := by unfold rangeC; simp
theorem rangeC_get {lo c : Int} {n k : Nat} {d : D} (h : (rangeC lo c n)[k]? = some d) : k < n ∧ d = .int (lo + k * c) := by
  have hk : k < n := by
    have := (List.getElem?_eq_some_iff.mp h).1
    rwa [rangeC_len] at this
  unfold rangeC at h
  rw [List.getElem?_map, List.getElem?_range hk] at h
  exact ⟨hk, (Option.some.inj h).symm⟩
theorem cut_mid {α : Type} (xs : List α) (a b : Nat) : cutL xs (some (a : Int)) (some (b : Int)) = (xs.take b).drop a := by
  unfold cutL
  rw [HT.sIx_nat, HT.sIx_nat]
  rw [List.drop_take]
  by_cases h : a ≤ xs.length
  · rw [Nat.min_eq_left h]
    by_cases h2 : b ≤ xs.length
    · rw [Nat.min_eq_left h2]
    · rw [Nat.min_eq_right (by omega)]
      rw [List.take_of_length_le (by simp), List.take_of_length_le (by simp; omega)]
  · rw [Nat.min_eq_right (show xs.length ≤ a by omega), List.drop_length, List.drop_of_length_le (by omega), List.take_nil, List.take_nil]
theorem minO_ints (ns : List Int) (h : ns ≠ []) : minO (.val (.lst (ns.map D.int))) = some (.val (.int (minL ns))) := by
  unfold minO
  show ((ints? (ns.map D.int)).bind fun ns => if ns = [] then none else some (O.val (.int (minL ns)))) = _
  rw [ints?_map]
  show (if ns = [] then none else some (O.val (.int (minL ns)))) = _
  rw [if_neg h]
theorem maxO_ints (ns : List Int) (h : ns ≠ []) : maxO (.val (.lst (ns.map D.int))) = some (.val (.int (maxL ns))) := by
  unfold maxO
  show ((ints? (ns.map D.int)).bind fun ns => if ns = [] then none else some (O.val (.int (maxL ns)))) = _
  rw [ints?_map]
  show (if ns = [] then none else some (O.val (.int (maxL ns)))) = _
  rw [if_neg h]
theorem sumO_ints (ns : List Int) : sumO (.val (.lst (ns.map D.int))) = some (.val (.int ns.sum)) := by
  unfold sumO
  show ((ints? (ns.map D.int)).map fun ns => O.val (.int ns.sum)) = _
  rw [ints?_map]; rfl
theorem le_minL {ns : List Int} (h : ns ≠ []) (d : Int) : d ≤ minL ns ↔ ∀ x ∈ ns, d ≤ x :=
  ⟨fun q x hx => Int.le_trans q (minL_le x hx), fun q => q _ (minL_mem h)⟩
theorem bls_map {α : Type} (p : α → Bool) : ∀ xs : List α, bls? (xs.map fun z => D.bl (p z)) = some (xs.map p)
  | [] => rfl
  | x :: xs => by
    show (bls? (xs.map fun z => D.bl (p z))).map (p x :: ·) = _
    rw [bls_map p xs]; rfl
theorem toD_bls {α : Type} (p : α → Bool) (xs : List α) : (O.lst (xs.map fun z => O.val (.bl (p z)))).toD = .lst (xs.map fun z => D.bl (p z)) := by
  show D.lst (O.toDs _) = _
  rw [toDs_map, List.map_map]; rfl
theorem any_map {α : Type} (p : α → Bool) (xs : List α) : anyO (.lst (xs.map fun z => O.val (.bl (p z)))) = some (.val (.bl (xs.any p))) := by
  unfold anyO
  rw [toD_bls]
  show ((bls? (xs.map fun z => D.bl (p z))).map fun bs => O.val (.bl (bs.any id))) = _
  rw [bls_map]
  simp [List.any_map]
theorem all_map {α : Type} (p : α → Bool) (xs : List α) : allO (.lst (xs.map fun z => O.val (.bl (p z)))) = some (.val (.bl (xs.all p))) := by
  unfold allO
  rw [toD_bls]
  show ((bls? (xs.map fun z => D.bl (p z))).map fun bs => O.val (.bl (bs.all id))) = _
  rw [bls_map]
  simp [List.all_map]
theorem atI_some {α : Type} {xs : List α} {r : Int} (h0 : 0 ≤ r) (h : r < xs.length) : ∃ x ∈ xs, atI xs r = some x := by
  have e : r = (r.toNat : Int) := by omega
  have hr : r.toNat < xs.length := by omega
  rw [e, atN, List.getElem?_eq_getElem hr]
  exact ⟨_, List.getElem_mem hr, rfl⟩
theorem snoc_ind {α : Type} {P : List α → Prop} (h0 : P []) (h1 : ∀ as d, P as → P (as ++ [d])) : ∀ as, P as := by
  have : ∀ bs : List α, P bs.reverse := by
    intro bs
    induction bs with
    | nil => exact h0
    | cons b bs ih => rw [List.reverse_cons]; exact h1 _ _ ih
  intro as
  have := this as.reverse
  rwa [List.reverse_reverse] at this
theorem eqvs_same_ints (ns : List Int) : eqvs (ns.map D.int) (ns.map D.int) = true := by
  induction ns with
  | nil => simp
  | cons n ns ih => simp [ih]
end FB

/-! Dicts read; texts joined; lists turned round. -/
namespace FB
open PySem PySem.Spec L2
open PyProof.Rows hiding St
section
variable {X : Cx} {K : PySem.W.Frag} {mg : Str → Option Value}
def dctP : O → Option (List Key × List O)
  | .dct ks os => some (ks, os)
  | .val (.dct ks ds) => some (ks, ds.map O.val)
  | _ => none
theorem Rep.dctV {H : Hp} {L : List Item} {B : List (V × O)} {x : V} {a : O} {ks : List Key} {os : List O} (R : Rep K mg H L B) (hx : (x, a) ∈ B) (e : dctP a = some (ks, os)) :
    ∃ p kvs, x = .ref p ∧ Rd H p (.dK kvs) ∧ kvs.map (·.1) = ks ∧ ks.Nodup ∧ kvs.length = os.length ∧ ∀ (j : Nat) (v : V) (o : O), (kvs.map (·.2))[j]? = some v → os[j]? = some o → Rep K mg H L ((v, o) :: B) := by
  obtain ⟨A, nd, ok, hb⟩ := id R
  obtain ⟨as, h1, h2⟩ := hb _ hx
  cases h1 with
  | val h1 =>
    cases h1 with
    | dct h3 h4 h5 =>
      cases e
      rename_i p kvs ds
      refine ⟨p, kvs, rfl, rd_hide h3, h4.1, h4.2, ?_, fun j v o q1 q2 => ⟨A, nd, ok, fun b q => ?_⟩⟩
      · have := h5.length
        simpa using this
      · rcases List.mem_cons.mp q with q | q
        · subst q
          rw [List.getElem?_map] at q2
          cases q3 : ds[j]? with
          | none => rw [q3] at q2; cases q2
          | some d =>
            rw [q3] at q2
            cases q2
            obtain ⟨v', g1, g2⟩ := h5.get q3
            rw [q1] at g1
            cases g1
            exact ⟨[], .val g2, by simp⟩
        · exact hb b q
    | _ => cases e
  | lst _ _ => cases e
  | ins _ _ _ _ => cases e
  | dct h3 h4 h5 =>
    cases e
    rename_i p kvs as'
    refine ⟨p, kvs, rfl, .inl h3, h4.1, h4.2, ?_, fun j v o q1 q2 => ⟨A, nd, ok, fun b q => ?_⟩⟩
    · have := h5.length
      simpa using this
    · rcases List.mem_cons.mp q with q | q
      · subst q
        obtain ⟨bs, g1, g2⟩ := VOs.sub h5 q2 q1
        exact ⟨bs, g1, fun a ha => h2 a (by simp [g2 a ha])⟩
      · exact hb b q
theorem keyV {H : Hp} {L : List Item} {B : List (V × O)} {y : V} {b : O} {k : Key} (R : Rep K mg H L B) (hy : (y, b) ∈ B) (e : keyO b = some k) : y = kV k := by
  unfold keyO at e
  split at e
  · cases e; exact R.shInt hy rfl
  · cases e; exact R.shStr hy rfl
  · cases e
/-! ### d[k] -/
def dgO (a b : O) : Option O := (dctP a).bind fun p => (keyO b).bind fun k => (idxK p.1 k).bind fun j => p.2[j]?
def rDg : R2 := fun x y H Q => ∃ a v, x = .ref a ∧ DGet H a y (some v) ∧ Q v H
theorem ix_dct (ok : CxOk X) : IxR X rDg := by
  intro value slice pins s σ H x y v u Q I rx ry h hs
  obtain ⟨a, w, rfl, g, q⟩ := h
  obtain rfl : v = Value.ref a := rx
  exact tail_any (dict_typeIs I g) PySem.F.slot_dict_getitem.lookup (d_getItem (by have := ok.units; show X.A.units + 1 < cLine; omega) I g ry fun w' s' I' rw' => ⟨w, H, I', rw', q⟩) hs
theorem dget {H : Hp} {L : List Item} {B : List (V × O)} {x y : V} {a b : O} {ks : List Key} {os : List O} {k : Key} (R : Rep K mg H L B) (hx : (x, a) ∈ B) (hy : (y, b) ∈ B) (e : dctP a = some (ks, os)) (ek : keyO b = some k) :
    ∃ p r, x = .ref p ∧ DGet H p y r ∧ ((idxK ks k).bind fun j => os[j]?).isSome = r.isSome ∧ ∀ o, ((idxK ks k).bind fun j => os[j]?) = some o → ∃ v, r = some v ∧ Rep K mg H L ((v, o) :: B) := by
  obtain ⟨p, kvs, rfl, h1, h2, h3, h4, h5⟩ := R.dctV hx e
  have ey := keyV R hy ek
  subst ey
  refine ⟨p, valV kvs k, rfl, .inl ⟨kvs, k, h1, rfl, rfl⟩, ?_, fun o ho => ?_⟩
  · rw [idxK_valV, h2]
    cases ej : idxK ks k with
    | none => rfl
    | some j =>
      show (os[j]?).isSome = ((kvs.map (·.2))[j]?).isSome
      by_cases hj : j < os.length
      · rw [List.getElem?_eq_getElem hj, List.getElem?_eq_getElem (show j < (kvs.map (·.2)).length by simp; omega)]; rfl
      · have n1 : os[j]? = none := List.getElem?_eq_none (by omega)
        have n2 : (kvs.map (·.2))[j]? = none := List.getElem?_eq_none (by simp; omega)
        rw [n1, n2]; rfl
  · rw [idxK_valV, h2]
    cases ej : idxK ks k with
    | none => rw [ej] at ho; cases ho
    | some j =>
      rw [ej] at ho
      have ho : os[j]? = some o := ho
      have hj : j < os.length := (List.getElem?_eq_some_iff.mp ho).1
      have hl : j < (kvs.map (·.2)).length := by simp; omega
      have hv : (kvs.map (·.2))[j]? = some ((kvs.map (·.2))[j]'hl) := List.getElem?_eq_getElem hl
      exact ⟨_, hv, h5 j _ o hv ho⟩
theorem opv_dg : OpV K mg rDg dgO := by
  intro H L B x y ox oy o Q R hx hy e k
  unfold dgO at e
  cases e1 : dctP ox with
  | none => rw [e1] at e; cases e
  | some p =>
    cases e2 : keyO oy with
    | none => rw [e1, e2] at e; cases e
    | some kk =>
      rw [e1, e2] at e
      obtain ⟨p', r, rfl, g, _, g2⟩ := dget (ks := p.1) (os := p.2) R hx hy e1 e2
      obtain ⟨v, rfl, R2⟩ := g2 o e
      exact ⟨p', v, rfl, g, k v H (Same.refl _) R2⟩
/-- a list, a tuple, a text, or a dict -/
def ixF (a b : O) : Option O := if (dctP a).isSome = true then dgO a b else ixO a b
def rIxF (K : PySem.W.Frag) : R2 := fun x y H Q => rIx K x y H Q ∨ rDg x y H Q
theorem ix_F (ok : CxOk X) : IxR X (rIxF X.K) := ix_seq.or (ix_dct ok)
theorem opv_ixF : OpV K mg (rIxF K) ixF := by
  intro H L B x y ox oy o Q R hx hy e k
  unfold ixF at e
  split at e
  · exact .inr (opv_dg H L B x y ox oy o Q R hx hy e k)
  · exact .inl (opv_ix H L B x y ox oy o Q R hx hy e k)
/-! ### k in d -/
def keyN : O → Option (Option Key)
  | .val .non => some none
  | b => (keyO b).map some
def hasK (ks : List Key) : Option Key → Bool
  | none => false
  | some k => (idxK ks k).isSome
def dinO (a b : O) : Option O := (dctP b).bind fun p => (keyN a).map fun k => .val (.bl (hasK p.1 k))
def dninO (a b : O) : Option O := (dctP b).bind fun p => (keyN a).map fun k => .val (.bl (!hasK p.1 k))
def rDin (n : Bool) : R2 := fun y x H Q => (∃ a o, x = .ref a ∧ DGet H a y o ∧ Q (.bl (o.isSome != n)) H) ∨ ∃ a kvs, x = .ref a ∧ y = .non ∧ Rd H a (.dK kvs) ∧ Q (.bl (false != n)) H
theorem op_din (ok : CxOk X) : OpR X (compareOp .In) (rDin false) := by
  intro pins s σ H y x v u Q I ry rx h
  have hu : X.A.units + 1 < cLine := by have := ok.units; omega
  rcases h with ⟨a, o, rfl, g, q⟩ | ⟨a, kvs, rfl, rfl, g, q⟩
  · obtain rfl : u = Value.ref a := rx
    exact d_in hu I g ry fun s3 I3 => ⟨.bl o.isSome, H, I3, rfl, by simpa using q⟩
  · obtain rfl : u = Value.ref a := rx
    obtain rfl : v = Value.none := ry
    exact d_inNone I g fun s3 I3 => ⟨.bl false, H, I3, rfl, q⟩
theorem op_dnin (ok : CxOk X) : OpR X (compareOp .NotIn) (rDin true) := by
  intro pins s σ H y x v u Q I ry rx h
  have hu : X.A.units + 1 < cLine := by have := ok.units; omega
  rcases h with ⟨a, o, rfl, g, q⟩ | ⟨a, kvs, rfl, rfl, g, q⟩
  · obtain rfl : u = Value.ref a := rx
    exact d_notIn hu I g ry fun s3 I3 => ⟨.bl (!o.isSome), H, I3, rfl, by simpa using q⟩
  · obtain rfl : u = Value.ref a := rx
    obtain rfl : v = Value.none := ry
    exact d_notInNone I g fun s3 I3 => ⟨.bl true, H, I3, rfl, q⟩
theorem din_core {n : Bool} {H : Hp} {L : List Item} {B : List (V × O)} {y x : V} {oy ox : O} {Q : VK} {p : List Key × List O} {kk : Option Key} (R : Rep K mg H L B) (hy : (y, oy) ∈ B) (hx : (x, ox) ∈ B) (e1 : dctP ox = some p) (e2 : keyN oy = some kk) (k : Q (.bl (hasK p.1 kk != n)) H) : rDin n y x H Q := by
  unfold keyN at e2
  split at e2
  · cases e2
    obtain ⟨a, kvs, rfl, g, _⟩ := R.dctV (ks := p.1) (os := p.2) hx e1
    exact .inr ⟨a, kvs, rfl, R.shNon hy rfl, g, k⟩
  · cases e3 : keyO oy with
    | none => rw [e3] at e2; cases e2
    | some key =>
      rw [e3] at e2
      cases e2
      obtain ⟨a, r, rfl, g, g1, _⟩ := dget (ks := p.1) (os := p.2) R hx hy e1 e3
      obtain ⟨_, kvs, _, _, f2, _, f4, _⟩ := R.dctV (ks := p.1) (os := p.2) hx e1
      have : hasK p.1 (some key) = r.isSome := by
        rw [← g1]
        show (idxK p.1 key).isSome = _
        cases ej : idxK p.1 key with
        | none => rfl
        | some j =>
          have hj : j < p.1.length := by
            unfold idxK at ej
            exact (List.findIdx?_eq_some_iff_getElem.mp ej).1
          have : j < p.2.length := by
            have h9 := congrArg List.length f2
            simp at h9
            omega
          show true = (p.2[j]?).isSome
          rw [List.getElem?_eq_getElem this]; rfl
      rw [this] at k
      exact .inl ⟨a, r, rfl, g, k⟩
theorem opv_din : OpV K mg (rDin false) dinO := by
  intro H L B y x oy ox o Q R hy hx e k
  unfold dinO at e
  cases e1 : dctP ox with
  | none => rw [e1] at e; cases e
  | some p =>
    cases e2 : keyN oy with
    | none => rw [e1, e2] at e; cases e
    | some kk =>
      rw [e1, e2] at e
      cases e
      have := k _ H (Same.refl _) (R.scalB (v := .bl (hasK p.1 kk)) (d := .bl (hasK p.1 kk)) fun _ => .bl _)
      exact din_core R hy hx e1 e2 (by simpa using this)
theorem opv_dnin : OpV K mg (rDin true) dninO := by
  intro H L B y x oy ox o Q R hy hx e k
  unfold dninO at e
  cases e1 : dctP ox with
  | none => rw [e1] at e; cases e
  | some p =>
    cases e2 : keyN oy with
    | none => rw [e1, e2] at e; cases e
    | some kk =>
      rw [e1, e2] at e
      cases e
      have := k _ H (Same.refl _) (R.scalB (v := .bl (!hasK p.1 kk)) (d := .bl (!hasK p.1 kk)) fun _ => .bl _)
      exact din_core R hy hx e1 e2 (by simpa using this)
def inF (a b : O) : Option O := if (dctP b).isSome = true then dinO a b else inO a b
def ninF (a b : O) : Option O := if (dctP b).isSome = true then dninO a b else ninO a b
def rInG (K : PySem.W.Frag) : R2 := fun x y H Q => rInF K x y H Q ∨ rDin false x y H Q
def rNinG (K : PySem.W.Frag) : R2 := fun x y H Q => rNinF K x y H Q ∨ rDin true x y H Q
theorem op_inG (ok : CxOk X) : OpR X (compareOp .In) (rInG X.K) := (op_inF ok).or (op_din ok)
theorem op_ninG (ok : CxOk X) : OpR X (compareOp .NotIn) (rNinG X.K) := (op_ninF ok).or (op_dnin ok)
theorem opv_inG : OpV K mg (rInG K) inF := by
  intro H L B x y ox oy o Q R hx hy e k
  unfold inF at e
  split at e
  · exact .inr (opv_din H L B x y ox oy o Q R hx hy e k)
  · exact .inl (opv_in H L B x y ox oy o Q R hx hy e k)
theorem opv_ninG : OpV K mg (rNinG K) ninF := by
  intro H L B x y ox oy o Q R hx hy e k
  unfold ninF at e
  split at e
  · exact .inr (opv_dnin H L B x y ox oy o Q R hx hy e k)
  · exact .inl (opv_nin H L B x y ox oy o Q R hx hy e k)
/-! ### d.get(k, x) -/
def getK (p : List Key × List O) (c : O) : Option Key → O
  | none => c
  | some k => ((idxK p.1 k).bind fun j => p.2[j]?).getD c
def getO (a b c : O) : Option O := (dctP a).bind fun p => (keyN b).map (getK p c)
theorem d_getNone {pins : List (Addr × Obj)} {σ : L2.St} {H : Hp} {s : Shared} {a : Addr} {kvs : List (Key × V)} {A : Around} {E : Value → Shared → Prop} {r : Value} {Q : Value → Shared → Prop} (I : Inv X pins σ H s) (e : Rd H a (.dK kvs)) (h : ∀ s', Inv X pins σ H s' → Q r s') :
    wpAny (model X.prog X.w) A (call (.builtin "dict.get") [.ref a, .none, r]) Q E s := by
  obtain ⟨_, hd, vs, _, dd⟩ := dk_rd I.hok e
  obtain ⟨f, hm, hf⟩ := none_map dd
  refine call_meetsIn PySem.F.slot_dict_get dd.typeIs PySem.F.entry_dict_get (PySem.F.args_dict_get_3 _ _ _) (meets_dict_get_default (noneKind X.prog X.w) a (show (noneKind X.prog X.w).is none .none = true from rfl) hd r) ⟨f, hm, ?_⟩
  rw [hf]
  exact h _ (I.tok _)
def tGetN (td ty tx : TE) : TE := fun σ H Q => td σ H fun x H1 => ∃ a, x = .ref a ∧ IsD H1 a ∧ ty σ H1 fun y H2 => tx σ H2 fun z H3 => (∃ o, DGet H3 a y o ∧ Q (o.getD z) H3) ∨ (∃ kvs, y = .non ∧ Rd H3 a (.dK kvs) ∧ Q z H3)
theorem pe_getN {o e f : Expr} {apos cpos : Pos} {td ty tx : TE} (hu : X.A.units + 1 < cLine) (ho : PE X o td) (he : PE X e ty) (hf : PE X f tx) (m : M2 X o "get" apos e f cpos) : PE X (.Call (.Attribute o "get" apos) [e, f] [] cpos) (tGetN td ty tx) := by
  refine ⟨fun pins s σ H Q I h => ?_⟩
  refine wpAny_Call_method m.base m.few m.line PySem.F.plainAttrs_dict PySem.F.slot_dict_get PySem.F.type_dict_get (thn (ho.run pins s σ H _ I h) fun u s1 ⟨x, H1, I1, rx, a, ex, d, q1⟩ => ?_)
  subst ex
  obtain rfl : u = Value.ref a := rx
  obtain ⟨t1, t2, _⟩ := isD_at I1 d
  refine ⟨t1, t2, ?_⟩
  rw [m.trees]
  refine Calls.callWith_builtin rfl (Calls.evalArgs_plain (Calls.spliced_cons (thn (he.run pins s1 σ H1 _ I1 q1) fun iv s2 ⟨y, H2, I2, ry, q2⟩ => Calls.spliced_cons (thn (hf.run pins s2 σ H2 _ I2 q2) fun fv s3 ⟨z, H3, I3, rz, q3⟩ => Calls.spliced_nil ?_))))
  rcases q3 with ⟨ov, g, q3⟩ | ⟨kvs, ey, g, q3⟩
  · exact d_get2 hu I3 g ry rz fun w' s4 I4 rw' => ⟨_, H3, I4, rw', q3⟩
  · subst ey
    obtain rfl : iv = Value.none := ry
    exact d_getNone I3 g fun s4 I4 => ⟨z, H3, I4, rz, q3⟩
def p3 (op : O → O → O → Option O) (f g h : Pf) : Pf := fun ρ => (f ρ).bind fun a => (g ρ).bind fun b => (h ρ).bind fun c => op a b c
theorem sp_get {o e d : Expr} {apos cpos : Pos} {f g h : Pf} (ok : CxOk X) (ho : SP X o f) (he : SP X e g) (hd : SP X d h) (m : M2 X o "get" apos e d cpos := by exact ⟨rfl, rfl, rfl, rfl⟩) : SP X (.Call (.Attribute o "get" apos) [e, d] [] cpos) (p3 getO f g h) :=
  PE.imp (pe_getN (by have := ok.units; omega) ho he hd m) fun σ H Q q => by
    obtain ⟨ρ, T, B, r, cv, R, e, k⟩ := q
    unfold p3 at e
    cases e1 : f ρ with
    | none => rw [e1] at e; cases e
    | some a =>
      cases e2 : g ρ with
      | none => rw [e1, e2] at e; cases e
      | some b =>
        cases e3 : h ρ with
        | none => rw [e1, e2, e3] at e; cases e
        | some c =>
          rw [e1, e2, e3] at e
          have e : getO a b c = some r := e
          unfold getO at e
          cases e4 : dctP a with
          | none => rw [e4] at e; cases e
          | some p =>
            cases e5 : keyN b with
            | none => rw [e4, e5] at e; cases e
            | some kk =>
              rw [e4, e5] at e
              have e : getK p c kk = r := Option.some.inj e
              refine ⟨ρ, T, B, a, cv, R, e1, fun x H1 s1 R1 => ?_⟩
              obtain ⟨pa, kvs, rfl, g1, _⟩ := R1.dctV (ks := p.1) (os := p.2) (List.mem_cons_self ..) e4
              refine ⟨pa, rfl, .inl ⟨kvs, g1⟩, ρ, T, _, b, cv, R1, e2, fun y H2 s2 R2 => ⟨ρ, T, _, c, cv, R2, e3, fun z H3 s3 R3 => ?_⟩⟩
              have drop : ∀ {v : V}, Rep X.K X.mg H3 (pairs σ ρ ++ T) ((v, r) :: (z, c) :: (y, b) :: (.ref pa, a) :: B) → Rep X.K X.mg H3 (pairs σ ρ ++ T) ((v, r) :: B) := fun R => R.bsub fun w hw => by
                rcases List.mem_cons.mp hw with hw | hw
                · simp [hw]
                · simp [hw]
              unfold keyN at e5
              split at e5
              · cases e5
                have e : c = r := e
                subst e
                obtain ⟨pa', kvs', ex, g2, _⟩ := R3.dctV (x := .ref pa) (a := a) (ks := p.1) (os := p.2) (by simp) e4
                cases ex
                refine .inr ⟨kvs', R3.shNon (o := .val .non) (by simp) rfl, g2, k z H3 (s1.trans (s2.trans s3)) (R3.bsub fun w hw => ?_)⟩
                rcases List.mem_cons.mp hw with hw | hw
                · simp [hw]
                · simp [hw]
              · cases e6 : keyO b with
                | none => rw [e6] at e5; cases e5
                | some key =>
                  rw [e6] at e5
                  cases e5
                  obtain ⟨pa', rr, ex, g2, g3, g4⟩ := dget (x := .ref pa) (y := y) (ks := p.1) (os := p.2) R3 (by simp) (by simp) e4 e6
                  cases ex
                  have e : ((idxK p.1 key).bind fun j => p.2[j]?).getD c = r := e
                  refine .inl ⟨rr, g2, ?_⟩
                  cases e7 : ((idxK p.1 key).bind fun j => p.2[j]?) with
                  | none =>
                    rw [e7] at e g3
                    have e : c = r := e
                    subst e
                    cases rr with
                    | some _ => cases g3
                    | none =>
                      refine k z H3 (s1.trans (s2.trans s3)) (R3.bsub fun w hw => ?_)
                      rcases List.mem_cons.mp hw with hw | hw
                      · simp [hw]
                      · simp [hw]
                  | some o =>
                    rw [e7] at e
                    have e : o = r := e
                    subst e
                    obtain ⟨v, rfl, R4⟩ := g4 o e7
                    exact k v H3 (s1.trans (s2.trans s3)) (drop R4)
end
end FB

/-! join, reverse, dict(pairs), name[k] += e; rules. -/
namespace FB
open PySem PySem.Spec L2 TL
open PyProof.Rows hiding St
section
variable {X : Cx} {K : PySem.W.Frag} {mg : Str → Option Value}
/-! ### join -/
def strs? : List D → Option (List Str)
  | [] => some []
  | .str s :: ds => (strs? ds).map (s :: ·)
  | _ :: _ => none
theorem strs_eq : ∀ {ds : List D} {ys : List Str}, strs? ds = some ys → ds = ys.map D.str
  | [], _, h => by cases h; rfl
  | .str s :: ds, ys, h => by
    have h : (strs? ds).map (s :: ·) = some ys := h
    cases e : strs? ds with
    | none => rw [e] at h; cases h
    | some zs => rw [e] at h; cases h; rw [strs_eq e]; rfl
  | .non :: _, _, h => by cases h
  | .bl _ :: _, _, h => by cases h
  | .int _ :: _, _, h => by cases h
  | .tup _ :: _, _, h => by cases h
  | .lst _ :: _, _, h => by cases h
  | .dct _ _ :: _, _, h => by cases h
  | .ins _ _ _ :: _, _, h => by cases h
  | .scr _ :: _, _, h => by cases h
theorem Vws.strs {H : Hp} : ∀ {vs : List V} {ys : List Str}, Vws K mg H vs (ys.map D.str) → vs = ys.map V.str ∧ ∀ y ∈ ys, PyData.strOk y = true
  | _, [], .nil => ⟨rfl, by simp⟩
  | _, y :: ys, .cons h t => by
    obtain ⟨e, o⟩ := Vws.strs t
    cases h with
    | str _ hy =>
      refine ⟨by rw [e]; rfl, fun z hz => ?_⟩
      rcases List.mem_cons.mp hz with q | q
      · rw [q]; exact hy
      · exact o z q
theorem strOk_iff {s : Str} : PyData.strOk s = true ↔ ∀ c ∈ s.cps.toList, decide (c < 0x110000) = true := by
  show s.cps.all (· < 0x110000) = true ↔ _
  rw [← Array.all_toList, List.all_eq_true]
theorem joinL_mem {S : List Nat} {c : Nat} : ∀ {ps : List (List Nat)}, c ∈ joinL S ps → c ∈ S ∨ ∃ p ∈ ps, c ∈ p
  | [], h => by cases h
  | [p], h => .inr ⟨p, by simp, h⟩
  | p :: q :: r, h => by
    have h : c ∈ p ++ (S ++ joinL S (q :: r)) := h
    rcases List.mem_append.mp h with h | h
    · exact .inr ⟨p, by simp, h⟩
    · rcases List.mem_append.mp h with h | h
      · exact .inl h
      · rcases joinL_mem h with h | ⟨p', h1, h2⟩
        · exact .inl h
        · exact .inr ⟨p', List.mem_cons_of_mem _ h1, h2⟩
theorem join_ok {a : Str} {ys : List Str} (ha : PyData.strOk a = true) (h : ∀ y ∈ ys, PyData.strOk y = true) : PyData.strOk (Txt.join a ys) = true := by
  rw [join_eq, strOk_iff]
  intro c hc
  have hc : c ∈ joinL (tl a) (ys.map tl) := by rw [← tl_join]; exact hc
  rcases joinL_mem hc with q | ⟨p, hp, q⟩
  · exact strOk_iff.mp ha c q
  · obtain ⟨y, hy, rfl⟩ := List.mem_map.mp hp
    exact strOk_iff.mp (h y hy) c q
def joinD (a : Str) (d : D) : Option D := match d with
  | .lst ds => (strs? ds).bind fun ys => if (ys.map (·.length)).sum + ys.length * a.length ≤ 1000000 then some (.str (Txt.join a ys)) else none
  | _ => none
def mJoin (a : Str) (m : M O) : M O := fun ρ => (m ρ).bind fun o ρ1 => match joinD a o.toD with
  | some d => .ok (.val d) ρ1
  | none => .no
theorem se_join {a : Str} {j : Nat} {p apos pos : Pos} {e : Expr} {m : M O} (h : SE X e m) (ha : PyData.strOk a = true := by decide +kernel) (hs : starEach [e] X.env = [(false, eval e X.env)] := by rfl) (hbase : attributeBase (.Constant (.str a) j p) "join" X.env (eval (.Constant (.str a) j p) X.env) = eval (.Constant (.str a) j p) X.env := by rfl)
    (hline : (apos.endLine == pos.line) = true := by rfl) : SE X (.Call (.Attribute (.Constant (.str a) j p) "join" apos) [e] [] pos) (mJoin a m) :=
  PE.imp (pe_join pe_str h hs hbase hline) fun σ H Q w => by
    obtain ⟨ρ, T, o, ρ', c, R, e0, k⟩ := w
    obtain ⟨u, ρ1, e1, e0⟩ := Res.bind_eq e0
    refine ⟨⟨a, rfl⟩, ρ, T, u, ρ1, c, R, e1, fun y H1 c1 R1 => ?_⟩
    unfold joinD at e0
    have R2 := R1.frz
    cases hd : u.toD with
    | lst ds =>
      rw [hd] at e0 R2
      have e0 : (match (strs? ds).bind fun ys => if (ys.map (·.length)).sum + ys.length * a.length ≤ 1000000 then some (D.str (Txt.join a ys)) else none with | some d => Res.ok (O.val d) ρ1 | none => .no) = .ok o ρ' := e0
      cases es : strs? ds with
      | none => rw [es] at e0; cases e0
      | some ys =>
        rw [es] at e0
        have e0 : (match (if (ys.map (·.length)).sum + ys.length * a.length ≤ 1000000 then some (D.str (Txt.join a ys)) else none) with | some d => Res.ok (O.val d) ρ1 | none => .no) = .ok o ρ' := e0
        by_cases hl : (ys.map (·.length)).sum + ys.length * a.length ≤ 1000000
        · rw [if_pos hl] at e0
          cases e0
          have ed := strs_eq es
          subst ed
          have q : Vw X.K X.mg H1 y (.lst (ys.map D.str)) := R2.lend.sh (List.mem_cons_self ..) rfl
          cases q with
          | lst q1 q2 =>
            obtain ⟨ev, ok⟩ := q2.strs
            subst ev
            exact ⟨a, _, ys, rfl, rfl, .inl (.inl q1), by omega, k _ H1 c1 ((R2.drop).scal fun _ => .str _ (join_ok ha ok))⟩
        · rw [if_neg hl] at e0; cases e0
    | _ => rw [hd] at e0; cases e0
/-! ### reverse -/
def mRevL (i : Nat) : M O := fun ρ => match ρ[i]? with
  | some (some (.lst os)) => .ok (.val .non) (ρ.set i (some (.lst os.reverse)))
  | _ => .no
theorem se_reverse (i : Nat) {x : Str} {p apos cpos : Pos} (hN : X.N[i]? = some x := by rfl) (hv : Vis X.env.scope x := by first | exact Or.inl rfl | exact Or.inr (Or.inl rfl) | exact Or.inr (Or.inr rfl)) (hd : (x == ("__debug__" : Str)) = false := by decide)
    (hcd : (x == ("__classdict__" : Str)) = false := by decide) (hbase : attributeBase (.Name x p) "reverse" X.env (eval (.Name x p) X.env) = eval (.Name x p) X.env := by rfl) (hline : (apos.endLine == cpos.line) = true := by rfl) :
    SE X (.Call (.Attribute (.Name x p) "reverse" apos) [] [] cpos) (mRevL i) :=
  PE.imp (pe_bm0 PySem.F.plainAttrs_list PySem.F.slot_list_reverse PySem.F.type_list_reverse mt_reverse (pv i hN hv hd hcd) hbase hline) fun σ H Q w => by
    obtain ⟨ρ, T, o, ρ', c, R, e0, k⟩ := w
    unfold mRevL at e0
    split at e0
    · rename_i os e1
      cases e0
      obtain ⟨v, hv⟩ := c.ex i _ e1
      have R0 : Rep X.K X.mg H ([] ++ (pairs σ ρ ++ T)) [] := R
      obtain ⟨q, vs, ev, hl, R1⟩ := (Rep.slot hv e1 R0).openL
      subst ev
      have hq := R1.rawAt
      refine ⟨_, hv, .inl ⟨rfl, _, SqL.of hq⟩, q, vs, rfl, rfl, hq, ?_⟩
      have R2 := R1.write (o' := .lst vs.reverse)
      have ez : zipI vs.reverse os.reverse = (zipI vs os).reverse := by unfold zipI; rw [List.reverse_zipWith hl]
      have R3 : Rep X.K X.mg (upd H q (.lst vs.reverse)) (.ov (.ref q) (.lst os.reverse) :: (pairs σ (ρ.set i none) ++ T)) [] := by
        refine Rep.closeL (vs := vs.reverse) ?_ (by simp [hl])
        rw [ez]
        exact R2.perm (List.Perm.cons _ ((List.reverse_perm _).symm.append_right _))
      have R4 : Rep X.K X.mg _ ([] ++ (pairs σ (ρ.set i (some (.lst os.reverse))) ++ T)) [] := Rep.unslot hv e1 R3
      exact k .non _ (c.put hv _) (R4.scal fun _ => .non)
    · cases e0
/-! ### dict(pairs) -/
def mergeL {α : Type} (acc : List Key × List α) (kvs : List (Key × α)) : List Key × List α := kvs.foldl (fun a kv => putL a.1 a.2 kv.1 kv.2) acc
def pr? : D → Option (Key × D)
  | .tup [k, d] => (keyO (.val k)).map fun k => (k, d)
  | _ => none
def prs? : List D → Option (List (Key × D))
  | [] => some []
  | d :: ds => (pr? d).bind fun p => (prs? ds).map (p :: ·)
theorem key_vw {G : Hp} {v : V} {d : D} {k : Key} (h : Vw K mg G v d) (e : keyO (.val d) = some k) : v = kV k := by
  cases h with
  | int i => cases e; rfl
  | str s _ => cases e; rfl
  | _ => cases e
theorem prs_views {G : Hp} : ∀ {vs : List V} {ds : List D} {kvs : List (Key × D)}, Vws K mg G vs ds → prs? ds = some kvs → ∃ (ps : List Addr) (ws : List (Key × V)), vs = ps.map V.ref ∧ Paired (fun p kv => SqT K G p [kV kv.1, kv.2]) ps ws ∧ ws.map (·.1) = kvs.map (·.1) ∧ Vws K mg G (ws.map (·.2)) (kvs.map (·.2))
  | _, _, _, .nil, h => by cases h; exact ⟨[], [], rfl, .nil, rfl, .nil⟩
  | v :: vs, d :: ds, kvs, .cons h t, e => by
    have e : (pr? d).bind (fun p => (prs? ds).map (p :: ·)) = some kvs := e
    cases e1 : pr? d with
    | none => rw [e1] at e; cases e
    | some p =>
      cases e2 : prs? ds with
      | none => rw [e1, e2] at e; cases e
      | some ps =>
        rw [e1, e2] at e
        cases e
        obtain ⟨as, ws, h1, h2, h3, h4⟩ := prs_views t e2
        unfold pr? at e1
        split at e1
        · rename_i k0 d0
          cases e5 : keyO (.val k0) with
          | none => rw [e5] at e1; cases e1
          | some kk =>
            rw [e5] at e1
            cases e1
            cases h with
            | tup h6 h7 =>
              rename_i a xs
              cases h7 with
              | cons h8 h9 =>
                cases h9 with
                | cons h10 h11 =>
                  cases h11
                  have ek := key_vw h8 e5
                  subst ek
                  rename_i v2
                  exact ⟨a :: as, (kk, v2) :: ws, by rw [h1]; rfl, .cons h6 h2, by simp [h3], .cons h10 h4⟩
        · cases e1
theorem Vws.putL {G : Hp} {ks : List Key} {vs : List V} {ds : List D} {k : Key} {v : V} {d : D} (h : Vws K mg G vs ds) (h1 : Vw K mg G v d) : Vws K mg G (putL ks vs k v).2 (putL ks ds k d).2 := by
  unfold FB.putL
  cases idxK ks k with
  | none => exact h.append (.cons h1 .nil)
  | some j => exact h.set h1 j
theorem putL_ks {α β : Type} (ks : List Key) (os : List α) (us : List β) (k : Key) (o : α) (u : β) : (putL ks os k o).1 = (putL ks us k u).1 := by
  unfold putL
  cases idxK ks k <;> rfl
theorem merge_views {G : Hp} : ∀ {ws : List (Key × V)} {kvs : List (Key × D)} {acc : List (Key × V)} {ks : List Key} {ds : List D}, ws.map (·.1) = kvs.map (·.1) → Vws K mg G (ws.map (·.2)) (kvs.map (·.2)) → acc.map (·.1) = ks → ks.Nodup → Vws K mg G (acc.map (·.2)) ds →
    (mergeK acc ws).map (·.1) = (mergeL (ks, ds) kvs).1 ∧ (mergeL (ks, ds) kvs).1.Nodup ∧ Vws K mg G ((mergeK acc ws).map (·.2)) (mergeL (ks, ds) kvs).2
  | [], [], acc, ks, ds, _, _, h1, h2, h3 => ⟨h1, h2, h3⟩
  | [], _ :: _, _, _, _, h, _, _, _, _ => by simp at h
  | _ :: _, [], _, _, _, h, _, _, _, _ => by simp at h
  | w :: ws, p :: kvs, acc, ks, ds, h, hv, h1, h2, h3 => by
    have hk : w.1 = p.1 := by simpa using congrArg List.head? h
    have ht : ws.map (·.1) = kvs.map (·.1) := by simpa using congrArg List.tail h
    cases hv with
    | cons hv1 hv2 =>
      obtain ⟨q1, q2⟩ := putK_eq acc w.1 w.2 (by rw [h1]; exact h2)
      rw [h1] at q1 q2
      have hn : (putL ks ds p.1 p.2).1.Nodup := by
        have := nodup_put (os := ds.map O.val) (k := p.1) (o := O.val p.2) h2
        rwa [putL_ks ks (ds.map O.val) ds p.1 (O.val p.2) p.2] at this
      have r := merge_views (acc := putK acc w.1 w.2) (ks := (putL ks ds p.1 p.2).1) (ds := (putL ks ds p.1 p.2).2) ht hv2 (by rw [q1, hk]; exact putL_ks ..) hn (by rw [q2, hk]; exact Vws.putL h3 hv1)
      exact r
def dctOf (kvs : List (Key × D)) : D := .dct (mergeL ([], []) kvs).1 (mergeL ([], []) kvs).2
def dpK2 (ρ : Env) : Option (List (Key × D)) → Res O
  | some kvs => .ok (.val (dctOf kvs)) ρ
  | none => .no
def dpK1 (ρ : Env) : D → Res O
  | .lst ds => dpK2 ρ (prs? ds)
  | _ => .no
def mDictP (m : M O) : M O := fun ρ => (m ρ).bind fun o ρ1 => dpK1 ρ1 o.toD
theorem se_dictP {a : Expr} {p pos : Pos} {m : M O} (ok : CxOk X) (hg : Gl X "dict") (hm : X.mg "dict" = none) (hv : bootBuiltins "dict" = some (.type "dict")) (ha : SE X a m)
    (hst : starEach (a :: []) X.env = (false, eval a X.env) :: starEach [] X.env := by rfl) (hpl : (backTo pos (starEach [] X.env)).any (·.1) = false := by rfl) : SE X (.Call (.Name "dict" p) [a] [] pos) (mDictP m) :=
  PE.imp (pe_callTy (call_dictP ok.calm) hg hm hv (pa_cons ha pa_nil hst) (by decide) (by decide) hst hpl) fun σ H Q w => by
    obtain ⟨ρ, T, o, ρ', c, R, e0, k⟩ := w
    obtain ⟨u, ρ1, e1, e0⟩ := Res.bind_eq e0
    refine ⟨ρ, T, u, ρ1, c, R, e1, fun y H1 c1 R1 => ?_⟩
    have R2 := R1.frz
    cases hd : u.toD with
    | lst ds =>
      rw [hd] at e0 R2
      have e0 : dpK2 ρ1 (prs? ds) = .ok o ρ' := e0
      cases ep : prs? ds with
      | none => rw [ep] at e0; cases e0
      | some kvs =>
        rw [ep] at e0
        cases e0
        obtain ⟨A, nd, okk, _⟩ := id R2
        cases okk with
        | cons h t =>
          rename_i a9 b9
          cases h with
          | ov h =>
            cases h with
            | val h =>
              cases h with
              | lst q1 q2 =>
                rename_i pa vs
                obtain ⟨ps, ws, ev, h2, h3, h4⟩ := prs_views q2 ep
                subst ev
                have pm : Paired (fun p kv => SqT X.K H1 p [kV kv.1, kv.2]) ps ws := by
                  clear h3 h4 q1 q2 ep nd t R2 R1
                  induction h2 with
                  | nil => exact .nil
                  | cons h _ ih => exact .cons (sqT_hide h) ih
                obtain ⟨m1, m2, m3⟩ := merge_views (acc := []) (ks := []) (ds := []) h3 h4 rfl List.nodup_nil .nil
                refine ⟨pa, ps, ws, rfl, .inl (rd_hide q1), pm, fun q hq => k _ _ c1 ?_⟩
                have R3 := (Rep.drop R2).grow (sameNew (o := .dK (mergeK [] ws)) hq)
                have hnew : q ∉ a9 := fun z => by
                  obtain ⟨u, g⟩ := t.dom q z
                  rw [hq] at g; cases g
                obtain ⟨A', nd', ok', _⟩ := (Rep.drop R2)
                have e : Same (hide H1 ([] ++ a9)) (hide (upd H1 q (.dK (mergeK [] ws))) a9) := hide_same fun a o ha g => ⟨by simpa using ha, by rw [upd_ne (ne_of_none g hq)]; exact g⟩
                refine ⟨a9, (List.nodup_append.mp nd).2.1, .cons (as := []) (.ov (.val (.dct (kvs := mergeK [] ws) (.inl ?_) ⟨m1, m2⟩ (m3.mono e)))) (t.mono e fun a ha => upd_ne fun z => hnew (z ▸ ha)), fun _ z => by simp at z⟩
                rw [hide_out hnew]; exact upd_same
    | _ => rw [hd] at e0; cases e0
/-! ### name[k] += e, ints -/
def ixG (a b : O) : Option O := if (dctP a).isSome = true then dgO a b else ixL a b
def rGet (K : PySem.W.Frag) : R2 := fun x y H Q => rIxL K x y H Q ∨ rDg x y H Q
theorem pget_F (ok : CxOk X) : PGet X (rGet X.K) := by
  intro pins s σ H x y v u Q I rx ry h
  rcases h with h | ⟨a, w, rfl, g, q⟩
  · exact pget_list pins s σ H x y v u Q I rx ry h
  · obtain rfl : v = Value.ref a := rx
    exact d_getItem (by have := ok.units; show X.A.units + 1 < cLine; omega) I g ry fun w' s' I' rw' => ⟨w, H, I', rw', q⟩
theorem opv_ixG : OpV K mg (rGet K) ixG := by
  intro H L B x y ox oy o Q R hx hy e k
  unfold ixG at e
  split at e
  · exact .inr (opv_dg H L B x y ox oy o Q R hx hy e k)
  · exact .inl (opv_ixL H L B x y ox oy o Q R hx hy e k)
def mAugI (i : Nat) (g : Int → Int → Int) (n m : Pf) : M Fl := fun ρ => match ρ[i]?, n ρ, m ρ with
  | some (some a), some (.val d), some (.val (.int y)) => (match ixG a (.val d) with
    | some (.val (.int x)) => (match setItO a (.val d) (.val (.int (g x y))) with
      | some a' => .ok .nx (ρ.set i (some a'))
      | none => .no)
    | _ => .no)
  | _, _, _ => .no
theorem ss_augI (i : Nat) {P : List Nat} {x : Str} {p tpos pos : Pos} {ix e : Expr} {op : Operator} {g : Int → Int → Int} {n m : Pf} (ok : CxOk X) (hop : PIp X op (ipI g)) (hn : SP X ix n) (h : SP X e m) (hN : X.N[i]? = some x := by rfl) (hv : Vis X.env.scope x := by first | exact Or.inl rfl | exact Or.inr (Or.inl rfl) | exact Or.inr (Or.inr rfl)) (hd : (x == ("__debug__" : Str)) = false := by decide)
    (hcd : (x == ("__classdict__" : Str)) = false := by decide)
    (ha : ∀ ov iv new, augStore ix ov iv new = (do holding [new, ov, iv] (setItem ov iv new); release [new, ov, iv] []; pure .next) := by intros; rfl) :
    SS X P (.AugAssign (.Subscript (.Name x p) ix tpos) op e pos) (mAugI i g n m) :=
  PS.imp (ps_augS (pv i hN hv hd hcd) hn (pget_F ok) h hop (set_F ok) ha) fun D σ H w => by
    obtain ⟨ρ, T, cv, R, h⟩ := tS_iff.mp w
    unfold mAugI at h
    split at h
    · rename_i a d yi e2 e3 e5
      split at h
      · rename_i xi e6
        split at h
        · rename_i a' e4
          obtain ⟨vx, hvx⟩ := cv.ex i _ e2
          have pm := (pairs_take hvx e2).append_right T
          have R1 : Rep X.K X.mg H (pairs σ ρ ++ T) [(vx, a)] := ((R.perm pm).lend).perm pm.symm
          refine ⟨vx, hvx, ρ, T, _, .val d, cv, R1, e3, fun y H2 s2 R3 => ?_⟩
          refine opv_ixG H2 _ _ vx y a (.val d) _ _ R3 (by simp) (by simp) e6 fun xv H3 s3 R4 => ?_
          refine ⟨ρ, T, _, .val (.int yi), cv, R4, e5, fun zv H4 s4 R5 => ?_⟩
          have ex : xv = .int xi := R5.shInt (List.mem_cons_of_mem _ (List.mem_cons_self ..)) rfl
          have ez : zv = .int yi := R5.shInt (List.mem_cons_self ..) rfl
          refine ⟨xi, yi, ex, ez, ?_⟩
          have R6 : Rep X.K X.mg H4 (pairs σ ρ ++ T) [(y, .val d)] := R5.bsub fun z hz => by
            have := List.mem_singleton.mp hz
            subst this
            simp
          have R7 := (R6.keep.scal (v := .int (g xi yi)) (d := .int (g xi yi)) fun _ => .int _).perm (.swap _ _ _)
          have R8 := Rep.slot (M := [.ov y (.val d), .ov (.int (g xi yi)) (.val (.int (g xi yi)))]) hvx e2 R7
          exact setIt_core R8 e4 fun H5 R9 => h σ H5 (Fix.refl _ _) (cv.put hvx _) (Rep.unslot (M := []) hvx e2 R9)
        · exact h.elim
      · exact h.elim
    · exact h.elim
end
/-! ### rules -/
variable {ρ : Env}
def p3K (op : O → O → O → Option O) : Option O → Option O → Option O → Option O
  | some a, some b, some c => op a b c
  | _, _, _ => none
@[simp] theorem e_p3 (op : O → O → O → Option O) (f g h : Pf) : p3 op f g h ρ = p3K op (f ρ) (g ρ) (h ρ) := by
  unfold p3 p3K
  cases f ρ <;> cases g ρ <;> cases h ρ <;> rfl
@[simp] theorem e_p3K (op : O → O → O → Option O) (a b c : O) : p3K op (some a) (some b) (some c) = op a b c := (rfl)
@[simp] theorem ixF_dct (ks : List Key) (os : List O) (b : O) : ixF (.dct ks os) b = dgO (.dct ks os) b := (rfl)
@[simp] theorem ixF_vdct (ks : List Key) (ds : List D) (b : O) : ixF (.val (.dct ks ds)) b = dgO (.val (.dct ks ds)) b := (rfl)
@[simp] theorem ixF_lst (os : List O) (b : O) : ixF (.lst os) b = ixO (.lst os) b := (rfl)
@[simp] theorem ixF_vlst (ds : List D) (b : O) : ixF (.val (.lst ds)) b = ixO (.val (.lst ds)) b := (rfl)
@[simp] theorem ixF_vtup (ds : List D) (b : O) : ixF (.val (.tup ds)) b = ixO (.val (.tup ds)) b := (rfl)
@[simp] theorem ixF_vstr (s : Str) (b : O) : ixF (.val (.str s)) b = ixO (.val (.str s)) b := (rfl)
@[simp] theorem ixF_vscr (s : List Int) (b : O) : ixF (.val (.scr s)) b = ixO (.val (.scr s)) b := (rfl)
@[simp] theorem inF_dct (a : O) (ks : List Key) (os : List O) : inF a (.dct ks os) = dinO a (.dct ks os) := (rfl)
@[simp] theorem inF_vdct (a : O) (ks : List Key) (ds : List D) : inF a (.val (.dct ks ds)) = dinO a (.val (.dct ks ds)) := (rfl)
@[simp] theorem inF_vlst (a : O) (ds : List D) : inF a (.val (.lst ds)) = inO a (.val (.lst ds)) := (rfl)
@[simp] theorem inF_vtup (a : O) (ds : List D) : inF a (.val (.tup ds)) = inO a (.val (.tup ds)) := (rfl)
@[simp] theorem inF_vstr (a : O) (s : Str) : inF a (.val (.str s)) = inO a (.val (.str s)) := (rfl)
@[simp] theorem inF_lst (a : O) (os : List O) : inF a (.lst os) = inO a (.lst os) := (rfl)
@[simp] theorem ninF_dct (a : O) (ks : List Key) (os : List O) : ninF a (.dct ks os) = dninO a (.dct ks os) := (rfl)
@[simp] theorem ninF_vdct (a : O) (ks : List Key) (ds : List D) : ninF a (.val (.dct ks ds)) = dninO a (.val (.dct ks ds)) := (rfl)
@[simp] theorem ninF_vlst (a : O) (ds : List D) : ninF a (.val (.lst ds)) = ninO a (.val (.lst ds)) := (rfl)
@[simp] theorem ninF_vtup (a : O) (ds : List D) : ninF a (.val (.tup ds)) = ninO a (.val (.tup ds)) := (rfl)
@[simp] theorem ninF_vstr (a : O) (s : Str) : ninF a (.val (.str s)) = ninO a (.val (.str s)) := (rfl)
@[simp] theorem ninF_lst (a : O) (os : List O) : ninF a (.lst os) = ninO a (.lst os) := (rfl)
def jnK (a : Str) : Res O → Res O
  | .ok o ρ1 => (match joinD a o.toD with
    | some d => .ok (.val d) ρ1
    | none => .no)
  | .exc x ρ => .exc x ρ
  | .no => .no
def jnK2 (ρ : Env) : Option D → Res O
  | some d => .ok (.val d) ρ
  | none => .no
@[simp] theorem e_mJoin (a : Str) (m : M O) : mJoin a m ρ = jnK a (m ρ) := by unfold mJoin jnK; cases m ρ <;> rfl
@[simp] theorem e_jnK (a : Str) (o : O) : jnK a (.ok o ρ) = jnK2 ρ (joinD a o.toD) := by
  show (match joinD a o.toD with | some d => Res.ok (O.val d) ρ | none => .no) = _
  unfold jnK2
  cases joinD a o.toD <;> rfl
@[simp] theorem e_jnK2 (d : D) : jnK2 ρ (some d) = .ok (.val d) ρ := (rfl)
theorem strs_map : ∀ ys : List Str, strs? (ys.map D.str) = some ys
  | [] => rfl
  | y :: ys => by
    show (strs? (ys.map D.str)).map (y :: ·) = _
    rw [strs_map ys]; rfl
theorem joinD_strs (a : Str) (ys : List Str) (h : (ys.map (·.length)).sum + ys.length * a.length ≤ 1000000) : joinD a (.lst (ys.map D.str)) = some (.str (Txt.join a ys)) := by
  show ((strs? (ys.map D.str)).bind fun ys => if (ys.map (·.length)).sum + ys.length * a.length ≤ 1000000 then some (D.str (Txt.join a ys)) else none) = _
  rw [strs_map]
  show (if (ys.map (·.length)).sum + ys.length * a.length ≤ 1000000 then some (D.str (Txt.join a ys)) else none) = _
  rw [if_pos h]
def rvK (i : Nat) (ρ : Env) : Option (Option O) → Res O
  | some (some (.lst os)) => .ok (.val .non) (ρ.set i (some (.lst os.reverse)))
  | _ => .no
@[simp] theorem e_mRevL (i : Nat) : mRevL i ρ = rvK i ρ (ρ[i]?) := (rfl)
@[simp] theorem e_rvK (i : Nat) (os : List O) : rvK i ρ (some (some (.lst os))) = .ok (.val .non) (ρ.set i (some (.lst os.reverse))) := (rfl)
def dpK : Res O → Res O
  | .ok o ρ => dpK1 ρ o.toD
  | .exc x ρ => .exc x ρ
  | .no => .no
@[simp] theorem e_mDictP (m : M O) : mDictP m ρ = dpK (m ρ) := by unfold mDictP dpK; cases m ρ <;> rfl
@[simp] theorem e_dpK (o : O) : dpK (.ok o ρ) = dpK1 ρ o.toD := (rfl)
@[simp] theorem e_dpK1 (ds : List D) : dpK1 ρ (.lst ds) = dpK2 ρ (prs? ds) := (rfl)
@[simp] theorem e_dpK2 (kvs : List (Key × D)) : dpK2 ρ (some kvs) = .ok (.val (dctOf kvs)) ρ := (rfl)
theorem e_mAugI (i : Nat) (g : Int → Int → Int) (n m : Pf) (a a' : O) (d : D) (x y : Int) (h0 : ρ[i]? = some (some a)) (hn : n ρ = some (.val d)) (hm : m ρ = some (.val (.int y))) (hx : ixG a (.val d) = some (.val (.int x))) (h2 : setItO a (.val d) (.val (.int (g x y))) = some a') :
    mAugI i g n m ρ = .ok .nx (ρ.set i (some a')) := by
  unfold mAugI
  rw [h0, hn, hm]
  show (match ixG a (.val d) with
    | some (.val (.int x)) => (match setItO a (.val d) (.val (.int (g x y))) with
      | some a' => Res.ok Fl.nx (ρ.set i (some a'))
      | none => .no)
    | _ => .no) = _
  rw [hx]
  show (match setItO a (.val d) (.val (.int (g x y))) with
      | some a' => Res.ok Fl.nx (ρ.set i (some a'))
      | none => .no) = _
  rw [h2]
end FB

/-! Loops and comprehensions over what own names lend meanwhile. -/
namespace FB
open PySem PySem.Spec L2
open PyProof.Rows hiding St
section
variable {X : Cx} {K : PySem.W.Frag} {mg : Str → Option Value}
/-- slots Z stand; their things are aside (wi) and come back (re) -/
def tIG (K : PySem.W.Frag) (mg : Str → Option Value) (Z : List Nat) (f : Env → Option (List D)) (wi : Env → Env) (re : Env → Env → Env) : TI := fun σ H R => ∃ ρ T ds, Cov σ ρ ∧ Rep K mg H (pairs σ ρ ++ T) [] ∧ f ρ = some ds ∧
  ∀ J ks, Its K mg J ks ds → Cov σ (wi ρ) → Rep K mg H (ks ++ (pairs σ (wi ρ) ++ T)) [] → (∀ σ' ρ' H' M, Fix Z σ σ' → Cov σ' ρ' → Rep K mg H' (M ++ (pairs σ' ρ' ++ (ks ++ T))) [] → Cov σ' (re ρ ρ') ∧ Rep K mg H' (M ++ (pairs σ' (re ρ ρ') ++ T)) []) → R J H
def SIG (X : Cx) (tg it : Expr) (Z : List Nat) (f : Env → Option (List D)) (wi : Env → Env) (re : Env → Env → Env) : Prop := PI X tg it (tIG X.K X.mg Z f wi re)
def backG (r : Env → Env) : Res Fl → Res Fl
  | .ok f ρ => .ok f (r ρ)
  | .exc x ρ => .exc x ρ
  | .no => .no
def mForG (f : Env → Option (List D)) (wi : Env → Env) (re : Env → Env → Env) (a : D → Env → Option Env) (b : M Fl) : M Fl := fun ρ => match f ρ with
  | some ds => backG (re ρ) (forL a b ds (wi ρ))
  | none => .no
theorem Fix.app1 {Z P : List Nat} {σ σ' : L2.St} (h : Fix (Z ++ P) σ σ') : Fix Z σ σ' := ⟨h.1, fun i hi => h.2 i (List.mem_append_left _ hi)⟩
theorem Fix.app2 {Z P : List Nat} {σ σ' : L2.St} (h : Fix (Z ++ P) σ σ') : Fix P σ σ' := ⟨h.1, fun i hi => h.2 i (List.mem_append_right _ hi)⟩
theorem post_backG {Z P : List Nat} {T ks : List Item} {D : Ends} {σ : L2.St} {g : Env → Env} {r : Res Fl} (re : ∀ σ' ρ' H' M, Fix Z σ σ' → Cov σ' ρ' → Rep K mg H' (M ++ (pairs σ' ρ' ++ (ks ++ T))) [] → Cov σ' (g ρ') ∧ Rep K mg H' (M ++ (pairs σ' (g ρ') ++ T)) []) (h : Post K mg P T D σ (backG g r)) : Post K mg (Z ++ P) (ks ++ T) D σ r := by
  cases r with
  | exc x ρ => exact h
  | no => exact h
  | ok fl ρ =>
    cases fl with
    | nx => exact fun σ' H' f c R => (re σ' ρ H' [] f.app1 c R).elim fun c' R' => h σ' H' f.app2 c' R'
    | brk => exact fun σ' H' f c R => (re σ' ρ H' [] f.app1 c R).elim fun c' R' => h σ' H' f.app2 c' R'
    | ct => exact fun σ' H' f c R => (re σ' ρ H' [] f.app1 c R).elim fun c' R' => h σ' H' f.app2 c' R'
    | ret u => exact fun w σ' H' f c R => (re σ' ρ H' [.ov w u] f.app1 c R).elim fun c' R' => h w σ' H' f.app2 c' R'
theorem ss_forG {Z P : List Nat} {tg iter : Expr} {body : List Stmt} {pos : Pos} {f : Env → Option (List D)} {wi : Env → Env} {re : Env → Env → Env} {a : D → Env → Option Env} {b : M Fl} (ok : CxOk X) (hp : PassesOwn (model X.prog X.w) X.A X.env X.xe) (hi : SIG X tg iter Z f wi re) (hg : SG X (Fix (Z ++ P)) tg a) (hb : SSs X (Z ++ P) body b)
    (hs : ∀ x, foldedSetIterable iter X.env x = pure x := by intro _; rfl) : SS X P (.For tg iter body [] pos) (mForG f wi re a b) :=
  PS.imp (ps_for hp ok.calm hi hg hb hs) fun D σ H w => by
    obtain ⟨ρ, T, cv, R, h⟩ := tS_iff.mp w
    unfold mForG at h
    split at h
    · rename_i ds e1
      exact ⟨ρ, T, ds, cv, R, e1, fun J ks hJ c' R' rr => for_core c' hJ R' (post_backG rr h)⟩
    · exact h.elim
def mCompG (f : Env → Option (List D)) (wi : Env → Env) (re : Env → Env → Env) (own : List Nat) (a : D → Env → Option Env) (t : M Bool) (e : M O) : M O := fun ρ => match f ρ with
  | some ds => if ds.length ≤ 1000000 then (compL own a t e ds (wipeE (wi ρ) own)).bind fun os ρ2 => .ok (.lst os) (re ρ (backE (wipeE ρ2 own) (wi ρ) own)) else .no
  | none => .no
theorem compG_core {Z : List Nat} {own : List Nat} {f : Env → Option (List D)} {wi : Env → Env} {re : Env → Env → Env} {a : D → Env → Option Env} {t : M Bool} {e : M O} (nd : own.Nodup) (σ : L2.St) (H : Hp) (Q : VK) (w : tM K mg (mCompG f wi re own a t e) σ H Q) : tLc (tIG K mg Z f wi re) (tG K mg (Wip own) a) (tMT K mg t) (tM K mg e) own σ H Q := by
  obtain ⟨ρ, T, o', ρ', cv, R, h, k⟩ := w
  unfold mCompG at h
  split at h
  · rename_i ds e1
    split at h
    · rename_i hl
      obtain ⟨fin, ρ2, e2, h⟩ := Res.bind_eq h
      cases h
      refine ⟨ρ, T, ds, cv, R, e1, fun J ks hJ c' R' rr D hD => ?_⟩
      refine comp_core0 nd (fun _ _ _ _ w => w) (fun _ _ _ w => w) (fun _ _ _ w => w) hl c' hJ R' e2 hD fun H' c2 R2 => ?_
      obtain ⟨c3, R3⟩ := rr σ _ H' [.ov (.ref D) (.lst fin)] (Fix.refl _ _) c2 (R2.perm (List.Perm.cons _ (rot _ _ _)))
      exact k _ H' c3 R3
    · cases h
  · cases h
theorem se_compG {Z : List Nat} {tg iter elt : Expr} {ifs : List Expr} {scope : Scope} {own : List (Str × Nat)} {pos : Pos} {f : Env → Option (List D)} {wi : Env → Env} {re : Env → Env → Env} {a : D → Env → Option Env} {t : M Bool} {e : M O} (ok : CxOk X) (hi : SIG X tg iter Z f wi re) (bo : BlkOk X.N X.env.scope scope own)
    (hg : ∀ (s : Shared) (H : Hp) (C : Addr) (cl : List (Str × Addr)) (fp : List Addr), SG (X.blk s H scope (compEnvC scope cl C X.env) fp) (Wip (own2 own)) tg a) (ht : ∀ (s : Shared) (H : Hp) (C : Addr) (cl : List (Str × Addr)) (fp : List Addr), SETs (X.blk s H scope (compEnvC scope cl C X.env) fp) ifs t)
    (he : ∀ (s : Shared) (H : Hp) (C : Addr) (cl : List (Str × Addr)) (fp : List Addr), SE (X.blk s H scope (compEnvC scope cl C X.env) fp) elt e) (nd : (own2 own).Nodup := by decide) (hs : ∀ x, foldedSetIterable iter X.env x = pure x := by intro _; rfl) :
    SE X (.ListComp elt [⟨tg, iter, ifs, 0⟩] scope pos) (mCompG f wi re (own2 own) a t e) :=
  PE.imp (pe_lc (wi := tIG X.K X.mg Z f wi re) (g := tG X.K X.mg (Wip (own2 own)) a) (tt := tMT X.K X.mg t) (te := tM X.K X.mg e) ok.calm ok.nd hi bo hg ht he hs) (compG_core nd)
theorem ss_setLcGO (i : Nat) {Z P : List Nat} {y : Str} {py : Pos} {tg iter elt : Expr} {ifs : List Expr} {scope : Scope} {own : List (Str × Nat)} {pos spos : Pos} {f : Env → Option (List D)} {wi : Env → Env} {re : Env → Env → Env} {a : D → Env → Option Env} {t : M Bool} {e : M O} (ok : CxOk X) (hy : X.N[i]? = some y) (hyl : X.env.scope.names.lookup y = some .local)
    (hsw : swapsWith (.ListComp elt [⟨tg, iter, ifs, 0⟩] scope pos) (some (.Name y py)) spos.line X.env = pure true) (hi : SIG X tg iter Z f wi re) (bo : BlkOk X.N X.env.scope scope own)
    (hg : ∀ (s : Shared) (H : Hp) (C : Addr) (cl : List (Str × Addr)) (fp : List Addr), SG (X.blk s H scope (compEnvC scope cl C X.env) fp) (Wip (own2 own)) tg a) (ht : ∀ (s : Shared) (H : Hp) (C : Addr) (cl : List (Str × Addr)) (fp : List Addr), SETs (X.blk s H scope (compEnvC scope cl C X.env) fp) ifs t)
    (he : ∀ (s : Shared) (H : Hp) (C : Addr) (cl : List (Str × Addr)) (fp : List Addr), SE (X.blk s H scope (compEnvC scope cl C X.env) fp) elt e) (hP : i ∉ P := by decide) (nd : (own2 own).Nodup := by decide) (hs : ∀ x, foldedSetIterable iter X.env x = pure x := by intro _; rfl) :
    SS X P (.Assign [.Name y py] (.ListComp elt [⟨tg, iter, ifs, 0⟩] scope pos) spos) (mSetO i (mCompG f wi re (own2 own) a t e)) :=
  PS.imp (ps_setLc (wi := tIG X.K X.mg Z f wi re) (g := tG X.K X.mg (Wip (own2 own)) a) (tt := tMT X.K X.mg t) (te := tM X.K X.mg e) ok.calm ok.nd hy hyl hsw hi bo hg ht he hs) fun D σ H w => by
    obtain ⟨ρ, T, c, R, h⟩ := tS_iff.mp w
    unfold mSetO at h
    cases e1 : mCompG f wi re (own2 own) a t e ρ with
    | ok o ρ1 =>
      rw [e1] at h
      exact compG_core nd σ H _ ⟨ρ, T, o, ρ1, c, R, e1, fun v H' c' R' => h _ H' (Fix.set hP) (c'.set i v o) (Rep.store c' R')⟩
    | exc x ρ1 => rw [e1] at h; exact h.elim
    | no => rw [e1] at h; exact h.elim
theorem ss_setLcGP (i : Nat) {Z P : List Nat} {y : Str} {py : Pos} {tg iter elt : Expr} {ifs : List Expr} {scope : Scope} {own : List (Str × Nat)} {pos spos : Pos} {f : Env → Option (List D)} {wi : Env → Env} {re : Env → Env → Env} {a : D → Env → Option Env} {t : M Bool} {e : M O} (ok : CxOk X) (hy : X.N[i]? = some y) (hyl : X.env.scope.names.lookup y = some .local)
    (hsw : swapsWith (.ListComp elt [⟨tg, iter, ifs, 0⟩] scope pos) (some (.Name y py)) spos.line X.env = pure true) (hi : SIG X tg iter Z f wi re) (bo : BlkOk X.N X.env.scope scope own)
    (hg : ∀ (s : Shared) (H : Hp) (C : Addr) (cl : List (Str × Addr)) (fp : List Addr), SG (X.blk s H scope (compEnvC scope cl C X.env) fp) (Wip (own2 own)) tg a) (ht : ∀ (s : Shared) (H : Hp) (C : Addr) (cl : List (Str × Addr)) (fp : List Addr), SETs (X.blk s H scope (compEnvC scope cl C X.env) fp) ifs t)
    (he : ∀ (s : Shared) (H : Hp) (C : Addr) (cl : List (Str × Addr)) (fp : List Addr), SE (X.blk s H scope (compEnvC scope cl C X.env) fp) elt e) (hP : i ∉ P := by decide) (nd : (own2 own).Nodup := by decide) (hs : ∀ x, foldedSetIterable iter X.env x = pure x := by intro _; rfl) :
    SS X P (.Assign [.Name y py] (.ListComp elt [⟨tg, iter, ifs, 0⟩] scope pos) spos) (mSetP i (mCompG f wi re (own2 own) a t e)) :=
  PS.imp (ps_setLc (wi := tIG X.K X.mg Z f wi re) (g := tG X.K X.mg (Wip (own2 own)) a) (tt := tMT X.K X.mg t) (te := tM X.K X.mg e) ok.calm ok.nd hy hyl hsw hi bo hg ht he hs) fun D σ H w => by
    obtain ⟨ρ, T, c, R, h⟩ := tS_iff.mp w
    unfold mSetP at h
    cases e1 : mCompG f wi re (own2 own) a t e ρ with
    | ok o ρ1 =>
      rw [e1] at h
      exact compG_core nd σ H _ ⟨ρ, T, o, ρ1, c, R, e1, fun v H' c' R' => h _ H' (Fix.set hP) (c'.set i v _) (Rep.store c' R'.frz)⟩
    | exc x ρ1 => rw [e1] at h; exact h.elim
    | no => rw [e1] at h; exact h.elim
/-! zip of two own names -/
def zipNN (i j : Nat) (ρ : Env) : Option (List D) := match ρ[i]?, ρ[j]? with
  | some (some a), some (some b) => (match a.sh, b.sh with
    | some (.lst xs), some (.lst ys) => some (zipL xs ys)
    | _, _ => none)
  | _, _ => none
def wiNN (i j : Nat) (ρ : Env) : Env := (ρ.set i none).set j none
def reNN (i j : Nat) (ρ ρ' : Env) : Env := match ρ[i]?, ρ[j]? with
  | some (some a), some (some b) => (ρ'.set j (some b)).set i (some a)
  | _, _ => ρ'
theorem si_zipNN (i j : Nat) {x y : Str} {p p1 p2 pos tp : Pos} {es : List Expr} {kk : Nat} (hij : (i == j) = false) (hg : Gl X "zip") (hm : X.mg "zip" = none)
    (hN : X.N[i]? = some x := by rfl) (hv : Vis X.env.scope x := by first | exact Or.inl rfl | exact Or.inr (Or.inl rfl) | exact Or.inr (Or.inr rfl)) (hd : (x == ("__debug__" : Str)) = false := by decide) (hcd : (x == ("__classdict__" : Str)) = false := by decide)
    (hN2 : X.N[j]? = some y := by rfl) (hv2 : Vis X.env.scope y := by first | exact Or.inl rfl | exact Or.inr (Or.inl rfl) | exact Or.inr (Or.inr rfl)) (hd2 : (y == ("__debug__" : Str)) = false := by decide) (hcd2 : (y == ("__classdict__" : Str)) = false := by decide)
    (hs : starEach [.Name x p1, .Name y p2] X.env = (false, eval (.Name x p1) X.env) :: starEach [.Name y p2] X.env := by rfl) (hs2 : starEach [.Name y p2] X.env = (false, eval (.Name y p2) X.env) :: starEach [] X.env := by rfl)
    (hpl : (backTo pos (starEach [.Name y p2] X.env)).any (·.1) = false := by rfl) :
    SIG X (.Tuple es kk tp) (.Call (.Name "zip" p) [.Name x p1, .Name y p2] [] pos) [i, j] (zipNN i j) (wiNN i j) (reNN i j) :=
  PI.imp (pi_zip hg hm (pa_cons (pv i hN hv hd hcd) (pa_cons (pv j hN2 hv2 hd2 hcd2) pa_nil hs2) hs) hs hpl) fun σ H R w => by
    obtain ⟨ρ, T, ds, cv, Rp, e1, k⟩ := w
    have hne : i ≠ j := by intro z; rw [z] at hij; simp at hij
    unfold zipNN at e1
    split at e1
    · rename_i a b ea eb
      split at e1
      · rename_i xs ys sa sb
        cases e1
        obtain ⟨v, hv⟩ := cv.ex i a ea
        obtain ⟨w, hw⟩ := cv.ex j b eb
        have eb' : (ρ.set i none)[j]? = some (some b) := by rw [List.getElem?_set_ne hne]; exact eb
        have pm : (pairs σ ρ).Perm (.ov v a :: .ov w b :: pairs σ (wiNN i j ρ)) := (pairs_take hv ea).trans (List.Perm.cons _ (pairs_take hw eb'))
        have R1 : Rep X.K X.mg H ([.ov v a, .ov w b] ++ (pairs σ (wiNN i j ρ) ++ T)) [] := Rp.perm (pm.append_right T)
        have R5 := ((Rep.lend R1).perm (.swap _ _ _)).lend.perm (.swap _ _ _)
        obtain ⟨pa, vs, ev1, hp1, _, _⟩ := R5.shL (x := v) (o := a) (by simp) sa
        obtain ⟨pb, ws, ev2, hp2, _, _⟩ := R5.shL (x := w) (o := b) (by simp) sb
        subst ev1
        subst ev2
        refine ⟨_, hv, _, hw, pa, pb, vs, ws, rfl, .inl hp1, .inl hp2, ?_⟩
        have hi : i < ρ.length := (List.getElem?_eq_some_iff.mp ea).1
        have hj : j < ρ.length := (List.getElem?_eq_some_iff.mp eb).1
        refine k _ [.ov (.ref pa) a, .ov (.ref pb) b] (its_zipS (.refl _) sa sb) ((cv.setn i).setn j) R1 fun σ' ρ' H' M f c' R' => ?_
        have er : reNN i j ρ ρ' = (ρ'.set j (some b)).set i (some a) := by unfold reNN; rw [ea, eb]
        rw [er]
        have hv' : σ'[i]? = some (some (.ref pa)) := (f.2 i (by simp)).trans hv
        have hw' : σ'[j]? = some (some (.ref pb)) := (f.2 j (by simp)).trans hw
        have c1 := c'.put hw' b
        refine ⟨c1.put hv' a, ?_⟩
        have hl' : ρ'.length = ρ.length := by rw [← c'.len, f.1, cv.len]
        have S1 := Rep.slotDrop (M := M) (T := [.ov (.ref pa) a, .ov (.ref pb) b] ++ T) c' j R'
        have q1 : (M ++ (pairs σ' (ρ'.set j none) ++ ([.ov (.ref pa) a, .ov (.ref pb) b] ++ T)) : List Item).Perm (.ov (.ref pb) b :: (M ++ (pairs σ' (ρ'.set j none) ++ (.ov (.ref pa) a :: T)))) := by
          refine List.Perm.trans (List.Perm.append_left _ (List.Perm.append_left _ (List.Perm.swap _ _ _))) ?_
          exact (List.Perm.append_left _ List.perm_middle).trans List.perm_middle
        have S2 := S1.perm q1
        have S3 : Rep X.K X.mg H' (M ++ (pairs σ' (ρ'.set j (some b)) ++ (.ov (.ref pa) a :: T))) [] := S2.perm (List.perm_middle.symm.trans (List.Perm.append_left _ ((pairs_back hw' (by omega)).append_right _)))
        have S4 := Rep.slotDrop (M := M) c1 i S3
        have q2 : (M ++ (pairs σ' ((ρ'.set j (some b)).set i none) ++ (.ov (.ref pa) a :: T)) : List Item).Perm (.ov (.ref pa) a :: (M ++ (pairs σ' ((ρ'.set j (some b)).set i none) ++ T))) := (List.Perm.append_left _ List.perm_middle).trans List.perm_middle
        exact (S4.perm q2).perm (List.perm_middle.symm.trans (List.Perm.append_left _ ((pairs_back hv' (by rw [List.length_set]; omega)).append_right _)))
      · cases e1
    · cases e1
/-! one own name -/
def lstN (i : Nat) (ρ : Env) : Option (List D) := match ρ[i]? with
  | some (some a) => (match a.sh with
    | some (.lst xs) => some xs
    | _ => none)
  | _ => none
def wiN (i : Nat) (ρ : Env) : Env := ρ.set i none
def reN (i : Nat) (ρ ρ' : Env) : Env := match ρ[i]? with
  | some (some a) => ρ'.set i (some a)
  | _ => ρ'
theorem its_listS {a : Addr} {o : O} {ds : List D} (e : o.sh = some (.lst ds)) : Its K mg (Itl K a) [.ov (.ref a) o] ds := by
  intro L H R
  obtain ⟨p, vs, e1, hp, lp, R1⟩ := (Rep.lend R).shL (List.mem_cons_self ..) e
  cases e1
  refine ⟨fun i d hd => ?_, ⟨vs, .inl hp, by omega⟩⟩
  have hi : i < ds.length := (List.getElem?_eq_some_iff.mp hd).1
  have hv : vs[i]? = some (vs[i]'(by omega)) := by simp
  refine ⟨⟨vs, _, .inl hp, hv⟩, fun x H' y => ?_⟩
  obtain ⟨e2, y⟩ := y
  subst e2
  exact ⟨Same.refl _, (R1.nob.nth (y vs (.inl hp)) hd).keep⟩
theorem si_lstN (i : Nat) {tg : Expr} {x : Str} {p : Pos} (hN : X.N[i]? = some x := by rfl) (hv : Vis X.env.scope x := by first | exact Or.inl rfl | exact Or.inr (Or.inl rfl) | exact Or.inr (Or.inr rfl)) (hd : (x == ("__debug__" : Str)) = false := by decide) (hcd : (x == ("__classdict__" : Str)) = false := by decide) :
    SIG X tg (.Name x p) [i] (lstN i) (wiN i) (reN i) :=
  PI.imp (pi_list (pv i hN hv hd hcd)) fun σ H R w => by
    obtain ⟨ρ, T, ds, cv, Rp, e1, k⟩ := w
    unfold lstN at e1
    split at e1
    · rename_i a ea
      split at e1
      · rename_i xs sa
        cases e1
        obtain ⟨v, hv⟩ := cv.ex i a ea
        have R1 : Rep X.K X.mg H ([.ov v a] ++ (pairs σ (wiN i ρ) ++ T)) [] := Rp.perm ((pairs_take hv ea).append_right T)
        obtain ⟨pa, vs, ev1, hp1, _, _⟩ := (Rep.lend R1).shL (x := v) (o := a) (by simp) sa
        subst ev1
        have hi : i < ρ.length := (List.getElem?_eq_some_iff.mp ea).1
        refine ⟨_, hv, pa, rfl, ⟨vs, .inl hp1⟩, k _ [.ov (.ref pa) a] (its_listS sa) (cv.setn i) R1 fun σ' ρ' H' M f c' R' => ?_⟩
        have er : reN i ρ ρ' = ρ'.set i (some a) := by unfold reN; rw [ea]
        rw [er]
        have hv' : σ'[i]? = some (some (.ref pa)) := (f.2 i (by simp)).trans hv
        have hl' : ρ'.length = ρ.length := by rw [← c'.len, f.1, cv.len]
        refine ⟨c'.put hv' a, ?_⟩
        have S1 := Rep.slotDrop (M := M) (T := [.ov (.ref pa) a] ++ T) c' i R'
        have q2 : (M ++ (pairs σ' (ρ'.set i none) ++ ([.ov (.ref pa) a] ++ T)) : List Item).Perm (.ov (.ref pa) a :: (M ++ (pairs σ' (ρ'.set i none) ++ T))) := (List.Perm.append_left _ List.perm_middle).trans List.perm_middle
        exact (S1.perm q2).perm (List.perm_middle.symm.trans (List.Perm.append_left _ ((pairs_back hv' (by omega)).append_right _)))
      · cases e1
    · cases e1
end
theorem lstN_of {i : Nat} {ρ : Env} {a : O} {xs : List D} (ha : ρ[i]? = some (some a)) (sa : a.sh = some (.lst xs)) : lstN i ρ = some xs := by
  unfold lstN
  rw [ha]
  show (match a.sh with
    | some (.lst xs) => some xs
    | _ => none) = _
  rw [sa]
theorem reN_of {i : Nat} {ρ ρ' : Env} {a : O} (ha : ρ[i]? = some (some a)) : reN i ρ ρ' = ρ'.set i (some a) := by unfold reN; rw [ha]
theorem zipNN_of {i j : Nat} {ρ : Env} {a b : O} {xs ys : List D} (ha : ρ[i]? = some (some a)) (hb : ρ[j]? = some (some b)) (sa : a.sh = some (.lst xs)) (sb : b.sh = some (.lst ys)) : zipNN i j ρ = some (zipL xs ys) := by
  unfold zipNN
  rw [ha, hb]
  show (match a.sh, b.sh with
    | some (.lst xs), some (.lst ys) => some (zipL xs ys)
    | _, _ => none) = _
  rw [sa, sb]
theorem reNN_of {i j : Nat} {ρ ρ' : Env} {a b : O} (ha : ρ[i]? = some (some a)) (hb : ρ[j]? = some (some b)) : reNN i j ρ ρ' = (ρ'.set j (some b)).set i (some a) := by unfold reNN; rw [ha, hb]
theorem e_mCompG {f : Env → Option (List D)} {wi : Env → Env} {re : Env → Env → Env} {own : List Nat} {a : D → Env → Option Env} {t : M Bool} {e : M O} {ρ ρ2 : Env} {ds : List D} {os : List O} (hf : f ρ = some ds) (hl : ds.length ≤ 1000000) (hc : compL own a t e ds (wipeE (wi ρ) own) = .ok os ρ2) :
    mCompG f wi re own a t e ρ = .ok (.lst os) (re ρ (backE (wipeE ρ2 own) (wi ρ) own)) := by
  unfold mCompG
  rw [hf]
  show (if ds.length ≤ 1000000 then (compL own a t e ds (wipeE (wi ρ) own)).bind fun os ρ2 => Res.ok (O.lst os) (re ρ (backE (wipeE ρ2 own) (wi ρ) own)) else .no) = _
  rw [if_pos hl, hc]; rfl
/-- a comprehension whose turns change the environment -/
theorem compL_inv {own : List Nat} {a : D → Env → Option Env} {e : M O} (I : Nat → Env → Prop) (P : Nat → O → Prop) : ∀ {ds : List D} {ρ : Env}, I 0 ρ →
    (∀ k d ρ, ds[k]? = some d → I k ρ → ∃ ρ1 o ρ2, a d ρ = some ρ1 ∧ e ρ1 = .ok o ρ2 ∧ P k o ∧ I (k + 1) (wipeE ρ2 own)) →
    ∃ os ρ', compL own a mTrue e ds ρ = .ok os ρ' ∧ os.length = ds.length ∧ (∀ k o, os[k]? = some o → P k o) ∧ I ds.length ρ' := by
  intro ds
  induction ds generalizing I P with
  | nil => intro ρ h0 _; exact ⟨[], ρ, rfl, rfl, fun k o h => by simp at h, h0⟩
  | cons d ds ih =>
    intro ρ h0 h
    obtain ⟨ρ1, o, ρ2, e1, e2, p, i1⟩ := h 0 d ρ rfl h0
    obtain ⟨os, ρ', e3, hl, hp, i2⟩ := ih (fun k => I (k + 1)) (fun k => P (k + 1)) i1 fun k d ρ hd hI => h (k + 1) d ρ (by simpa using hd) hI
    refine ⟨o :: os, ρ', ?_, by simp [hl], fun k o' ho => ?_, by simpa using i2⟩
    · unfold compL
      rw [e1]
      show (mTrue ρ1).bind _ = _
      rw [show mTrue ρ1 = .ok true ρ1 from rfl, Res.bind_ok, if_pos rfl, e2, Res.bind_ok, e3, Res.bind_ok]
    · cases k with
      | zero => simp at ho; subst ho; exact p
      | succ k => exact hp k o' (by simpa using ho)
end FB

/-! Texts of letters. -/
namespace FB
open PySem PySem.Spec L2 TL
open PyProof.Rows hiding St
@[simp] theorem eqv_str (a b : Str) : D.eqv (.str a) (.str b) = decide (a = b) := by
  unfold D.eqv D.pd
  simp only [PyData.eqv]
  by_cases h : a = b
  · subst h; simp
  · simp [h]
@[simp] theorem eqO_str (a b : Str) : eqO (.val (.str a)) (.val (.str b)) = some (.val (.bl (decide (a = b)))) := by rw [e_eqO (by simp) (by simp)]; simp
@[simp] theorem neO_str (a b : Str) : neO (.val (.str a)) (.val (.str b)) = some (.val (.bl (!decide (a = b)))) := by rw [e_neO (by simp) (by simp)]; simp
@[simp] theorem flat_str (a : Str) : D.flat (.str a) = true := (rfl)
@[simp] theorem flat_int (a : Int) : D.flat (.int a) = true := (rfl)
@[simp] theorem flat_non : D.flat .non = true := (rfl)
theorem Str_ext {a b : Str} (h : a.cps.toList = b.cps.toList) : a = b := by
  cases a; cases b
  congr
  exact Array.toList_inj.mp h
theorem inD_strs (x : Str) (ys : List Str) : inD (.str x) (.lst (ys.map D.str)) = some (ys.any fun y => decide (y = x)) := by
  have h : D.flat (.str x) = true ∧ (ys.map D.str).all D.flat = true := ⟨rfl, by simp⟩
  show (if D.flat (.str x) = true ∧ (ys.map D.str).all D.flat = true then some ((ys.map D.str).any fun e => e.eqv (.str x)) else _) = _
  rw [if_pos h, List.any_map]
  refine congrArg some (congrArg (fun p => ys.any p) ?_)
  funext y
  exact eqv_str y x
/-- a text of letters, by their places -/
def SL (l : List Nat) : Str := ⟨(l.map (97 + ·)).toArray⟩
theorem SL_tl (l : List Nat) : (SL l).cps.toList = l.map (97 + ·) := rfl
theorem SL_len (l : List Nat) : (SL l).length = l.length := by
  show (SL l).cps.size = _
  unfold SL; simp
theorem SL_inj {l m : List Nat} (h : SL l = SL m) : l = m := by
  have : (SL l).cps.toList = (SL m).cps.toList := by rw [h]
  rw [SL_tl, SL_tl] at this
  exact (List.map_inj_right (fun a b h => by omega)).mp this
theorem SL_app (l m : List Nat) : SL l ++ SL m = SL (l ++ m) := by
  apply Str_ext
  have := tl_append (SL l) (SL m)
  rw [show (SL l ++ SL m).cps.toList = tl (SL l ++ SL m) from rfl, this, SL_tl]
  show (SL l).cps.toList ++ (SL m).cps.toList = _
  rw [SL_tl, SL_tl, List.map_append]
theorem SL_rep (l : List Nat) (n : Nat) : repS (SL l) n = SL (List.replicate n l).flatten := by
  apply Str_ext
  show (List.replicate n (SL l).cps.toList).flatten = _
  rw [SL_tl, SL_tl]
  induction n with
  | zero => rfl
  | succ n ih => rw [List.replicate_succ, List.replicate_succ, List.flatten_cons, List.flatten_cons, List.map_append, ih]
theorem joinL0 : ∀ ps : List (List Nat), joinL [] ps = ps.flatten
  | [] => rfl
  | [p] => by show p = _; simp
  | p :: q :: r => by
    show p ++ ([] ++ joinL [] (q :: r)) = _
    rw [joinL0 (q :: r), List.nil_append]; simp
theorem join_SL (ls : List (List Nat)) : Txt.join "" (ls.map SL) = SL ls.flatten := by
  apply Str_ext
  rw [join_eq, show (Str.join "" (ls.map SL)).cps.toList = tl (Str.join "" (ls.map SL)) from rfl, tl_join]
  rw [show tl ("" : Str) = [] from rfl, joinL0, SL_tl]
  induction ls with
  | nil => rfl
  | cons l ls ih => rw [List.map_cons, List.map_cons, List.flatten_cons, List.flatten_cons, List.map_append, ih]; rfl
theorem joinD_SL (ls : List (List Nat)) (h : (ls.map List.length).sum ≤ 1000000) : joinD "" (.lst ((ls.map SL).map D.str)) = some (.str (SL ls.flatten)) := by
  rw [joinD_strs _ _ ?_, join_SL]
  have e1 : (("" : Str)).length = 0 := rfl
  rw [e1, Nat.mul_zero, Nat.add_zero, List.map_map]
  rw [show (fun x : Str => x.length) ∘ SL = List.length from by funext l; exact SL_len l]
  exact h
theorem letters_tl : (("abcdefghijklmnopqrstuvwxyz" : Str)).cps.toList = (List.range 26).map (97 + ·) := by decide +kernel
theorem letter_at (i : Nat) (h : i < 26) : ixO (.val (.str "abcdefghijklmnopqrstuvwxyz")) (.val (.int (i : Int))) = some (.val (.str (SL [i]))) := by
  have hl : (("abcdefghijklmnopqrstuvwxyz" : Str)).length ≤ 1000000 := by decide +kernel
  show (if (("abcdefghijklmnopqrstuvwxyz" : Str)).length ≤ 1000000 then (atI (("abcdefghijklmnopqrstuvwxyz" : Str)).cps.toList (i : Int)).map fun c => O.val (.str ⟨#[c]⟩) else none) = _
  rw [if_pos hl, letters_tl, atN, List.getElem?_map, List.getElem?_range h]; rfl
theorem mulD_SL (l : List Nat) (n : Nat) (h1 : n < 1000000) (h : l.length * n ≤ 1000000) : mulD (.str (SL l)) (.int (n : Int)) = some (.str (SL (List.replicate n l).flatten)) := by
  show (if (n : Int) < 1000000 ∧ -1000000 < (n : Int) ∧ (SL l).length * (n : Int).toNat ≤ 1000000 then some (D.str (repS (SL l) (n : Int).toNat)) else none) = _
  rw [if_pos ⟨by omega, by omega, by rw [SL_len]; simpa using h⟩, Int.toNat_natCast, SL_rep]
theorem addD_SL (l m : List Nat) (h : l.length + m.length ≤ 1000000) : addD (.str (SL l)) (.str (SL m)) = some (.str (SL (l ++ m))) := by
  show (if (SL l).length + (SL m).length ≤ 1000000 then some (D.str (SL l ++ SL m)) else none) = _
  rw [SL_len, SL_len, if_pos h, SL_app]
theorem mulD_lst (xs : List D) (n : Nat) (h1 : n < 1000000) (h : xs.length * n ≤ 1000000) : mulD (.lst xs) (.int (n : Int)) = some (.lst (List.replicate n xs).flatten) := by
  show (if (n : Int) < 1000000 ∧ -1000000 < (n : Int) ∧ xs.length * (n : Int).toNat ≤ 1000000 then some (D.lst (List.replicate (n : Int).toNat xs).flatten) else none) = _
  rw [if_pos ⟨by omega, by omega, by simpa using h⟩, Int.toNat_natCast]
/-- all items alike in kind -/
theorem list_of {α : Type} (f : α → O) (P : α → Prop) : ∀ {os : List O}, (∀ (k : Nat) (o : O), os[k]? = some o → ∃ b, P b ∧ o = f b) → ∃ bs : List α, os = bs.map f ∧ ∀ b ∈ bs, P b
  | [], _ => ⟨[], rfl, by simp⟩
  | o :: os, h => by
    obtain ⟨b, hb, e⟩ := h 0 o rfl
    obtain ⟨bs, e2, hp⟩ := list_of f P (os := os) fun k o' ho => h (k + 1) o' (by simpa using ho)
    refine ⟨b :: bs, by rw [e, e2]; rfl, fun c hc => ?_⟩
    rcases List.mem_cons.mp hc with q | q
    · rw [q]; exact hb
    · exact hp c q
/-- a right name -/
def NameOk (l : List Nat) : Prop := 1 ≤ l.length ∧ l.length ≤ 8 ∧ ∀ c ∈ l, c < 26
end FB

/-! Exceptions: statements and calls that may raise. -/
namespace FB
open PySem PySem.Spec L2
open PyProof.Rows hiding St

def Res.nr {α : Type} : Res α → Res α
  | .ok a ρ => .ok a ρ
  | _ => .no
@[simp] theorem Res.nr_ok {α : Type} (a : α) (ρ : Env) : (Res.ok a ρ).nr = .ok a ρ := rfl
@[simp] theorem Res.nr_no {α : Type} : (Res.no : Res α).nr = .no := rfl
@[simp] theorem Res.nr_exc {α : Type} (x : Exn) (ρ : Env) : (Res.exc x ρ : Res α).nr = .no := rfl
@[simp] theorem Res.bind_exc {α β : Type} (x : Exn) (ρ : Env) (f : α → Env → Res β) : (Res.exc x ρ : Res α).bind f = .exc x ρ := rfl
/-- raises nothing -/
def nx {α : Type} (m : M α) : M α := fun ρ => (m ρ).nr
@[simp] theorem nx_ap {α : Type} (m : M α) (ρ : Env) : nx m ρ = (m ρ).nr := (rfl)

section
variable {X : Cx} {K : PySem.W.Frag} {mg : Str → Option Value} {P : List Nat} {W : WX}
/-- the items of an exception that is held -/
def ExI (x : Exn) (d : Option Addr) (I : List Item) : Prop := (x.ds = [] ∧ d = none ∧ I = []) ∨ ∃ dd vs, x.ds ≠ [] ∧ d = some dd ∧ vs.length = x.ds.length ∧ x.ns.length = x.ds.length ∧ I = .raw dd (.xd (x.ns.zip vs)) :: zipI vs (x.ds.map O.val)
theorem ExI.nd {x : Exn} {d : Option Addr} {I : List Item} (h : ExI x d I) (e : x.ds = []) : d = none := by
  rcases h with h | ⟨_, _, h, _⟩
  · exact h.2.1
  · exact absurd e h
def ExP (K : PySem.W.Frag) (mg : Str → Option Value) (P : List Nat) (T : List Item) (W : WX) (σ : L2.St) (x : Exn) (ρ' : Env) : Prop :=
  ∀ cls d I σ' H', Fix P σ σ' → Cov σ' ρ' → mg x.c = some cls → ExI x d I → Rep K mg H' (I ++ (pairs σ' ρ' ++ T)) [] → W cls d σ' H'
def PostX (K : PySem.W.Frag) (mg : Str → Option Value) (P : List Nat) (T : List Item) (W : WX) (D : Ends) (σ : L2.St) : Res Fl → Prop
  | .exc x ρ' => ExP K mg P T W σ x ρ'
  | .ok f ρ' => Post K mg P T D σ (.ok f ρ')
  | .no => False
def tSX (K : PySem.W.Frag) (mg : Str → Option Value) (P : List Nat) (W : WX) (m : M Fl) : TS := fun D σ H => ∃ ρ T, Cov σ ρ ∧ Rep K mg H (pairs σ ρ ++ T) [] ∧ PostX K mg P T W D σ (m ρ)
def SSX (X : Cx) (P : List Nat) (W : WX) (st : Stmt) (m : M Fl) : Prop := PS X st (tSX X.K X.mg P W m)
def SSsX (X : Cx) (P : List Nat) (W : WX) (st : List Stmt) (m : M Fl) : Prop := PSs X st (tSX X.K X.mg P W m)
theorem postX_nr {T : List Item} {D : Ends} {σ : L2.St} {r : Res Fl} (h : PostX K mg P T W D σ r.nr) : Post K mg P T D σ r := by
  cases r with
  | ok f ρ' => exact h
  | exc x ρ' => exact h.elim
  | no => exact h.elim
theorem ssX_of {st : Stmt} {m : M Fl} (h : SS X P st m) : SSX X P W st (nx m) := PS.imp h fun D σ H w => by
  obtain ⟨ρ, T, c, R, q⟩ := w
  exact tS_iff.mpr ⟨ρ, T, c, R, postX_nr q⟩
theorem sssX_of {st : List Stmt} {m : M Fl} (h : SSs X P st m) : SSsX X P W st (nx m) := PSs.imp h fun D σ H w => by
  obtain ⟨ρ, T, c, R, q⟩ := w
  exact tS_iff.mpr ⟨ρ, T, c, R, postX_nr q⟩
/-- where no exception is wished for -/
theorem ss_ofX {st : Stmt} {m : M Fl} (h : SSX X P (fun _ _ _ _ => False) st m) : SS X P st (nx m) := PS.imp h fun D σ H w => by
  obtain ⟨ρ, T, c, R, q⟩ := tS_iff.mp w
  refine ⟨ρ, T, c, R, ?_⟩
  have q : Post X.K X.mg P T D σ (m ρ).nr := q
  cases e : m ρ with
  | ok f ρ' => rw [e] at q; exact q
  | exc x ρ' => rw [e] at q; exact q.elim
  | no => rw [e] at q; exact q.elim
theorem PostX.fix {T : List Item} {D : Ends} {σ σ1 : L2.St} (f : Fix P σ σ1) {r : Res Fl} (h : PostX K mg P T W D σ r) : PostX K mg P T W D σ1 r := by
  cases r with
  | ok fl ρ' => exact Post.fix (r := .ok fl ρ') f h
  | exc x ρ' => exact fun cls d I σ' H' g => h cls d I σ' H' (f.trans g)
  | no => exact h
theorem PostX.nx {T : List Item} {D D' : Ends} {σ : L2.St} {r : Res Fl} {g : Env → Res Fl} (h : PostX K mg P T W D σ (r.bind fun f ρ1 => match f with | .nx => g ρ1 | f => .ok f ρ1)) (e1 : D'.rt = D.rt) (e2 : D'.bk = D.bk) (e3 : D'.ct = D.ct)
    (q : ∀ ρ1 σ' H', Fix P σ σ' → Cov σ' ρ1 → Rep K mg H' (pairs σ' ρ1 ++ T) [] → PostX K mg P T W D σ (g ρ1) → D'.nx σ' H') : PostX K mg P T W D' σ r := by
  cases r with
  | ok fl ρ' =>
    cases fl with
    | nx => exact fun σ' H' f c R => q ρ' σ' H' f c R h
    | brk =>
      have h : Post K mg P T D σ (.ok .brk ρ') := h
      exact fun σ' H' f c R => by rw [e2]; exact h σ' H' f c R
    | ct =>
      have h : Post K mg P T D σ (.ok .ct ρ') := h
      exact fun σ' H' f c R => by rw [e3]; exact h σ' H' f c R
    | ret o =>
      have h : Post K mg P T D σ (.ok (.ret o) ρ') := h
      exact fun v σ' H' f c R => by rw [e1]; exact h v σ' H' f c R
  | exc x ρ' => exact h
  | no => exact h
theorem sssX_nil : SSsX X P W [] mSkip := PSs.imp pss_nil fun D σ H w => by
  obtain ⟨ρ, T, c, R, h⟩ := w
  have h : Post X.K X.mg P T D σ (.ok .nx ρ) := h
  exact h σ H (Fix.refl _ _) c R
theorem sssX_one {st : Stmt} {m : M Fl} (h : SSX X P W st m) : SSsX X P W [st] m := pss_one h
theorem sssX_cons {st : Stmt} {rest : List Stmt} {a b : M Fl} (h1 : SSX X P W st a) (h2 : SSsX X P W rest b) : SSsX X P W (st :: rest) (mSeq a b) := PSs.imp (pss_cons h1 h2) fun D σ H w => by
  obtain ⟨ρ, T, c, R, h⟩ := w
  refine ⟨ρ, T, c, R, PostX.nx (D := D) h rfl rfl rfl fun ρ1 σ' H' f c' R' h' => ?_⟩
  exact ⟨ρ1, T, c', R', h'.fix f⟩
theorem ssX_if {c : Expr} {a b : List Stmt} {pos : Pos} {t : M Bool} {m n : M Fl} (hc : SET X c t) (ha : SSsX X P W a m) (hb : SSsX X P W b n) : SSX X P W (.If c a b pos) (mIf (nx t) m n) := PS.imp (ps_if hc ha hb) fun D σ H w => by
  obtain ⟨ρ, T, cv, R, h⟩ := w
  have h : PostX X.K X.mg P T W D σ ((t ρ).nr.bind fun c ρ1 => if c = true then m ρ1 else n ρ1) := h
  cases e1 : t ρ with
  | ok u ρ1 =>
    rw [e1] at h
    refine ⟨ρ, T, u, ρ1, cv, R, e1, fun H' c' R' => ?_⟩
    cases u with
    | true => rw [if_pos rfl]; exact ⟨ρ1, T, c', R', h⟩
    | false => rw [if_neg Bool.false_ne_true]; exact ⟨ρ1, T, c', R', h⟩
  | exc x ρ1 => rw [e1] at h; exact h.elim
  | no => rw [e1] at h; exact h.elim
theorem PostX.more {ks T : List Item} {D : Ends} {σ : L2.St} {r : Res Fl} (h : PostX K mg P T W D σ r) : PostX K mg P (ks ++ T) W D σ r := by
  cases r with
  | ok fl ρ' => exact Post.more (r := .ok fl ρ') h
  | exc x ρ' =>
    intro cls d I σ' H' f c hm hI R
    refine h cls d I σ' H' f c hm hI ?_
    have R1 : Rep K mg H' (ks ++ (I ++ (pairs σ' ρ' ++ T))) [] := R.perm (((List.Perm.append_left I (rot _ _ _))).trans (rot _ _ _))
    exact R1.drops
  | no => exact h
/-- the turns of a loop whose body may raise -/
theorem for_coreX {J : It} {ks T : List Item} {ds : List D} {a : D → Env → Option Env} {b : M Fl} {D : Ends} {σ : L2.St} {H : Hp} {ρ : Env} (c : Cov σ ρ) (hJ : Its K mg J ks ds) (R : Rep K mg H (ks ++ (pairs σ ρ ++ T)) []) (h : PostX K mg P (ks ++ T) W D σ (forL a b ds ρ)) :
    ∃ V : Nat → Nat → L2.St → Hp → Prop, (∃ m, V 0 m σ H) ∧ ∀ i m σ H, V i m σ H →
      (J.stop i H ∧ D.nx σ H) ∨ (J.go i H ∧ ∃ N : L2.St → Hp → Prop, (∀ σ' H', N σ' H' → ∃ m', m' < m ∧ V (i + 1) m' σ' H') ∧ ∀ x H', J.yld i H x H' → tG K mg (Fix P) a x σ H' fun σ2 H2 => tSX K mg P W b { D with nx := N, ct := N, bk := D.nx } σ2 H2) := by
  let V : Nat → L2.St → Hp → Prop := fun i σ' H' => ∃ ρ', i ≤ ds.length ∧ Fix P σ σ' ∧ Cov σ' ρ' ∧ Rep K mg H' (ks ++ (pairs σ' ρ' ++ T)) [] ∧ PostX K mg P (ks ++ T) W D σ (forL a b (ds.drop i) ρ')
  refine ⟨fun i n σ' H' => n = ds.length - i ∧ V i σ' H', ⟨ds.length, by simp, ρ, Nat.zero_le _, Fix.refl _ _, c, R, h⟩, ?_⟩
  rintro i n σ1 H1 ⟨rfl, ρ2, hi, f1, c1, R1, h1⟩
  by_cases hlt : i < ds.length
  · have hd : ds[i]? = some ds[i] := by simp [hlt]
    obtain ⟨hgo, hy⟩ := (hJ _ H1 R1).1 i _ hd
    refine .inr ⟨hgo, fun σ' H' => V (i + 1) σ' H', fun σ' H' q => ⟨ds.length - (i + 1), by omega, rfl, q⟩, fun x H2 y => ?_⟩
    obtain ⟨_, R2⟩ := hy x H2 y
    rw [drop_cons hlt] at h1
    have h1 : PostX K mg P (ks ++ T) W D σ (match a ds[i] ρ2 with
      | none => .no
      | some ρ1 => (b ρ1).bind fun f ρ2 => match f with
        | .nx => forL a b (ds.drop (i + 1)) ρ2
        | .ct => forL a b (ds.drop (i + 1)) ρ2
        | .brk => .ok .nx ρ2
        | .ret o => .ok (.ret o) ρ2) := h1
    cases e2 : a ds[i] ρ2 with
    | none => rw [e2] at h1; exact h1.elim
    | some ρ3 =>
      rw [e2] at h1
      refine ⟨ρ2, ks ++ T, ds[i], ρ3, c1, R2.perm ((rot _ _ _).cons _), e2, fun σ3 f3 c3 R3 => ?_⟩
      refine ⟨ρ3, ks ++ T, c3, R3, ?_⟩
      have back : ∀ {H' : Hp} {σ' : L2.St} {ρ' : Env}, Rep K mg H' (pairs σ' ρ' ++ (ks ++ T)) [] → Rep K mg H' (ks ++ (pairs σ' ρ' ++ T)) [] := fun R => R.perm (rot _ _ _)
      have h1 : PostX K mg P (ks ++ T) W D σ ((b ρ3).bind fun f ρ2 => match f with
        | .nx => forL a b (ds.drop (i + 1)) ρ2
        | .ct => forL a b (ds.drop (i + 1)) ρ2
        | .brk => .ok .nx ρ2
        | .ret o => .ok (.ret o) ρ2) := h1
      cases e3 : b ρ3 with
      | exc x ρ4 =>
        rw [e3] at h1
        exact fun cls d I σ' H' f' => h1 cls d I σ' H' (f1.trans (f3.trans f'))
      | no => rw [e3] at h1; exact h1.elim
      | ok fl ρ4 =>
        rw [e3] at h1
        cases fl with
        | nx => exact fun σ' H' f' c' R' => ⟨ρ4, hlt, f1.trans (f3.trans f'), c', back R', h1⟩
        | ct => exact fun σ' H' f' c' R' => ⟨ρ4, hlt, f1.trans (f3.trans f'), c', back R', h1⟩
        | brk =>
          have h1 : Post K mg P (ks ++ T) D σ (.ok .nx ρ4) := h1
          exact fun σ' H' f' c' R' => h1 σ' H' (f1.trans (f3.trans f')) c' R'
        | ret o =>
          have h1 : Post K mg P (ks ++ T) D σ (.ok (.ret o) ρ4) := h1
          exact fun v σ' H' f' c' R' => h1 v σ' H' (f1.trans (f3.trans f')) c' R'
  · have e : i = ds.length := by omega
    subst e
    refine .inl ⟨(hJ _ H1 R1).2, ?_⟩
    rw [List.drop_length] at h1
    have h1 : Post K mg P (ks ++ T) D σ (.ok .nx ρ2) := h1
    exact h1 σ1 H1 f1 c1 (R1.perm (rot _ _ _))
theorem ssX_for {tg iter : Expr} {body : List Stmt} {pos : Pos} {m : M (List D)} {a : D → Env → Option Env} {b : M Fl} (ok : CxOk X) (hp : PassesOwn (model X.prog X.w) X.A X.env X.xe) (hi : SI X tg iter m) (hg : SG X (Fix P) tg a) (hb : SSsX X P W body b)
    (hs : ∀ x, foldedSetIterable iter X.env x = pure x := by intro _; rfl) : SSX X P W (.For tg iter body [] pos) (mFor (nx m) a b) :=
  PS.imp (ps_for hp ok.calm hi hg hb hs) fun D σ H w => by
    obtain ⟨ρ, T, cv, R, h⟩ := w
    have h : PostX X.K X.mg P T W D σ ((m ρ).nr.bind fun ds ρ1 => forL a b ds ρ1) := h
    cases e1 : m ρ with
    | exc x ρ1 => rw [e1] at h; exact h.elim
    | no => rw [e1] at h; exact h.elim
    | ok ds ρ1 =>
      rw [e1] at h
      exact ⟨ρ, T, ds, ρ1, cv, R, e1, fun J ks H' c' hJ R' => for_coreX c' hJ R' (PostX.more h)⟩

/-! ### raise -/
def mRaise (x : Exn) : M Fl := fun ρ => .exc x ρ
theorem ssX_raise {x : Str} {C : Addr} {e : Expr} {pos : Pos} (ok : CxOk X) (tk : Takes X W) (hm : X.mg x = some (.ref C)) (he : PMk X e (fun _ H Q => Q (.ref C) none H)) : SSX X P W (.Raise (some e) none pos) (mRaise ⟨x, [], []⟩) :=
  PS.imp (ps_raise ok.calm tk he) fun D σ H w => by
    obtain ⟨ρ, T, c, R, h⟩ := w
    have h : ExP X.K X.mg P T W σ ⟨x, [], []⟩ ρ := h
    exact h (.ref C) none [] σ H (Fix.refl _ _) c hm (.inl ⟨rfl, rfl, rfl⟩) R

/-! ### expressions that may raise -/
def PostM (K : PySem.W.Frag) (mg : Str → Option Value) (T : List Item) (W : WX) (σ : L2.St) (Q : VK) : Res O → Prop
  | .ok o ρ' => ∀ v H', Cov σ ρ' → Rep K mg H' (.ov v o :: (pairs σ ρ' ++ T)) [] → Q v H'
  | .exc x ρ' => ∀ cls d I H', Cov σ ρ' → mg x.c = some cls → ExI x d I → Rep K mg H' (I ++ (pairs σ ρ' ++ T)) [] → W cls d σ H'
  | .no => False
def tMX (K : PySem.W.Frag) (mg : Str → Option Value) (W : WX) (m : M O) : TE := fun σ H Q => ∃ ρ T, Cov σ ρ ∧ Rep K mg H (pairs σ ρ ++ T) [] ∧ PostM K mg T W σ Q (m ρ)
def SEX (X : Cx) (W : WX) (e : Expr) (m : M O) : Prop := PE X e (tMX X.K X.mg W m)
theorem ssX_expr {e : Expr} {pos : Pos} {m : M O} (h : SEX X W e m) (hs : swapsWith e none pos.line X.env = pure false := by rfl) : SSX X P W (.Expr e pos) (mEx m) := PS.imp (ps_expr h hs) fun D σ H w => by
  obtain ⟨ρ, T, c, R, h⟩ := w
  refine ⟨ρ, T, c, R, ?_⟩
  unfold mEx at h
  cases e1 : m ρ with
  | ok o ρ1 =>
    rw [e1] at h
    have h : Post X.K X.mg P T D σ (.ok .nx ρ1) := h
    exact fun v H' c' R' => h σ H' (Fix.refl _ _) c' R'.drop
  | exc x ρ1 =>
    rw [e1] at h
    exact fun cls d I H' c' hm hI R' => h cls d I σ H' (Fix.refl _ _) c' hm hI R'
  | no => rw [e1] at h; exact h.elim
theorem ssX_ret {e : Expr} {pos : Pos} {m : M O} (h : SEX X W e m) : SSX X P W (.Return (some e) pos) (mRet m) := PS.imp (ps_ret h) fun D σ H w => by
  obtain ⟨ρ, T, c, R, h⟩ := w
  refine ⟨ρ, T, c, R, ?_⟩
  unfold mRet at h
  cases e1 : m ρ with
  | ok o ρ1 =>
    rw [e1] at h
    have h : Post X.K X.mg P T D σ (.ok (.ret o) ρ1) := h
    exact fun v H' c' R' => h v σ H' (Fix.refl _ _) c' R'
  | exc x ρ1 =>
    rw [e1] at h
    exact fun cls d I H' c' hm hI R' => h cls d I σ H' (Fix.refl _ _) c' hm hI R'
  | no => rw [e1] at h; exact h.elim
theorem ssX_setO (i : Nat) {x : Str} {e : Expr} {pos pos' : Pos} {m : M O} (ok : CxOk X) (hi : X.N[i]? = some x) (hx : Loc X.env.scope x) (h : SEX X W e m) (hP : i ∉ P := by decide) (hs : swapsWith e (some (.Name x pos')) pos.line X.env = pure false := by rfl) (hf : X.fn x = true ∨ X.env.scope.names.lookup x = some .local := by first | exact .inl rfl | exact .inr rfl | assumption) :
    SSX X P W (.Assign [.Name x pos'] e pos) (mSetO i m) := PS.imp (ps_set ok.nd hi hx h hs hf) fun D σ H w => by
  obtain ⟨ρ, T, c, R, h⟩ := w
  refine ⟨ρ, T, c, R, ?_⟩
  unfold mSetO at h
  cases e1 : m ρ with
  | ok o ρ1 =>
    rw [e1] at h
    have h : Post X.K X.mg P T D σ (.ok .nx (ρ1.set i (some o))) := h
    exact fun v H' c' R' => h _ H' (Fix.set hP) (c'.set i v o) (Rep.store c' R')
  | exc x ρ1 =>
    rw [e1] at h
    exact fun cls d I H' c' hm hI R' => h cls d I σ H' (Fix.refl _ _) c' hm hI R'
  | no => rw [e1] at h; exact h.elim
theorem ssX_setP (i : Nat) {x : Str} {e : Expr} {pos pos' : Pos} {m : M O} (ok : CxOk X) (hi : X.N[i]? = some x) (hx : Loc X.env.scope x) (h : SEX X W e m) (hP : i ∉ P := by decide) (hs : swapsWith e (some (.Name x pos')) pos.line X.env = pure false := by rfl) (hf : X.fn x = true ∨ X.env.scope.names.lookup x = some .local := by first | exact .inl rfl | exact .inr rfl | assumption) :
    SSX X P W (.Assign [.Name x pos'] e pos) (mSetP i m) := PS.imp (ps_set ok.nd hi hx h hs hf) fun D σ H w => by
  obtain ⟨ρ, T, c, R, h⟩ := w
  refine ⟨ρ, T, c, R, ?_⟩
  unfold mSetP at h
  cases e1 : m ρ with
  | ok o ρ1 =>
    rw [e1] at h
    have h : Post X.K X.mg P T D σ (.ok .nx (ρ1.set i (some (.val o.toD)))) := h
    exact fun v H' c' R' => h _ H' (Fix.set hP) (c'.set i v _) (Rep.store c' R'.frz)
  | exc x ρ1 =>
    rw [e1] at h
    exact fun cls d I H' c' hm hI R' => h cls d I σ H' (Fix.refl _ _) c' hm hI R'
  | no => rw [e1] at h; exact h.elim
end

/-! ### defs that may raise -/
abbrev FSemX := List O → Res O
def runX (n N : Nat) (P : List Nat) (b : M Fl) : FSemX := fun os => match b (os.map some ++ List.replicate (N - os.length) none) with
  | .ok .nx ρ' => .ok (.val .non) (maskE n P ρ')
  | .ok (.ret o) ρ' => .ok o (maskE n P ρ')
  | .exc x ρ' => .exc x (maskE n P ρ')
  | _ => .no
def downF (F : FSemX) : FSem := fun os => match F os with
  | .ok o ρ => some (o, ρ)
  | _ => none
def PostC (K : PySem.W.Frag) (mg : Str → Option Value) (T : List Item) (vs : List V) (Q : VK) (E : XK) : Res O → Prop
  | .ok o ρ' => ∀ v H', Rep K mg H' (.ov v o :: (pairs (vs.map some) ρ' ++ T)) [] → Q v H'
  | .exc x ρ' => ∀ cls d I H', mg x.c = some cls → ExI x d I → Rep K mg H' (I ++ (pairs (vs.map some) ρ' ++ T)) [] → E cls d H'
  | .no => False
/-- a def of n parameters means F -/
def spX (K : PySem.W.Frag) (mg : Str → Option Value) (n : Nat) (F : FSemX) : Sp := fun vs H Q E => ∃ os T, vs.length = n ∧ os.length = n ∧ Rep K mg H (zipI vs os ++ T) [] ∧ PostC K mg T vs Q E (F os)
section
variable {P : Program} {w : World} {K : PySem.W.Frag} {mg : Str → Option Value} {base : Heap}
theorem spX_len {n : Nat} {F : FSemX} : ∀ vs H Q E, spX K mg n F vs H Q E → vs.length = n := fun vs H Q E h => by
  obtain ⟨os, T, h1, _⟩ := h
  exact h1
theorem body_semX {X : Cx} {N n : Nat} {Pr : List Nat} {st : List Stmt} {b : M Fl} {Ns : List Str} {E : XK} (hNs : Ns.length = N) (hn : n ≤ N) (hb : SSsX X Pr (fun cls d _ H => E cls d H) st b) {vs : List V} {H : Hp} {Q : VK} (hsp : spX X.K X.mg n (runX n N Pr b) vs H Q E) : ∃ t, PSs X st t ∧ t { nx := fun _ H' => Q .non H', rt := Q } (L2.start Ns vs) H := by
  obtain ⟨os, T, h1, h2, R, e⟩ := hsp
  have es' : L2.start Ns vs = vs.map some ++ List.replicate (N - os.length) none := by unfold L2.start; rw [hNs, h1, h2]
  refine ⟨_, hb, os.map some ++ List.replicate (N - os.length) none, T, ?_, ?_, ?_⟩
  · rw [es']; exact cov_start vs os _ (by omega)
  · rw [es', pairs_start vs os _ (by omega)]; exact R
  · unfold runX at e
    have es : L2.start Ns vs = vs.map some ++ List.replicate (N - n) none := by unfold L2.start; rw [hNs, h1]
    cases e1 : b (os.map some ++ List.replicate (N - os.length) none) with
    | exc x ρ1 =>
      rw [e1] at e
      intro cls d I σ' H' f c hm hI R'
      rw [es] at f
      have hl : σ'.length = N := by rw [f.1]; simp [h1]; omega
      exact e cls d I H' hm hI (fn_post (M := I) h1 hn f c hl R')
    | no => rw [e1] at e; exact e.elim
    | ok fl ρ1 =>
      rw [e1] at e
      cases fl with
      | brk => exact e.elim
      | ct => exact e.elim
      | nx =>
        intro σ' H' f c R'
        rw [es] at f
        have hl : σ'.length = N := by rw [f.1]; simp [h1]; omega
        refine e .non H' (fn_post (M := [.ov .non (.val .non)]) h1 hn f c hl ?_)
        exact R'.scal fun _ => .non
      | ret o =>
        intro v σ' H' f c R'
        rw [es] at f
        have hl : σ'.length = N := by rw [f.1]; simp [h1]; omega
        exact e v H' (fn_post (M := [.ov v o]) h1 hn f c hl R')
/-- a def that may be called by its name -/
structure CalX (P : Program) (w : World) (K : PySem.W.Frag) (mg : Str → Option Value) (base : Heap) (k : Nat) (x : Str) (sp : Sp) : Prop where
  ex : ∃ (f : Addr) (fd : FuncData) (ps : List Str), FnOk P w K mg base (L2.CX P w) k f fd ps sp ∧ mg x = some (.ref f) ∧ PySem.W.keepIn K (.ref f) = true ∧ Binds K fd ps []
theorem CalX.down {k n : Nat} {x : Str} {F : FSemX} (h : CalX P w K mg base k x (spX K mg n F)) : C8.Cal P w K mg base k x (spF K mg n (downF F)) [] := by
  obtain ⟨f, fd, ps, hF, hm, kp, bi⟩ := h.ex
  have to : ∀ {vs H Q E}, spF K mg n (downF F) vs H Q E → spX K mg n F vs H Q (fun _ _ _ => False) := fun {vs H Q E} q => by
    obtain ⟨os, T, o, ρ', h1, h2, R, e, k⟩ := q
    refine ⟨os, T, h1, h2, R, ?_⟩
    unfold downF at e
    cases e1 : F os with
    | ok o' ρ1 => rw [e1] at e; cases e; exact k
    | exc x ρ1 => rw [e1] at e; cases e
    | no => rw [e1] at e; cases e
  refine ⟨f, fd, ps, [], ⟨fun vs H Q E q => hF.len _ _ _ _ (to q), fun A outer s H args us vs Q E hr he hb hv hs => ?_⟩, hm, kp, bi, .nil⟩
  refine codeAny_mono (hF.run A outer s H args us vs Q (fun _ _ _ => False) hr he hb hv (to hs)) fun r s' q => ?_
  cases r with
  | error e =>
    obtain ⟨_, _, _, _, _, _, _, _, _, _, _, _, z⟩ := q
    exact z.elim
  | ok fl => cases fl <;> exact q
theorem cal_semX {x : Str} {st : Stmt} {f : Addr} {fd : FuncData} {N ps : List Str} {k n m : Nat} {Pr : List Nat} {b : M Fl} (F : C8.Def K mg x st f fd) (bi : Binds K fd ps []) (S : FnScope N ps (C8.fnScope st)) (hn : ps.length = n := by rfl) (hm : N.length = m := by rfl) (hnm : n ≤ m := by decide)
    (hb : ∀ (cdv : Value) (A : Around) (outer : List PySem.Env) (s : Shared) (H : Hp) (E : XK), Room k (A.deeper (envOfC x (C8.fnScope st) s.heap.objs.size f cdv)) →
      Takes (cxOf (L2.CX P w) P w K mg base N x (C8.fnScope st) f cdv A outer s H E) (fun cls d _ H => E cls d H) → PassesOwn (model P w) (A.deeper (envOfC x (C8.fnScope st) s.heap.objs.size f cdv)) (envOfC x (C8.fnScope st) s.heap.objs.size f cdv) (cxOf (L2.CX P w) P w K mg base N x (C8.fnScope st) f cdv A outer s H E).xe →
      SSsX (cxOf (L2.CX P w) P w K mg base N x (C8.fnScope st) f cdv A outer s H E) Pr (fun cls d _ H => E cls d H) (C8.fnBody st) b) :
    CalX P w K mg base (k + 1) x (spX K mg n (runX n m Pr b)) := by
  obtain ⟨oc, od, dV, kV, doc, pm, an, cdv, ct, osl, e, lk, hcd⟩ := F.fn.ex
  refine ⟨f, fd, ps, ?_, F.mgf, F.kp, bi⟩
  subst e
  refine fn_of lk hcd S (fun vs H Q E h => by rw [hn]; exact spX_len vs H Q E h) fun A outer s H vs Q E hr h => ?_
  refine body_semX (X := cxOf (L2.CX P w) P w K mg base N x (C8.fnScope st) f cdv A outer s H E) (E := E) hm hnm (hb cdv A outer s H E hr ?_ ?_) h
  · exact takes_of (X := cxOf (L2.CX P w) P w K mg base N x (C8.fnScope st) f cdv A outer s H E) rfl rfl rfl rfl
  · exact passes_of (X := cxOf (L2.CX P w) P w K mg base N x (C8.fnScope st) f cdv A outer s H E) rfl
theorem bodyOkX {N ps : List Str} {qual : Str} {st : Stmt} {f : Addr} {cdv : Value} {A : Around} {outer : List PySem.Env} {s : Shared} {H : Hp} {E : XK} {k : Nat} (S : FnScope N ps (C8.fnScope st)) (hr : Room k (A.deeper (envOfC qual (C8.fnScope st) s.heap.objs.size f cdv))) :
    CxOk (cxOf (L2.CX P w) P w K mg base N qual (C8.fnScope st) f cdv A outer s H E) :=
  ⟨rfl, by show (A.deeper (envOfC qual (C8.fnScope st) s.heap.objs.size f cdv)).units + 65 < cLine; have := hr.un; omega, S.nd⟩
end
section
variable {X : Cx} {W : WX}
def mCallX (F : FSemX) (as : List Arg) : M O := fun ρ => (evA as ρ).nr.bind fun os ρ1 => match takeA as os ρ1 with
  | none => .no
  | some r => match F r.1 with
    | .ok o ρ' => .ok o (giveA as ρ' r.2)
    | .exc x ρ' => .exc x (giveA as ρ' r.2)
    | .no => .no
theorem ioOk_len {σ : L2.St} : ∀ {as : List Arg} {vs : List V}, IoOk as σ vs → vs.length = as.length := by
  intro as
  induction as with
  | nil => intro vs io; cases vs with
    | nil => rfl
    | cons => exact io.elim
  | cons a as ih => intro vs io; cases vs with
    | nil => cases a <;> exact io.elim
    | cons v vs => cases a with
      | v _ => simp [ih (vs := vs) io]
      | io _ => simp [ih (vs := vs) io.2]
theorem seX_call {n k j : Nat} {F : FSemX} {x : Str} {p pos : Pos} {e : Expr} {es : List Expr} {as : List Arg} (cl : CalX X.prog X.w X.K X.mg X.base k x (spX X.K X.mg n F)) (tk : Takes X W) (hr : Room j X.A) (hk : k ≤ j) (hg : Gl X x) (ha : SAs X (e :: es) as) (hn : as.length = n := by rfl)
    (hdb : (x == ("__debug__" : Str)) = false := by decide) (he : starEach (e :: es) X.env = (false, eval e X.env) :: starEach es X.env := by rfl) (hpl : (backTo pos (starEach es X.env)).any (·.1) = false := by rfl) :
    SEX X W (.Call (.Name x p) (e :: es) [] pos) (mCallX F as) := by
  obtain ⟨f, fd, ps, hF, hm, kp, bi⟩ := cl.ex
  refine PE.imp (pe_callS hF (hr.mono hk) hg hm kp bi (passAt tk) ha hdb he hpl) fun σ H Q w => ?_
  obtain ⟨ρ, T, c, R, h⟩ := w
  unfold mCallX at h
  cases e1 : evA as ρ with
  | exc x ρ1 => rw [e1] at h; exact h.elim
  | no => rw [e1] at h; exact h.elim
  | ok os ρ1 =>
    rw [e1] at h
    have h : PostM X.K X.mg T W σ Q (match takeA as os ρ1 with
      | none => .no
      | some r => match F r.1 with
        | .ok o ρ' => .ok o (giveA as ρ' r.2)
        | .exc x ρ' => .exc x (giveA as ρ' r.2)
        | .no => .no) := h
    cases e2 : takeA as os ρ1 with
    | none => rw [e2] at h; exact h.elim
    | some r =>
      rw [e2] at h
      refine ⟨ρ, T, os, ρ1, c, R, e1, fun vs H1 c1 hl io R1 => ?_⟩
      obtain ⟨c2, hl2, R2⟩ := take_ok c1 io e2 R1
      have hv : vs.length = n := by rw [ioOk_len io, hn]
      refine ⟨r.1, pairs σ r.2 ++ T, hv, by omega, R2, ?_⟩
      cases e3 : F r.1 with
      | no => simp only [e3] at h; exact h.elim
      | ok o ρ' =>
        simp only [e3] at h
        intro v H2 R3
        obtain ⟨c3, R4⟩ := give_ok (M := [.ov v o]) c2 io R3
        exact h v H2 c3 R4
      | exc x ρ' =>
        simp only [e3] at h
        intro cls d I H2 hm2 hI R3
        obtain ⟨c3, R4⟩ := give_ok (M := I) c2 io R3
        exact h cls d I H2 c3 hm2 hI R4
end
end FB

/-! Exceptions caught: suites, try; what the head says of the classes. -/
namespace FB
open PySem PySem.Spec L2
open PyProof.Rows hiding St

/-! ### the classes -/
def subB (x y : Str) : Bool := decide (x = y) || decide (y = ("BoardError" : Str))
def subX (es : List Str) (x y : Str) : Option Bool := if x ∈ es ∧ y ∈ es then some (subB x y) else none
structure ExAll (K : PySem.W.Frag) (mg : Str → Option Value) (es : List Str) : Prop where
  gl : ∀ x ∈ es, mg x = some (.ref (He.ga K x))
  cc : ∀ x ∈ es, ExcC K (He.ga K x)
  kt : ∀ x ∈ es, ∀ y ∈ es, PySem.W.kitOne K (.ref (He.ga K x)) (.ref (He.ga K y)) = some (subB x y)
  em : ∀ x ∈ es, ∀ y ∈ es, PySem.W.exmOne K (.ref (He.ga K x)) (.ref (He.ga K y)) = some (subB x y)
  kv : ∀ x ∈ es, PySem.W.kitOne K (.ref (He.ga K x)) (.type "ValueError") = some true
def excCB (K : PySem.W.Frag) (D : Addr) : Bool := decide (PySem.W.findIn K (.ref D) "__getattribute__" = some (some (.builtin "BaseException.__getattribute__"))) && (decide (PySem.W.findIn K (.ref D) "__getattr__" = some none) && (decide (PySem.W.subIn K (.ref D) (.type "BaseException") = some true) && (PySem.W.hasDictIn K D && (decide (PySem.W.findIn K (.ref D) "__class__" = some (some (.builtin "object.__class__"))) &&
  (decide (PySem.W.specialIn K (.builtin "object.__class__") "__get__" = some (some (.builtin "getset_descriptor.__get__"))) && (decide (PySem.W.takesIn K (.builtin "object.__class__") = some true) && decide (PySem.W.mroIn K D (.type "object") = some true)))))))
theorem excCB_ok {K : PySem.W.Frag} {D : Addr} (h : excCB K D = true) : ExcC K D := by
  unfold excCB at h
  simp only [Bool.and_eq_true, decide_eq_true_eq] at h
  obtain ⟨h1, h2, h3, h4, h5, h6, h7, h8⟩ := h
  exact ⟨h1, h2, h3, h4, h5, h6, h7, h8⟩
def exAllB (es : List Str) (K : PySem.W.Frag) : Bool := es.all fun x => He.eqO (PySem.W.nsIn K mainGlobals x) (some (some (.ref (He.ga K x)))) && (excCB K (He.ga K x) && (decide (PySem.W.kitOne K (.ref (He.ga K x)) (.type "ValueError") = some true) &&
  es.all fun y => decide (PySem.W.kitOne K (.ref (He.ga K x)) (.ref (He.ga K y)) = some (subB x y)) && decide (PySem.W.exmOne K (.ref (He.ga K x)) (.ref (He.ga K y)) = some (subB x y))))
theorem exAll_ok {K : PySem.W.Frag} {h : Heap} {mg : Str → Option Value} {es : List Str} (X : K.In h) (G : h.Ns mainGlobals mg) (c : exAllB es K = true) : ExAll K mg es := by
  have c := List.all_eq_true.mp c
  have q : ∀ x ∈ es, (He.eqO (PySem.W.nsIn K mainGlobals x) (some (some (.ref (He.ga K x)))) = true) ∧ excCB K (He.ga K x) = true ∧ PySem.W.kitOne K (.ref (He.ga K x)) (.type "ValueError") = some true ∧
      ∀ y ∈ es, PySem.W.kitOne K (.ref (He.ga K x)) (.ref (He.ga K y)) = some (subB x y) ∧ PySem.W.exmOne K (.ref (He.ga K x)) (.ref (He.ga K y)) = some (subB x y) := fun x hx => by
    have z := c x hx
    simp only [Bool.and_eq_true, decide_eq_true_eq, List.all_eq_true] at z
    exact z
  exact ⟨fun x hx => PySem.W.mg_of X G (He.eqO_ok (q x hx).1), fun x hx => excCB_ok (q x hx).2.1, fun x hx y hy => ((q x hx).2.2.2 y hy).1, fun x hx y hy => ((q x hx).2.2.2 y hy).2, fun x hx => (q x hx).2.2.1⟩
def xfB2 (es cs : List Str) (f : Str) (K : PySem.W.Frag) : Bool := cs.all fun c => decide (c ∈ es) && decide (PySem.W.findIn K (.ref (He.ga K c)) f = some none)
theorem xfB_ok2 {K : PySem.W.Frag} {es cs : List Str} {f : Str} (h : xfB2 es cs f K = true) : ∀ c ∈ cs, c ∈ es ∧ PySem.W.findIn K (.ref (He.ga K c)) f = some none := fun c hc => by
  have q := List.all_eq_true.mp h c hc
  rw [Bool.and_eq_true, decide_eq_true_eq, decide_eq_true_eq] at q
  exact q
/-! the head's hook, with wishes of one's own -/
def obsP (px : List (PySem.W.Frag → Bool)) (fa : List He.Fa) (fn : List He.DefD) (K : PySem.W.Frag) : He.AlD := (((He.obsD fa fn K).1 && px.all fun p => p K), (He.obsD fa fn K).2)
def SaysP (px : List (PySem.W.Frag → Bool)) (fa : List He.Fa) (fn : List He.DefD) (K : PySem.W.Frag) : Prop := obsP px fa fn K = He.valD fn
def obsPG (px : List (PySem.W.Frag → Bool)) (n : Nat) (fa : List He.Fa) (fn : List He.DefD) (g : Addr → Option Obj) : He.AlD := obsP px fa fn (He.frG g (He.asD g n))
def hookP (px : List (PySem.W.Frag → Bool)) (n : Nat) (fa : List He.Fa) (fn : List He.DefD) : PySem.W.Hook where
  α := He.AlD
  obs := fun s => obsPG px n fa fn s.heap.get?
  val := fun _ => He.valD fn
  says := fun _ h => ∃ K : PySem.W.Frag, K.In h ∧ SaysP px fa fn K
  of := fun _ _ e => ⟨_, He.frG_in, e⟩
  keeps := fun _ _ _ ⟨K, hK, c⟩ k => ⟨K, PySem.W.Frag.In.keeps hK k, c⟩
theorem obsPG_eq {px : List (PySem.W.Frag → Bool)} {n : Nat} {fa : List He.Fa} {fn : List He.DefD} {g : Addr → Option Obj} {s : Shared} (h : ∀ a, g a = s.heap.get? a) : obsPG px n fa fn g = (hookP px n fa fn).obs s := by
  have e : g = s.heap.get? := funext h
  rw [e] <;> rfl
theorem SaysP.says {px : List (PySem.W.Frag → Bool)} {fa : List He.Fa} {fn : List He.DefD} {K : PySem.W.Frag} (c : SaysP px fa fn K) : He.SaysD fa fn K ∧ ∀ p ∈ px, p K = true := by
  have c1 : ((He.obsD fa fn K).1 && px.all fun p => p K) = true := congrArg (fun z : He.AlD => z.1) c
  have c2 : (He.obsD fa fn K).2 = fn.map He.DefD.val := congrArg (fun z : He.AlD => z.2) c
  obtain ⟨h1, h2⟩ := Bool.and_eq_true_iff.mp c1
  exact ⟨Prod.ext h1 c2, fun p hp => List.all_eq_true.mp h2 p hp⟩

section
variable {X : Cx} {K : PySem.W.Frag} {mg : Str → Option Value} {P : List Nat} {W : WX}
theorem pmk_c {x m : Str} {j : Nat} {p p2 pos : Pos} {C : Addr} (q : PySem.W.excIn X.K C He.veBase "ValueError.__new__" = true ∧ PySem.W.keepIn X.K (.ref C) = true ∧ PySem.W.subIn X.K (.ref C) (.type "BaseException") = some true ∧ PySem.W.typeIn X.K (.ref C) = some (.type "type")) (gC : X.mg x = some (.ref C)) (hg : Gl X x)
    (hdb : (x == ("__debug__" : Str)) = false := by decide) : PMk X (.Call (.Name x p) [.Constant (.str m) j p2] [] pos) (fun _ H Q => Q (.ref C) none H) := pmk_own F.excBase_ValueError q.1 gC q.2.1 (raises_own q.2.2.1 q.2.2.2) hg hdb

/-! ### frames of what is known of a slot and the rest -/
def FrE (a : Addr) (i : Nat) (I : List Item) (σ : L2.St) (T : List Item) : Prop := σ[i]? = some (some (.ref a)) ∧ ∃ T0, T.Perm (I ++ T0)
theorem FrE.more {a : Addr} {i : Nat} {I T : List Item} {σ : L2.St} {z : Item} (h : FrE a i I σ T) : FrE a i I σ (z :: T) := by
  obtain ⟨h1, T0, h2⟩ := h
  exact ⟨h1, z :: T0, (h2.cons z).trans List.perm_middle.symm⟩
theorem FrE.fix {a : Addr} {i : Nat} {I T : List Item} {σ σ' : L2.St} (f : Fix (i :: P) σ σ') (h : FrE a i I σ T) : FrE a i I σ' T := ⟨(f.2 i (List.mem_cons_self ..)).trans h.1, h.2⟩
variable {a : Addr} {i : Nat} {I : List Item}
def tMF (K : PySem.W.Frag) (mg : Str → Option Value) (a : Addr) (i : Nat) (I : List Item) (m : M O) : TE := fun σ H Q => ∃ ρ T o ρ', Cov σ ρ ∧ FrE a i I σ T ∧ Rep K mg H (pairs σ ρ ++ T) [] ∧ m ρ = .ok o ρ' ∧ ∀ v H', Cov σ ρ' → Rep K mg H' (.ov v o :: (pairs σ ρ' ++ T)) [] → Q v H'
def SEF (X : Cx) (a : Addr) (i : Nat) (I : List Item) (e : Expr) (m : M O) : Prop := PE X e (tMF X.K X.mg a i I m)
theorem sef_of {e : Expr} {m : M O} (h : SE X e m) : SEF X a i I e m := PE.imp h fun σ H Q w => by
  obtain ⟨ρ, T, o, ρ', c, _, R, e, k⟩ := w
  exact ⟨ρ, T, o, ρ', c, R, e, k⟩
theorem sef_one {op : BoolOp} {e : Expr} {pos : Pos} {m : M O} (h : SEF X a i I e m) : SEF X a i I (.BoolOp op [e] pos) m := pe_one h
theorem sef_and {x b : Expr} {rest : List Expr} {pos : Pos} {m n : M O} (ha : SEF X a i I x m) (hb : SEF X a i I (.BoolOp .And (b :: rest) pos) n) : SEF X a i I (.BoolOp .And (x :: b :: rest) pos) (mAndV m n) :=
  PE.imp (pe_and ha hb) fun σ H Q w => by
    obtain ⟨ρ, T, o, ρ', c, f, R, e, k⟩ := w
    obtain ⟨u, ρ1, e1, e⟩ := Res.bind_eq e
    refine ⟨ρ, T, u, ρ1, c, f, R, e1, fun v H' c' R' => ?_⟩
    split at e
    · refine ⟨true, R'.lend.shBl (List.mem_cons_self ..) rfl, ?_⟩
      rw [if_pos rfl]
      exact ⟨ρ1, T, o, ρ', c', f, R'.drop, e, k⟩
    · cases e
      have ev := R'.lend.shBl (List.mem_cons_self ..) rfl
      refine ⟨false, ev, ?_⟩
      rw [if_neg Bool.false_ne_true]
      exact k _ H' c' (ev ▸ R')
    · cases e
theorem sef_not {x : Expr} {pos : Pos} {m : M O} (h : SEF X a i I x m) : SEF X a i I (.UnaryOp .Not x pos) (mNotV m) := PE.imp (pe_not h) fun σ H Q w => by
  obtain ⟨ρ, T, o, ρ', c, f, R, e, k⟩ := w
  obtain ⟨u, ρ1, e1, e⟩ := Res.bind_eq e
  split at e
  · rename_i b
    cases e
    refine ⟨ρ, T, _, _, c, f, R, e1, fun v H' c' R' => ⟨b, R'.lend.shBl (List.mem_cons_self ..) rfl, k _ H' c' (R'.drop.scal fun _ => .bl _)⟩⟩
  · cases e
def tMsF (K : PySem.W.Frag) (mg : Str → Option Value) (a : Addr) (i : Nat) (I : List Item) (m : M (List O)) : TA := fun σ H Q => ∃ ρ T os ρ', Cov σ ρ ∧ FrE a i I σ T ∧ Rep K mg H (pairs σ ρ ++ T) [] ∧ m ρ = .ok os ρ' ∧ ∀ vs H', Cov σ ρ' → vs.length = os.length → Rep K mg H' (zipI vs os ++ (pairs σ ρ' ++ T)) [] → Q vs H'
def SEsF (X : Cx) (a : Addr) (i : Nat) (I : List Item) (es : List Expr) (m : M (List O)) : Prop := PA X es (tMsF X.K X.mg a i I m)
theorem sesf_nil : SEsF X a i I [] mNil := PA.imp pa_nil fun σ H Q w => by
  obtain ⟨ρ, T, os, ρ', c, f, R, e, k⟩ := w
  cases e
  exact k [] H c rfl R
theorem sesf_cons {e : Expr} {es : List Expr} {m : M O} {ms : M (List O)} (h : SEF X a i I e m) (hs : SEsF X a i I es ms) (hst : starEach (e :: es) X.env = (false, eval e X.env) :: starEach es X.env := by rfl) : SEsF X a i I (e :: es) (mCons m ms) :=
  PA.imp (pa_cons h hs hst) fun σ H Q w => by
    obtain ⟨ρ, T, os, ρ', c, f, R, e, k⟩ := w
    obtain ⟨o, ρ1, e1, e⟩ := Res.bind_eq e
    obtain ⟨os', ρ2, e2, e⟩ := Res.bind_eq e
    cases e
    refine ⟨ρ, T, o, ρ1, c, f, R, e1, fun v H1 c1 R1 => ⟨ρ1, .ov v o :: T, os', ρ', c1, f.more, R1.perm List.perm_middle.symm, e2, fun vs H2 c2 hl R2 => k (v :: vs) H2 c2 (by simp [hl]) (R2.perm ?_)⟩⟩
    show (zipI vs os' ++ (pairs σ ρ' ++ .ov v o :: T)).Perm (.ov v o :: (zipI vs os' ++ (pairs σ ρ' ++ T)))
    exact ((List.perm_middle (a := Item.ov v o)).append_left _).trans List.perm_middle
theorem sef_tup {es : List Expr} {x1 : Nat} {pos : Pos} {ms : M (List O)} (h : SEsF X a i I es ms) : SEF X a i I (.Tuple es x1 pos) (mTup ms) := PE.imp (pe_tup h) fun σ H Q w => by
  obtain ⟨ρ, T, o, ρ', c, f, R, e, k⟩ := w
  obtain ⟨os, ρ1, e1, e⟩ := Res.bind_eq e
  split at e
  · rename_i hl
    cases e
    refine ⟨ρ, T, os, _, c, f, R, e1, fun vs H' c' hv R' => ⟨line6 (by omega), fun p hp => k _ _ c' ?_⟩⟩
    exact Rep.newT (ds := O.toDs os) R'.frzs (by rw [toDs_len]; exact hv) hp
  · cases e
theorem sef_cmp {x y : Expr} {pos : Pos} {o : CmpOp} {r : R2} {op : O → O → Option O} {m n : M O} (ho : OpR X (compareOp o) r) (h : OpV X.K X.mg r op) (ha : SEF X a i I x m) (hb : SEF X a i I y n) (hm : behindInMarks o y = false) : SEF X a i I (.Compare x [o] [y] pos) (m2 op m n) := PE.imp (pe_cmpR ho ha hb hm) fun σ H Q w => by
  obtain ⟨ρ, T, o, ρ', c, f, R, e, k⟩ := w
  obtain ⟨u, ρ1, e1, e⟩ := Res.bind_eq e
  obtain ⟨b, ρ2, e2, e⟩ := Res.bind_eq e
  obtain ⟨d, e3, e4, e5⟩ := okV_eq e
  subst e4
  subst e5
  refine ⟨ρ, T, u, ρ1, c, f, R, e1, fun x H1 c1 R1 => ⟨ρ1, .ov x u :: T, b, ρ', c1, f.more, R1.perm List.perm_middle.symm, e2, fun y H2 c2 R2 => ?_⟩⟩
  have R3 : Rep X.K X.mg H2 (.ov x u :: .ov y b :: (pairs σ ρ' ++ T)) [] := R2.perm ((List.perm_middle.cons _).trans (.swap _ _ _))
  have R4 := R3.lend.perm (.swap _ _ _) |>.lend
  refine h H2 _ _ x y u b _ Q R4 (by simp) (by simp) e3 fun v H3 _ R5 => k v H3 c2 ?_
  have R6 := R5.keep.nob
  exact ((R6.perm (.swap _ _ _)).drop.perm (.swap _ _ _)).drop
/-! ### isinstance of what the suite holds -/
theorem kitAny_of {t : Value} {f : Str → Bool} : ∀ {ys : List Str}, (∀ y ∈ ys, PySem.W.kitOne K t (.ref (He.ga K y)) = some (f y)) → PySem.W.kitAny K t (ys.map fun y => .ref (He.ga K y)) = some (ys.any f)
  | [], _ => rfl
  | y :: ys, h => by
    have ih := kitAny_of (ys := ys) fun z hz => h z (List.mem_cons_of_mem _ hz)
    have h1 := h y (List.mem_cons_self ..)
    rw [List.map_cons, List.any_cons]
    unfold PySem.W.kitAny
    rw [h1]
    cases q : f y with
    | true => simp
    | false => simp [ih]
def rIsET (K : PySem.W.Frag) (D a : Addr) : List V → Hp → VK → Prop := fun xs H Q => ∃ (tp : Addr) (cs : List V) (us : List Value) (b : Bool), xs = [.ref a, .ref tp] ∧ H tp = some (.tup cs) ∧ Paired ClsV cs us ∧ PySem.W.kitAny K (.ref D) us = some b ∧ Q (.bl b) H
theorem call_isET {X : Cx} {a D : Addr} {oe : Obj} {pn : List (Addr × Obj)} (C : ExcC X.K D) (hz : Zc (.ref D) none oe) (hf : ∃ vs, oe.data = .fields vs) : CallR (X.suite a ((a, oe) :: pn)) (.builtin "isinstance") (rIsET X.K D a) := by
  intro pins s σ H xs us Q I r h
  obtain ⟨tp, cs, ws, b, rfl, hT, k, e, q⟩ := h
  obtain ⟨u1, u2, rfl, r1, r2⟩ := vals2 r
  cases (show u2 = Value.ref tp from r2)
  cases (show u1 = Value.ref a from r1)
  obtain ⟨hget, _⟩ := I.pin (a, oe) (List.mem_append.mpr (.inl List.mem_cons_self))
  obtain ⟨vs, hv⟩ := hf
  have J : PySem.W.InstAt s.heap a oe D none := by
    obtain ⟨oc, od, oda, osl⟩ := oe
    obtain ⟨h1, h2⟩ := hz
    dsimp only at h1 h2 hv
    subst h1 h2 hv
    exact ⟨hget, rfl, rfl, trivial⟩
  obtain ⟨_, its, rv, o, h1, h2, n, h3⟩ := (show ObjOk X.prog X.w H s.heap tp (.tup cs) from I.hok tp _ hT)
  have e3 := ClsV.all k rv
  subst e3
  obtain ⟨oc, od, dt, sl⟩ := o
  simp only at h2 h3
  subst h2 h3
  exact PySem.W.kia_tup (PySem.W.handS_kitx_exc C.hg C.hk C.hs C.hd C.ha C.hn C.ht C.hm) I.kIn J h1 e (fun z => nomatch z) fun tk => ⟨.bl b, H, I.tok tk, rfl, q⟩
theorem pe_false {e : Expr} {t : TE} (h : ∀ σ H Q, ¬ t σ H Q) : PE X e t := ⟨fun _ _ σ H Q _ w => absurd w (h σ H Q)⟩
def mIs (es : List Str) (y : Str) (x : Exn) : M O := fun ρ => if x.ds = [] ∧ x.c ∈ es then .ok (.val (.bl (subB x.c y))) ρ else .no
def mIsT (es : List Str) (ys : List Str) (x : Exn) : M O := fun ρ => if x.ds = [] ∧ x.c ∈ es then .ok (.val (.bl (ys.any (subB x.c)))) ρ else .no
def mIsV (es : List Str) (x : Exn) : M O := fun ρ => if x.ds = [] ∧ x.c ∈ es then .ok (.val (.bl true)) ρ else .no
variable {x : Exn} {cls : Value} {d : Option Addr} {oe : Obj} {pn : List (Addr × Obj)} {es : List Str}
/-- what a suite knows of the exception -/
structure Held (X : Cx) (es : List Str) (x : Exn) (I : List Item) (cls : Value) (d : Option Addr) (oe : Obj) : Prop where
  cl : X.mg x.c = some cls
  it : ExI x d I
  z : Zc cls d oe
  f : ∃ vs, oe.data = .fields vs
theorem Held.eqc (h : Held X es x I cls d oe) (E : ExAll X.K X.mg es) (hx : x.c ∈ es) : cls = .ref (He.ga X.K x.c) := by
  have e1 := E.gl x.c hx
  rw [h.cl] at e1
  injection e1
theorem sef_is {n y : Str} {p q r pos : Pos} (E : ExAll X.K X.mg es) (h : Held X es x I cls d oe) (hN : X.N[i]? = some n) (hv : Vis X.env.scope n) (hg : Gl X "isinstance") (hm : X.mg "isinstance" = none) (hgy : Gl X y) (hy : y ∈ es := by decide)
    (hd : (n == ("__debug__" : Str)) = false := by decide) (hcd : (n == ("__classdict__" : Str)) = false := by decide) (hdy : (y == ("__debug__" : Str)) = false := by decide)
    (he : starEach (.Name n q :: [.Name y r]) X.env = (false, eval (.Name n q) X.env) :: starEach [.Name y r] X.env := by rfl) (hpl : (backTo pos (starEach [.Name y r] X.env)).any (·.1) = false := by rfl) :
    SEF (X.suite a ((a, oe) :: pn)) a i I (.Call (.Name "isinstance" p) [.Name n q, .Name y r] [] pos) (mIs es y x) := by
  by_cases hx : x.ds = [] ∧ x.c ∈ es
  · have hx0 := hx
    obtain ⟨hx1, hx⟩ := hx
    have e1 := h.eqc E hx
    have hz := h.z
    rw [e1, h.it.nd hx1] at hz
    have ha : PA (X.suite a ((a, oe) :: pn)) [.Name n q, .Name y r] (tCons (tVar i) (tCons (tC (.ref (He.ga X.K y))) tNil)) := pa_cons (pe_var hN hv hd hcd) (pa_cons (pe_glob (v := .ref (He.ga X.K y)) (u := .ref (He.ga X.K y)) hgy (E.gl y hy) rfl hdy) pa_nil) he
    refine PE.imp (pe_callB (call_isE (E.cc x.c hx) hz h.f) hg hm (by rfl) ha (he := he) (hpl := hpl)) fun σ H Q w => ?_
    obtain ⟨ρ, T, o, ρ', c, f, R, e, k⟩ := w
    unfold mIs at e
    rw [if_pos hx0] at e
    cases e
    refine ⟨.ref a, f.1, ?_⟩
    exact ⟨.ref (He.ga X.K y), .ref (He.ga X.K y), subB x.c y, rfl, fun u r => r, E.kt x.c hx y hy, k _ H c (R.scal fun _ => .bl _)⟩
  · refine pe_false fun σ H Q w => ?_
    obtain ⟨ρ, T, o, ρ', c, f, R, e, k⟩ := w
    unfold mIs at e
    rw [if_neg hx] at e
    cases e
/-- isinstance(e, ValueError) -/
theorem sef_isV {n : Str} {p q r pos : Pos} (E : ExAll X.K X.mg es) (h : Held X es x I cls d oe) (hN : X.N[i]? = some n) (hv : Vis X.env.scope n) (hg : Gl X "isinstance") (hm : X.mg "isinstance" = none) (hgy : Gl X "ValueError") (hmy : X.mg "ValueError" = none)
    (hd : (n == ("__debug__" : Str)) = false := by decide) (hcd : (n == ("__classdict__" : Str)) = false := by decide)
    (he : starEach (.Name n q :: [.Name "ValueError" r]) X.env = (false, eval (.Name n q) X.env) :: starEach [.Name "ValueError" r] X.env := by rfl) (hpl : (backTo pos (starEach [.Name "ValueError" r] X.env)).any (·.1) = false := by rfl) :
    SEF (X.suite a ((a, oe) :: pn)) a i I (.Call (.Name "isinstance" p) [.Name n q, .Name "ValueError" r] [] pos) (mIsV es x) := by
  by_cases hx : x.ds = [] ∧ x.c ∈ es
  · have hx0 := hx
    obtain ⟨hx1, hx⟩ := hx
    have e1 := h.eqc E hx
    have hz := h.z
    rw [e1, h.it.nd hx1] at hz
    have ha : PA (X.suite a ((a, oe) :: pn)) [.Name n q, .Name "ValueError" r] (tCons (tVar i) (tCons (tC (.ty "ValueError")) tNil)) := pa_cons (pe_var hN hv hd hcd) (pa_cons (pe_bltn (v := .ty "ValueError") (u := .type "ValueError") hgy hmy PyProof.Rows.Boot.«ValueError» rfl) pa_nil) he
    refine PE.imp (pe_callB (call_isE (E.cc x.c hx) hz h.f) hg hm (by rfl) ha (he := he) (hpl := hpl)) fun σ H Q w => ?_
    obtain ⟨ρ, T, o, ρ', c, f, R, e, k⟩ := w
    unfold mIsV at e
    rw [if_pos hx0] at e
    cases e
    refine ⟨.ref a, f.1, ?_⟩
    exact ⟨.ty "ValueError", .type "ValueError", true, rfl, fun u r => r, E.kv x.c hx, k _ H c (R.scal fun _ => .bl _)⟩
  · refine pe_false fun σ H Q w => ?_
    obtain ⟨ρ, T, o, ρ', c, f, R, e, k⟩ := w
    unfold mIsV at e
    rw [if_neg hx] at e
    cases e
/-- a tuple of classes -/
structure SCls (X : Cx) (es : List Str) (xs : List Expr) (ys : List Str) : Prop where
  pa : PA X xs (fun _ H Q => Q (ys.map fun y => V.ref (He.ga X.K y)) H)
  mem : ∀ y ∈ ys, y ∈ es
theorem scls_nil : SCls X es [] [] := ⟨PA.imp pa_nil fun _ _ _ w => w, fun _ h => by simp at h⟩
theorem scls_cons {y : Str} {r : Pos} {xs : List Expr} {ys : List Str} (E : ExAll X.K X.mg es) (hg : Gl X y) (h : SCls X es xs ys) (hy : y ∈ es := by decide) (hdy : (y == ("__debug__" : Str)) = false := by decide) (he : starEach (.Name y r :: xs) X.env = (false, eval (.Name y r) X.env) :: starEach xs X.env := by rfl) : SCls X es (.Name y r :: xs) (y :: ys) :=
  ⟨PA.imp (pa_cons (pe_glob (v := .ref (He.ga X.K y)) (u := .ref (He.ga X.K y)) hg (E.gl y hy) rfl hdy) h.pa he) fun _ _ _ w => w, fun z hz => by
    rcases List.mem_cons.mp hz with q | q
    · rw [q]; exact hy
    · exact h.mem z q⟩
theorem clsV_all : ∀ (ys : List Str), Paired ClsV (ys.map fun y => V.ref (He.ga K y)) (ys.map fun y => Value.ref (He.ga K y))
  | [] => .nil
  | y :: ys => .cons (.own _) (clsV_all ys)
theorem sef_isT {n : Str} {ys : List Str} {xs : List Expr} {tk : Nat} {p q tp pos : Pos} (E : ExAll X.K X.mg es) (h : Held X es x I cls d oe) (hN : X.N[i]? = some n) (hv : Vis X.env.scope n) (hg : Gl X "isinstance") (hm : X.mg "isinstance" = none) (hys : SCls (X.suite a ((a, oe) :: pn)) es xs ys) (hlen : ys.length ≤ 100 := by decide)
    (hd : (n == ("__debug__" : Str)) = false := by decide) (hcd : (n == ("__classdict__" : Str)) = false := by decide)
    (he : starEach (.Name n q :: [.Tuple xs tk tp]) X.env = (false, eval (.Name n q) X.env) :: starEach [.Tuple xs tk tp] X.env := by rfl) (he2 : starEach (.Tuple xs tk tp :: []) X.env = (false, eval (.Tuple xs tk tp) X.env) :: starEach [] X.env := by rfl) (hpl : (backTo pos (starEach [.Tuple xs tk tp] X.env)).any (·.1) = false := by rfl) :
    SEF (X.suite a ((a, oe) :: pn)) a i I (.Call (.Name "isinstance" p) [.Name n q, .Tuple xs tk tp] [] pos) (mIsT es ys x) := by
  by_cases hx : x.ds = [] ∧ x.c ∈ es
  · have hx0 := hx
    obtain ⟨hx1, hx⟩ := hx
    have e1 := h.eqc E hx
    have hz := h.z
    rw [e1, h.it.nd hx1] at hz
    have ha := pa_cons (X := X.suite a ((a, oe) :: pn)) (pe_var (pos := q) hN hv hd hcd) (pa_cons (pe_tup (x1 := tk) (pos := tp) hys.pa) pa_nil he2) he
    refine PE.imp (pe_callB (call_isET (E.cc x.c hx) hz h.f) hg hm (by rfl) ha (he := he) (hpl := hpl)) fun σ H Q w => ?_
    obtain ⟨ρ, T, o, ρ', c, f, R, e, k⟩ := w
    unfold mIsT at e
    rw [if_pos hx0] at e
    cases e
    refine ⟨.ref a, f.1, line6 (by simp; omega), fun t ht => ?_⟩
    refine ⟨t, _, _, ys.any (subB x.c), rfl, upd_same, clsV_all ys, kitAny_of fun y hy => E.kt x.c hx y (hys.mem y hy), k _ _ c ?_⟩
    exact (R.grow (sameNew ht)).scal fun _ => .bl _
  · refine pe_false fun σ H Q w => ?_
    obtain ⟨ρ, T, o, ρ', c, f, R, e, k⟩ := w
    unfold mIsT at e
    rw [if_neg hx] at e
    cases e
/-! ### e.f -/
def mXf (cs : List Str) (f : Str) (x : Exn) : M O := fun ρ => if x.c ∈ cs ∧ x.ns.length = x.ds.length then match fidx x.ns f with
  | some j => match x.ds[j]? with
    | some d => .ok (.val d) ρ
    | none => .no
  | none => .no
  else .no
theorem sef_fld {n f : Str} {q pos : Pos} {cs : List Str} (E : ExAll X.K X.mg es) (h : Held X es x I cls d oe) (hcs : ∀ c ∈ cs, c ∈ es ∧ PySem.W.findIn X.K (.ref (He.ga X.K c)) f = some none) (hN : X.N[i]? = some n) (hv : Vis X.env.scope n)
    (hd : (n == ("__debug__" : Str)) = false := by decide) (hcd : (n == ("__classdict__" : Str)) = false := by decide) (hb : attributeBase (.Name n q) f X.env (eval (.Name n q) X.env) = eval (.Name n q) X.env := by rfl) :
    SEF (X.suite a ((a, oe) :: pn)) a i I (.Attribute (.Name n q) f pos) (mXf cs f x) := by
  by_cases hx : x.c ∈ cs
  · have hes := (hcs x.c hx).1
    have e1 := h.eqc E hes
    have C := E.cc x.c hes
    have XF : XfC X.K (He.ga X.K x.c) := ⟨C.hg, C.hk, C.hs, C.hd⟩
    refine PE.imp (pe_xf XF (hcs x.c hx).2 h.z h.f (pe_var (pos := q) hN hv hd hcd) hb) fun σ H Q w => ?_
    obtain ⟨ρ, T, o, ρ', c, fr, R, e, k⟩ := w
    unfold mXf at e
    split at e
    · rename_i hc
      split at e
      · rename_i j ej
        split at e
        · rename_i dj edj
          cases e
          obtain ⟨fr1, T0, fr2⟩ := fr
          refine ⟨.ref a, fr1, rfl, e1, ?_⟩
          rcases h.it with ⟨z, _⟩ | ⟨dd, vs, hne, ed, hl, hl2, eI⟩
          · rw [z] at edj; cases edj
          · subst eI
            have R1 : Rep X.K X.mg H (.raw dd (.xd (x.ns.zip vs)) :: (zipI vs (x.ds.map O.val) ++ (T0 ++ pairs σ ρ))) [] := R.perm (by
              refine List.perm_append_comm.trans ?_
              refine (fr2.append_right _).trans ?_
              simp only [List.cons_append, List.append_assoc]
              exact List.Perm.refl _)
            have hm : (x.ns.zip vs).map (·.1) = x.ns := by
              rw [List.map_fst_zip]; omega
            have hm2 : (x.ns.zip vs).map (·.2) = vs := by
              rw [List.map_snd_zip]; omega
            obtain ⟨v, l1, l2⟩ := fidx_look (fs := x.ns.zip vs) (f := f) (j := j) (by rw [hm]; exact ej)
            rw [hm2] at l2
            refine ⟨dd, x.ns.zip vs, v, ed, R1.rawAt, l1, ?_⟩
            have R2 : Rep X.K X.mg H (zipI vs (x.ds.map O.val) ++ (T0 ++ pairs σ ρ)) [] := R1.drop
            have hmem : Item.ov v (.val dj) ∈ zipI vs (x.ds.map O.val) := by
              refine List.mem_of_getElem? (i := j) ?_
              unfold zipI
              rw [List.getElem?_zipWith, l2, List.getElem?_map, edj]
              rfl
            obtain ⟨A, B, eAB⟩ := List.append_of_mem hmem
            have p1 : (pairs σ ρ ++ T).Perm (.ov v (.val dj) :: ((A ++ B) ++ (.raw dd (.xd (x.ns.zip vs)) :: (T0 ++ pairs σ ρ)))) := by
              refine List.perm_append_comm.trans ?_
              refine (fr2.append_right _).trans ?_
              rw [eAB]
              simp only [List.cons_append, List.append_assoc]
              refine List.Perm.trans (List.Perm.cons _ List.perm_middle) ?_
              refine (List.Perm.swap _ _ _).trans (List.Perm.cons _ ?_)
              rw [← List.append_assoc A B, ← List.append_assoc A B]
              exact List.perm_middle.symm
            have R4 := (R.perm p1).lend.keep.nob
            exact k v H c (R4.perm (List.Perm.cons _ p1.symm))
        · cases e
      · cases e
    · cases e
  · refine pe_false fun σ H Q w => ?_
    obtain ⟨ρ, T, o, ρ', c, fr, R, e, k⟩ := w
    unfold mXf at e
    rw [if_neg (fun z => hx z.1)] at e
    cases e
end

/-! ### statements of a suite -/
section
variable {X : Cx} {K : PySem.W.Frag} {mg : Str → Option Value} {P : List Nat} {W : WX} {a : Addr} {i : Nat} {I : List Item}
def tSF (K : PySem.W.Frag) (mg : Str → Option Value) (P : List Nat) (a : Addr) (i : Nat) (I : List Item) (m : M Fl) : TS := fun D σ H => ∃ ρ T, Cov σ ρ ∧ FrE a i I σ T ∧ Rep K mg H (pairs σ ρ ++ T) [] ∧ Post K mg (i :: P) T D σ (m ρ)
def SSF (X : Cx) (P : List Nat) (a : Addr) (i : Nat) (I : List Item) (st : Stmt) (m : M Fl) : Prop := PS X st (tSF X.K X.mg P a i I m)
def SSsF (X : Cx) (P : List Nat) (a : Addr) (i : Nat) (I : List Item) (st : List Stmt) (m : M Fl) : Prop := PSs X st (tSF X.K X.mg P a i I m)
theorem ssF_setP (j : Nat) {y : Str} {e : Expr} {pos pos' : Pos} {m : M O} (nd : X.N.Nodup) (hi : X.N[j]? = some y) (hx : Loc X.env.scope y) (h : SEF X a i I e m) (hP : j ∉ (i :: P) := by decide) (hs : swapsWith e (some (.Name y pos')) pos.line X.env = pure false := by rfl) (hf : X.fn y = true ∨ X.env.scope.names.lookup y = some .local := by first | exact .inl rfl | exact .inr rfl | assumption) :
    SSF X P a i I (.Assign [.Name y pos'] e pos) (mSetP j m) := PS.imp (ps_set nd hi hx h hs hf) fun D σ H w => by
  obtain ⟨ρ, T, c, f, R, h⟩ := w
  unfold mSetP at h
  cases e1 : m ρ with
  | ok o ρ1 =>
    rw [e1] at h
    exact ⟨ρ, T, o, ρ1, c, f, R, e1, fun v H' c' R' => h _ H' (Fix.set hP) (c'.set j v _) (Rep.store c' R'.frz)⟩
  | exc x ρ1 => rw [e1] at h; exact h.elim
  | no => rw [e1] at h; exact h.elim
theorem ssF_ret {e : Expr} {pos : Pos} {m : M O} (h : SEF X a i I e m) : SSF X P a i I (.Return (some e) pos) (mRet m) := PS.imp (ps_ret h) fun D σ H w => by
  obtain ⟨ρ, T, c, f, R, h⟩ := w
  unfold mRet at h
  cases e1 : m ρ with
  | ok o ρ1 =>
    rw [e1] at h
    exact ⟨ρ, T, o, ρ1, c, f, R, e1, fun v H' c' R' => h v σ H' (Fix.refl _ _) c' R'⟩
  | exc x ρ1 => rw [e1] at h; exact h.elim
  | no => rw [e1] at h; exact h.elim
theorem sssF_one {st : Stmt} {m : M Fl} (h : SSF X P a i I st m) : SSsF X P a i I [st] m := pss_one h
theorem sssF_cons {st : Stmt} {rest : List Stmt} {b c : M Fl} (h1 : SSF X P a i I st b) (h2 : SSsF X P a i I rest c) : SSsF X P a i I (st :: rest) (mSeq b c) := PSs.imp (pss_cons h1 h2) fun D σ H w => by
  obtain ⟨ρ, T, cv, f, R, h⟩ := w
  refine ⟨ρ, T, cv, f, R, Post.nx (D := D) h rfl rfl rfl fun ρ1 σ' H' f1 c' R' h' => ?_⟩
  exact ⟨ρ1, T, c', f.fix f1, R', h'.fix f1⟩
end

/-! ### try -/
section
variable {X : Cx} {P : List Nat} {W : WX}
theorem CxOk.tr {X : Cx} (ok : CxOk X) {pn : List (Addr × Obj)} {xe : Value → Shared → Prop} : CxOk (X.tr pn xe) := ⟨ok.calm, ok.units, ok.nd⟩
theorem Cov.clear {σ : L2.St} {ρ : Env} (c : Cov σ ρ) (i : Nat) : Cov (σ.set i none) (ρ.set i none) := by
  refine ⟨by simp [c.len], fun j q h => ?_⟩
  by_cases e : i = j
  · subst e
    have hj : i < ρ.length := by
      have := (List.getElem?_eq_some_iff.mp h).1
      simpa using this
    simp [hj] at h
  · rw [List.getElem?_set_ne e] at h ⊢
    exact c.ex j q h
theorem pairs_clear {σ : L2.St} {ρ : Env} {i : Nat} {v : Option V} (hi : i < ρ.length) : pairs (σ.set i v) (ρ.set i none) = pairs σ (ρ.set i none) := pairs_setn (by simp [hi])
/-- try: b, except y as n: s; slot i is n's -/
def mTry (es : List Str) (y : Str) (i : Nat) (b : M Fl) (s : Exn → M Fl) : M Fl := fun ρ => match b ρ with
  | .exc x ρ1 => match subX es x.c y with
    | some true => if i < ρ1.length then (match s x (ρ1.set i none) with
      | .ok f ρ2 => if i < ρ2.length then .ok f (ρ2.set i none) else .no
      | _ => .no) else .no
    | some false => .exc x ρ1
    | none => .no
  | .ok f ρ1 => .ok f ρ1
  | .no => .no
theorem Rep.unheld {K : PySem.W.Frag} {mg : Str → Option Value} {H : Hp} {σ : L2.St} {ρ : Env} {I T M : List Item} {i : Nat} (c : Cov σ ρ) (hi : i < ρ.length) (h : Rep K mg H (M ++ (pairs σ ρ ++ (I ++ T))) []) : Rep K mg H (M ++ (pairs (σ.set i none) (ρ.set i none) ++ T)) [] := by
  rw [pairs_clear hi]
  have h1 := Rep.slotDrop (M := M) c i h
  have h2 : Rep K mg H (I ++ (M ++ (pairs σ (ρ.set i none) ++ T))) [] := h1.perm ((List.Perm.append_left M (rot _ _ _)).trans (rot _ _ _))
  exact h2.drops
theorem ssX_try {n y : Str} {i : Nat} {body suite : List Stmt} {b₀ : Stmt} {np pos pos' : Pos} {b : M Fl} {s : Exn → M Fl} {es : List Str} (ok : CxOk X) (E : ExAll X.K X.mg es) (hs : X.stack = X.env :: X.outer) (hf : X.env.frame = some X.env.locals) (hi : X.N[i]? = some n) (hln : X.env.kindOf n = some .local) (hg : Gl X y) (tk : Takes X W)
    (hb : ∀ (W : WX) (pn : List (Addr × Obj)) (xe : Value → Shared → Prop), Takes (X.tr pn xe) W → PassesOwn (model X.prog X.w) X.A X.env xe → SSsX (X.tr pn xe) P W body b)
    (hsu : ∀ (a : Addr) (oe : Obj) (cls : Value) (d : Option Addr) (pn : List (Addr × Obj)) (x : Exn) (I : List Item), Held X es x I cls d oe → SSsF (X.suite a ((a, oe) :: pn)) P a i I (b₀ :: suite) (s x))
    (hy : y ∈ es := by decide) (hP : i ∉ P := by decide) (hdy : (y == ("__debug__" : Str)) = false := by decide) :
    SSX X P W (.Try body [.ExceptHandler (some (.Name y np)) (some n) (b₀ :: suite) pos'] [] [] pos) (mTry es y i b s) := by
  have T0 := ps_try_as (X := X) (n := n) (x := y) (c := .ref (He.ga X.K y)) (i := i) (body := body) (b₀ := b₀) (suite := suite) (np := np) (pos := pos) (pos' := pos') (tb := fun W => tSX X.K X.mg P W b)
    (ts := fun a cls d D σ H => ∃ x I, X.mg x.c = some cls ∧ ExI x d I ∧ tSF X.K X.mg P a i I (s x) D σ H) (Wout := W) hs hf ok.nd hi hln ⟨hg, hdy, .inl (E.gl y hy)⟩ tk hb fun a oe cls d pn hz hfl => by
      refine ⟨fun pins s1 σ H D J w => ?_⟩
      obtain ⟨x, I, h1, h2, w⟩ := w
      exact (hsu a oe cls d pn x I ⟨h1, h2, hz, hfl⟩).run pins s1 σ H D J w
  refine PS.imp T0 fun D σ H w => ?_
  obtain ⟨ρ, T, c, R, h⟩ := w
  refine ⟨ρ, T, c, R, ?_⟩
  unfold mTry at h
  cases e1 : b ρ with
  | no => rw [e1] at h; exact h.elim
  | ok f ρ1 => rw [e1] at h; exact h
  | exc x ρ1 =>
    rw [e1] at h
    intro cls d I σ' H' f' c' hm hI R'
    have h : PostX X.K X.mg P T W D σ (match subX es x.c y with
      | some true => if i < ρ1.length then (match s x (ρ1.set i none) with
        | .ok f ρ2 => if i < ρ2.length then .ok f (ρ2.set i none) else .no
        | _ => .no) else .no
      | some false => .exc x ρ1
      | none => .no) := h
    have sub : ∀ bb, subX es x.c y = some bb → PySem.W.exmOne X.K cls (.ref (He.ga X.K y)) = some bb := fun bb e => by
      unfold subX at e
      split at e
      · rename_i hx
        cases e
        have e2 := E.gl x.c hx.1
        rw [hm] at e2
        injection e2 with e2
        rw [e2]
        exact E.em x.c hx.1 y hx.2
      · cases e
    cases e2 : subX es x.c y with
    | none => rw [e2] at h; exact h.elim
    | some bb =>
      rw [e2] at h
      refine ⟨bb, sub bb e2, fun hbb a ha => ?_, fun hbb => ?_⟩
      · subst hbb
        have h : PostX X.K X.mg P T W D σ (if i < ρ1.length then (match s x (ρ1.set i none) with
          | .ok f ρ2 => if i < ρ2.length then .ok f (ρ2.set i none) else .no
          | _ => .no) else .no) := h
        split at h
        · rename_i hil
          have hi' : i < σ'.length := by rw [c'.len]; exact hil
          refine ⟨x, I, hm, hI, ρ1.set i none, I ++ T, ?_, ⟨by simp [hi'], T, List.Perm.refl _⟩, ?_, ?_⟩
          · exact ⟨by simp [c'.len], fun j q hj => by
              by_cases e : i = j
              · subst e; simp [hil] at hj
              · rw [List.getElem?_set_ne e] at hj ⊢
                exact c'.ex j q hj⟩
          · have R2 := Rep.slotDrop (M := I) c' i R'
            rw [pairs_clear hil]
            exact R2.perm (rot _ _ _)
          · cases e3 : s x (ρ1.set i none) with
            | no => rw [e3] at h; exact h.elim
            | exc x2 ρ2 => rw [e3] at h; exact h.elim
            | ok fl ρ2 =>
              rw [e3] at h
              have h : PostX X.K X.mg P T W D σ (if i < ρ2.length then .ok fl (ρ2.set i none) else .no) := h
              split at h
              · rename_i hil2
                have fx : ∀ {σ2 : L2.St}, Fix (i :: P) (σ'.set i (some (.ref a))) σ2 → Fix P σ (σ2.set i none) := fun {σ2} g => by
                  refine ⟨by rw [List.length_set, g.1, List.length_set, f'.1], fun j hj => ?_⟩
                  have hne : i ≠ j := fun e => hP (by rw [e]; exact hj)
                  rw [List.getElem?_set_ne hne, g.2 j (List.mem_cons_of_mem _ hj), List.getElem?_set_ne hne, f'.2 j hj]
                have h : Post X.K X.mg P T D σ (.ok fl (ρ2.set i none)) := h
                cases fl with
                | nx => exact fun σ2 H2 g c2 R2 => h _ H2 (fx g) (c2.clear i) (Rep.unheld (M := []) c2 hil2 R2)
                | brk => exact fun σ2 H2 g c2 R2 => h _ H2 (fx g) (c2.clear i) (Rep.unheld (M := []) c2 hil2 R2)
                | ct => exact fun σ2 H2 g c2 R2 => h _ H2 (fx g) (c2.clear i) (Rep.unheld (M := []) c2 hil2 R2)
                | ret o => exact fun v σ2 H2 g c2 R2 => h v _ H2 (fx g) (c2.clear i) (Rep.unheld (M := [.ov v o]) c2 hil2 R2)
              · exact h.elim
        · exact h.elim
      · subst hbb
        have h : ExP X.K X.mg P T W σ x ρ1 := h
        exact h cls d I σ' H' f' c' hm hI R'
theorem takes_no : Takes X (fun _ _ _ _ => False) := takes_none5
end
end FB

/-! A dict against a text: never equal. -/
namespace FB
open PySem PySem.Spec L2 PySem.Calls
open PyProof.Rows hiding St
theorem dict_eq_declines_str (l : Addr) (es : Array DictEntry) (ep : Nat) (dd : Option Addr) (sl : Array (Option Value)) (b : Str) (u : Tok) :
    Meets (Builtin.«dict.__eq__» ⟨[.ref l, .str b u], []⟩) (fun _ R s => s.heap.get? l = some { cls := .type "dict", dict := dd, data := .dict es ep, slots := sl } ∧ R (.ok (.ret .notImplemented)) s) :=
  .of_wp fun prog w A R s h => by
    obtain ⟨hp, g, d, tk, os⟩ := s
    obtain ⟨hl, h⟩ := h
    have f1 := PySem.F.sub_str_dict
    wp_walk using wpAny_loadPart' hl
    exact ⟨_, rfl, h⟩
theorem str_eq_declines_dict (b : Str) (u : Tok) (l : Addr) (c : Value) (es : Array DictEntry) (ep : Nat) (dd : Option Addr) (sl : Array (Option Value)) :
    Meets (Builtin.«str.__eq__» ⟨[.str b u, .ref l], []⟩) (fun _ R s => s.heap.get? l = some { cls := c, dict := dd, data := .dict es ep, slots := sl } ∧ R (.ok (.ret .notImplemented)) s) :=
  .of_wp fun prog w A R s h => by obtain ⟨hp, g, d, tk, os⟩ := s; obtain ⟨hl, h⟩ := h; wp_walk using wpAny_loadPart' hl, wpAny_load hl; exact ⟨_, rfl, h⟩

section
variable {A : Around} {s : Shared}
def IsDct (h : Heap) (l : Addr) : Prop := ∃ dd es ep sl, h.get? l = some { cls := .type "dict", dict := dd, data := .dict es ep, slots := sl }
theorem rc_dict_str {l : Addr} (b : Str) (u : Tok) (hl : IsDct s.heap l) (hu : A.units < cLine) : SeqAt.RcAt A s (.ref l) (.str b u) false := fun prog w E Q h => by
  obtain ⟨dd, es, ep, sl, ho⟩ := hl
  exact SeqAt.rc_eq_decline_or (k := false) ⟨_, ho, rfl⟩ (typeIs_str s b u) (by decide) PySem.F.sub_str_dict PySem.F.slot_dict_eq PySem.F.slot_str_eq_refl
    (fun _ hq => call_meets PySem.F.slot_dict_eq ⟨_, ho, rfl⟩ PySem.F.entry_dict_eq (PySem.F.args_dict_eq_2 _ _) (dict_eq_declines_str l es ep dd sl b u) ⟨ho, hq⟩)
    (fun _ hq => call_meets PySem.F.slot_str_eq_refl (typeIs_str s b u) PySem.F.entry_str_eq (PySem.F.args_str_eq_2 _ _) (str_eq_declines_dict b u l (.type "dict") es ep dd sl) ⟨ho, hq⟩)
    (fun _ hq => wpAny_of_eq (rfl : isSame (.ref l) (.str b u) = pure false) hq) (.inr hu) h
theorem rc_str_dict {l : Addr} (b : Str) (u : Tok) (hl : IsDct s.heap l) (hu : A.units < cLine) : SeqAt.RcAt A s (.str b u) (.ref l) false := fun prog w E Q h => by
  obtain ⟨dd, es, ep, sl, ho⟩ := hl
  exact SeqAt.rc_eq_decline_or (k := false) (typeIs_str s b u) ⟨_, ho, rfl⟩ (by decide) PySem.F.sub_dict_str PySem.F.slot_str_eq PySem.F.slot_dict_eq_refl
    (fun _ hq => call_meets PySem.F.slot_str_eq (typeIs_str s b u) PySem.F.entry_str_eq (PySem.F.args_str_eq_2 _ _) (str_eq_declines_dict b u l (.type "dict") es ep dd sl) ⟨ho, hq⟩)
    (fun _ hq => call_meets PySem.F.slot_dict_eq_refl ⟨_, ho, rfl⟩ PySem.F.entry_dict_eq (PySem.F.args_dict_eq_2 _ _) (dict_eq_declines_str l es ep dd sl b u) ⟨ho, hq⟩)
    (fun _ hq => wpAny_of_eq (rfl : isSame (.str b u) (.ref l) = pure false) hq) (.inr hu) h
theorem eq_str_dict {l : Addr} (b : Str) (u : Tok) (hl : IsDct s.heap l) (hu : A.units < cLine) : SeqAt.EqAt A s (.str b u) (.ref l) false := fun prog w E Q h => by
  unfold eqBool
  refine wpAny_holding ?_
  refine wpAny_ite_split (fun hab => absurd (eq_of_beq hab) nofun) (fun _ => ?_)
  exact wpAny_bind (rc_str_dict b u hl hu prog w E _ (wpAny_truthy_bool h))
theorem rd_dct {X : Cx} {pins : List (Addr × Obj)} {σ : L2.St} {H : Hp} {a : Addr} {kvs : List (Key × V)} (I : Inv X pins σ H s) (h : Rd H a (.dK kvs)) : IsDct s.heap a := by
  rcases h with h | ⟨ob, h⟩
  · obtain ⟨_, ya, va, ra, oa, es, ep, hoa, hcl, hda, _⟩ := (show ObjOk X.prog X.w H s.heap a (.dK kvs) from I.hok a _ h)
    obtain ⟨c, dd, dt, sl⟩ := oa
    have h1 := hcl.1
    simp only at h1 hda
    subst h1 hda
    exact ⟨dd, es, ep, sl, hoa⟩
  · obtain ⟨_, _, _, vs, _, o, es, ep, h1, h2, h3, _⟩ := (show ObjOk X.prog X.w H s.heap a (.frz ob (.dK kvs)) from I.hok a _ h)
    obtain ⟨c, dd, dt, sl⟩ := o
    have h4 := h2.1
    simp only at h4 h3
    subst h4 h3
    exact ⟨dd, es, ep, sl, h1⟩
end
section
variable {X : Cx} {K : PySem.W.Frag} {mg : Str → Option Value}
def rEqSD : R2 := fun x y H Q => (∃ z a kvs, x = .str z ∧ y = .ref a ∧ Rd H a (.dK kvs) ∧ Q (.bl false) H) ∨ ∃ z a kvs, x = .ref a ∧ y = .str z ∧ Rd H a (.dK kvs) ∧ Q (.bl false) H
theorem op_eqSD (ok : CxOk X) : OpR X (compareOp .Eq) rEqSD := by
  intro pins s σ H x y v u Q I rx ry h
  have hu : X.A.units < cLine := by have := ok.units; omega
  rcases h with ⟨z, a, kvs, rfl, rfl, hd, q⟩ | ⟨z, a, kvs, rfl, rfl, hd, q⟩
  · obtain ⟨t, rfl⟩ := rx
    cases (show u = Value.ref a from ry)
    exact rc_str_dict z t (rd_dct I hd) hu X.prog X.w _ _ ⟨.bl false, H, I, rfl, q⟩
  · obtain ⟨t, rfl⟩ := ry
    cases (show v = Value.ref a from rx)
    exact rc_dict_str z t (rd_dct I hd) hu X.prog X.w _ _ ⟨.bl false, H, I, rfl, q⟩
def O.isD (o : O) : Bool := match o.toD with
  | .dct _ _ => true
  | _ => false
def O.isS (o : O) : Bool := match o.toD with
  | .str _ => true
  | _ => false
def eqG (a b : O) : Option O := if (a.isD && b.isS || a.isS && b.isD) = true then some (.val (.bl false)) else eqO a b
theorem opv_eqSD {H : Hp} {L : List Item} {B : List (V × O)} {x y : V} {ox oy : O} {Q : VK} (R : Rep K mg H L B) (hx : (x, ox) ∈ B) (hy : (y, oy) ∈ B) (e : (ox.isD && oy.isS || ox.isS && oy.isD) = true) (q : Q (.bl false) H) : rEqSD x y H Q := by
  have v1 : Vw K mg H x ox.toD := R.view hx
  have v2 : Vw K mg H y oy.toD := R.view hy
  unfold O.isD O.isS at e
  cases e1 : ox.toD <;> rw [e1] at e v1 <;> cases e2 : oy.toD <;> rw [e2] at e v2 <;> first
    | (cases e; done)
    | (cases v1; cases v2; rename_i h _; first | exact .inl ⟨_, _, _, rfl, rfl, by assumption, q⟩ | exact .inr ⟨_, _, _, rfl, rfl, by assumption, q⟩)
theorem op_eqG (ok : CxOk X) : OpR X (compareOp .Eq) (fun x y H Q => rEqD X.K x y H Q ∨ rEqSD x y H Q) := (op_eqD ok.u64).or (op_eqSD ok)
theorem opv_eqG : OpV K mg (fun x y H Q => rEqD K x y H Q ∨ rEqSD x y H Q) eqG := by
  intro H L B x y ox oy o Q R hx hy e k
  unfold eqG at e
  split at e
  · rename_i h
    cases e
    exact .inr (opv_eqSD R hx hy h (k _ _ (Same.refl _) (R.scalB fun _ => .bl _)))
  · exact .inl (opv_eq H L B x y ox oy o Q R hx hy e k)
/-! x in l -/
def rInSD (K : PySem.W.Frag) : R2 := fun x y H Q => ∃ a kvs p xs, x = .ref a ∧ Rd H a (.dK kvs) ∧ y = .ref p ∧ SqL K H p xs ∧ (∀ z ∈ xs, ∃ t, z = V.str t) ∧ Q (.bl false) H
theorem op_inSD (ok : CxOk X) : OpR X (compareOp .In) (rInSD X.K) := by
  intro pins s σ H x y v u Q I rx ry h
  obtain ⟨a, kvs, p, xs, rfl, hd, rfl, hq, hs, q⟩ := h
  cases (show v = Value.ref a from rx)
  cases (show u = Value.ref p from ry)
  obtain ⟨its, r, pl, hz⟩ := I.list hq
  have hu : X.A.in1.units < cLine := by have := ok.units; show X.A.units + 1 < cLine; omega
  have hz0 : (its.toArray.any fun _ => false) = false := by simp
  refine SeqAt.in_listAt (fun _ => false) pl.isList (fun w hw => ?_) ⟨.bl false, H, I, by rw [hz0]; rfl, q⟩
  · have hw : w ∈ its := by simpa using hw
    obtain ⟨j, hj⟩ := List.getElem?_of_mem hw
    have hjl : j < xs.length := by
      have := r.length
      have := (List.getElem?_eq_some_iff.mp hj).1
      omega
    obtain ⟨u, hu2, ru⟩ := r.get (i := j) (x := xs[j]) (by simp [hjl])
    rw [hj] at hu2
    cases hu2
    obtain ⟨t, ht⟩ := hs xs[j] (by simp)
    rw [ht] at ru
    obtain ⟨tt, rfl⟩ := ru
    exact eq_str_dict t tt (rd_dct I hd) hu
theorem op_notInSD (ok : CxOk X) : OpR X (compareOp .NotIn) (fun x y H Q => ∃ a kvs p xs, x = .ref a ∧ Rd H a (.dK kvs) ∧ y = .ref p ∧ SqL X.K H p xs ∧ (∀ z ∈ xs, ∃ t, z = V.str t) ∧ Q (.bl true) H) := by
  intro pins s σ H x y v u Q I rx ry h
  obtain ⟨a, kvs, p, xs, rfl, hd, rfl, hq, hs, q⟩ := h
  cases (show v = Value.ref a from rx)
  cases (show u = Value.ref p from ry)
  obtain ⟨its, r, pl, hz⟩ := I.list hq
  have hu : X.A.in1.units < cLine := by have := ok.units; show X.A.units + 1 < cLine; omega
  have hz0 : (its.toArray.any fun _ => false) = false := by simp
  refine SeqAt.notIn_listAt (fun _ => false) pl.isList (fun w hw => ?_) ⟨.bl true, H, I, by rw [hz0]; rfl, q⟩
  · have hw : w ∈ its := by simpa using hw
    obtain ⟨j, hj⟩ := List.getElem?_of_mem hw
    have hjl : j < xs.length := by
      have := r.length
      have := (List.getElem?_eq_some_iff.mp hj).1
      omega
    obtain ⟨u, hu2, ru⟩ := r.get (i := j) (x := xs[j]) (by simp [hjl])
    rw [hj] at hu2
    cases hu2
    obtain ⟨t, ht⟩ := hs xs[j] (by simp)
    rw [ht] at ru
    obtain ⟨tt, rfl⟩ := ru
    exact eq_str_dict t tt (rd_dct I hd) hu
def D.isS : D → Bool
  | .str _ => true
  | _ => false
def allS (o : O) : Bool := match o.toD with
  | .lst ds => ds.all D.isS
  | _ => false
def inH (a b : O) : Option O := if (a.isD && allS b) = true then some (.val (.bl false)) else inO a b
def ninH (a b : O) : Option O := if (a.isD && allS b) = true then some (.val (.bl true)) else ninO a b
theorem allS_core {H : Hp} {L : List Item} {B : List (V × O)} {x y : V} {ox oy : O} (R : Rep K mg H L B) (hx : (x, ox) ∈ B) (hy : (y, oy) ∈ B) (e : (ox.isD && allS oy) = true) : ∃ a kvs p xs, x = .ref a ∧ Rd H a (.dK kvs) ∧ y = .ref p ∧ SqL K H p xs ∧ (∀ z ∈ xs, ∃ t, z = V.str t) := by
  have v1 : Vw K mg H x ox.toD := R.view hx
  have v2 : Vw K mg H y oy.toD := R.view hy
  obtain ⟨e1, e2⟩ := Bool.and_eq_true_iff.mp e
  unfold O.isD at e1
  unfold allS at e2
  cases q1 : ox.toD <;> rw [q1] at e1 v1 <;> first | (cases e1; done) | skip
  cases q2 : oy.toD <;> rw [q2] at e2 v2 <;> first | (cases e2; done) | skip
  cases v1 with
  | dct h => cases v2 with
    | lst h2 h3 =>
      refine ⟨_, _, _, _, rfl, h, rfl, .inl h2, ?_⟩
      have key : ∀ {vs : List V} {ds : List D}, Vws K mg H vs ds → ds.all D.isS = true → ∀ z ∈ vs, ∃ t, z = V.str t := by
        intro vs
        induction vs with
        | nil => intro ds _ _ z hz; simp at hz
        | cons v vs ih =>
          intro ds h3 e z hz
          cases h3 with
          | cons h3 h4 =>
            rw [List.all_cons, Bool.and_eq_true] at e
            rcases List.mem_cons.mp hz with q | q
            · subst q
              cases h3 with
              | str s => exact ⟨_, rfl⟩
              | _ => cases e.1
            · exact ih h4 e.2 z q
      exact key h3 e2
theorem op_inH (ok : CxOk X) : OpR X (compareOp .In) (fun x y H Q => rInF X.K x y H Q ∨ rInSD X.K x y H Q) := (op_inF ok).or (op_inSD ok)
theorem opv_inH : OpV K mg (fun x y H Q => rInF K x y H Q ∨ rInSD K x y H Q) inH := by
  intro H L B x y ox oy o Q R hx hy e k
  unfold inH at e
  split at e
  · rename_i h
    cases e
    obtain ⟨a, kvs, p, xs, h1, h2, h3, h4, h5⟩ := allS_core R hx hy h
    exact .inr ⟨a, kvs, p, xs, h1, h2, h3, h4, h5, k _ _ (Same.refl _) (R.scalB fun _ => .bl _)⟩
  · exact .inl (opv_in H L B x y ox oy o Q R hx hy e k)
theorem op_ninH (ok : CxOk X) : OpR X (compareOp .NotIn) (fun x y H Q => rNinF X.K x y H Q ∨ ∃ a kvs p xs, x = .ref a ∧ Rd H a (.dK kvs) ∧ y = .ref p ∧ SqL X.K H p xs ∧ (∀ z ∈ xs, ∃ t, z = V.str t) ∧ Q (.bl true) H) := (op_ninF ok).or (op_notInSD ok)
theorem opv_ninH : OpV K mg (fun x y H Q => rNinF K x y H Q ∨ ∃ a kvs p xs, x = .ref a ∧ Rd H a (.dK kvs) ∧ y = .ref p ∧ SqL K H p xs ∧ (∀ z ∈ xs, ∃ t, z = V.str t) ∧ Q (.bl true) H) ninH := by
  intro H L B x y ox oy o Q R hx hy e k
  unfold ninH at e
  split at e
  · rename_i h
    cases e
    obtain ⟨a, kvs, p, xs, h1, h2, h3, h4, h5⟩ := allS_core R hx hy h
    exact .inr ⟨a, kvs, p, xs, h1, h2, h3, h4, h5, k _ _ (Same.refl _) (R.scalB fun _ => .bl _)⟩
  · exact .inl (opv_nin H L B x y ox oy o Q R hx hy e k)
/-! ### .upper() -/
def upO (a : O) : Option O := match a with
  | .val (.str z) => if z.length ≤ 1000 ∧ PyData.strOk (Txt.upper z) = true then some (.val (.str (Txt.upper z))) else none
  | _ => none
theorem sp_upper {o : Expr} {apos pos : Pos} {f : Pf} (ho : SP X o f) (hbase : attributeBase o "upper" X.env (eval o X.env) = eval o X.env := by rfl) (hline : (apos.endLine == pos.line) = true := by rfl) : SP X (.Call (.Attribute o "upper" apos) [] [] pos) (p1 upO f) :=
  PE.imp (pe_upper ho hbase hline) fun σ H Q w => by
    obtain ⟨ρ, T, B, r, c, R, e, k⟩ := w
    unfold p1 at e
    cases e1 : f ρ with
    | none => rw [e1] at e; cases e
    | some a =>
      rw [e1] at e
      have e : upO a = some r := e
      unfold upO at e
      split at e
      · rename_i z
        split at e
        · rename_i hz
          cases e
          refine ⟨ρ, T, B, _, c, R, e1, fun v H' s' R' => ?_⟩
          obtain rfl := R'.shStr (List.mem_cons_self ..) rfl
          exact ⟨⟨_, rfl⟩, _, rfl, rfl, by omega, k _ _ s' (R'.bdrop.scalB fun _ => .str _ hz.2)⟩
        · cases e
      · cases e
/-! ### {k: v} -/
def mDisp1 (f g : Pf) : M O := fun ρ => match f ρ, g ρ with
  | some (.val (.str s)), some (.val d) => .ok (.dct [.inr s] [.val d]) ρ
  | some (.val (.int s)), some (.val d) => .ok (.dct [.inl s] [.val d]) ρ
  | _, _ => .no
theorem se_disp1 {a b : Expr} {pos : Pos} {f g : Pf} (ha : SP X a f) (hb : SP X b g) : SE X (.Dict [some a] [b] pos) (mDisp1 f g) :=
  PE.imp (pe_disp (pps_cons ha hb pps_nil) rfl rfl (by simp) (by show 1 ≤ 15; decide)) fun σ H Q w => by
    obtain ⟨ρ, T, o, ρ', c, R, e, k⟩ := w
    unfold mDisp1 at e
    split at e
    · rename_i s d e1 e2
      cases e
      intro p hp
      have R1 := R.new (o := .dK []) hp
      have R2 : Rep X.K X.mg _ (pairs σ ρ ++ (.raw p (.dK []) :: T)) [] := R1.perm List.perm_middle.symm
      refine ⟨ρ, _, [], .val (.str s), c, R2, e1, fun x H1 s1 R3 => ⟨ρ, _, _, .val d, c, R3, e2, fun y H2 s2 R4 => ?_⟩⟩
      obtain rfl := (R4.bdrop).shStr (List.mem_cons_self ..) rfl
      have R5 : Rep X.K X.mg H2 (.raw p (.dK []) :: (.ov y (.val d) :: (pairs σ ρ ++ T))) [] := (R4.keep.nob.perm ((List.perm_middle.cons _).trans (.swap _ _ _)))
      refine ⟨R5.rawAt, [(.inr s, y)], rfl, (by show 1 ≤ 15; decide), ?_⟩
      refine k _ _ c ?_
      have R6 := R5.write (o' := .dK [(Sum.inr s, y)])
      exact Rep.closeD (kvs := [(Sum.inr s, y)]) R6 rfl ⟨rfl, by simp⟩
    · rename_i s d e1 e2
      cases e
      intro p hp
      have R1 := R.new (o := .dK []) hp
      have R2 : Rep X.K X.mg _ (pairs σ ρ ++ (.raw p (.dK []) :: T)) [] := R1.perm List.perm_middle.symm
      refine ⟨ρ, _, [], .val (.int s), c, R2, e1, fun x H1 s1 R3 => ⟨ρ, _, _, .val d, c, R3, e2, fun y H2 s2 R4 => ?_⟩⟩
      obtain rfl := (R4.bdrop).shInt (List.mem_cons_self ..) rfl
      have R5 : Rep X.K X.mg H2 (.raw p (.dK []) :: (.ov y (.val d) :: (pairs σ ρ ++ T))) [] := (R4.keep.nob.perm ((List.perm_middle.cons _).trans (.swap _ _ _)))
      refine ⟨R5.rawAt, [(.inl s, y)], rfl, (by show 1 ≤ 15; decide), ?_⟩
      refine k _ _ c ?_
      have R6 := R5.write (o' := .dK [(Sum.inl s, y)])
      exact Rep.closeD (kvs := [(Sum.inl s, y)]) R6 rfl ⟨rfl, by simp⟩
    · cases e
end
end FB

/-! simp rules for what may raise. -/
namespace FB
open PySem PySem.Spec L2
open PyProof.Rows hiding St
variable {ρ : Env}
@[simp] theorem e_sqKx (b : M Fl) (x : Exn) : sqK b (.exc x ρ) = .exc x ρ := (rfl)
@[simp] theorem e_exKx (x : Exn) : exK (.exc x ρ) = .exc x ρ := (rfl)
@[simp] theorem e_rtKx (x : Exn) : rtK (.exc x ρ) = .exc x ρ := (rfl)
@[simp] theorem e_soKx (i : Nat) (x : Exn) : soK i (.exc x ρ) = .exc x ρ := (rfl)
@[simp] theorem e_mRaise (x : Exn) : mRaise x ρ = .exc x ρ := (rfl)
def endX (n : Nat) (P : List Nat) : Res Fl → Res O
  | .ok .nx ρ' => .ok (.val .non) (maskE n P ρ')
  | .ok (.ret o) ρ' => .ok o (maskE n P ρ')
  | .exc x ρ' => .exc x (maskE n P ρ')
  | _ => .no
theorem runX_eq (n N : Nat) (P : List Nat) (b : M Fl) (os : List O) : runX n N P b os = endX n P (b (os.map some ++ List.replicate (N - os.length) none)) := by
  unfold runX endX
  rfl
@[simp] theorem e_endXR (n : Nat) (P : List Nat) (o : O) : endX n P (.ok (.ret o) ρ) = .ok o (maskE n P ρ) := (rfl)
@[simp] theorem e_endXN (n : Nat) (P : List Nat) : endX n P (.ok .nx ρ) = .ok (.val .non) (maskE n P ρ) := (rfl)
@[simp] theorem e_endXX (n : Nat) (P : List Nat) (x : Exn) : endX n P (.exc x ρ) = .exc x (maskE n P ρ) := (rfl)
def dwK : Res O → Option (O × Env)
  | .ok o ρ => some (o, ρ)
  | _ => none
@[simp] theorem e_downF (F : FSemX) (os : List O) : downF F os = dwK (F os) := by unfold downF dwK; cases F os <;> rfl
@[simp] theorem e_dwK (o : O) : dwK (.ok o ρ) = some (o, ρ) := (rfl)
def cxC (as : List Arg) (ρ : Env) : Res O → Res O
  | .ok o ρ' => .ok o (giveA as ρ' ρ)
  | .exc x ρ' => .exc x (giveA as ρ' ρ)
  | .no => .no
def cxB (F : FSemX) (as : List Arg) : Option (List O × Env) → Res O
  | some r => cxC as r.2 (F r.1)
  | none => .no
def cxA (F : FSemX) (as : List Arg) : Res (List (Option O)) → Res O
  | .ok os ρ => cxB F as (takeA as os ρ)
  | _ => .no
@[simp] theorem e_mCallX (F : FSemX) (as : List Arg) : mCallX F as ρ = cxA F as (evA as ρ) := by
  unfold mCallX cxA
  cases evA as ρ with
  | ok os ρ1 =>
    show (match takeA as os ρ1 with | none => Res.no | some r => match F r.1 with | .ok o ρ' => .ok o (giveA as ρ' r.2) | .exc x ρ' => .exc x (giveA as ρ' r.2) | .no => .no) = cxB F as (takeA as os ρ1)
    unfold cxB
    cases takeA as os ρ1 with
    | none => rfl
    | some r =>
      show (match F r.1 with | .ok o ρ' => Res.ok o (giveA as ρ' r.2) | .exc x ρ' => .exc x (giveA as ρ' r.2) | .no => .no) = cxC as r.2 (F r.1)
      unfold cxC
      cases F r.1 <;> rfl
  | exc _ _ => rfl
  | no => rfl
@[simp] theorem e_cxA (F : FSemX) (as : List Arg) (os : List (Option O)) : cxA F as (.ok os ρ) = cxB F as (takeA as os ρ) := (rfl)
@[simp] theorem e_cxB (F : FSemX) (as : List Arg) (os : List O) : cxB F as (some (os, ρ)) = cxC as ρ (F os) := (rfl)
@[simp] theorem e_cxC (as : List Arg) (o : O) (ρc : Env) : cxC as ρ (.ok o ρc) = .ok o (giveA as ρc ρ) := (rfl)
@[simp] theorem e_cxCx (as : List Arg) (x : Exn) (ρc : Env) : cxC as ρ (.exc x ρc) = .exc x (giveA as ρc ρ) := (rfl)
def tyC (i : Nat) : Res Fl → Res Fl
  | .ok f ρ2 => if i < ρ2.length then .ok f (ρ2.set i none) else .no
  | _ => .no
def tyB (i : Nat) (s : Exn → M Fl) (x : Exn) (ρ1 : Env) : Option Bool → Res Fl
  | some true => if i < ρ1.length then tyC i (s x (ρ1.set i none)) else .no
  | some false => .exc x ρ1
  | none => .no
def tyK (es : List Str) (y : Str) (i : Nat) (s : Exn → M Fl) : Res Fl → Res Fl
  | .exc x ρ1 => tyB i s x ρ1 (subX es x.c y)
  | .ok f ρ1 => .ok f ρ1
  | .no => .no
@[simp] theorem e_mTry (es : List Str) (y : Str) (i : Nat) (b : M Fl) (s : Exn → M Fl) : mTry es y i b s ρ = tyK es y i s (b ρ) := by
  unfold mTry tyK
  cases b ρ with
  | ok _ _ => rfl
  | no => rfl
  | exc x ρ1 =>
    show (match subX es x.c y with
      | some true => if i < ρ1.length then (match s x (ρ1.set i none) with
        | .ok f ρ2 => if i < ρ2.length then .ok f (ρ2.set i none) else .no
        | _ => .no) else .no
      | some false => Res.exc x ρ1
      | none => .no) = tyB i s x ρ1 (subX es x.c y)
    unfold tyB
    cases subX es x.c y with
    | none => rfl
    | some bb =>
      cases bb with
      | false => rfl
      | true =>
        show (if i < ρ1.length then (match s x (ρ1.set i none) with
          | .ok f ρ2 => if i < ρ2.length then Res.ok f (ρ2.set i none) else .no
          | _ => .no) else .no) = _
        unfold tyC
        cases s x (ρ1.set i none) <;> rfl
@[simp] theorem e_tyKx (es : List Str) (y : Str) (i : Nat) (s : Exn → M Fl) (x : Exn) : tyK es y i s (.exc x ρ) = tyB i s x ρ (subX es x.c y) := (rfl)
@[simp] theorem e_tyKo (es : List Str) (y : Str) (i : Nat) (s : Exn → M Fl) (f : Fl) : tyK es y i s (.ok f ρ) = .ok f ρ := (rfl)
@[simp] theorem e_tyB (i : Nat) (s : Exn → M Fl) (x : Exn) (h : i < ρ.length) : tyB i s x ρ (some true) = tyC i (s x (ρ.set i none)) := by unfold tyB; rw [if_pos h]
@[simp] theorem e_tyBf (i : Nat) (s : Exn → M Fl) (x : Exn) : tyB i s x ρ (some false) = .exc x ρ := (rfl)
@[simp] theorem e_tyC (i : Nat) (f : Fl) (h : i < ρ.length) : tyC i (.ok f ρ) = .ok f (ρ.set i none) := if_pos h
theorem e_mIs {es : List Str} {y : Str} {x : Exn} (h1 : x.ds = []) (h2 : x.c ∈ es) : mIs es y x ρ = .ok (.val (.bl (subB x.c y))) ρ := by unfold mIs; rw [if_pos ⟨h1, h2⟩]
theorem e_mIsT {es ys : List Str} {x : Exn} (h1 : x.ds = []) (h2 : x.c ∈ es) : mIsT es ys x ρ = .ok (.val (.bl (ys.any (subB x.c)))) ρ := by unfold mIsT; rw [if_pos ⟨h1, h2⟩]
theorem e_mIsV {es : List Str} {x : Exn} (h1 : x.ds = []) (h2 : x.c ∈ es) : mIsV es x ρ = .ok (.val (.bl true)) ρ := by unfold mIsV; rw [if_pos ⟨h1, h2⟩]
def d1K (ρ : Env) : Option O → Option O → Res O
  | some (.val (.str s)), some (.val d) => .ok (.dct [.inr s] [.val d]) ρ
  | some (.val (.int s)), some (.val d) => .ok (.dct [.inl s] [.val d]) ρ
  | _, _ => .no
@[simp] theorem e_mDisp1 (f g : Pf) : mDisp1 f g ρ = d1K ρ (f ρ) (g ρ) := (rfl)
@[simp] theorem e_d1I (s : Int) (d : D) : d1K ρ (some (.val (.int s))) (some (.val d)) = .ok (.dct [.inl s] [.val d]) ρ := (rfl)
@[simp] theorem e_d1K (s : Str) (d : D) : d1K ρ (some (.val (.str s))) (some (.val d)) = .ok (.dct [.inr s] [.val d]) ρ := (rfl)
@[simp] theorem toD_dct (ks : List Key) (os : List O) : (O.dct ks os).toD = .dct ks (O.toDs os) := (rfl)
/-! texts, dicts -/
@[simp] theorem eqG_str (a b : Str) : eqG (.val (.str a)) (.val (.str b)) = eqO (.val (.str a)) (.val (.str b)) := (rfl)
@[simp] theorem eqG_dct (a : Str) (ks : List Key) (ds : List D) : eqG (.val (.str a)) (.val (.dct ks ds)) = some (.val (.bl false)) := (rfl)
@[simp] theorem inH_str (a : Str) (o : O) : inH (.val (.str a)) o = inO (.val (.str a)) o := (rfl)
@[simp] theorem inH_non (o : O) : inH (.val .non) o = inO (.val .non) o := (rfl)
/-- a thing that is no text, against texts -/
theorem eqv_no (s : Str) {d : D} (h : d.isS = false) : D.eqv (.str s) d = false := by
  cases d <;> first | rfl | cases h
theorem eqG_no (s : Str) {d : D} (h : d.isS = false) (h2 : d.okE 9 = true ∨ ∃ ks ds, d = .dct ks ds) : eqG (.val (.str s)) (.val d) = some (.val (.bl false)) := by
  rcases h2 with h2 | ⟨ks, ds, rfl⟩
  · have e : eqG (.val (.str s)) (.val d) = eqO (.val (.str s)) (.val d) := by
      cases d <;> first | rfl | (cases h; done) | (cases h2; done)
    rw [e]
    unfold eqO
    have h2' : (O.val d).toD.okE 9 = true := h2
    rw [if_pos (by rw [h2']; rfl)]
    have : (O.val (.str s)).toD.eqv (O.val d).toD = false := eqv_no s h
    rw [this]
  · rfl
theorem inH_no (ys : List Str) {d : D} (o : O) (ho : o.toD = .lst (ys.map D.str)) (h : d.isS = false) (h2 : d.okE 9 = true ∨ ∃ ks ds, d = .dct ks ds) : inH (.val d) o = some (.val (.bl false)) := by
  rcases h2 with h2 | ⟨ks, ds, rfl⟩
  · have e : inH (.val d) o = inO (.val d) o := by
      cases d <;> first | rfl | (cases h2; done)
    have a1 : ((ys.map D.str).any fun e => e.eqv d) = false := by
      rw [List.any_map, List.any_eq_false]
      intro y _
      show ¬ D.eqv (.str y) d = true
      rw [eqv_no y h]; exact Bool.false_ne_true
    have a2 : (ys.map D.str).all (D.okE 8) = true := by simp [D.okE]
    rw [e]
    unfold inO
    rw [ho]
    have : inD d (.lst (ys.map D.str)) = some false := by
      show (if d.flat = true ∧ (ys.map D.str).all D.flat = true then some ((ys.map D.str).any fun e => e.eqv d) else if d.okE 9 = true ∧ (ys.map D.str).all (D.okE 8) = true then some ((ys.map D.str).any fun e => e.eqv d) else none) = _
      rw [a1, if_pos (show d.okE 9 = true ∧ _ from ⟨h2, a2⟩)]
      split <;> rfl
    show (inD d (.lst (ys.map D.str))).map _ = _
    rw [this]; rfl
  · unfold inH
    have e1 : (O.val (.dct ks ds)).isD = true := rfl
    have e2 : allS o = true := by unfold allS; rw [ho]; simp [D.isS]
    rw [e1, e2, if_pos (by rfl)]
end FB

/-! enumerate of a tuple; a tuple times a number; texts of the module. -/
namespace ET
open PySem PySem.Sem
open AutoSeq1 (wpAny_loadPart')
theorem meets_new (l : Addr) (items : Array Value) (n : Nat) (dct : Option Addr) (sl : Array (Option Value)) :
    Meets (Builtin.«enumerate.__new__» ⟨[.type "enumerate", .ref l], []⟩) (fun _ R s => s.heap.get? l = some { cls := .type "tuple", dict := dct, data := .seq items n, slots := sl } ∧
      R (.ok (.ret (.ref (s.heap.push { cls := .type "tuple_iterator", data := .fields #[.ref l, .int 0 0] }).objs.size)))
        { s with heap := (s.heap.push { cls := .type "tuple_iterator", data := .fields #[.ref l, .int 0 0] }).push { cls := .type "enumerate", data := .fields #[.none, .bool false, .ref s.heap.objs.size, rawInt 0, .none, .none] } }) :=
  .of_wp fun prog w A R s h => by
    obtain ⟨hp, g, d, tk, os⟩ := s; obtain ⟨hl, h⟩ := h
    have hsub := sub_enumerate
    have hL : Heap.IsTuple (Shared.heap ⟨hp, g, d, tk, os⟩) l items := ⟨_, hl, rfl, n, rfl⟩
    wp_walk using wpAny_loadPart' hl
    refine wpAny_stack_any fun st => wpAny_pure ?_
    split
    · rename_i c _ _ _ _ _
      cases (c == Value.type "enumerate")
      · wp_walk using wpAny_loadPart' hl, wpAny_pyIter_tuple hL
        exact ⟨_, rfl, h⟩
      · wp_walk using wpAny_loadPart' hl, wpAny_pyIter_tuple hL
        exact ⟨_, rfl, h⟩
    · wp_walk using wpAny_loadPart' hl, wpAny_pyIter_tuple hL
      exact ⟨_, rfl, h⟩
section
variable {prog : Program} {w : World} {A : Around} {E : Value → Shared → Prop} {s : Shared}
theorem call_tuple {l : Addr} {items : Array Value} {Q : Value → Shared → Prop} (hL : s.heap.IsTuple l items)
    (h : ∀ h', IsEnum h' (s.heap.objs.size + 1) s.heap.objs.size 0 .none → h'.IsTupleIter s.heap.objs.size l 0 → (∀ b o, s.heap.get? b = some o → h'.get? b = some o) → Q (.ref (s.heap.objs.size + 1)) { s with heap := h' }) :
    wpAny (model prog w) A (call (.type "enumerate") [.ref l]) Q E s := by
  obtain ⟨⟨c, dct, dt, sl⟩, hl, hc, n, hd⟩ := hL
  replace hc : c = .type "tuple" := hc
  replace hd : dt = .seq items n := hd
  subst hc hd
  refine callType_new PySem.F.called_enumerate (by decide) (PySem.F.typeCall_enumerate_1 _) (PySem.F.newCall_enumerate_1 _) (fun obj => PySem.F.args_object_init_2 obj _) PySem.F.entry_enumerate_new
    (meets_new l items n dct sl) ⟨hl, ?_⟩
  have hz : (s.heap.push { cls := .type "tuple_iterator", data := .fields #[.ref l, .int 0 0] }).objs.size = s.heap.objs.size + 1 := Heap.size_push ..
  show _ ∧ _
  rw [hz]
  have he : IsEnum ((s.heap.push { cls := .type "tuple_iterator", data := .fields #[.ref l, .int 0 0] }).push
      { cls := .type "enumerate", data := .fields #[.none, .bool false, .ref s.heap.objs.size, rawInt 0, .none, .none] }) (s.heap.objs.size + 1) s.heap.objs.size 0 .none := by
    have := Heap.get?_push_size (s.heap.push { cls := .type "tuple_iterator", data := .fields #[.ref l, .int 0 0] })
      (o := { cls := .type "enumerate", data := .fields #[.none, .bool false, .ref s.heap.objs.size, rawInt 0, .none, .none] }) rfl
    rw [hz] at this; exact this
  exact ⟨⟨_, he, rfl⟩, h _ he ⟨_, Heap.get?_push_of_some _ (Heap.get?_push_size _ rfl), rfl, rfl⟩ fun b o x => Heap.get?_push_of_some _ (Heap.get?_push_of_some _ x)⟩
theorem drawsT (hh : A.handled = none) (it l : Addr) (hne : l ≠ it) (items : Array Value) :
    Draws prog w A it [it, l] items.size (fun i v => items[i]? = some v) (fun i h => h.IsTupleIter it l i ∧ h.IsTuple l items) where
  live := fun _ _ st => let ⟨o, ho, _⟩ := st.1; ⟨o, ho⟩
  frame := fun _ _ _ st hk => ⟨st.1.at fun o e => hk it (by simp) o e, st.2.at fun o e => hk l (by simp) o e⟩
  item := fun i s Q E hi st hQ => by
    refine RZ.nextOf_tuple_item st.1 st.2 (x := items[i]) (by simp [hi]) fun h' hit' hs' => ?_
    exact hQ _ h' s.toks (by simp [hi]) ⟨hit', st.2.extBut hs'.extBut hne⟩ hs'
  done := fun s Q E st hE => RZ.nextOf_tuple_end hh st.1 st.2 (by simp) hE
end
end ET
namespace FB
open PySem PySem.Spec L2
open PyProof.Rows hiding St
/-- the tuple at a as it stands, each item in a new pair -/
def ItU (K : PySem.W.Frag) (a : Addr) : It :=
  ⟨fun i H => ∃ (xs : List V) (x : V), SqT K H a xs ∧ xs[i]? = some x, fun i H v H' => ∃ T x, v = .ref T ∧ H T = none ∧ H' = upd H T (.tup [.int (i : Nat), x]) ∧ ∀ xs, SqT K H a xs → xs[i]? = some x, fun i H => ∃ xs : List V, SqT K H a xs ∧ xs.length ≤ i⟩
theorem turn_enumU {P : Program} {w : World} {K : PySem.W.Frag} {elts : List Expr} {kk : Nat} {tpos : Pos} (a e it : Addr) :
    Turn P w K (.Tuple elts kk tpos) (ItU K a) [e, it] e (fun i h => (∃ old, IsEnum h e it ((i : Nat) : Int) old) ∧ h.IsTupleIter it a i ∧ e ≠ it ∧ a ≠ it ∧ a ≠ e) where
  mem := by simp
  obj := fun i h st b hb => by
    obtain ⟨⟨old, he⟩, ⟨o, ho, hc, hd⟩, _⟩ := st
    have e' : b = e ∨ b = it := by simpa using hb
    rcases e' with z | z
    · rw [z]; exact ⟨_, he, fun v q => nomatch q⟩
    · rw [z]; exact ⟨o, ho, fun v q => by rw [hd] at q; cases q⟩
  keep := fun i h h' st k => let ⟨⟨old, he⟩, hi, hne⟩ := st; ⟨⟨old, k e (by simp) _ he⟩, hi.at fun o q => k it (by simp) o q, hne⟩
  item := by
    intro X hP hw hK hc i pins s σ H E I hf st hg
    subst hP hw hK
    obtain ⟨⟨old, he⟩, hit, hne, hai, hae⟩ := st
    obtain ⟨xs, x, hq, hx⟩ := hg
    obtain ⟨its, rv, p, hz⟩ := I.tuple hq
    obtain ⟨u, hu, ru⟩ := rv.get hx
    have hel : e < s.heap.objs.size := Heap.lt_size he
    have hil : it < s.heap.objs.size := by obtain ⟨_, q, _⟩ := hit; exact Heap.lt_size q
    have hi : i < its.toArray.size := by
      have := (List.getElem?_eq_some_iff.mp hu).1
      simpa using this
    refine wpAny_pyNext_enum_itemD (ET.drawsT (A := X.A.in1) (show X.A.in1.handled = none from I.ok.hd hc) it a hai its.toArray) he ⟨hit, p⟩ hi hne (by simp [hne]; exact fun z => hae z.symm) fun x' h' tk hx' ho st' hT hsz hk => ?_
    have ex : x' = u := by
      have h1 : its[i]? = some x' := by simpa using hx'
      rw [hu] at h1
      cases h1; rfl
    subst ex
    obtain ⟨hit', _⟩ := st'
    refine ⟨_, rfl, wpAny_letOwnedTupleGo_enum (s := { s with heap := h', toks := tk + 1 }) ho fun h'' he' sb => ?_⟩
    have hT2 : h''.get? s.heap.objs.size = some { cls := .type "tuple", data := .seq #[.int i tk, x'] } := (sb.2 _ (Nat.ne_of_gt hel)).trans hT
    have new : ObjOk X.prog X.w (upd H s.heap.objs.size (.tup [.int (i : Nat), x])) h'' s.heap.objs.size (.tup [.int (i : Nat), x]) :=
      ⟨by show 2 ≤ sizeLine; decide, [.int i tk, x'], .cons ⟨_, rfl⟩ (.cons ru .nil), ⟨_, hT2, rfl, _, rfl⟩⟩
    have I1 : Inv X pins σ (upd H s.heap.objs.size (.tup [.int (i : Nat), x])) { s with heap := h'', toks := tk + 1 } :=
      I.turnedNew (ch := [e, it]) (fun b ob hb q => (sb.2 b (fun z => hb (by simp [z]))).trans (hk b ob (fun z => hb (by simp [z])) (fun z => hb (by simp [z])) q)) hf (Nat.le_refl _) new
    refine ⟨.ref s.heap.objs.size, _, I1, rfl, ⟨_, x, rfl, I.hok.fresh (Nat.le_refl _), rfl, fun ys hy => by rw [I.tuple_inj hy hq]; exact hx⟩, ⟨⟨x', ?_⟩, hit'.at fun o q => (sb.2 it (Ne.symm hne)).trans q, hne, hai, hae⟩, fun b hb => ?_⟩
    · have e1 : ((i + 1 : Nat) : Int) = (i : Int) + 1 := by omega
      rw [e1]; exact he'
    · have hb' : b < s.heap.objs.size := by
        have e' : b = e ∨ b = it := by simpa using hb
        rcases e' with z | z
        · rw [z]; exact hel
        · rw [z]; exact hil
      rw [upd_ne (Nat.ne_of_lt hb')]
      exact (hf b hb).1
  done := by
    intro X hP hw hK hc i pins s σ H E I hf st hg
    subst hP hw hK
    obtain ⟨⟨old, he⟩, hit, hne, hai, hae⟩ := st
    obtain ⟨xs, hq, hx⟩ := hg
    obtain ⟨its, rv, p, hz⟩ := I.tuple hq
    obtain ⟨f0, f1, f2, f3, f4, f5⟩ := hf it (by simp)
    have hl := rv.length
    have hT : s.TypeIs (.ref e) "enumerate" := ⟨_, he, rfl⟩
    unfold pyNext
    refine wpAny_bind (wpAny_attempt (wpAny_callSpecial?_slot (name := Str.ofString "__next__") hT PySem.F.slot_enumerate_next
      (wpAny_call_entry PySem.F.slot_enumerate_next hT PySem.F.entry_enumerate_next ?_ (PySem.F.args_enumerate_next_1 _))))
    show wpAny _ _ (field (.ref e) 2 >>= _) _ _ _
    refine wpAny_bind (wpAny_field he rfl (x := .ref it) rfl ?_)
    refine wpAny_bind (RZ.nextOf_tuple_end (show X.A.in1.handled = none from I.ok.hd hc) hit p (by simp; omega) fun h' x he' hx' => ?_)
    obtain ⟨o, ho, hc2⟩ := hx'
    refine wpAny_bind (wpAny_isInstance (T := "StopIteration") (b := true) ⟨o, ho, hc2⟩ isSubtype_stop ?_)
    exact wpAny_pure ⟨rfl, I.turned (t' := s.toks) (fun b o hb q => he' b o hb q) f0 f1 f3 f4 f5⟩
  self := fun A i s Q E st h => let ⟨⟨_, he⟩, _⟩ := st; wpAny_pyIter_enum he h
def iEnumU (K : PySem.W.Frag) (ta : TA) : TI := fun σ H R => ta σ H fun vs H1 => ∃ a xs, vs = [.ref a] ∧ SqT K H1 a xs ∧ R (ItU K a) H1
theorem pi_enumU {X : Cx} {e : Expr} {ta : TA} {p pos tpos : Pos} {elts : List Expr} {kk : Nat} (hg : Gl X "enumerate") (hm : X.mg "enumerate" = none) (ha : PA X [e] ta) (hs : starEach [e] X.env = [(false, eval e X.env)] := by rfl) :
    PI X (.Tuple elts kk tpos) (.Call (.Name "enumerate" p) [e] [] pos) (iEnumU X.K ta) := by
  refine ⟨fun pins s σ H R I h => ?_⟩
  refine Call_ (ld_blt I hg hm boot_enumerate (PyProof.Rows.callWith_type1 (thn (ha.run pos pins s σ H _ I h) fun us s1 ⟨vs, H1, I1, r1, q1⟩ => ?_) hs rfl))
  obtain ⟨a, xs, ex, hq, q⟩ := q1
  subst ex
  cases r1 with
  | cons r rr =>
    cases rr
    cases r
    obtain ⟨its, rv, p', hz⟩ := I1.tuple hq
    have hal : a < s1.heap.objs.size := by obtain ⟨_, q, _⟩ := p'; exact Heap.lt_size q
    refine ET.call_tuple p' fun h' he hit hk => wpAny_pyIter_enum he ?_
    have I2 : Inv X pins σ H1 { s1 with heap := h' } := I1.kept (t' := s1.toks) hk
    refine ⟨s1.heap.objs.size + 1, [s1.heap.objs.size + 1, s1.heap.objs.size], _, _, H1, rfl, I2, turn_enumU a (s1.heap.objs.size + 1) s1.heap.objs.size, ⟨⟨.none, he⟩, hit, Nat.succ_ne_self _, Nat.ne_of_lt hal, Nat.ne_of_lt (Nat.lt_succ_of_lt hal)⟩, fun b hb => ?_, q⟩
    have e' : b = s1.heap.objs.size + 1 ∨ b = s1.heap.objs.size := by simpa using hb
    have hle : s1.heap.objs.size ≤ b := by
      rcases e' with z | z
      · rw [z]; exact Nat.le_add_right _ _
      · rw [z]; exact Nat.le_refl _
    exact I1.fpOk hle (I1.hok.fresh hle)
section
variable {X : Cx} {K : PySem.W.Frag} {mg : Str → Option Value}
theorem its_enumU {a : Addr} {ds : List D} : Its K mg (ItU K a) [.ov (.ref a) (.val (.tup ds))] (enumL ds) := by
  intro L H R
  obtain ⟨p, vs, e, hp, lp, R1⟩ := (Rep.lend R).shT (List.mem_cons_self ..) rfl
  cases e
  have hl : (enumL ds).length = ds.length := by unfold enumL; simp
  refine ⟨fun i d hd => ?_, ⟨vs, hp, by rw [hl]; omega⟩⟩
  obtain ⟨e, he, rfl⟩ := enumL_get hd
  have hi : i < ds.length := (List.getElem?_eq_some_iff.mp he).1
  have hv : vs[i]? = some (vs[i]'(by omega)) := by simp
  refine ⟨⟨vs, _, hp, hv⟩, fun x H' y => ?_⟩
  obtain ⟨T, u, rfl, hT, rfl, y⟩ := y
  have hu := y vs hp
  refine ⟨sameNew hT, ?_⟩
  have R2 := (R1.nth hu he).keep.nob
  have R3 : Rep K mg H (zipI [.int (i : Nat), u] ([D.int (i : Nat), e].map O.val) ++ (.ov (.ref a) (.val (.tup ds)) :: L)) [] := R2.scal fun _ => .int _
  exact Rep.newT R3 rfl hT
/-- enumerate of a list or of a tuple -/
def enE (ρ : Env) : D → Res (List D)
  | .lst ds => .ok (enumL ds) ρ
  | .tup ds => .ok (enumL ds) ρ
  | _ => .no
def enL : Res O → Res (List D)
  | .ok o ρ => enE ρ o.toD
  | .exc x ρ => .exc x ρ
  | .no => .no
def mEnumU (m : M O) : M (List D) := fun ρ => enL (m ρ)
theorem si_enumU {a : Expr} {elts : List Expr} {kk : Nat} {tpos : Pos} {p pos : Pos} {m : M O} (hg : Gl X "enumerate") (hm : X.mg "enumerate" = none) (ha : SE X a m) (hs : starEach (a :: []) X.env = (false, eval a X.env) :: starEach [] X.env := by rfl) : SI X (.Tuple elts kk tpos) (.Call (.Name "enumerate" p) [a] [] pos) (mEnumU m) :=
  PI.imp (FB.PI.or (pi_enum hg hm (pa_cons ha pa_nil hs) hs) (pi_enumU hg hm (pa_cons ha pa_nil hs) hs)) fun σ H R w => by
    obtain ⟨ρ, T, ds, ρ', c, Rp, e, k⟩ := w
    unfold mEnumU at e
    cases e1 : m ρ with
    | exc x ρ1 => rw [e1] at e; cases e
    | no => rw [e1] at e; cases e
    | ok o ρ1 =>
      rw [e1] at e
      have e : enE ρ1 o.toD = .ok ds ρ' := e
      unfold enE at e
      split at e
      · rename_i es hd
        cases e
        refine .inl ⟨ρ, T, o, _, c, Rp, e1, fun v H' c' R' => ?_⟩
        have R2 := R'.frz
        rw [hd] at R2
        obtain ⟨p, vs, rfl, hp, lp, _⟩ := R2.lend.shL (List.mem_cons_self ..) rfl
        exact ⟨p, vs, rfl, .inl hp, k _ _ _ c' its_enum R2⟩
      · rename_i es hd
        cases e
        refine .inr ⟨ρ, T, o, _, c, Rp, e1, fun v H' c' R' => ?_⟩
        have R2 := R'.frz
        rw [hd] at R2
        obtain ⟨p, vs, rfl, hp, lp, _⟩ := R2.lend.shT (List.mem_cons_self ..) rfl
        exact ⟨p, vs, rfl, hp, k _ _ _ c' its_enumU R2⟩
      · cases e
@[simp] theorem e_mEnumU {ρ : Env} (m : M O) : mEnumU m ρ = enL (m ρ) := (rfl)
@[simp] theorem e_enL {ρ : Env} (d : D) : enL (.ok (.val d) ρ) = enE ρ d := (rfl)
@[simp] theorem e_enEl {ρ : Env} (ds : List D) : enE ρ (.lst ds) = .ok (enumL ds) ρ := (rfl)
@[simp] theorem e_enEt {ρ : Env} (ds : List D) : enE ρ (.tup ds) = .ok (enumL ds) ρ := (rfl)
/-! a text of the module -/
theorem sp_gs {x : Str} {pos : Pos} {z : Str} (hg : Gl X x) (h : ∃ u, X.mg x = some u ∧ RelV (.str z) u) (hz : PyData.strOk z = true := by decide +kernel) (hd : (x == ("__debug__" : Str)) = false := by decide) : SP X (.Name x pos) (pC (.str z)) := sp_c (C8.pe_gc hg h hd) fun _ => .str z hz
theorem str_gl {h : Heap} {x z : Str} (Y : K.In h) (G : h.Ns mainGlobals mg) (c : (He.Fa.str x z).ok K = true) : ∃ u, mg x = some u ∧ RelV (.str z) u := by
  obtain ⟨t, e⟩ := He.str_ok Y G c
  exact ⟨_, e, t, rfl⟩
end
end FB

/-! Own errors with fields, made and raised. -/
namespace FB
open PySem PySem.Spec L2
open PyProof.Rows hiding St

/-- what is looked at of such a class -/
def oexB (K : PySem.W.Frag) (C : Addr) : Bool := (match K.lookup C with
  | some ⟨.type "type", _, .cls cd, sl⟩ => (match cd.mro, sl.toList with
    | .ref C' :: bm, [_, _, _, _, some (.builtin n), _] => C' == C && n == "ValueError.__new__" && cd.hasDict && !cd.hasDel && PySem.HandSPX.refsVE bm
    | _, _ => false)
  | _ => false) && (decide (PySem.W.findIn K (.ref C) "__setattr__" = some (some (.builtin "object.__setattr__"))) && (decide (PySem.W.subIn K (.ref C) (.type "BaseException") = some true) && (decide (PySem.W.typeIn K (.ref C) = some (.type "type")) && PySem.W.keepIn K (.ref C))))
theorem oexB_ok {K : PySem.W.Frag} {C : Addr} (h : oexB K C = true) : OexC K C := by
  unfold oexB at h
  rw [Bool.and_eq_true, Bool.and_eq_true, Bool.and_eq_true, Bool.and_eq_true, decide_eq_true_eq, decide_eq_true_eq, decide_eq_true_eq] at h
  obtain ⟨q, h1, h2, h3, h4⟩ := h
  refine ⟨?_, h1, h2, h3, h4⟩
  split at q
  · rename_i dd cd sl ho
    split at q
    · rename_i C' bm k0 k1 k2 k3 n k5 hm hs
      simp only [Bool.and_eq_true, beq_iff_eq, Bool.not_eq_true'] at q
      obtain ⟨⟨⟨⟨rfl, rfl⟩, hdd⟩, hdel⟩, hv⟩ := q
      obtain ⟨nm, bs, mro, ns, qn, hd, sn, sub, ab, col, del⟩ := cd
      dsimp only at hm hdd hdel
      subst hm hdd hdel
      have hsl : sl = #[k0, k1, k2, k3, some (.builtin "ValueError.__new__"), k5] := by
        obtain ⟨l⟩ := sl
        simp only at hs
        rw [hs]
      subst hsl
      exact ⟨nm, qn, ns, bs, bm, sn, sub, ab, col, dd, k0, k1, k2, k3, k5, ho, hv⟩
    · cases q
  · cases q
/-- the base whose __init__ is called -/
structure BaseC (K : PySem.W.Frag) (mg : Str → Option Value) (B : Str) : Prop where
  mg : mg B = some (.ref (He.ga K B))
  rd : PySem.W.readsIn K (He.ga K B) (.type "type") = true
  ga : PySem.W.specialIn K (.ref (He.ga K B)) "__getattribute__" = some (some (.builtin "type.__getattribute__"))
  at_ : PySem.W.findCls K (.ref (He.ga K B)) (.type "type") "__init__" = some (.val (.builtin "ValueError.__init__"))
def baseB (B : Str) (K : PySem.W.Frag) : Bool := He.eqO (PySem.W.nsIn K mainGlobals B) (some (some (.ref (He.ga K B)))) && (PySem.W.readsIn K (He.ga K B) (.type "type") && (decide (PySem.W.specialIn K (.ref (He.ga K B)) "__getattribute__" = some (some (.builtin "type.__getattribute__"))) &&
  (match PySem.W.findCls K (.ref (He.ga K B)) (.type "type") "__init__" with
    | some (.val (.builtin n)) => n == "ValueError.__init__"
    | _ => false)))
theorem baseB_ok {K : PySem.W.Frag} {h : Heap} {mg : Str → Option Value} {B : Str} (X : K.In h) (G : h.Ns mainGlobals mg) (c : baseB B K = true) : BaseC K mg B := by
  unfold baseB at c
  rw [Bool.and_eq_true, Bool.and_eq_true, Bool.and_eq_true, decide_eq_true_eq] at c
  obtain ⟨h1, h2, h3, h4⟩ := c
  refine ⟨PySem.W.mg_of X G (He.eqO_ok h1), h2, h3, ?_⟩
  split at h4
  · rename_i n e
    rw [e, beq_iff_eq.mp h4]
  · cases h4
/-- .. and the class's own __init__ -/
def ownInitB (c : Str) (fs : List Str) (K : PySem.W.Frag) : Bool := oexB K (He.ga K c) && (He.eqO (PySem.W.nsIn K mainGlobals c) (some (some (.ref (He.ga K c)))) && (He.eqO (PySem.W.findIn K (.ref (He.ga K c)) "__init__") (some (some (.ref (He.ma K (He.ga K c) "__init__")))) &&
  (decide (PySem.W.typeIn K (.ref (He.ma K (He.ga K c) "__init__")) = some (.type "function")) && fs.all fun f => decide (PySem.W.findIn K (.ref (He.ga K c)) f = some none))))
structure OwnInit (K : PySem.W.Frag) (mg : Str → Option Value) (c : Str) (fs : List Str) : Prop where
  mg : mg c = some (.ref (He.ga K c))
  ox : OexC K (He.ga K c)
  ic : PySem.W.findIn K (.ref (He.ga K c)) "__init__" = some (some (.ref (He.ma K (He.ga K c) "__init__")))
  ti : PySem.W.typeIn K (.ref (He.ma K (He.ga K c) "__init__")) = some (.type "function")
  no : ∀ f ∈ fs, PySem.W.findIn K (.ref (He.ga K c)) f = some none
theorem ownInit_ok {K : PySem.W.Frag} {h : Heap} {mg : Str → Option Value} {c : Str} {fs : List Str} (X : K.In h) (G : h.Ns mainGlobals mg) (q : ownInitB c fs K = true) : OwnInit K mg c fs := by
  unfold ownInitB at q
  rw [Bool.and_eq_true, Bool.and_eq_true, Bool.and_eq_true, Bool.and_eq_true, decide_eq_true_eq] at q
  obtain ⟨h1, h2, h3, h4, h5⟩ := q
  exact ⟨PySem.W.mg_of X G (He.eqO_ok h2), oexB_ok h1, He.eqO_ok h3, h4, fun f hf => of_decide_eq_true (List.all_eq_true.mp h5 f hf)⟩
/-! a hook whose part of the heap holds the statics as well -/
def obsSG (px : List (PySem.W.Frag → Bool)) (n : Nat) (fa : List He.Fa) (fn : List He.DefD) (g : Addr → Option Obj) : He.AlD := obsP px fa fn (He.frG g (He.asD g n ++ [cStatics]))
def hookS (px : List (PySem.W.Frag → Bool)) (n : Nat) (fa : List He.Fa) (fn : List He.DefD) : PySem.W.Hook where
  α := He.AlD
  obs := fun s => obsSG px n fa fn s.heap.get?
  val := fun _ => He.valD fn
  says := fun _ h => ∃ K : PySem.W.Frag, K.In h ∧ SaysP px fa fn K
  of := fun _ _ e => ⟨_, He.frG_in, e⟩
  keeps := fun _ _ _ ⟨K, hK, c⟩ k => ⟨K, PySem.W.Frag.In.keeps hK k, c⟩
theorem obsSG_eq {px : List (PySem.W.Frag → Bool)} {n : Nat} {fa : List He.Fa} {fn : List He.DefD} {g : Addr → Option Obj} {s : Shared} (h : ∀ a, g a = s.heap.get? a) : obsSG px n fa fn g = (hookS px n fa fn).obs s := by
  have e : g = s.heap.get? := funext h
  rw [e] <;> rfl

section
variable {X : Cx} {K : PySem.W.Frag} {mg : Str → Option Value}
theorem pe_beinit {pl : Sem Bool} {B : Str} {e : Expr} {es : List Expr} {ta : TA} {p1 p2 pos : Pos} (b : BaseC X.K X.mg B) (hg : Gl X B) (ha : PA X (e :: es) ta)
    (hc : eval (.Call (.Attribute (.Name B p1) "__init__" p2) (e :: es) [] pos) X.env = (do
      let ov ← eval (.Name B p1) X.env
      standAt p2.atName
      let (f, first) ← holding [ov] (getMethod ov "__init__" pl)
      callWith pos f first (backTo pos (starEach (e :: es) X.env)) (backToKw pos (keywordEach [] X.env))) := by rfl)
    (hdb : (B == ("__debug__" : Str)) = false := by decide)
    (he : starEach (e :: es) X.env = (false, eval e X.env) :: starEach es X.env := by rfl) (hpl : (backTo pos (starEach es X.env)).any (·.1) = false := by rfl) :
    PE X (.Call (.Attribute (.Name B p1) "__init__" p2) (e :: es) [] pos) (tVeI X.K ta) := by
  refine ⟨fun pins s σ H Q I h => ?_⟩
  refine PySem.W.methodCall_KW (pl := pl) (ld_glob I hg b.mg ?_ hdb) hc
  refine PySem.W.method_cls I.kIn b.ga (PySem.W.cls_value I.kIn b.rd b.at_ rfl ?_)
  show wpAny _ _ (callWith pos (Value.builtin "ValueError.__init__") [] (backTo pos (starEach (e :: es) X.env)) []) _ _ _
  refine PyProof.Rows.callWith_method1 (thn (ha.run pos pins _ σ H _ (I.tok _) h) fun us s1 ⟨vs, H1, I1, r1, a, C, ws, ev, hl, T, ea, q⟩ => ?_) he hpl
  subst ev
  cases r1 with
  | @cons _ u0 _ ur ra rw' =>
    obtain rfl : u0 = Value.ref a := ra
    have hlen : ur.length ≤ sizeLine := by
      rw [← Paired.length rw', sizeLine_eq]
      omega
    exact oinit_ok T I1 ea hlen fun s' J => ⟨.non, H1, J, rfl, q⟩
/-- what an own __init__ of these fields does -/
def spI (C : Addr) (fs : List Str) : Sp := fun vs H Q _ => ∃ a ws, vs = .ref a :: ws ∧ ws.length = fs.length ∧ H a = some (exo a C none) ∧
  ∀ d H2, H d = none → d ≠ a → H2 a = some (exo a C (some d)) → H2 d = some (exd d (fs.zip ws).reverse) → (∀ b, b ≠ a → b ≠ d → H2 b = H b) → Q .non H2
theorem spI_len {C : Addr} {fs : List Str} : ∀ vs H Q E, spI C fs vs H Q E → vs.length = fs.length + 1 := fun vs H Q E h => by
  obtain ⟨a, ws, rfl, h, _⟩ := h
  simp [h]
/-- the body with one field, two, three -/
theorem init1 {e1 e2 o1 : Expr} {p1 p2 : Pos} {f : Str} {C : Addr} {N : List Str} {q1 : Stmt} {t1 : TE} (h1 : PS X q1 (tDrop (tVeI X.K (tCons (tVar 0) (tCons t1 tNil))))) (ht : ∀ σ H Q, (∀ z, Q z H) → t1 σ H Q) (hs : PS X e (tOst X.K f (tVar 0) (tVar 1))) (T : OexC X.K C) (no : PySem.W.findIn X.K (.ref C) f = some none) (hN : 2 ≤ N.length)
    {vs : List V} {H : Hp} {Q : VK} {E : XK} (h : spI C [f] vs H Q E) : ∃ t, PSs X [q1, e] t ∧ t { nx := fun _ H' => Q .non H', rt := Q } (L2.start N vs) H := by
  refine ⟨_, pss_cons h1 (pss_one hs), ?_⟩
  obtain ⟨a, ws, rfl, hl, ha, k⟩ := h
  match ws, hl with
  | [y], _ =>
    have s0 : (L2.start N [V.ref a, y])[0]? = some (some (V.ref a)) := rfl
    have s1 : (L2.start N [V.ref a, y])[1]? = some (some y) := rfl
    refine ⟨.ref a, s0, ht _ _ _ fun z => ?_⟩
    refine ⟨a, C, [z], rfl, by show 1 ≤ 1000; decide, T, ha, ?_⟩
    refine ⟨y, s1, .ref a, s0, a, C, rfl, T, no, .inl ⟨ha, fun dx h1 h2 => ?_⟩⟩
    exact k dx _ h1 h2 upd_same (by rw [upd_ne h2, upd_same]; rfl) fun b hb hd => by rw [upd_ne hb, upd_ne hd]
theorem init2 {e1 e2 : Stmt} {f g : Str} {C : Addr} {N : List Str} {q1 : Stmt} {t1 : TE} (h1 : PS X q1 (tDrop (tVeI X.K (tCons (tVar 0) (tCons t1 tNil))))) (ht : ∀ σ H Q, (∀ z, Q z H) → t1 σ H Q) (hs : PS X e1 (tOst X.K f (tVar 0) (tVar 1))) (hs2 : PS X e2 (tOst X.K g (tVar 0) (tVar 2))) (T : OexC X.K C) (no : PySem.W.findIn X.K (.ref C) f = some none) (no2 : PySem.W.findIn X.K (.ref C) g = some none)
    {vs : List V} {H : Hp} {Q : VK} {E : XK} (h : spI C [f, g] vs H Q E) : ∃ t, PSs X [q1, e1, e2] t ∧ t { nx := fun _ H' => Q .non H', rt := Q } (L2.start N vs) H := by
  refine ⟨_, pss_cons h1 (pss_cons hs (pss_one hs2)), ?_⟩
  obtain ⟨a, ws, rfl, hl, ha, k⟩ := h
  match ws, hl with
  | [y, z], _ =>
    have s0 : (L2.start N [V.ref a, y, z])[0]? = some (some (V.ref a)) := rfl
    have s1 : (L2.start N [V.ref a, y, z])[1]? = some (some y) := rfl
    have s2 : (L2.start N [V.ref a, y, z])[2]? = some (some z) := rfl
    refine ⟨.ref a, s0, ht _ _ _ fun z' => ?_⟩
    refine ⟨a, C, [z'], rfl, by show 1 ≤ 1000; decide, T, ha, ?_⟩
    refine ⟨y, s1, .ref a, s0, a, C, rfl, T, no, .inl ⟨ha, fun dx h1 h2 => ?_⟩⟩
    have d1 : upd (upd H dx (exd dx [(f, y)])) a (exo a C (some dx)) dx = some (exd dx [(f, y)]) := by rw [upd_ne h2, upd_same]
    refine ⟨z, s2, .ref a, s0, a, C, rfl, T, no2, .inr ⟨dx, [(f, y)], upd_same, d1, by show 1 ≤ 900; decide, ?_⟩⟩
    exact k dx _ h1 h2 (by rw [upd_ne (Ne.symm h2), upd_same]) upd_same fun b hb hd => by rw [upd_ne hd, upd_ne hb, upd_ne hd]
theorem init3 {e1 e2 e3 : Stmt} {f g l : Str} {C : Addr} {N : List Str} {q1 : Stmt} {t1 : TE} (h1 : PS X q1 (tDrop (tVeI X.K (tCons (tVar 0) (tCons t1 tNil))))) (ht : ∀ σ H Q, (∀ z, Q z H) → t1 σ H Q) (hs : PS X e1 (tOst X.K f (tVar 0) (tVar 1))) (hs2 : PS X e2 (tOst X.K g (tVar 0) (tVar 2))) (hs3 : PS X e3 (tOst X.K l (tVar 0) (tVar 3))) (T : OexC X.K C) (no : PySem.W.findIn X.K (.ref C) f = some none) (no2 : PySem.W.findIn X.K (.ref C) g = some none) (no3 : PySem.W.findIn X.K (.ref C) l = some none)
    {vs : List V} {H : Hp} {Q : VK} {E : XK} (h : spI C [f, g, l] vs H Q E) : ∃ t, PSs X [q1, e1, e2, e3] t ∧ t { nx := fun _ H' => Q .non H', rt := Q } (L2.start N vs) H := by
  refine ⟨_, pss_cons h1 (pss_cons hs (pss_cons hs2 (pss_one hs3))), ?_⟩
  obtain ⟨a, ws, rfl, hl, ha, k⟩ := h
  match ws, hl with
  | [y, z, u], _ =>
    have s0 : (L2.start N [V.ref a, y, z, u])[0]? = some (some (V.ref a)) := rfl
    have s1 : (L2.start N [V.ref a, y, z, u])[1]? = some (some y) := rfl
    have s2 : (L2.start N [V.ref a, y, z, u])[2]? = some (some z) := rfl
    have s3 : (L2.start N [V.ref a, y, z, u])[3]? = some (some u) := rfl
    refine ⟨.ref a, s0, ht _ _ _ fun z' => ?_⟩
    refine ⟨a, C, [z'], rfl, by show 1 ≤ 1000; decide, T, ha, ?_⟩
    refine ⟨y, s1, .ref a, s0, a, C, rfl, T, no, .inl ⟨ha, fun dx h1 h2 => ?_⟩⟩
    have d1 : upd (upd H dx (exd dx [(f, y)])) a (exo a C (some dx)) dx = some (exd dx [(f, y)]) := by rw [upd_ne h2, upd_same]
    refine ⟨z, s2, .ref a, s0, a, C, rfl, T, no2, .inr ⟨dx, [(f, y)], upd_same, d1, by show 1 ≤ 900; decide, ?_⟩⟩
    refine ⟨u, s3, .ref a, s0, a, C, rfl, T, no3, .inr ⟨dx, [(g, z), (f, y)], by rw [upd_ne (Ne.symm h2), upd_same], upd_same, by show 2 ≤ 900; decide, ?_⟩⟩
    exact k dx _ h1 h2 (by rw [upd_ne (Ne.symm h2), upd_ne (Ne.symm h2), upd_same]) upd_same fun b hb hd => by rw [upd_ne hd, upd_ne hd, upd_ne hb, upd_ne hd]
end
section
variable {P : Program} {w : World} {K : PySem.W.Frag} {mg : Str → Option Value} {base : Heap}
/-- an own error with fields that may be raised -/
structure MkX (P : Program) (w : World) (K : PySem.W.Frag) (mg : Str → Option Value) (base : Heap) (c : Str) (fs : List Str) : Prop where
  ow : OwnInit K mg c fs
  ex : ∃ (fd : FuncData) (ps : List Str), FnOk P w K mg base C8.CX0 1 (He.ma K (He.ga K c) "__init__") fd ps (spI (He.ga K c) fs) ∧ Binds K fd ps []
theorem mkX_of {c qual : Str} {fs : List Str} {st : Stmt} {fd : FuncData} {N ps : List Str} (ow : OwnInit K mg c fs) (F : C8.Fun K "__init__" qual st (He.ma K (He.ga K c) "__init__") fd) (bi : Binds K fd ps []) (S : FnScope N ps (C8.fnScope st)) (hn : ps.length = fs.length + 1 := by rfl)
    (hb : ∀ (cdv : Value) (A : Around) (outer : List PySem.Env) (s : Shared) (H : Hp) (vs : List V) (Q : VK) (E : XK), spI (He.ga K c) fs vs H Q E →
      ∃ t, PSs (cxOf C8.CX0 P w K mg base N qual (C8.fnScope st) (He.ma K (He.ga K c) "__init__") cdv A outer s H E).nox (C8.fnBody st) t ∧ t { nx := fun _ H' => Q .non H', rt := Q } (L2.start N vs) H) : MkX P w K mg base c fs :=
  ⟨ow, fd, ps, C8.fn0 (k := 0) F S (fun vs H Q E h => by rw [hn]; exact spI_len vs H Q E h) fun cdv A outer s H vs Q E _ h => hb cdv A outer s H vs Q E h, bi⟩
end
section
variable {X : Cx} {P : List Nat} {W : WX}
/-- raise C(e, ..) -/
def rfK (c : Str) (fs : List Str) : Res (List O) → Res Fl
  | .ok os ρ => if os.length = fs.length ∧ 0 < fs.length ∧ os.length ≤ 1000 then .exc ⟨c, fs.reverse, (O.toDs os).reverse⟩ ρ else .no
  | _ => .no
def mRaiseF (c : Str) (fs : List Str) (m : M (List O)) : M Fl := fun ρ => rfK c fs (m ρ)
theorem ssX_raiseF {c : Str} {fs : List Str} {e : Expr} {es : List Expr} {m : M (List O)} {p pos pos' : Pos} {j : Nat} (ok : CxOk X) (tk : Takes X W) (mk : MkX X.prog X.w X.K X.mg X.base c fs) (hr : Room j X.A) (hk : 2 ≤ j) (hg : Gl X c) (ha : SEs X (e :: es) m)
    (hdb : (c == ("__debug__" : Str)) = false := by decide) (he : starEach (e :: es) X.env = (false, eval e X.env) :: starEach es X.env := by rfl) (hpl : (backTo pos (starEach es X.env)).any (·.1) = false := by rfl) :
    SSX X P W (.Raise (some (.Call (.Name c p) (e :: es) [] pos)) none pos') (mRaiseF c fs m) := by
  obtain ⟨fd, ps, F, bi⟩ := mk.ex
  have pm := pmk_oex (X := X) (p := p) (pos := pos) (dvs := []) (ds := []) mk.ow.ox mk.ow.ic mk.ow.ti F (hr.mono hk) bi .nil C8.pass0 hg mk.ow.mg ha hdb he hpl
  refine PS.imp (ps_raise ok.calm tk pm) fun D σ H w => ?_
  obtain ⟨ρ, T, cv, R, h⟩ := w
  unfold mRaiseF at h
  cases e1 : m ρ with
  | exc x ρ1 => rw [e1] at h; exact h.elim
  | no => rw [e1] at h; exact h.elim
  | ok os ρ1 =>
    rw [e1] at h
    have h : PostX X.K X.mg P T W D σ (if os.length = fs.length ∧ 0 < fs.length ∧ os.length ≤ 1000 then .exc ⟨c, fs.reverse, (O.toDs os).reverse⟩ ρ1 else .no) := h
    split at h
    · rename_i hl
      obtain ⟨hl1, hl2, hl3⟩ := hl
      have h : ExP X.K X.mg P T W σ ⟨c, fs.reverse, (O.toDs os).reverse⟩ ρ1 := h
      refine ⟨ρ, T, os, ρ1, cv, R, e1, fun vs H1 c1 hv R1 => ⟨by omega, fun a ha1 => ?_⟩⟩
      refine ⟨a, vs ++ [], rfl, by simp; omega, upd_same, fun d H2 hd1 hda h1 h2 h3 => ⟨rfl, d, _, h1, h2, ?_, ?_⟩⟩
      · rw [upd_ne hda] at hd1
        exact hd1
      · have hd : H1 d = none := by rw [upd_ne hda] at hd1; exact hd1
        have eH : upd (del H2 a) d (.xd (fs.zip (vs ++ [])).reverse) = upd H1 d (.xd (fs.zip (vs ++ [])).reverse) := by
          funext b
          by_cases hb : b = d
          · rw [hb, upd_same, upd_same]
          · rw [upd_ne hb, upd_ne hb]
            by_cases hba : b = a
            · rw [hba, del_same, ha1]
            · rw [del_ne hba, h3 b hba hb, upd_ne hba]
        rw [eH]
        have td : (O.toDs os).length = os.length := toDs_len os
        have R2 := (R1.frzs).new (o := .xd (fs.zip (vs ++ [])).reverse) hd
        rw [List.append_nil] at R2 ⊢
        have ez : (fs.zip vs).reverse = fs.reverse.zip vs.reverse := by
          rw [List.zip_eq_zipWith, List.zip_eq_zipWith, List.reverse_zipWith]
          omega
        refine h (.ref (He.ga X.K c)) (some d) (.raw d (.xd (fs.zip vs).reverse) :: zipI vs.reverse ((O.toDs os).reverse.map O.val)) σ _ (Fix.refl _ _) c1 mk.ow.mg (.inr ⟨d, vs.reverse, ?_, rfl, by simp; omega, by simp; omega, by rw [ez]⟩) (R2.perm ?_)
        · intro z
          have z' : (O.toDs os).reverse = [] := z
          have q := congrArg List.length z'
          rw [List.length_reverse, td, List.length_nil] at q
          omega
        · refine List.Perm.cons _ (List.Perm.append_right _ ?_)
          have : zipI vs.reverse ((O.toDs os).reverse.map O.val) = (zipI vs ((O.toDs os).map O.val)).reverse := by
            unfold zipI
            rw [List.map_reverse, List.reverse_zipWith]
            simp; omega
          rw [this]
          exact (List.reverse_perm _).symm
    · exact h.elim
@[simp] theorem e_mRaiseF {ρ : Env} (c : Str) (fs : List Str) (m : M (List O)) : mRaiseF c fs m ρ = rfK c fs (m ρ) := (rfl)
theorem e_rfK {ρ : Env} (c : Str) (fs : List Str) (os : List O) (h : os.length = fs.length ∧ 0 < fs.length ∧ os.length ≤ 1000) : rfK c fs (.ok os ρ) = .exc ⟨c, fs.reverse, (O.toDs os).reverse⟩ ρ := if_pos h
end
section
variable {X : Cx} {K : PySem.W.Frag} {mg : Str → Option Value}
/-! a tuple times a number -/
def mulT : D → D → Option D
  | .tup xs, .int k => if xs ≠ [] ∧ 2 ≤ k ∧ k ≤ 1000 ∧ xs.length ≤ 1000 then some (.tup (List.replicate k.toNat xs).flatten) else none
  | _, _ => none
theorem opv_repT : OpV K mg (rRepT K) (lift2 mulT) := by
  intro H L B x y ox oy o Q R hx hy e k
  obtain ⟨a, b, d, e1, e2, e3, rfl⟩ := lift2_eq e
  unfold mulT at e3
  split at e3
  · split at e3
    · rename_i xs j h
      cases e3
      obtain ⟨h0, h1, h2, h3⟩ := h
      obtain ⟨p, vs, rfl, hp, lp, R1⟩ := R.shT hx e1
      refine ⟨p, j, vs, rfl, R.shInt hy e2, hp, fun z => h0 ?_, h1, h2, by rw [lp]; exact h3, fun r hr => k _ _ (sameNew hr) ?_⟩
      · rw [z] at lp
        exact List.eq_nil_of_length_eq_zero lp.symm
      · refine Rep.lentT ?_ (len_rep _ _ lp _) hr
        rw [zip_rep _ _ lp]
        exact Rep.again R1 _
    · cases e3
  · cases e3
end
end FB

/-! is True. -/
namespace FB
open PySem PySem.Spec L2
open PyProof.Rows hiding St
section
variable {X : Cx} {K : PySem.W.Frag} {mg : Str → Option Value}
def isBO (a b : O) : Option O := match a.sh, b.sh with
  | some (.bl x), some (.bl y) => some (.val (.bl (decide (x = y))))
  | _, _ => none
def notBO (a b : O) : Option O := match a.sh, b.sh with
  | some (.bl x), some (.bl y) => some (.val (.bl (!decide (x = y))))
  | _, _ => none
theorem opv_isB : OpV K mg (fun x y H Q => ∃ a b, x = .bl a ∧ y = .bl b ∧ Q (.bl (decide (a = b))) H) isBO := by
  intro H L B x y ox oy o Q R hx hy e k
  unfold isBO at e
  split at e
  · rename_i u v e1 e2
    cases e
    exact ⟨u, v, R.shBl hx e1, R.shBl hy e2, k _ _ (Same.refl _) (R.scalB fun _ => .bl _)⟩
  · cases e
theorem opv_notB : OpV K mg (fun x y H Q => ∃ a b, x = .bl a ∧ y = .bl b ∧ Q (.bl (!decide (a = b))) H) notBO := by
  intro H L B x y ox oy o Q R hx hy e k
  unfold notBO at e
  split at e
  · rename_i u v e1 e2
    cases e
    exact ⟨u, v, R.shBl hx e1, R.shBl hy e2, k _ _ (Same.refl _) (R.scalB fun _ => .bl _)⟩
  · cases e
@[simp] theorem isBO_bl (a b : Bool) : isBO (.val (.bl a)) (.val (.bl b)) = some (.val (.bl (decide (a = b)))) := (rfl)
@[simp] theorem notBO_bl (a b : Bool) : notBO (.val (.bl a)) (.val (.bl b)) = some (.val (.bl (!decide (a = b)))) := (rfl)
end
end FB

/-! Raising calls inside expressions: under not, a built-in, as what a comprehension goes over; d.get(k, x) of a dict just made. -/
namespace FB
open PySem PySem.Spec L2
open PyProof.Rows hiding St

section
variable {X : Cx} {W : WX}
/-- behind a thing that may raise, a plain step -/
theorem tMX_then {K : PySem.W.Frag} {mg : Str → Option Value} {m : M O} {f : O → Env → Res O} {σ : L2.St} {H : Hp} {Q Q' : VK} (w : tMX K mg W (fun ρ => (m ρ).bind f) σ H Q)
    (q : ∀ o ρ1 T, PostM K mg T W σ Q (f o ρ1) → ∀ v H', Cov σ ρ1 → Rep K mg H' (.ov v o :: (pairs σ ρ1 ++ T)) [] → Q' v H') : tMX K mg W m σ H Q' := by
  obtain ⟨ρ, T, c, R, h⟩ := w
  refine ⟨ρ, T, c, R, ?_⟩
  have h : PostM K mg T W σ Q ((m ρ).bind f) := h
  cases e1 : m ρ with
  | ok o ρ1 =>
    rw [e1] at h
    exact fun v H' c' R' => q o ρ1 T h v H' c' R'
  | exc x ρ1 => rw [e1] at h; exact h
  | no => rw [e1] at h; exact h
theorem seX_not {a : Expr} {pos : Pos} {m : M O} (h : SEX X W a m) : SEX X W (.UnaryOp .Not a pos) (mNotV m) := PE.imp (pe_not h) fun σ H Q w => tMX_then w fun o ρ1 T q v H' c' R' => by
  cases ho : o with
  | val d =>
    cases d with
    | bl b =>
      subst ho
      have q : PostM X.K X.mg T W σ Q (.ok (.val (.bl (!b))) ρ1) := q
      exact ⟨b, R'.lend.shBl (List.mem_cons_self ..) rfl, q _ H' c' (R'.drop.scal fun _ => .bl _)⟩
    | _ => subst ho; exact q.elim
  | _ => subst ho; exact q.elim
theorem tUn_mX {K : PySem.W.Frag} {mg : Str → Option Value} {r : V → Hp → VK → Prop} {op : O → Option O} {m : M O} (h : UnV K mg r op) (σ : L2.St) (H : Hp) (Q : VK) (w : tMX K mg W (m1 op m) σ H Q) : tUn r (tMX K mg W m) σ H Q := tMX_then w fun o ρ1 T q x H1 c1 R1 => by
  cases e : op o with
  | none => rw [e] at q; exact q.elim
  | some u =>
    rw [e] at q
    cases u with
    | val d =>
      refine h H1 _ _ x o _ Q R1.lend (by simp) e fun v H3 _ R5 => q v H3 c1 ?_
      exact (R5.keep.nob.perm (.swap _ _ _)).drop
    | _ => exact q.elim
theorem seX_b1 {id : String} {x : Str} {a : Expr} {p pos : Pos} {m : M O} {r : List V → Hp → VK → Prop} {op : O → Option O} (hc : CallR X (.builtin id) r) (h : UnV X.K X.mg (fun x H Q => r [x] H Q) op) (hg : Gl X x) (hm : X.mg x = none) (hv : bootBuiltins x = some (.builtin id)) (ha : SEX X W a m)
    (hn : x ≠ "__name__" := by decide) (hdb : (x == ("__debug__" : Str)) = false := by decide) (hst : starEach (a :: []) X.env = (false, eval a X.env) :: starEach [] X.env := by rfl) (hpl : (backTo pos (starEach [] X.env)).any (·.1) = false := by rfl) :
    SEX X W (.Call (.Name x p) [a] [] pos) (m1 op m) := PE.imp (pe_callB hc hg hm hv (pa_cons ha pa_nil hst) hn hdb hst hpl) (tUn_mX h)
def PostI (K : PySem.W.Frag) (mg : Str → Option Value) (T : List Item) (W : WX) (σ : L2.St) (R : It → Hp → Prop) : Res (List D) → Prop
  | .ok ds ρ' => ∀ J ks H', Cov σ ρ' → Its K mg J ks ds → Rep K mg H' (ks ++ (pairs σ ρ' ++ T)) [] → R J H'
  | .exc x ρ' => ∀ cls d I H', Cov σ ρ' → mg x.c = some cls → ExI x d I → Rep K mg H' (I ++ (pairs σ ρ' ++ T)) [] → W cls d σ H'
  | .no => False
def tIX (K : PySem.W.Frag) (mg : Str → Option Value) (W : WX) (m : M (List D)) : TI := fun σ H R => ∃ ρ T, Cov σ ρ ∧ Rep K mg H (pairs σ ρ ++ T) [] ∧ PostI K mg T W σ R (m ρ)
def SIX (X : Cx) (W : WX) (tg it : Expr) (m : M (List D)) : Prop := PI X tg it (tIX X.K X.mg W m)
theorem siX_val {tg e : Expr} {m : M O} (h : SEX X W e m) : SIX X W tg e (mI m) := PI.imp (FB.PI.or (pi_list h) (FB.PI.or (pi_tup h) (pi_str h))) fun σ H R w => by
  obtain ⟨ρ, T, c, Rp, w⟩ := w
  have w : PostI X.K X.mg T W σ R (mI m ρ) := w
  unfold mI at w
  cases e1 : m ρ with
  | no => rw [e1] at w; exact w.elim
  | exc x ρ1 =>
    rw [e1] at w
    exact .inl ⟨ρ, T, c, Rp, by rw [e1]; exact w⟩
  | ok o ρ1 =>
    rw [e1] at w
    have pm : ∀ {Q : VK}, (∀ v H', Cov σ ρ1 → Rep X.K X.mg H' (.ov v o :: (pairs σ ρ1 ++ T)) [] → Q v H') → tMX X.K X.mg W m σ H Q := fun q => ⟨ρ, T, c, Rp, by rw [e1]; exact q⟩
    cases hi : o.toD.items? with
    | none => simp only [Res.bind, hi] at w; exact w.elim
    | some ds =>
      simp only [Res.bind, hi] at w
      have k : ∀ J ks H', Cov σ ρ1 → Its X.K X.mg J ks ds → Rep X.K X.mg H' (ks ++ (pairs σ ρ1 ++ T)) [] → R J H' := w
      cases hd : o.toD with
      | lst es =>
        rw [hd] at hi; cases hi
        refine .inl (pm fun v H' c' R' => ?_)
        have R2 := R'.frz
        rw [hd] at R2
        obtain ⟨p, vs, rfl, hp, lp, _⟩ := R2.lend.shL (List.mem_cons_self ..) rfl
        exact ⟨p, rfl, ⟨vs, .inl hp⟩, k _ _ _ c' its_list R2⟩
      | tup es =>
        rw [hd] at hi; cases hi
        refine .inr (.inl (pm fun v H' c' R' => ?_))
        have R2 := R'.frz
        rw [hd] at R2
        obtain ⟨p, vs, rfl, hp, lp, _⟩ := R2.lend.shT (List.mem_cons_self ..) rfl
        exact ⟨p, rfl, ⟨vs, hp⟩, k _ _ _ c' its_tup R2⟩
      | scr ns =>
        rw [hd] at hi; cases hi
        refine .inl (pm fun v H' c' R' => ?_)
        have R2 := R'.frz
        rw [hd] at R2
        have q : Vw X.K X.mg H' v (.scr ns) := R2.lend.view (List.mem_cons_self ..)
        cases q with
        | scr hq => exact ⟨_, rfl, ⟨_, hq⟩, k _ _ _ c' its_scr R2⟩
      | str z =>
        rw [hd] at hi; cases hi
        refine .inr (.inr (pm fun v H' c' R' => ?_))
        have R2 := R'.frz
        rw [hd] at R2
        exact ⟨z, R2.lend.shStr (List.mem_cons_self ..) rfl, k _ [] _ c' (its_str (R2.lend.strOk (List.mem_cons_self ..) rfl)) R2.drop⟩
      | _ => rw [hd] at hi; cases hi
def mCompX (it : M (List D)) (own : List Nat) (a : D → Env → Option Env) (t : M Bool) (e : M O) : M O := fun ρ => (it ρ).bind fun ds ρ1 => nx (mComp (fun ρ => .ok ds ρ) own a t e) ρ1
theorem comp_coreX {tg iter elt : Expr} {K : PySem.W.Frag} {mg : Str → Option Value} {own : List Nat} {wi : TI} {g : TG} {tt : TT} {te : TE} {it : M (List D)} {a : D → Env → Option Env} {t : M Bool} {e : M O} (nd : own.Nodup)
    (hi : ∀ σ H R, tIX K mg W it σ H R → wi σ H R) (hg : ∀ v σ H Q, tG K mg (Wip own) a v σ H Q → g v σ H Q) (ht : ∀ σ H Q, tMT K mg t σ H Q → tt σ H Q) (he : ∀ σ H Q, tM K mg e σ H Q → te σ H Q)
    (σ : L2.St) (H : Hp) (Q : VK) (w : tMX K mg W (mCompX it own a t e) σ H Q) : tLc wi g tt te own σ H Q := by
  obtain ⟨ρ, T, c, Rp, w⟩ := w
  unfold mCompX at w
  refine hi σ H _ ⟨ρ, T, c, Rp, ?_⟩
  cases e1 : it ρ with
  | no => rw [e1] at w; exact w.elim
  | exc x ρ1 => rw [e1] at w; exact w
  | ok ds ρ1 =>
    rw [e1] at w
    have w : PostM K mg T W σ Q (mComp (fun ρ => .ok ds ρ) own a t e ρ1).nr := w
    intro J ks H1 c1 hJ R1 D hD
    cases e0 : mComp (fun ρ => .ok ds ρ) own a t e ρ1 with
    | no => rw [e0] at w; exact w.elim
    | exc x ρ2 => rw [e0] at w; exact w.elim
    | ok o ρ' =>
      rw [e0] at w
      obtain ⟨ds', ρ1', e1', e0⟩ := Res.bind_eq e0
      cases e1'
      split at e0
      · rename_i hlen
        obtain ⟨fin, ρ2, e2, e0⟩ := Res.bind_eq e0
        cases e0
        exact comp_core0 nd hg ht he hlen c1 hJ R1 e2 hD fun H' c' R' => w _ H' c' ((R'.perm List.perm_middle.symm).drops)
      · cases e0
theorem seX_comp {tg iter elt : Expr} {ifs : List Expr} {scope : Scope} {own : List (Str × Nat)} {pos : Pos} {it : M (List D)} {a : D → Env → Option Env} {t : M Bool} {e : M O} (ok : CxOk X) (hi : SIX X W tg iter it) (bo : BlkOk X.N X.env.scope scope own)
    (hg : ∀ (s : Shared) (H : Hp) (C : Addr) (cl : List (Str × Addr)) (fp : List Addr), SG (X.blk s H scope (compEnvC scope cl C X.env) fp) (Wip (own2 own)) tg a) (ht : ∀ (s : Shared) (H : Hp) (C : Addr) (cl : List (Str × Addr)) (fp : List Addr), SETs (X.blk s H scope (compEnvC scope cl C X.env) fp) ifs t)
    (he : ∀ (s : Shared) (H : Hp) (C : Addr) (cl : List (Str × Addr)) (fp : List Addr), SE (X.blk s H scope (compEnvC scope cl C X.env) fp) elt e) (nd : (own2 own).Nodup := by decide) (hs : ∀ x, foldedSetIterable iter X.env x = pure x := by intro _; rfl) :
    SEX X W (.ListComp elt [⟨tg, iter, ifs, 0⟩] scope pos) (mCompX it (own2 own) a t e) := PE.imp (pe_lc (wi := tIX X.K X.mg W it) (g := tG X.K X.mg (Wip (own2 own)) a) (tt := tMT X.K X.mg t) (te := tM X.K X.mg e) ok.calm ok.nd hi bo hg ht he hs) (comp_coreX (tg := tg) (iter := iter) (elt := elt) nd (fun _ _ _ w => w) (fun _ _ _ _ w => w) (fun _ _ _ w => w) (fun _ _ _ w => w))

/-! d.get(k, x), d a dict just made -/
def mGet (m : M O) (f g : Pf) : M O := fun ρ => (m ρ).bind fun a ρ1 => okV ((f ρ1).bind fun b => (g ρ1).bind fun c => getO a b c) ρ1
theorem se_get {o e d : Expr} {apos cpos : Pos} {n : M O} {f g : Pf} (ok : CxOk X) (ho : SE X o n) (he : SP X e f) (hd : SP X d g) (m : M2 X o "get" apos e d cpos := by exact ⟨rfl, rfl, rfl, rfl⟩) : SE X (.Call (.Attribute o "get" apos) [e, d] [] cpos) (mGet n f g) :=
  PE.imp (pe_getN (by have := ok.units; omega) ho he hd m) fun σ H Q q => by
    obtain ⟨ρ, T, r, ρ', cv, R, e, k⟩ := q
    obtain ⟨a, ρ1, e1, e⟩ := Res.bind_eq e
    obtain ⟨dd, e9, er, eρ⟩ := okV_eq e
    subst er eρ
    clear e
    have e := e9
    cases e2 : f ρ' with
    | none => rw [e2] at e; cases e
    | some b =>
      cases e3 : g ρ' with
      | none => rw [e2, e3] at e; cases e
      | some c =>
        rw [e2, e3] at e
        have e : getO a b c = some (.val dd) := e
        unfold getO at e
        cases e4 : dctP a with
        | none => rw [e4] at e; cases e
        | some p =>
          cases e5 : keyN b with
          | none => rw [e4, e5] at e; cases e
          | some kk =>
            rw [e4, e5] at e
            have e : getK p c kk = .val dd := Option.some.inj e
            refine ⟨ρ, T, a, ρ', cv, R, e1, fun x H1 c1 R0 => ?_⟩
            have R1 := R0.lend.perm List.perm_middle.symm
            obtain ⟨pa, kvs, rfl, g1, _⟩ := R1.dctV (ks := p.1) (os := p.2) (List.mem_cons_self ..) e4
            refine ⟨pa, rfl, .inl ⟨kvs, g1⟩, ρ', _, _, b, c1, R1, e2, fun y H2 s2 R2 => ⟨ρ', _, _, c, c1, R2, e3, fun z H3 s3 R3 => ?_⟩⟩
            have fin : ∀ {v : V}, Rep X.K X.mg H3 (pairs σ ρ' ++ (.ov (.ref pa) a :: T)) ((v, .val dd) :: [(.ref pa, a)]) → Q v H3 := fun {v} R => by
              refine k v H3 c1 ?_
              have R6 := R.keep.nob
              exact ((R6.perm (List.Perm.cons _ List.perm_middle)).perm (.swap _ _ _)).drop
            have drop : ∀ {v : V} {B : List (V × O)}, Rep X.K X.mg H3 (pairs σ ρ' ++ (.ov (.ref pa) a :: T)) ((v, .val dd) :: B) → (.ref pa, a) ∈ B → Q v H3 := fun R hm => fin (R.bsub fun w hw => by
              rcases List.mem_cons.mp hw with hw | hw
              · simp [hw]
              · simp at hw; subst hw; exact List.mem_cons_of_mem _ hm)
            unfold keyN at e5
            split at e5
            · cases e5
              have e : c = .val dd := e
              subst e
              obtain ⟨pa', kvs', ex, g2, _⟩ := R3.dctV (x := .ref pa) (a := a) (ks := p.1) (os := p.2) (by simp) e4
              cases ex
              exact .inr ⟨kvs', R3.shNon (o := .val .non) (by simp) rfl, g2, drop R3 (by simp)⟩
            · cases e6 : keyO b with
              | none => rw [e6] at e5; cases e5
              | some key =>
                rw [e6] at e5
                cases e5
                obtain ⟨pa', rr, ex, g2, g3, g4⟩ := dget (x := .ref pa) (y := y) (ks := p.1) (os := p.2) R3 (by simp) (by simp) e4 e6
                cases ex
                have e : ((idxK p.1 key).bind fun j => p.2[j]?).getD c = .val dd := e
                refine .inl ⟨rr, g2, ?_⟩
                cases e7 : ((idxK p.1 key).bind fun j => p.2[j]?) with
                | none =>
                  rw [e7] at e g3
                  have e : c = .val dd := e
                  subst e
                  cases rr with
                  | some _ => cases g3
                  | none => exact drop R3 (by simp)
                | some o =>
                  rw [e7] at e
                  have e : o = .val dd := e
                  subst e
                  obtain ⟨v, rfl, R4⟩ := g4 _ e7
                  exact drop R4 (by simp)
end
variable {ρ : Env}
@[simp] theorem e_m1Kx (op : O → Option O) (x : Exn) : m1K op (.exc x ρ) = .exc x ρ := (rfl)
@[simp] theorem e_notVKx (x : Exn) : notVK (.exc x ρ) = .exc x ρ := (rfl)
@[simp] theorem e_itAx (x : Exn) : itA (.exc x ρ) = .exc x ρ := (rfl)
def coX (own : List Nat) (a : D → Env → Option Env) (t : M Bool) (e : M O) : Res (List D) → Res O
  | .ok ds ρ1 => (coK own a t e (.ok ds ρ1)).nr
  | .exc x ρ => .exc x ρ
  | .no => .no
@[simp] theorem e_mCompX (it : M (List D)) (own : List Nat) (a : D → Env → Option Env) (t : M Bool) (e : M O) : mCompX it own a t e ρ = coX own a t e (it ρ) := by
  unfold mCompX coX
  cases it ρ with
  | ok ds ρ1 =>
    show (mComp (fun ρ => .ok ds ρ) own a t e ρ1).nr = (coK own a t e (.ok ds ρ1)).nr
    rw [e_mComp]
  | exc _ _ => rfl
  | no => rfl
theorem e_coX (own : List Nat) (a : D → Env → Option Env) (t : M Bool) (e : M O) (ds : List D) : coX own a t e (.ok ds ρ) = (coK own a t e (.ok ds ρ)).nr := (rfl)
@[simp] theorem e_coXx (own : List Nat) (a : D → Env → Option Env) (t : M Bool) (e : M O) (x : Exn) : coX own a t e (.exc x ρ) = .exc x ρ := (rfl)
def gtK (f g : Pf) : Res O → Res O
  | .ok a ρ => okV ((f ρ).bind fun b => (g ρ).bind fun c => getO a b c) ρ
  | .exc x ρ => .exc x ρ
  | .no => .no
@[simp] theorem e_mGet (m : M O) (f g : Pf) : mGet m f g ρ = gtK f g (m ρ) := by unfold mGet gtK; cases m ρ <;> rfl
@[simp] theorem e_gtK (f g : Pf) (a : O) : gtK f g (.ok a ρ) = okV ((f ρ).bind fun b => (g ρ).bind fun c => getO a b c) ρ := (rfl)
end FB

/-! Dicts walked: they are locked meanwhile. -/
namespace FB
open PySem PySem.Spec L2
open PyProof.Rows hiding St
section
variable {X : Cx} {K : PySem.W.Frag} {mg : Str → Option Value}
/-- the dict at d stands, locked or not -/
structure LkS (d : Addr) (kvs : List (Key × V)) (G G' : Hp) : Prop where
  ne : ∀ a, a ≠ d → G' a = G a
  rd : Rd G d (.dK kvs)
  rd' : Rd G' d (.dK kvs)
theorem rd_uniq {G : Hp} {d : Addr} {kvs : List (Key × V)} {u : HO} (h : Rd G d (.dK kvs)) (h2 : Rd G d u) (hu : ∀ o w, u ≠ .frz o w) : u = .dK kvs := by
  rcases h with h | ⟨o, h⟩ <;> rcases h2 with h2 | ⟨o2, h2⟩
  · rw [h] at h2; cases h2; rfl
  · rw [h] at h2; cases h2
  · rw [h] at h2; cases h2; exact absurd rfl (hu _ _)
  · rw [h] at h2; cases h2; rfl
theorem LkS.rdn {d : Addr} {kvs : List (Key × V)} {G G' : Hp} (l : LkS d kvs G G') {a : Addr} {u : HO} (h : Rd G a u) (hu : ∀ o w, u ≠ .frz o w) : Rd G' a u := by
  by_cases e : a = d
  · subst e
    rw [rd_uniq l.rd h hu]; exact l.rd'
  · rcases h with h | ⟨o, h⟩
    · exact .inl ((l.ne a e).trans h)
    · exact .inr ⟨o, (l.ne a e).trans h⟩
theorem LkS.seqT {d : Addr} {kvs : List (Key × V)} {G G' : Hp} (l : LkS d kvs G G') {a : Addr} {xs : List V} (h : SqT K G a xs) : SqT K G' a xs := by
  rcases h with h | h
  · exact .inl (l.rdn h fun _ _ z => by cases z)
  · exact .inr h
theorem LkS.seqL {d : Addr} {kvs : List (Key × V)} {G G' : Hp} (l : LkS d kvs G G') {a : Addr} {xs : List V} (h : SqL K G a xs) : SqL K G' a xs := by
  rcases h with h | h
  · exact .inl (l.rdn h fun _ _ z => by cases z)
  · exact .inr h
mutual
theorem Vw.lk {G G' : Hp} {d : Addr} {kvs : List (Key × V)} (l : LkS d kvs G G') : ∀ {v : V} {x : D}, Vw K mg G v x → Vw K mg G' v x
  | _, _, .non => .non
  | _, _, .bl b => .bl b
  | _, _, .int i => .int i
  | _, _, .str s h => .str s h
  | _, _, .tup h hs => .tup (l.seqT h) (Vws.lk l hs)
  | _, _, .lst h hs => .lst (l.rdn h fun _ _ z => by cases z) (Vws.lk l hs)
  | _, _, .scr h => .scr (l.seqL h)
  | _, _, .dct h hk hs => .dct (l.rdn h fun _ _ z => by cases z) hk (Vws.lk l hs)
  | _, _, .ins (a := a) h hm hn hs => by
    have e : a ≠ d := fun e => by
      subst e
      rcases l.rd with z | ⟨o, z⟩ <;> rw [h] at z <;> cases z
    exact .ins ((l.ne a e).trans h) hm hn (Vws.lk l hs)
theorem Vws.lk {G G' : Hp} {d : Addr} {kvs : List (Key × V)} (l : LkS d kvs G G') : ∀ {vs : List V} {ds : List D}, Vws K mg G vs ds → Vws K mg G' vs ds
  | _, _, .nil => .nil
  | _, _, .cons h t => .cons (Vw.lk l h) (Vws.lk l t)
end
mutual
theorem VO.lk {G G' H H' : Hp} {d : Addr} {kvs : List (Key × V)} (l : LkS d kvs G G') : ∀ {v : V} {o : O} {as : List Addr}, VO K mg G H v o as → (∀ a ∈ as, H' a = H a) → VO K mg G' H' v o as
  | _, _, _, .val h, _ => .val (h.lk l)
  | _, _, _, .lst h hs, q => .lst ((q _ (by simp)).trans h) (VOs.lk l hs fun a ha => q a (by simp [ha]))
  | _, _, _, .dct h hk hs, q => .dct ((q _ (by simp)).trans h) hk (VOs.lk l hs fun a ha => q a (by simp [ha]))
  | _, _, _, .ins h hm hn hs, q => .ins ((q _ (by simp)).trans h) hm hn (VOs.lk l hs fun a ha => q a (by simp [ha]))
theorem VOs.lk {G G' H H' : Hp} {d : Addr} {kvs : List (Key × V)} (l : LkS d kvs G G') : ∀ {vs : List V} {os : List O} {as : List Addr}, VOs K mg G H vs os as → (∀ a ∈ as, H' a = H a) → VOs K mg G' H' vs os as
  | _, _, _, .nil, _ => .nil
  | _, _, _, .cons h t, q => .cons (VO.lk l h fun a ha => q a (by simp [ha])) (VOs.lk l t fun a ha => q a (by simp [ha]))
end
/-- the item locks another one -/
def NoPin (d : Addr) : Item → Prop
  | .pin p _ _ => p ≠ d
  | _ => True
theorem IsOk.lk {G G' H H' : Hp} {d : Addr} {kvs : List (Key × V)} (l : LkS d kvs G G') : ∀ {L : List Item} {as : List Addr}, IsOk K mg G H L as → (∀ x ∈ L, NoPin d x) → (∀ a ∈ as, H' a = H a) → IsOk K mg G' H' L as
  | _, _, .nil, _, _ => .nil
  | _, _, .cons h t, n, q => by
    refine .cons ?_ (IsOk.lk l t (fun x hx => n x (List.mem_cons_of_mem _ hx)) fun a ha => q a (by simp [ha]))
    cases h with
    | ov h => exact .ov (h.lk l fun a ha => q a (by simp [ha]))
    | raw h => exact .raw ((q _ (by simp)).trans h)
    | pin h => exact .pin ((l.ne _ (n _ (List.mem_cons_self ..))).trans h)
theorem IsOk.noPin {G H : Hp} {d : Addr} {kvs : List (Key × V)} (h : G d = some (.dK kvs)) : ∀ {L : List Item} {as : List Addr}, IsOk K mg G H L as → ∀ x ∈ L, NoPin d x
  | _, _, .nil, x, hx => by simp at hx
  | _, _, .cons q t, x, hx => by
    rcases List.mem_cons.mp hx with e | hx
    · subst e
      cases q with
      | ov _ => trivial
      | raw _ => trivial
      | pin q => exact fun e => by subst e; rw [h] at q; cases q
    · exact IsOk.noPin h t x hx
variable {H : Hp} {L : List Item}
/-- a shared dict: it stands locked, or it may be locked -/
theorem Rep.dctAt {v : V} {ks : List Key} {ds : List D} (R : Rep K mg H (.ov v (.val (.dct ks ds)) :: L) []) :
    ∃ d kvs, v = .ref d ∧ kvs.map (·.1) = ks ∧ ((∃ od, H d = some (.frz od (.dK kvs)) ∧ Rep K mg H (.pin d od (.dK kvs) :: L) []) ∨
      (H d = some (.dK kvs) ∧ (∀ x ∈ L, NoPin d x) ∧ ∀ od, Rep K mg (upd H d (.frz od (.dK kvs))) (.pin d od (.dK kvs) :: L) [])) := by
  obtain ⟨A, nd, ok, hb⟩ := R
  cases ok with
  | cons h t =>
    cases h with
    | ov h =>
      cases h with
      | val h =>
        cases h with
        | dct h hk hs =>
          rename_i d kvs
          refine ⟨d, kvs, rfl, hk.1, ?_⟩
          rcases h with h | ⟨od, h⟩
          · obtain ⟨hA, hd⟩ := hide_some h
            refine .inr ⟨hd, t.noPin h, fun od => ?_⟩
            have e : hide (upd H d (.frz od (.dK kvs))) _ d = some (.frz od (.dK kvs)) := (hide_out hA).trans upd_same
            refine ⟨_, nd, .cons (as := []) (.pin e) (t.lk (d := d) (kvs := kvs) ⟨fun a ha => ?_, .inl h, .inr ⟨od, e⟩⟩ (t.noPin h) fun a ha => upd_ne fun z => hA (z ▸ ha)), fun _ z => by simp at z⟩
            unfold hide
            rw [upd_ne ha]
          · exact .inl ⟨od, (hide_some h).2, _, nd, .cons (as := []) (.pin h) t, fun _ z => by simp at z⟩
theorem Rep.pinAt {d : Addr} {od : Obj} {u : HO} (R : Rep K mg H (.pin d od u :: L) []) : H d = some (.frz od u) := by
  obtain ⟨A, nd, ok, hb⟩ := R
  cases ok with
  | cons h t =>
    cases h with
    | pin h => exact (hide_some h).2
theorem Rep.unlock {d : Addr} {od : Obj} {kvs : List (Key × V)} (R : Rep K mg H (.pin d od (.dK kvs) :: L) []) (n : ∀ x ∈ L, NoPin d x) : Rep K mg (upd H d (.dK kvs)) L [] := by
  obtain ⟨A, nd, ok, hb⟩ := R
  cases ok with
  | cons h t =>
    rename_i bs
    cases h with
    | pin h =>
      obtain ⟨hA, hd⟩ := hide_some h
      have hA : d ∉ bs := hA
      have e : hide (upd H d (.dK kvs)) ([] ++ bs) d = some (.dK kvs) := (hide_out hA).trans upd_same
      refine ⟨bs, nd, t.lk (d := d) (kvs := kvs) ⟨fun a ha => ?_, .inr ⟨od, h⟩, .inl e⟩ n fun a ha => upd_ne fun z => hA (z ▸ ha), fun _ z => by simp at z⟩
      unfold hide
      rw [upd_ne ha]
theorem NoPin.pairs {d : Addr} : ∀ {σ : L2.St} {ρ : Env}, ∀ x ∈ pairs σ ρ, NoPin d x := by
  intro σ
  induction σ with
  | nil => intro ρ x hx; rw [pairs_nil] at hx; simp at hx
  | cons v σ ih =>
    intro ρ x hx
    cases ρ with
    | nil => rw [pairs_nil'] at hx; simp at hx
    | cons o ρ =>
      cases v with
      | none => rw [pairs_ns] at hx; exact ih x hx
      | some v =>
        cases o with
        | none => rw [pairs_sn] at hx; exact ih x hx
        | some o =>
          rw [pairs_ss] at hx
          rcases List.mem_cons.mp hx with e | hx
          · subst e; trivial
          · exact ih x hx
def keyD : Key → D
  | .inl i => .int i
  | .inr s => .str s
def keyOk : Key → Bool
  | .inl _ => true
  | .inr s => PyData.strOk s
theorem key_vwD {G : Hp} {k : Key} (h : keyOk k = true) : Vw K mg G (kV k) (keyD k) := by
  cases k with
  | inl i => exact .int i
  | inr s => exact .str s h
theorem its_keys {d : Addr} {od : Obj} {kvs : List (Key × V)} (hk : (kvs.map (·.1)).all keyOk = true) : Its K mg (Itk d od kvs) [.pin d od (.dK kvs)] ((kvs.map (·.1)).map keyD) := by
  intro L H R
  have hH := Rep.pinAt R
  refine ⟨fun i x hx => ?_, ⟨hH, by simp⟩⟩
  have hi : i < kvs.length := by
    have := (List.getElem?_eq_some_iff.mp hx).1
    simpa using this
  refine ⟨⟨hH, hi⟩, fun y H' q => ?_⟩
  obtain ⟨e, k, v, q1, q2⟩ := q
  subst e q2
  refine ⟨Same.refl _, ?_⟩
  rw [List.map_map, List.getElem?_map, q1] at hx
  cases hx
  refine R.scal fun G => key_vwD ?_
  rw [List.all_eq_true] at hk
  exact hk k (List.mem_map.mpr ⟨_, List.mem_of_getElem? q1, rfl⟩)
/-- a name's dict is shared from now on; its keys -/
def keysOf (i : Nat) (ρ : Env) : Option (List D × Env) := match ρ[i]? with
  | some (some o) => match o.toD with
    | .dct ks ds => if ks.all keyOk = true ∧ ks.length ≤ 1000000 then some (ks.map keyD, ρ.set i (some (.val (.dct ks ds)))) else none
    | _ => none
  | _ => none
theorem keysOf_eq {i : Nat} {ρ : Env} {p : List D × Env} (h : keysOf i ρ = some p) : ∃ o ks ds, ρ[i]? = some (some o) ∧ o.toD = .dct ks ds ∧ ks.all keyOk = true ∧ p = (ks.map keyD, ρ.set i (some (.val (.dct ks ds)))) ∧ ks.length ≤ 1000000 := by
  unfold keysOf at h
  split at h
  · rename_i o e
    split at h
    · rename_i ks ds e2
      split at h
      · rename_i hk
        cases h
        exact ⟨o, ks, ds, e, e2, hk.1, rfl, hk.2⟩
      · cases h
    · cases h
  · cases h
/-- the name's tree is shared from now on (nothing is done) -/
theorem Rep.frzAt {σ : L2.St} {ρ : Env} {T : List Item} {i : Nat} {v : V} {o : O} (hv : σ[i]? = some (some v)) (e : ρ[i]? = some (some o)) (R : Rep K mg H (pairs σ ρ ++ T) []) :
    Rep K mg H (pairs σ (ρ.set i (some (.val o.toD))) ++ T) [] ∧ Rep K mg H (.ov v (.val o.toD) :: (pairs σ (ρ.set i (some (.val o.toD))) ++ T)) [] := by
  have hl : i < ρ.length := (List.getElem?_eq_some_iff.mp e).1
  have R1 := (R.perm ((pairs_take hv e).append_right T)).frz
  have R2 : Rep K mg H (.ov v (.val o.toD) :: (.ov v (.val o.toD) :: pairs σ (ρ.set i none) ++ T)) [] := R1.lend.keep
  exact ⟨R1.perm ((pairs_back hv hl).append_right T), R2.perm (((pairs_back hv hl).append_right T).cons _)⟩
def mForK (i : Nat) (a : D → Env → Option Env) (b : M Fl) : M Fl := fun ρ => match keysOf i ρ with
  | some p => forL a b p.1 p.2
  | none => .no
theorem psOr {X : Cx} {st : Stmt} {t u : TS} (h : PS X st t) (h' : PS X st u) : PS X st (fun D σ H => t D σ H ∨ u D σ H) := ⟨fun pins s σ H D I w => w.elim (fun w => h.run pins s σ H D I w) fun w => h'.run pins s σ H D I w⟩
theorem peOr {X : Cx} {e : Expr} {t u : TE} (h : PE X e t) (h' : PE X e u) : PE X e (fun σ H Q => t σ H Q ∨ u σ H Q) := ⟨fun pins s σ H Q I w => w.elim (fun w => h.run pins s σ H Q I w) fun w => h'.run pins s σ H Q I w⟩
theorem Post.lock {P : List Nat} {T : List Item} {D : Ends} {σ : L2.St} {d : Addr} {od : Obj} {kvs : List (Key × V)} {r : Res Fl} (n : ∀ x ∈ T, NoPin d x) (h : Post K mg P T D σ r) :
    Post K mg P ([.pin d od (.dK kvs)] ++ T) ⟨fun σ' H' => H' d = some (.frz od (.dK kvs)) ∧ D.nx σ' (upd H' d (.dK kvs)), fun v H' => H' d = some (.frz od (.dK kvs)) ∧ D.rt v (upd H' d (.dK kvs)), fun σ' H' => H' d = some (.frz od (.dK kvs)) ∧ D.bk σ' (upd H' d (.dK kvs)), fun σ' H' => H' d = some (.frz od (.dK kvs)) ∧ D.ct σ' (upd H' d (.dK kvs))⟩ σ r := by
  have nn : ∀ (σ' : L2.St) (ρ' : Env), ∀ x ∈ pairs σ' ρ' ++ T, NoPin d x := fun σ' ρ' x hx => (List.mem_append.mp hx).elim (NoPin.pairs x) (n x)
  cases r with
  | ok fl ρ' =>
    cases fl with
    | nx => exact fun σ' H' f c R => ⟨(R.perm List.perm_middle).pinAt, h σ' _ f c ((R.perm List.perm_middle).unlock (nn σ' ρ'))⟩
    | brk => exact fun σ' H' f c R => ⟨(R.perm List.perm_middle).pinAt, h σ' _ f c ((R.perm List.perm_middle).unlock (nn σ' ρ'))⟩
    | ct => exact fun σ' H' f c R => ⟨(R.perm List.perm_middle).pinAt, h σ' _ f c ((R.perm List.perm_middle).unlock (nn σ' ρ'))⟩
    | ret o =>
      intro v σ' H' f c R
      have R1 := R.perm ((List.perm_middle (l₂ := T).cons _).trans (.swap _ _ _))
      refine ⟨R1.pinAt, h v σ' _ f c (R1.unlock fun x hx => ?_)⟩
      rcases List.mem_cons.mp hx with e | hx
      · subst e; trivial
      · exact nn σ' ρ' x hx
  | exc x ρ' => exact h
  | no => exact h
theorem ss_forK (i : Nat) {P : List Nat} {x : Str} {p pos : Pos} {tg : Expr} {body : List Stmt} {a : D → Env → Option Env} {b : M Fl} (ok : CxOk X) (hp : PassesOwn (model X.prog X.w) X.A X.env X.xe) (hg : SG X (Fix P) tg a) (hb : SSs X P body b)
    (hN : X.N[i]? = some x := by rfl) (hv : Vis X.env.scope x := by first | exact Or.inl rfl | exact Or.inr (Or.inl rfl) | exact Or.inr (Or.inr rfl)) (hd : (x == ("__debug__" : Str)) = false := by decide) (hcd : (x == ("__classdict__" : Str)) = false := by decide)
    (hs : ∀ y, foldedSetIterable (.Name x p) X.env y = pure y := by intro _; rfl) : SS X P (.For tg (.Name x p) body [] pos) (mForK i a b) := by
  have s1 := ps_for (pos := pos) hp ok.calm (pi_keys (pv (pos := p) i hN hv hd hcd)) hg hb hs
  refine PS.imp (psOr s1 (ps_lock s1)) fun D σ H w => ?_
  obtain ⟨ρ, T, cv, R, h⟩ := tS_iff.mp w
  unfold mForK at h
  split at h
  · rename_i q eq
    obtain ⟨o, ks, ds, e1, e2, hk, rfl, _⟩ := keysOf_eq eq
    obtain ⟨v, hv⟩ := cv.ex i o e1
    obtain ⟨R1, R2⟩ := R.frzAt hv e1
    rw [e2] at R1 R2
    have c1 := cv.put hv (.val (.dct ks ds))
    obtain ⟨d, kvs, rfl, hks, hh⟩ := R2.dctAt
    subst hks
    rcases hh with ⟨od, hH, R3⟩ | ⟨hH, n, R3⟩
    · exact .inl ⟨_, hv, d, od, rfl, .inl ⟨kvs, hH, for_core c1 (its_keys hk) R3 (Post.more h)⟩⟩
    · refine .inr ⟨d, .dK kvs, hH, trivial, fun od => ⟨_, hv, d, od, rfl, .inl ⟨kvs, upd_same, for_core c1 (its_keys hk) (R3 od) ?_⟩⟩⟩
      exact Post.lock (fun x hx => n x (List.mem_append_right _ hx)) h
  · exact h.elim
/-! comprehensions -/
def mCompK (i : Nat) (own : List Nat) (a : D → Env → Option Env) (t : M Bool) (e : M O) : M O := fun ρ => match keysOf i ρ with
  | some p => (compL own a t e p.1 (wipeE p.2 own)).bind fun fin ρ2 => .ok (.lst fin) (backE (wipeE ρ2 own) p.2 own)
  | none => .no
theorem compK_core {i : Nat} {own : List Nat} {g : TG} {tt : TT} {te : TE} {a : D → Env → Option Env} {t : M Bool} {e : M O} (nd : own.Nodup)
    (hg : ∀ v σ H Q, tG K mg (Wip own) a v σ H Q → g v σ H Q) (ht : ∀ σ H Q, tMT K mg t σ H Q → tt σ H Q) (he : ∀ σ H Q, tM K mg e σ H Q → te σ H Q)
    (σ : L2.St) (H : Hp) (Q : VK) (w : tM K mg (mCompK i own a t e) σ H Q) : tLc (iKeys (tVar i)) g tt te own σ H Q ∨ tLockE (tLc (iKeys (tVar i)) g tt te own) σ H Q := by
  obtain ⟨ρ, T, o, ρ', cv, R, e0, k⟩ := w
  unfold mCompK at e0
  split at e0
  · rename_i q eq
    obtain ⟨o1, ks, ds, e1, e2, hk, rfl, hlen⟩ := keysOf_eq eq
    obtain ⟨fin, ρ2, e3, e0⟩ := Res.bind_eq e0
    cases e0
    obtain ⟨v, hv⟩ := cv.ex i o1 e1
    obtain ⟨R1, R2⟩ := R.frzAt hv e1
    rw [e2] at R1 R2
    have c1 := cv.put hv (.val (.dct ks ds))
    obtain ⟨d, kvs, rfl, hks, hh⟩ := R2.dctAt
    subst hks
    have hl : ((kvs.map (·.1)).map keyD).length ≤ 1000000 := by simpa using hlen
    rcases hh with ⟨od, hH, R3⟩ | ⟨hH, n, R3⟩
    · refine .inl ⟨_, hv, d, od, rfl, .inl ⟨kvs, hH, fun D hD => ?_⟩⟩
      exact comp_core0 nd hg ht he hl c1 (its_keys hk) R3 e3 hD fun H' c' R' => k _ H' c' ((R'.perm List.perm_middle.symm).drops)
    · refine .inr ⟨d, .dK kvs, hH, trivial, fun od => ⟨_, hv, d, od, rfl, .inl ⟨kvs, upd_same, fun D hD => ?_⟩⟩⟩
      refine comp_core0 (Q := fun v H' => H' d = some (.frz od (.dK kvs)) ∧ Q v (upd H' d (.dK kvs))) nd hg ht he hl c1 (its_keys hk) (R3 od) e3 hD fun H' c' R' => ?_
      have R4 := R'.perm (.swap _ _ _)
      refine ⟨R4.pinAt, k _ _ c' (R4.unlock fun x hx => ?_)⟩
      rcases List.mem_cons.mp hx with e | hx
      · subst e; trivial
      · have hx : x ∈ pairs σ (backE (wipeE ρ2 own) (List.set ρ i (some (.val (.dct (kvs.map (·.1)) ds)))) own) ++ T := hx
        exact (List.mem_append.mp hx).elim (NoPin.pairs x) fun z => n x (List.mem_append_right _ z)
  · cases e0
theorem se_compK (i : Nat) {x : Str} {p : Pos} {tg elt : Expr} {ifs : List Expr} {scope : Scope} {own : List (Str × Nat)} {pos : Pos} {a : D → Env → Option Env} {t : M Bool} {e : M O} (ok : CxOk X) (bo : BlkOk X.N X.env.scope scope own)
    (hg : ∀ (s : Shared) (H : Hp) (C : Addr) (cl : List (Str × Addr)) (fp : List Addr), SG (X.blk s H scope (compEnvC scope cl C X.env) fp) (Wip (own2 own)) tg a) (ht : ∀ (s : Shared) (H : Hp) (C : Addr) (cl : List (Str × Addr)) (fp : List Addr), SETs (X.blk s H scope (compEnvC scope cl C X.env) fp) ifs t)
    (he : ∀ (s : Shared) (H : Hp) (C : Addr) (cl : List (Str × Addr)) (fp : List Addr), SE (X.blk s H scope (compEnvC scope cl C X.env) fp) elt e) (nd : (own2 own).Nodup := by decide)
    (hN : X.N[i]? = some x := by rfl) (hv : Vis X.env.scope x := by first | exact Or.inl rfl | exact Or.inr (Or.inl rfl) | exact Or.inr (Or.inr rfl)) (hd : (x == ("__debug__" : Str)) = false := by decide) (hcd : (x == ("__classdict__" : Str)) = false := by decide)
    (hs : ∀ y, foldedSetIterable (.Name x p) X.env y = pure y := by intro _; rfl) :
    SE X (.ListComp elt [⟨tg, .Name x p, ifs, 0⟩] scope pos) (mCompK i (own2 own) a t e) := by
  have s1 := pe_lc (pos := pos) (wi := iKeys (tVar i)) (g := tG X.K X.mg (Wip (own2 own)) a) (tt := tMT X.K X.mg t) (te := tM X.K X.mg e) ok.calm ok.nd (pi_keys (pv (pos := p) i hN hv hd hcd)) bo hg ht he hs
  exact PE.imp (peOr s1 (pe_lock s1)) (compK_core nd (fun _ _ _ _ w => w) (fun _ _ _ w => w) (fun _ _ _ w => w))
theorem ss_setLcKO (i j : Nat) {P : List Nat} {y x : Str} {py p : Pos} {tg elt : Expr} {ifs : List Expr} {scope : Scope} {own : List (Str × Nat)} {pos spos : Pos} {a : D → Env → Option Env} {t : M Bool} {e : M O} (ok : CxOk X) (hy : X.N[i]? = some y) (hyl : X.env.scope.names.lookup y = some .local)
    (hsw : swapsWith (.ListComp elt [⟨tg, .Name x p, ifs, 0⟩] scope pos) (some (.Name y py)) spos.line X.env = pure true) (bo : BlkOk X.N X.env.scope scope own)
    (hg : ∀ (s : Shared) (H : Hp) (C : Addr) (cl : List (Str × Addr)) (fp : List Addr), SG (X.blk s H scope (compEnvC scope cl C X.env) fp) (Wip (own2 own)) tg a) (ht : ∀ (s : Shared) (H : Hp) (C : Addr) (cl : List (Str × Addr)) (fp : List Addr), SETs (X.blk s H scope (compEnvC scope cl C X.env) fp) ifs t)
    (he : ∀ (s : Shared) (H : Hp) (C : Addr) (cl : List (Str × Addr)) (fp : List Addr), SE (X.blk s H scope (compEnvC scope cl C X.env) fp) elt e) (hP : i ∉ P := by decide) (nd : (own2 own).Nodup := by decide)
    (hN : X.N[j]? = some x := by rfl) (hv : Vis X.env.scope x := by first | exact Or.inl rfl | exact Or.inr (Or.inl rfl) | exact Or.inr (Or.inr rfl)) (hd : (x == ("__debug__" : Str)) = false := by decide) (hcd : (x == ("__classdict__" : Str)) = false := by decide)
    (hs : ∀ z, foldedSetIterable (.Name x p) X.env z = pure z := by intro _; rfl) :
    SS X P (.Assign [.Name y py] (.ListComp elt [⟨tg, .Name x p, ifs, 0⟩] scope pos) spos) (mSetO i (mCompK j (own2 own) a t e)) := by
  have s1 := ps_setLc (spos := spos) (wi := iKeys (tVar j)) (g := tG X.K X.mg (Wip (own2 own)) a) (tt := tMT X.K X.mg t) (te := tM X.K X.mg e) ok.calm ok.nd hy hyl hsw (pi_keys (pv (pos := p) j hN hv hd hcd)) bo hg ht he hs
  refine PS.imp (psOr s1 (ps_lock s1)) fun D σ H w => ?_
  obtain ⟨ρ, T, c, R, h⟩ := tS_iff.mp w
  unfold mSetO at h
  cases e1 : mCompK j (own2 own) a t e ρ with
  | ok o ρ1 =>
    rw [e1] at h
    exact compK_core nd (fun _ _ _ _ w => w) (fun _ _ _ w => w) (fun _ _ _ w => w) σ H (fun v H' => D.nx (σ.set i (some v)) H') ⟨ρ, T, o, ρ1, c, R, e1, fun v H' c' R' => h _ H' (Fix.set hP) (c'.set i v o) (Rep.store c' R')⟩
  | exc x ρ1 => rw [e1] at h; exact h.elim
  | no => rw [e1] at h; exact h.elim
theorem ss_setLcKP (i j : Nat) {P : List Nat} {y x : Str} {py p : Pos} {tg elt : Expr} {ifs : List Expr} {scope : Scope} {own : List (Str × Nat)} {pos spos : Pos} {a : D → Env → Option Env} {t : M Bool} {e : M O} (ok : CxOk X) (hy : X.N[i]? = some y) (hyl : X.env.scope.names.lookup y = some .local)
    (hsw : swapsWith (.ListComp elt [⟨tg, .Name x p, ifs, 0⟩] scope pos) (some (.Name y py)) spos.line X.env = pure true) (bo : BlkOk X.N X.env.scope scope own)
    (hg : ∀ (s : Shared) (H : Hp) (C : Addr) (cl : List (Str × Addr)) (fp : List Addr), SG (X.blk s H scope (compEnvC scope cl C X.env) fp) (Wip (own2 own)) tg a) (ht : ∀ (s : Shared) (H : Hp) (C : Addr) (cl : List (Str × Addr)) (fp : List Addr), SETs (X.blk s H scope (compEnvC scope cl C X.env) fp) ifs t)
    (he : ∀ (s : Shared) (H : Hp) (C : Addr) (cl : List (Str × Addr)) (fp : List Addr), SE (X.blk s H scope (compEnvC scope cl C X.env) fp) elt e) (hP : i ∉ P := by decide) (nd : (own2 own).Nodup := by decide)
    (hN : X.N[j]? = some x := by rfl) (hv : Vis X.env.scope x := by first | exact Or.inl rfl | exact Or.inr (Or.inl rfl) | exact Or.inr (Or.inr rfl)) (hd : (x == ("__debug__" : Str)) = false := by decide) (hcd : (x == ("__classdict__" : Str)) = false := by decide)
    (hs : ∀ z, foldedSetIterable (.Name x p) X.env z = pure z := by intro _; rfl) :
    SS X P (.Assign [.Name y py] (.ListComp elt [⟨tg, .Name x p, ifs, 0⟩] scope pos) spos) (mSetP i (mCompK j (own2 own) a t e)) := by
  have s1 := ps_setLc (spos := spos) (wi := iKeys (tVar j)) (g := tG X.K X.mg (Wip (own2 own)) a) (tt := tMT X.K X.mg t) (te := tM X.K X.mg e) ok.calm ok.nd hy hyl hsw (pi_keys (pv (pos := p) j hN hv hd hcd)) bo hg ht he hs
  refine PS.imp (psOr s1 (ps_lock s1)) fun D σ H w => ?_
  obtain ⟨ρ, T, c, R, h⟩ := tS_iff.mp w
  unfold mSetP at h
  cases e1 : mCompK j (own2 own) a t e ρ with
  | ok o ρ1 =>
    rw [e1] at h
    exact compK_core nd (fun _ _ _ _ w => w) (fun _ _ _ w => w) (fun _ _ _ w => w) σ H (fun v H' => D.nx (σ.set i (some v)) H') ⟨ρ, T, o, ρ1, c, R, e1, fun v H' c' R' => h _ H' (Fix.set hP) (c'.set i v _) (Rep.store c' R'.frz)⟩
  | exc x ρ1 => rw [e1] at h; exact h.elim
  | no => rw [e1] at h; exact h.elim
end
end FB

/-! Lists turned round, dicts copied, counted, compared, their keys. -/
namespace FB
open PySem PySem.Spec L2
open PyProof.Rows hiding St
section
variable {X : Cx} {K : PySem.W.Frag} {mg : Str → Option Value}
/-! ### xs[::-1] -/
def revO (a : O) : Option O := match a.sh with
  | some (.lst ds) => some (.val (.lst ds.reverse))
  | _ => none
def rRev (K : PySem.W.Frag) : V → Hp → VK → Prop := fun x H Q => ∃ a xs, x = .ref a ∧ SqL K H a xs ∧ ∀ p, H p = none → Q (.ref p) (upd H p (.lst xs.reverse))
theorem unv_rev : UnV K mg (rRev K) revO := by
  intro H L B x ox o Q R hx e k
  unfold revO at e
  split at e
  · rename_i ds e1
    cases e
    obtain ⟨p, vs, rfl, hp, lp, R1⟩ := R.shL hx e1
    refine ⟨p, vs, rfl, .inl hp, fun q hq => k _ _ (sameNew hq) ?_⟩
    refine Rep.lentL (vs := vs.reverse) (ds := ds.reverse) (R1.perm (List.Perm.append_right _ ?_)) (by simpa using lp) hq
    rw [show zipI vs.reverse (ds.reverse.map O.val) = (zipI vs (ds.map O.val)).reverse from by
      unfold zipI
      rw [List.reverse_zipWith (by simpa using lp), List.map_reverse]]
    exact (List.reverse_perm _).symm
  · cases e
theorem sp_rev {e : Expr} {k : Nat} {q1 q2 q3 pos : Pos} {f : Pf} (h : SP X e f) : SP X (.Subscript e (.Slice none none (some (.UnaryOp .USub (.Constant (.int 1) k q1) q2)) q3) pos) (p1 revO f) := PE.imp (pe_revL h) (tUn_p unv_rev)
theorem se_rev {e : Expr} {k : Nat} {p1 p2 p3 pos : Pos} {m : M O} (h : SE X e m) : SE X (.Subscript e (.Slice none none (some (.UnaryOp .USub (.Constant (.int 1) k p1) p2)) p3) pos) (m1 revO m) := PE.imp (pe_revL h) (tUn_m unv_rev)
@[simp] theorem revO_lst (ds : List D) : revO (.val (.lst ds)) = some (.val (.lst ds.reverse)) := (rfl)
/-! ### list(d), len(d) -/
theorem Rep.keys {H : Hp} {L : List Item} {B : List (V × O)} (R : Rep K mg H L B) : ∀ {ks : List Key}, ks.all keyOk = true → Rep K mg H (zipI (ks.map kV) ((ks.map keyD).map O.val) ++ L) B
  | [], _ => R
  | k :: ks, h => by
    rw [List.all_cons, Bool.and_eq_true] at h
    exact Rep.scal (Rep.keys R h.2) fun G => key_vwD h.1
def listKO (a : O) : Option O := (dctP a).bind fun p => if p.1.all keyOk = true then some (.val (.lst (p.1.map keyD))) else none
theorem unv_listK : UnV K mg (fun x H Q => ∃ a kvs, [x] = [.ref a] ∧ Rd H a (.dK kvs) ∧ ∀ p, H p = none → Q (.ref p) (upd H p (.lst (kvs.map fun kv => kV kv.1)))) listKO := by
  intro H L B x ox o Q R hx e k
  unfold listKO at e
  cases e1 : dctP ox with
  | none => rw [e1] at e; cases e
  | some p =>
    rw [e1] at e
    have e : (if p.1.all keyOk = true then some (O.val (.lst (p.1.map keyD))) else none) = some o := e
    split at e
    · rename_i hk
      cases e
      obtain ⟨a, kvs, rfl, h1, h2, h3, h4, h5⟩ := R.dctV hx e1
      refine ⟨a, kvs, rfl, h1, fun q hq => k _ _ (sameNew hq) ?_⟩
      have e2 : (kvs.map fun kv => kV kv.1) = p.1.map kV := by rw [← h2, List.map_map]; rfl
      rw [e2]
      exact Rep.lentL (R.keys hk) (by simp) hq
    · cases e
def lenKO (a : O) : Option O := (dctP a).map fun p => .val (.int p.1.length)
theorem call_lenK : CallR X (.builtin "len") (fun xs H Q => ∃ a kvs, xs = [V.ref a] ∧ Rd H a (.dK kvs) ∧ Q (.int kvs.length) H) := by
  intro pins s σ H xs us Q I r h
  obtain ⟨a, kvs, rfl, ha, q⟩ := h
  obtain ⟨u, rfl, ru⟩ := vals1 r
  obtain rfl : u = Value.ref a := ru
  exact d_len I ha fun t s' I' => ⟨V.int kvs.length, H, I', ⟨t, rfl⟩, q⟩
theorem unv_lenK : UnV K mg (fun x H Q => ∃ a kvs, [x] = [V.ref a] ∧ Rd H a (.dK kvs) ∧ Q (.int kvs.length) H) lenKO := by
  intro H L B x ox o Q R hx e k
  unfold lenKO at e
  cases e1 : dctP ox with
  | none => rw [e1] at e; cases e
  | some p =>
    rw [e1] at e
    cases e
    obtain ⟨a, kvs, rfl, h1, h2, h3, h4, h5⟩ := R.dctV hx e1
    refine ⟨a, kvs, rfl, h1, k _ _ (Same.refl _) ?_⟩
    rw [show (kvs.length : Int) = (p.1.length : Int) by rw [← h2]; simp]
    exact R.scalB fun G => .int _
/-! ### dict(d) -/
theorem Rep.lentD {H : Hp} {L : List Item} {B : List (V × O)} {p : Addr} {kvs : List (Key × V)} {ks : List Key} {ds : List D} (R : Rep K mg H (zipI (kvs.map (·.2)) (ds.map O.val) ++ L) B) (hk : kvs.map (·.1) = ks ∧ ks.Nodup) (e : (kvs.map (·.2)).length = ds.length) (hp : H p = none) : Rep K mg (upd H p (.dK kvs)) L ((.ref p, .val (.dct ks ds)) :: B) := by
  obtain ⟨A, nd, ok, hb⟩ := R
  obtain ⟨bs, cs, e2, t1, t2⟩ := ok.split
  subst e2
  obtain ⟨q, e3⟩ := VOs.of_vals (IsOk.unzip (by simpa using e) t1)
  subst e3
  have hA : p ∉ cs := fun z => by
    obtain ⟨u, q⟩ := t2.dom p z
    rw [hp] at q; cases q
  have s : Same (hide H ([] ++ cs)) (hide (upd H p (.dK kvs)) cs) := hide_same fun a u ha q => ⟨ha, by rw [upd_ne (ne_of_none q hp)]; exact q⟩
  have hu : ∀ a ∈ cs, upd H p (.dK kvs) a = H a := fun a ha => upd_ne fun z => hA (z ▸ ha)
  refine ⟨cs, nd, t2.mono s hu, fun b hb' => ?_⟩
  rcases List.mem_cons.mp hb' with e4 | hb'
  · subst e4
    exact ⟨[], .val (.dct (.inl (by rw [hide_out hA]; exact upd_same)) hk (q.mono s)), by simp⟩
  · obtain ⟨as, h1, h2⟩ := hb b hb'
    exact ⟨as, h1.mono s fun a ha => hu a (h2 a ha), h2⟩
theorem Rep.shD {H : Hp} {L : List Item} {B : List (V × O)} {x : V} {o : O} {ks : List Key} {ds : List D} (h : Rep K mg H L B) (hx : (x, o) ∈ B) (e : o.sh = some (.dct ks ds)) :
    ∃ p kvs, x = .ref p ∧ Rd H p (.dK kvs) ∧ (kvs.map (·.1) = ks ∧ ks.Nodup) ∧ (kvs.map (·.2)).length = ds.length ∧ Rep K mg H (zipI (kvs.map (·.2)) (ds.map O.val) ++ L) B := by
  obtain ⟨A, nd, ok, hb⟩ := h
  obtain ⟨as, q, ha⟩ := hb _ hx
  cases q with
  | val q =>
    cases e
    cases q with
    | dct q hk qs => exact ⟨_, _, rfl, rd_hide q, hk, qs.length, Rep.items ⟨A, nd, ok, hb, qs⟩⟩
  | dct q hk qs =>
    rename_i p kvs ks os as'
    have e : (vals? os).map (D.dct ks) = some _ := e
    cases e1 : vals? os with
    | none => rw [e1] at e; cases e
    | some es =>
      rw [e1] at e; cases e
      rw [vals?_eq e1] at qs
      obtain ⟨qs, _⟩ := VOs.of_vals qs
      exact ⟨_, _, rfl, .inl q, hk, qs.length, Rep.items ⟨A, nd, ok, hb, qs⟩⟩
  | lst q qs =>
    rename_i p vs os as'
    have e : (vals? os).map D.lst = some _ := e
    cases e1 : vals? os with
    | none => rw [e1] at e; cases e
    | some es => rw [e1] at e; cases e
  | ins q hm hn qs =>
    rename_i c ns os as'
    have e : (vals? os).map (D.ins c ns) = some _ := e
    cases e1 : vals? os with
    | none => rw [e1] at e; cases e
    | some es => rw [e1] at e; cases e
def dctSh (a : O) : Option (List Key × List D) := match a.sh with
  | some (.dct ks ds) => some (ks, ds)
  | _ => none
theorem dctSh_eq {a : O} {ks : List Key} {ds : List D} (h : dctSh a = some (ks, ds)) : a.sh = some (.dct ks ds) := by
  unfold dctSh at h
  split at h
  · rename_i e; cases h; exact e
  · cases h
def dictO (a : O) : Option O := (dctSh a).map fun p => .val (.dct p.1 p.2)
abbrev rDictC (xs : List V) (H : Hp) (Q : VK) : Prop := ∃ (a : Addr) (kvs : List (Key × V)), xs = [V.ref a] ∧ Rd H a (.dK kvs) ∧ ∀ (p : Addr), H p = none → Q (.ref p) (upd H p (.dK kvs))
theorem unv_dict : UnV K mg (fun x H Q => rDictC [x] H Q) dictO := by
  intro H L B x ox o Q R hx e k
  unfold dictO at e
  cases e1 : dctSh ox with
  | none => rw [e1] at e; cases e
  | some p =>
    rw [e1] at e
    cases e
    obtain ⟨a, kvs, rfl, h1, h2, h3, R1⟩ := R.shD hx (dctSh_eq e1)
    exact ⟨a, kvs, rfl, h1, fun q hq => k _ _ (sameNew hq) (R1.lentD h2 h3 hq)⟩
/-- a dict of one's own: dict(d) -/
def mDictC (f : Pf) : M O := fun ρ => match (f ρ).bind dctSh with
  | some p => .ok (.dct p.1 (p.2.map O.val)) ρ
  | none => .no
theorem se_dictC {x : Str} {a : Expr} {p pos : Pos} {f : Pf} (hg : Gl X x) (hm : X.mg x = none) (hv : bootBuiltins x = some (.type "dict")) (ha : SP X a f)
    (hn : x ≠ "__name__" := by decide) (hdb : (x == ("__debug__" : Str)) = false := by decide) (hst : starEach (a :: []) X.env = (false, eval a X.env) :: starEach [] X.env := by rfl) (hpl : (backTo pos (starEach [] X.env)).any (·.1) = false := by rfl) :
    SE X (.Call (.Name x p) [a] [] pos) (mDictC f) := PE.imp (pe_callTy (call_dictD (X := X)) hg hm hv (pa_cons ha pa_nil hst) hn hdb hst hpl) fun σ H Q q => by
  obtain ⟨ρ, T, o, ρ', c, R, e, k⟩ := q
  unfold mDictC at e
  cases e1 : f ρ with
  | none => rw [e1] at e; cases e
  | some a =>
    rw [e1] at e
    have e : (match dctSh a with | some p => Res.ok (O.dct p.1 (p.2.map O.val)) ρ | none => .no) = .ok o ρ' := e
    cases e2 : dctSh a with
    | none => rw [e2] at e; cases e
    | some q =>
      rw [e2] at e
      cases e
      refine ⟨ρ, T, [], a, c, R, e1, fun v H1 s1 R1 => ?_⟩
      obtain ⟨b, kvs, rfl, h1, h2, h3, R2⟩ := R1.shD (List.mem_cons_self ..) (dctSh_eq e2)
      refine ⟨b, kvs, rfl, h1, fun q hq => k _ _ c ?_⟩
      exact Rep.closeD ((R2.nob).new hq) (by simpa using h3) h2
/-! ### d == e -/
abbrev flatD : D → Bool
  | .non => true
  | .bl _ => true
  | .int _ => true
  | .str _ => true
  | _ => false
theorem flat_uniq {G : Hp} {v u : V} {d : D} (h : Vw K mg G v d) (h2 : Vw K mg G u d) (f : flatD d = true) : v = u ∧ flatB u = true := by
  cases h <;> first | (cases f; done) | (cases h2; exact ⟨rfl, rfl⟩)
def rEqK (b : Bool) : R2 := fun x y H Q => ∃ (p q : Addr) (ks ls : List (Key × V)), x = .ref p ∧ y = .ref q ∧ Rd H p (.dK ks) ∧ Rd H q (.dK ls) ∧ ks.length = ls.length ∧ (∀ z ∈ ks, valV ls z.1 = some z.2 ∧ flatB z.2 = true) ∧ Q (.bl b) H
theorem op_eqK (ok : CxOk X) : OpR X (compareOp .Eq) (rEqK true) := by
  intro pins s σ H x y v u Q I rx ry h
  obtain ⟨a, b, ks, ls, rfl, rfl, ea, eb, hlen, hp, q⟩ := h
  obtain rfl : v = Value.ref a := rx
  obtain rfl : u = Value.ref b := ry
  have h1 := ea.ok I.hok
  have h2 := eb.ok I.hok
  obtain ⟨_, ya, va, ra, da⟩ := h1
  obtain ⟨_, yb, vb, rb, db⟩ := h2
  have hl : va.length = vb.length := by rw [← KV.length ra, ← KV.length rb]; exact hlen
  exact PySem.W.keq_eq ya yb da db (by have := ok.units; omega) (fun _ => hits_all rb ra hp) (fin_bl I q (by simp [hl]))
theorem op_neK (ok : CxOk X) : OpR X (compareOp .NotEq) (rEqK false) := by
  intro pins s σ H x y v u Q I rx ry h
  obtain ⟨a, b, ks, ls, rfl, rfl, ea, eb, hlen, hp, q⟩ := h
  obtain rfl : v = Value.ref a := rx
  obtain rfl : u = Value.ref b := ry
  have h1 := ea.ok I.hok
  have h2 := eb.ok I.hok
  obtain ⟨_, ya, va, ra, da⟩ := h1
  obtain ⟨_, yb, vb, rb, db⟩ := h2
  have hl : va.length = vb.length := by rw [← KV.length ra, ← KV.length rb]; exact hlen
  exact PySem.W.keq_ne ya yb da db (by have := ok.units; omega) (fun _ => hits_all rb ra hp) (fin_bl I q (by simp [hl]))
/-- the same dicts, their values flat -/
def sameK (a b : O) : Prop := ∃ ks ds, a.toD = .dct ks ds ∧ b.toD = .dct ks ds ∧ ds.all flatD = true
open Classical in
noncomputable def eqKO (a b : O) : Option O := if sameK a b then some (.val (.bl true)) else none
open Classical in
noncomputable def neKO (a b : O) : Option O := if sameK a b then some (.val (.bl false)) else none
theorem valV_nd {κ : Type} [DecidableEq κ] : ∀ {ls : List (κ × V)}, (ls.map (·.1)).Nodup → ∀ {i : Nat} {p : κ × V}, ls[i]? = some p → valV ls p.1 = some p.2
  | [], _, i, p, h => by simp at h
  | q :: ls, nd, 0, p, h => by
    simp at h
    subst h
    exact valV_pos rfl
  | q :: ls, nd, i + 1, p, h => by
    rw [List.map_cons, List.nodup_cons] at nd
    have h : ls[i]? = some p := by simpa using h
    rw [valV_neg (fun e => nd.1 (by rw [e]; exact List.mem_map.mpr ⟨p, List.mem_of_getElem? h, rfl⟩))]
    exact valV_nd nd.2 h
theorem same_run {H : Hp} {L : List Item} {B : List (V × O)} {x y : V} {a b : O} (R : Rep K mg H L B) (hx : (x, a) ∈ B) (hy : (y, b) ∈ B) (h : sameK a b) :
    ∃ (p q : Addr) (ks ls : List (Key × V)), x = .ref p ∧ y = .ref q ∧ Rd H p (.dK ks) ∧ Rd H q (.dK ls) ∧ ks.length = ls.length ∧ (∀ z ∈ ks, valV ls z.1 = some z.2 ∧ flatB z.2 = true) := by
  obtain ⟨ks, ds, e1, e2, hf⟩ := h
  have h1 := R.view hx
  have h2 := R.view hy
  rw [e1] at h1
  rw [e2] at h2
  cases h1 with
  | dct a1 a2 a3 =>
    cases h2 with
    | dct b1 b2 b3 =>
      rename_i p kvs q lvs
      have hlen : kvs.length = lvs.length := by
        have := congrArg List.length (a2.1.trans b2.1.symm)
        simpa using this
      refine ⟨p, q, kvs, lvs, rfl, rfl, a1, b1, hlen, fun z hz => ?_⟩
      obtain ⟨i, hi⟩ := List.getElem?_of_mem hz
      have il : i < kvs.length := (List.getElem?_eq_some_iff.mp hi).1
      have hz2 : (kvs.map (·.2))[i]? = some z.2 := by rw [List.getElem?_map, hi]; rfl
      obtain ⟨d, hd, v1⟩ := a3.getV hz2
      obtain ⟨u, hu, v2⟩ := b3.get hd
      have hdf : flatD d = true := (List.all_eq_true.mp hf) d (List.mem_of_getElem? hd)
      obtain ⟨e, fl⟩ := flat_uniq v1 v2 hdf
      subst e
      rw [List.getElem?_map] at hu
      cases hq : lvs[i]? with
      | none => rw [hq] at hu; cases hu
      | some w =>
        rw [hq] at hu
        have hu : w.2 = z.2 := Option.some.inj hu
        have hk : w.1 = z.1 := by
          have c1 : (kvs.map (·.1))[i]? = some z.1 := by rw [List.getElem?_map, hi]; rfl
          have c2 : (lvs.map (·.1))[i]? = some w.1 := by rw [List.getElem?_map, hq]; rfl
          rw [a2.1, ← b2.1, c2] at c1
          exact Option.some.inj c1
        have := valV_nd (ls := lvs) (by rw [b2.1]; exact b2.2) hq
        rw [hk, hu] at this
        exact ⟨this, fl⟩
theorem opv_eqK : OpV K mg (rEqK true) eqKO := by
  intro H L B x y ox oy o Q R hx hy e k
  unfold eqKO at e
  split at e
  · rename_i hs
    cases e
    obtain ⟨p, q, ks, ls, h1, h2, h3, h4, h5, h6⟩ := same_run R hx hy hs
    exact ⟨p, q, ks, ls, h1, h2, h3, h4, h5, h6, k _ _ (Same.refl _) (R.scalB fun G => .bl _)⟩
  · cases e
theorem opv_neK : OpV K mg (rEqK false) neKO := by
  intro H L B x y ox oy o Q R hx hy e k
  unfold neKO at e
  split at e
  · rename_i hs
    cases e
    obtain ⟨p, q, ks, ls, h1, h2, h3, h4, h5, h6⟩ := same_run R hx hy hs
    exact ⟨p, q, ks, ls, h1, h2, h3, h4, h5, h6, k _ _ (Same.refl _) (R.scalB fun G => .bl _)⟩
  · cases e
theorem eqKO_same {a b : O} (h : sameK a b) : eqKO a b = some (.val (.bl true)) := if_pos h
theorem neKO_same {a b : O} (h : sameK a b) : neKO a b = some (.val (.bl false)) := if_pos h
/-- dict(pairs), one's own -/
def dpO2 (ρ : Env) : Option (List (Key × D)) → Res O
  | some kvs => .ok (.dct (mergeL ([], []) kvs).1 ((mergeL ([], []) kvs).2.map O.val)) ρ
  | none => .no
def dpO1 (ρ : Env) : D → Res O
  | .lst ds => dpO2 ρ (prs? ds)
  | _ => .no
def mDictPO (m : M O) : M O := fun ρ => (m ρ).bind fun o ρ1 => dpO1 ρ1 o.toD
theorem se_dictPO {a : Expr} {p pos : Pos} {m : M O} (ok : CxOk X) (hg : Gl X "dict") (hm : X.mg "dict" = none) (hv : bootBuiltins "dict" = some (.type "dict")) (ha : SE X a m)
    (hst : starEach (a :: []) X.env = (false, eval a X.env) :: starEach [] X.env := by rfl) (hpl : (backTo pos (starEach [] X.env)).any (·.1) = false := by rfl) : SE X (.Call (.Name "dict" p) [a] [] pos) (mDictPO m) :=
  PE.imp (pe_callTy (call_dictP ok.calm) hg hm hv (pa_cons ha pa_nil hst) (by decide) (by decide) hst hpl) fun σ H Q w => by
    obtain ⟨ρ, T, o, ρ', c, R, e0, k⟩ := w
    obtain ⟨u, ρ1, e1, e0⟩ := Res.bind_eq e0
    refine ⟨ρ, T, u, ρ1, c, R, e1, fun y H1 c1 R1 => ?_⟩
    have R2 := R1.frz
    cases hd : u.toD with
    | lst ds =>
      rw [hd] at e0 R2
      have e0 : dpO2 ρ1 (prs? ds) = .ok o ρ' := e0
      cases ep : prs? ds with
      | none => rw [ep] at e0; cases e0
      | some kvs =>
        rw [ep] at e0
        cases e0
        obtain ⟨A, nd, okk, hb0⟩ := id R2
        cases okk with
        | cons h t =>
          rename_i a9 b9
          cases h with
          | ov h =>
            cases h with
            | val h =>
              cases h with
              | lst q1 q2 =>
                rename_i pa vs
                obtain ⟨ps, ws, ev, h2, h3, h4⟩ := prs_views q2 ep
                subst ev
                have pm : Paired (fun p kv => SqT X.K H1 p [kV kv.1, kv.2]) ps ws := by
                  clear h3 h4 q1 q2 ep nd t R2 R1 hb0
                  induction h2 with
                  | nil => exact .nil
                  | cons h _ ih => exact .cons (sqT_hide h) ih
                obtain ⟨m1, m2, m3⟩ := merge_views (acc := []) (ks := []) (ds := []) h3 h4 rfl List.nodup_nil .nil
                refine ⟨pa, ps, ws, rfl, .inl (rd_hide q1), pm, fun q hq => k _ _ c1 ?_⟩
                have R3 : Rep X.K X.mg H1 (zipI ((mergeK [] ws).map (·.2)) ((mergeL ([], []) kvs).2.map O.val) ++ (pairs σ ρ' ++ T)) [] := Rep.items ⟨_, nd, t, fun _ z => by simp at z, m3⟩
                exact Rep.closeD (R3.new hq) (by have := m3.length; simpa using this) ⟨m1, m2⟩
    | _ => rw [hd] at e0; cases e0
variable {ρ : Env}
def dcK (ρ : Env) : Option (List Key × List D) → Res O
  | some p => .ok (.dct p.1 (p.2.map O.val)) ρ
  | none => .no
def dcA (ρ : Env) : Option O → Res O
  | some o => dcK ρ (dctSh o)
  | none => .no
@[simp] theorem e_mDictC (f : Pf) : mDictC f ρ = dcA ρ (f ρ) := by
  unfold mDictC dcA
  cases f ρ with
  | none => rfl
  | some o =>
    show (match dctSh o with | some p => _ | none => _) = dcK ρ (dctSh o)
    cases dctSh o <;> rfl
@[simp] theorem e_dcA (o : O) : dcA ρ (some o) = dcK ρ (dctSh o) := (rfl)
@[simp] theorem e_dcK (ks : List Key) (ds : List D) : dcK ρ (some (ks, ds)) = .ok (.dct ks (ds.map O.val)) ρ := (rfl)
@[simp] theorem dctSh_val (ks : List Key) (ds : List D) : dctSh (.val (.dct ks ds)) = some (ks, ds) := (rfl)
@[simp] theorem dictO_val (ks : List Key) (ds : List D) : dictO (.val (.dct ks ds)) = some (.val (.dct ks ds)) := (rfl)
@[simp] theorem lenKO_val (ks : List Key) (ds : List D) : lenKO (.val (.dct ks ds)) = some (.val (.int ks.length)) := (rfl)
@[simp] theorem lenKO_dct (ks : List Key) (os : List O) : lenKO (.dct ks os) = some (.val (.int ks.length)) := (rfl)
theorem listKO_val (ks : List Key) (ds : List D) (h : ks.all keyOk = true) : listKO (.val (.dct ks ds)) = some (.val (.lst (ks.map keyD))) := if_pos h
theorem listKO_dct (ks : List Key) (os : List O) (h : ks.all keyOk = true) : listKO (.dct ks os) = some (.val (.lst (ks.map keyD))) := if_pos h
/-- what the loop over a name's dict is -/
theorem keysOf_val {i : Nat} {ks : List Key} {ds : List D} (h : ρ[i]? = some (some (.val (.dct ks ds)))) (hk : ks.all keyOk = true) (hl : ks.length ≤ 1000000) : keysOf i ρ = some (ks.map keyD, ρ) := by
  unfold keysOf
  rw [h]
  show (if ks.all keyOk = true ∧ ks.length ≤ 1000000 then _ else _) = _
  rw [if_pos ⟨hk, hl⟩]
  congr 2
  apply List.ext_getElem?
  intro j
  by_cases e : i = j
  · subst e
    have hi := (List.getElem?_eq_some_iff.mp h).1
    rw [List.getElem?_set_self hi, h]
  · rw [List.getElem?_set_ne e]
theorem keysOf_dct {i : Nat} {ks : List Key} {os : List O} (h : ρ[i]? = some (some (.dct ks os))) (hk : ks.all keyOk = true) (hl : ks.length ≤ 1000000) : keysOf i ρ = some (ks.map keyD, ρ.set i (some (.val (.dct ks (O.toDs os))))) := by
  unfold keysOf
  rw [h]
  exact if_pos ⟨hk, hl⟩
theorem e_mForK {i : Nat} {a : D → Env → Option Env} {b : M Fl} {ds : List D} {ρ' : Env} (h : keysOf i ρ = some (ds, ρ')) : mForK i a b ρ = forL a b ds ρ' := by
  unfold mForK; rw [h]
theorem e_mCompK {i : Nat} {own : List Nat} {a : D → Env → Option Env} {t : M Bool} {e : M O} {ds : List D} {ρ' : Env} (h : keysOf i ρ = some (ds, ρ')) : mCompK i own a t e ρ = (compL own a t e ds (wipeE ρ' own)).bind fun fin ρ2 => .ok (.lst fin) (backE (wipeE ρ2 own) ρ' own) := by
  unfold mCompK; rw [h]
def dpOK : Res O → Res O
  | .ok o ρ => dpO1 ρ o.toD
  | .exc x ρ => .exc x ρ
  | .no => .no
@[simp] theorem e_mDictPO (m : M O) : mDictPO m ρ = dpOK (m ρ) := by unfold mDictPO dpOK; cases m ρ <;> rfl
@[simp] theorem e_dpOK (o : O) : dpOK (.ok o ρ) = dpO1 ρ o.toD := (rfl)
@[simp] theorem e_dpO1 (ds : List D) : dpO1 ρ (.lst ds) = dpO2 ρ (prs? ds) := (rfl)
@[simp] theorem e_dpO2 (kvs : List (Key × D)) : dpO2 ρ (some kvs) = .ok (.dct (mergeL ([], []) kvs).1 ((mergeL ([], []) kvs).2.map O.val)) ρ := (rfl)
end
end FB

/-! Comprehensions and loops whose turns simp computes. -/
namespace FB
open PySem PySem.Spec L2
open PyProof.Rows hiding St
variable {ρ : Env}
/-- a turn of a comprehension -/
def cstep (own : List Nat) (a : D → Env → Option Env) (t : M Bool) (e : M O) (d : D) (ρ : Env) : Res (Option O) := match a d ρ with
  | none => .no
  | some ρ1 => (t ρ1).bind fun b ρ2 => if b = true then (e ρ2).bind fun o ρ3 => .ok (some o) (wipeE ρ3 own) else .ok none (wipeE ρ2 own)
def csE (own : List Nat) : Res O → Res (Option O)
  | .ok o ρ => .ok (some o) (wipeE ρ own)
  | .exc x ρ => .exc x ρ
  | .no => .no
def csT (own : List Nat) (e : M O) : Res Bool → Res (Option O)
  | .ok b ρ => if b = true then csE own (e ρ) else .ok none (wipeE ρ own)
  | .exc x ρ => .exc x ρ
  | .no => .no
def csS (own : List Nat) (t : M Bool) (e : M O) : Option Env → Res (Option O)
  | some ρ => csT own e (t ρ)
  | none => .no
@[simp] theorem e_cstep (own : List Nat) (a : D → Env → Option Env) (t : M Bool) (e : M O) (d : D) : cstep own a t e d ρ = csS own t e (a d ρ) := by
  unfold cstep csS
  cases a d ρ with
  | none => rfl
  | some ρ1 =>
    show (t ρ1).bind _ = csT own e (t ρ1)
    unfold csT
    cases t ρ1 with
    | ok b ρ2 =>
      show (if b = true then (e ρ2).bind _ else _) = if b = true then csE own (e ρ2) else _
      unfold csE
      cases e ρ2 <;> rfl
    | exc x ρ2 => rfl
    | no => rfl
@[simp] theorem e_csS (own : List Nat) (t : M Bool) (e : M O) : csS own t e (some ρ) = csT own e (t ρ) := (rfl)
@[simp] theorem e_csT (own : List Nat) (e : M O) (b : Bool) : csT own e (.ok b ρ) = if b = true then csE own (e ρ) else .ok none (wipeE ρ own) := (rfl)
@[simp] theorem e_csE (own : List Nat) (o : O) : csE own (.ok o ρ) = .ok (some o) (wipeE ρ own) := (rfl)
theorem compL_step {own : List Nat} {a : D → Env → Option Env} {t : M Bool} {e : M O} (d : D) (ds : List D) : compL own a t e (d :: ds) ρ = (cstep own a t e d ρ).bind fun o ρ1 => match o with
    | some o => (compL own a t e ds ρ1).bind fun os ρ2 => .ok (o :: os) ρ2
    | none => compL own a t e ds ρ1 := by
  show (match a d ρ with | none => Res.no | some ρ1 => (t ρ1).bind fun b ρ2 => if b = true then (e ρ2).bind fun o ρ3 => (compL own a t e ds (wipeE ρ3 own)).bind fun os ρ4 => .ok (o :: os) ρ4 else compL own a t e ds (wipeE ρ2 own)) = _
  unfold cstep
  cases a d ρ with
  | none => rfl
  | some ρ1 =>
    show (t ρ1).bind _ = ((t ρ1).bind _).bind _
    cases t ρ1 with
    | ok b ρ2 =>
      cases b with
      | true =>
        show (e ρ2).bind _ = ((e ρ2).bind _).bind _
        cases e ρ2 <;> rfl
      | false => rfl
    | exc x ρ2 => rfl
    | no => rfl
theorem compL_fn {α : Type} {own : List Nat} {a : D → Env → Option Env} {t : M Bool} {e : M O} (f : α → D) (c : α → Bool) (g : α → O) : ∀ {xs : List α},
    (∀ x ∈ xs, cstep own a t e (f x) ρ = if c x = true then .ok (some (g x)) ρ else .ok none ρ) → compL own a t e (xs.map f) ρ = .ok ((xs.filter c).map g) ρ
  | [], _ => rfl
  | x :: xs, h => by
    have ih := compL_fn (own := own) (a := a) (t := t) (e := e) f c g (xs := xs) fun d hd => h d (List.mem_cons_of_mem _ hd)
    rw [List.map_cons, compL_step, h x (List.mem_cons_self ..)]
    cases hc : c x with
    | true => simp [ih, hc]
    | false => simp [ih, hc]
theorem wipeE_get (ρ : Env) : ∀ (own : List Nat) (j : Nat), (wipeE ρ own)[j]? = if j ∈ own ∧ j < ρ.length then some none else ρ[j]?
  | [], j => by simp
  | v :: vs, j => by
    rw [e_wipe1, List.getElem?_set, wipeE_get ρ vs j, wipeE_len]
    by_cases e : v = j
    · subst e
      by_cases hl : v < ρ.length
      · simp [hl]
      · simp [hl]
    · simp [e, show ¬ j = v from fun z => e z.symm]
theorem backE_get (ρ2 ρ1 : Env) (hl : ρ2.length = ρ1.length) : ∀ (own : List Nat), own.Nodup → ∀ j, (backE ρ2 ρ1 own)[j]? = if j ∈ own ∧ (ρ1[j]?).join.isSome = true then ρ1[j]? else ρ2[j]?
  | [], _, j => by
    show ρ2[j]? = _
    simp
  | v :: vs, nd, j => by
    rw [List.nodup_cons] at nd
    have ih := backE_get ρ2 ρ1 hl vs nd.2
    rw [e_back1]
    have hv : (wipeE ρ1 vs)[v]? = ρ1[v]? := by rw [wipeE_get]; simp [nd.1]
    rw [hv]
    by_cases e : v = j
    · subst e
      cases h1 : ρ1[v]? with
      | none =>
        rw [e_bkKx, ih]
        simp [nd.1, h1]
      | some o =>
        cases o with
        | none =>
          rw [e_bkKn, ih]
          simp [nd.1, h1]
        | some o =>
          rw [e_bkKs, List.getElem?_set_self]
          · simp [h1]
          · have e3 : v < ρ1.length := (List.getElem?_eq_some_iff.mp h1).1
            have e4 := ih v
            rw [if_neg (fun z => nd.1 z.1)] at e4
            have : (backE ρ2 ρ1 vs)[v]? = some (ρ2[v]'(by omega)) := by rw [e4, List.getElem?_eq_getElem]
            exact (List.getElem?_eq_some_iff.mp this).1
    · have hb : ∀ q : Option (Option O), (bkK v (backE ρ2 ρ1 vs) q)[j]? = (backE ρ2 ρ1 vs)[j]? := by
        intro q
        cases q with
        | none => rfl
        | some o =>
          cases o with
          | none => rfl
          | some o => rw [e_bkKs, List.getElem?_set_ne e]
      rw [hb, ih]
      simp [show ¬ j = v from fun z => e z.symm]
theorem back_wipe (ρ : Env) {own : List Nat} (nd : own.Nodup) : backE (wipeE (wipeE ρ own) own) ρ own = ρ := by
  apply List.ext_getElem?
  intro j
  rw [backE_get _ _ (by rw [wipeE_len, wipeE_len]) own nd, wipeE_get, wipeE_len, wipeE_get]
  by_cases h1 : j ∈ own
  · cases h2 : ρ[j]? with
    | none =>
      have : ¬ j < ρ.length := by
        intro z
        rw [List.getElem?_eq_getElem z] at h2; cases h2
      simp [h1, this]
    | some o =>
      have : j < ρ.length := (List.getElem?_eq_some_iff.mp h2).1
      cases o <;> simp [h1, this]
  · simp [h1]
/-- a comprehension whose turns only read -/
theorem comp_run {α : Type} {it : M (List D)} {own : List Nat} {a : D → Env → Option Env} {t : M Bool} {e : M O} {ρ ρ1 : Env} (f : α → D) (c : α → Bool) (g : α → O) {xs : List α} (hi : it ρ = .ok (xs.map f) ρ1) (hl : xs.length ≤ 1000000) (nd : own.Nodup)
    (h : ∀ x ∈ xs, cstep own a t e (f x) (wipeE ρ1 own) = if c x = true then .ok (some (g x)) (wipeE ρ1 own) else .ok none (wipeE ρ1 own)) : mComp it own a t e ρ = .ok (.lst ((xs.filter c).map g)) ρ1 := by
  rw [e_mComp, hi, e_coK _ _ _ _ _ (by simpa using hl), compL_fn f c g h, e_coK2, back_wipe ρ1 nd]
theorem filter_tt {α : Type} (xs : List α) : xs.filter (fun _ => true) = xs := by
  induction xs with
  | nil => rfl
  | cons x xs ih => simp
theorem comp_map {α : Type} {it : M (List D)} {own : List Nat} {a : D → Env → Option Env} {t : M Bool} {e : M O} {ρ ρ1 : Env} (f : α → D) (g : α → O) {xs : List α} (hi : it ρ = .ok (xs.map f) ρ1) (hl : xs.length ≤ 1000000) (nd : own.Nodup)
    (h : ∀ x ∈ xs, cstep own a t e (f x) (wipeE ρ1 own) = .ok (some (g x)) (wipeE ρ1 own)) : mComp it own a t e ρ = .ok (.lst (xs.map g)) ρ1 := by
  rw [comp_run f (fun _ => true) g hi hl nd (by simpa using h), filter_tt]
theorem compK_run {α : Type} {i : Nat} {own : List Nat} {a : D → Env → Option Env} {t : M Bool} {e : M O} {ρ ρ1 : Env} (f : α → D) (c : α → Bool) (g : α → O) {xs : List α} (hi : keysOf i ρ = some (xs.map f, ρ1)) (nd : own.Nodup)
    (h : ∀ x ∈ xs, cstep own a t e (f x) (wipeE ρ1 own) = if c x = true then .ok (some (g x)) (wipeE ρ1 own) else .ok none (wipeE ρ1 own)) : mCompK i own a t e ρ = .ok (.lst ((xs.filter c).map g)) ρ1 := by
  rw [e_mCompK hi, compL_fn f c g h]
  show Res.ok (O.lst _) (backE (wipeE (wipeE ρ1 own) own) ρ1 own) = _
  rw [back_wipe ρ1 nd]
theorem compX_run {α : Type} {it : M (List D)} {own : List Nat} {a : D → Env → Option Env} {t : M Bool} {e : M O} {ρ ρ1 : Env} (f : α → D) (c : α → Bool) (g : α → O) {xs : List α} (hi : it ρ = .ok (xs.map f) ρ1) (hl : xs.length ≤ 1000000) (nd : own.Nodup)
    (h : ∀ x ∈ xs, cstep own a t e (f x) (wipeE ρ1 own) = if c x = true then .ok (some (g x)) (wipeE ρ1 own) else .ok none (wipeE ρ1 own)) : mCompX it own a t e ρ = .ok (.lst ((xs.filter c).map g)) ρ1 := by
  rw [e_mCompX, hi, e_coX, e_coK _ _ _ _ _ (by simpa using hl), compL_fn f c g h, e_coK2, back_wipe ρ1 nd]; rfl
inductive All2 {α β : Type} (P : α → β → Prop) : List α → List β → Prop
  | nil : All2 P [] []
  | cons {x : α} {y : β} {xs : List α} {ys : List β} : P x y → All2 P xs ys → All2 P (x :: xs) (y :: ys)
/-- a comprehension whose turns change what the invariant tells (effects within) -/
theorem comp_inv {α : Type} {it : M (List D)} {own : List Nat} {a : D → Env → Option Env} {t : M Bool} {e : M O} {ρ ρ1 : Env} (f : α → D) {xs : List α} {β : Type} (E : β → Env) (I : β → Prop) (P : α → Option O → Prop) (b0 : β) (hi : it ρ = .ok (xs.map f) ρ1) (hl : xs.length ≤ 1000000) (h0 : wipeE ρ1 own = E b0) (i0 : I b0)
    (h : ∀ x ∈ xs, ∀ b, I b → ∃ o b', cstep own a t e (f x) (E b) = .ok o (E b') ∧ I b' ∧ P x o) :
    ∃ qs b', All2 P xs qs ∧ I b' ∧ mComp it own a t e ρ = .ok (.lst (qs.filterMap id)) (backE (wipeE (E b') own) ρ1 own) := by
  have key : ∀ (xs : List α) (b : β), (∀ x ∈ xs, ∀ b, I b → ∃ o b', cstep own a t e (f x) (E b) = .ok o (E b') ∧ I b' ∧ P x o) → I b → ∃ qs b', All2 P xs qs ∧ I b' ∧ compL own a t e (xs.map f) (E b) = .ok (qs.filterMap id) (E b') := by
    intro xs
    induction xs with
    | nil => intro b _ hb; exact ⟨[], b, .nil, hb, rfl⟩
    | cons x xs ih =>
      intro b hx hb
      obtain ⟨o, b1, e1, i1, p1⟩ := hx x (List.mem_cons_self ..) b hb
      obtain ⟨qs, b2, f2, i2, e2⟩ := ih b1 (fun y hy => hx y (List.mem_cons_of_mem _ hy)) i1
      refine ⟨o :: qs, b2, .cons p1 f2, i2, ?_⟩
      rw [List.map_cons, compL_step, e1]
      cases o with
      | none => simp [e2]
      | some o => simp [e2]
  obtain ⟨qs, b', f2, i2, e2⟩ := key xs b0 h i0
  refine ⟨qs, b', f2, i2, ?_⟩
  rw [e_mComp, hi, e_coK _ _ _ _ _ (by simpa using hl), h0, e2, e_coK2]
/-! ### loops -/
def flK : Res Fl → Res Fl
  | .ok .ct ρ => .ok .nx ρ
  | r => r
def flA (b : M Fl) : Option Env → Res Fl
  | some ρ => flK (b ρ)
  | none => .no
/-- a turn of a loop -/
def fstep (a : D → Env → Option Env) (b : M Fl) (d : D) (ρ : Env) : Res Fl := flA b (a d ρ)
@[simp] theorem e_fstep (a : D → Env → Option Env) (b : M Fl) (d : D) : fstep a b d ρ = flA b (a d ρ) := (rfl)
@[simp] theorem e_flA (b : M Fl) : flA b (some ρ) = flK (b ρ) := (rfl)
@[simp] theorem e_flKn : flK (.ok .nx ρ) = .ok .nx ρ := (rfl)
@[simp] theorem e_flKc : flK (.ok .ct ρ) = .ok .nx ρ := (rfl)
@[simp] theorem e_flKb : flK (.ok .brk ρ) = .ok .brk ρ := (rfl)
@[simp] theorem e_flKr (o : O) : flK (.ok (.ret o) ρ) = .ok (.ret o) ρ := (rfl)
@[simp] theorem e_flKx (x : Exn) : flK (.exc x ρ) = .exc x ρ := (rfl)
@[simp] theorem flK_ite (c : Prop) [Decidable c] (r s : Res Fl) : flK (if c then r else s) = if c then flK r else flK s := by split <;> rfl
theorem forL_step (a : D → Env → Option Env) (b : M Fl) (d : D) (ds : List D) : forL a b (d :: ds) ρ = (match fstep a b d ρ with
    | .ok .nx ρ1 => forL a b ds ρ1
    | .ok .ct ρ1 => forL a b ds ρ1
    | .ok .brk ρ1 => .ok .nx ρ1
    | .ok (.ret o) ρ1 => .ok (.ret o) ρ1
    | .exc x ρ1 => .exc x ρ1
    | .no => .no : Res Fl) := by
  unfold fstep
  show (match a d ρ with | none => Res.no | some ρ1 => _) = _
  cases a d ρ with
  | none => rfl
  | some ρ1 =>
    show (b ρ1).bind _ = _
    unfold flA
    dsimp only
    cases b ρ1 with
    | ok f ρ2 => cases f <;> rfl
    | exc x ρ2 => rfl
    | no => rfl
/-- a loop that folds -/
theorem forL_fold {α β : Type} {a : D → Env → Option Env} {b : M Fl} (f : α → D) (E : β → Env) (I : List α → β → Prop) (s : β → α → β) : ∀ {xs : List α} (b0 : β), I xs b0 →
    (∀ x xs b0, I (x :: xs) b0 → fstep a b (f x) (E b0) = .ok .nx (E (s b0 x)) ∧ I xs (s b0 x)) → forL a b (xs.map f) (E b0) = .ok .nx (E (xs.foldl s b0)) ∧ I [] (xs.foldl s b0)
  | [], b0, i0, _ => ⟨rfl, i0⟩
  | x :: xs, b0, i0, h => by
    obtain ⟨e1, i1⟩ := h x xs b0 i0
    rw [List.map_cons, forL_step, e1]
    exact forL_fold f E I s (s b0 x) i1 h
theorem forL_mem {α β : Type} {a : D → Env → Option Env} {b : M Fl} (f : α → D) (E : β → Env) (s : β → α → β) : ∀ {xs : List α} (b0 : β),
    (∀ x ∈ xs, ∀ b0, fstep a b (f x) (E b0) = .ok .nx (E (s b0 x))) → forL a b (xs.map f) (E b0) = .ok .nx (E (xs.foldl s b0))
  | [], b0, _ => rfl
  | x :: xs, b0, h => by
    rw [List.map_cons, forL_step, h x (List.mem_cons_self ..) b0]
    exact forL_mem f E s (s b0 x) fun y hy => h y (List.mem_cons_of_mem _ hy)
/-- a loop with a relation between what stands ahead and behind -/
theorem forL_rel {α β : Type} {a : D → Env → Option Env} {b : M Fl} (f : α → D) (E : β → Env) (I : β → Prop) (R : β → α → β → Prop) : ∀ {xs : List α} (b0 : β), I b0 →
    (∀ x ∈ xs, ∀ b0, I b0 → ∃ b1, fstep a b (f x) (E b0) = .ok .nx (E b1) ∧ I b1 ∧ R b0 x b1) → ∃ b1, forL a b (xs.map f) (E b0) = .ok .nx (E b1) ∧ I b1
  | [], b0, i0, _ => ⟨b0, rfl, i0⟩
  | x :: xs, b0, i0, h => by
    obtain ⟨b1, e1, i1, _⟩ := h x (List.mem_cons_self ..) b0 i0
    rw [List.map_cons, forL_step, e1]
    exact forL_rel f E I R b1 i1 fun y hy => h y (List.mem_cons_of_mem _ hy)
/-- a loop with an invariant of what is left -/
theorem forL_ex {α β : Type} {a : D → Env → Option Env} {b : M Fl} (f : α → D) (E : β → Env) (I : List α → β → Prop) : ∀ {xs : List α} (b0 : β), I xs b0 →
    (∀ x xs b0, I (x :: xs) b0 → ∃ b1, fstep a b (f x) (E b0) = .ok .nx (E b1) ∧ I xs b1) → ∃ b1, forL a b (xs.map f) (E b0) = .ok .nx (E b1) ∧ I [] b1
  | [], b0, i0, _ => ⟨b0, rfl, i0⟩
  | x :: xs, b0, i0, h => by
    obtain ⟨b1, e1, i1⟩ := h x xs b0 i0
    rw [List.map_cons, forL_step, e1]
    exact forL_ex f E I b1 i1 h
/-- a loop that ends at the first thing that isn't so -/
theorem forL_all {α β : Type} {a : D → Env → Option Env} {b : M Fl} (f : α → D) (E : β → Env) (p : α → Bool) (o : α → O) (s : β → α → β) : ∀ {xs : List α} (b0 : β),
    (∀ x ∈ xs, ∀ b0, (p x = true → fstep a b (f x) (E b0) = .ok .nx (E (s b0 x))) ∧ (p x = false → ∃ ρ2, fstep a b (f x) (E b0) = .ok (.ret (o x)) ρ2)) →
    (xs.all p = true ∧ forL a b (xs.map f) (E b0) = .ok .nx (E (xs.foldl s b0))) ∨ (∃ x ∈ xs, xs.find? (fun x => !p x) = some x ∧ ∃ ρ2, forL a b (xs.map f) (E b0) = .ok (.ret (o x)) ρ2)
  | [], b0, _ => .inl ⟨rfl, rfl⟩
  | x :: xs, b0, h => by
    obtain ⟨h1, h2⟩ := h x (List.mem_cons_self ..) b0
    cases hp : p x with
    | true =>
      rw [List.map_cons, forL_step, h1 hp]
      rcases forL_all f E p o s (s b0 x) fun y hy => h y (List.mem_cons_of_mem _ hy) with ⟨q1, q2⟩ | ⟨y, hy, q1, q2⟩
      · exact .inl ⟨by rw [List.all_cons, hp, q1]; rfl, q2⟩
      · exact .inr ⟨y, List.mem_cons_of_mem _ hy, by rw [List.find?_cons, hp]; exact q1, q2⟩
    | false =>
      obtain ⟨ρ2, e2⟩ := h2 hp
      refine .inr ⟨x, List.mem_cons_self .., by rw [List.find?_cons, hp]; rfl, ρ2, ?_⟩
      rw [List.map_cons, forL_step, e2]
/-! ### dicts -/
def frK2 (a : D → Env → Option Env) (b : M Fl) : Option (List D × Env) → Res Fl
  | some p => forL a b p.1 p.2
  | none => .no
@[simp] theorem e_mForKK (i : Nat) (a : D → Env → Option Env) (b : M Fl) : mForK i a b ρ = frK2 a b (keysOf i ρ) := (rfl)
@[simp] theorem e_frK2 (a : D → Env → Option Env) (b : M Fl) (ds : List D) : frK2 a b (some (ds, ρ)) = forL a b ds ρ := (rfl)
end FB

/-! max of a list of pairs of ints. -/
namespace FB
open PySem PySem.Spec L2
open PyProof.Rows hiding St
section
variable {X : Cx} {K : PySem.W.Frag} {mg : Str → Option Value}
def pairD (p : Int × Int) : D := .tup [.int p.1, .int p.2]
def pairP (p : Int × Int) : PyData := .tuple [.int p.1, .int p.2]
def pair? : D → Option (Int × Int)
  | .tup [.int i, .int j] => some (i, j)
  | _ => none
theorem pair?_eq {d : D} {p : Int × Int} (h : pair? d = some p) : d = pairD p := by
  unfold pair? at h
  split at h
  · cases h; rfl
  · cases h
def pairs? : List D → Option (List (Int × Int))
  | [] => some []
  | d :: ds => (pair? d).bind fun p => (pairs? ds).map (p :: ·)
theorem pairs?_eq : ∀ {ds : List D} {ps : List (Int × Int)}, pairs? ds = some ps → ds = ps.map pairD
  | [], ps, h => by cases h; rfl
  | d :: ds, ps, h => by
    have h : ((pair? d).bind fun p => (pairs? ds).map (p :: ·)) = some ps := h
    cases e1 : pair? d with
    | none => rw [e1] at h; cases h
    | some p =>
      cases e2 : pairs? ds with
      | none => rw [e1, e2] at h; cases h
      | some qs =>
        rw [e1, e2] at h
        cases h
        rw [pair?_eq e1, pairs?_eq e2]; rfl
theorem pairs?_map : ∀ ps : List (Int × Int), pairs? (ps.map pairD) = some ps
  | [] => rfl
  | p :: ps => by
    show ((pair? (pairD p)).bind fun q => (pairs? (ps.map pairD)).map (q :: ·)) = _
    rw [pairs?_map ps]; rfl
def ltP (p q : Int × Int) : Bool := decide (p.1 < q.1) || (decide (p.1 = q.1) && decide (p.2 < q.2))
def maxP (p : Int × Int) (ps : List (Int × Int)) : Int × Int := ps.foldl (fun a y => if ltP a y = true then y else a) p
theorem dataLt_pair (p q : Int × Int) : PySem.W.dataLt (pairP p) (pairP q) = ltP p q := by
  unfold pairP ltP
  simp only [PySem.W.dataLt, PySem.W.keyToks, PySem.W.keyToksAll, List.nil_append, List.cons_append]
  simp only [PyProof.Rows.lexLt, PyProof.Rows.itemLt]
  by_cases h1 : p.1 < q.1
  · simp [h1]
  · by_cases h2 : q.1 < p.1
    · have : ¬ p.1 = q.1 := by omega
      simp [h1, h2, this]
    · have : p.1 = q.1 := by omega
      simp [this]
theorem maxD_pair : ∀ (ps : List (Int × Int)) (p : Int × Int), PySem.W.maxD (pairP p) (ps.map pairP) = pairP (maxP p ps)
  | [], p => rfl
  | q :: ps, p => by
    show PySem.W.maxD (if PySem.W.dataLt (pairP p) (pairP q) = true then pairP q else pairP p) (ps.map pairP) = pairP (maxP (if ltP p q = true then q else p) ps)
    rw [dataLt_pair]
    by_cases h : ltP p q = true
    · rw [if_pos h, if_pos h]; exact maxD_pair ps q
    · rw [if_neg h, if_neg h]; exact maxD_pair ps p
theorem reads_int {h : Heap} {v : Value} {a c : Int} {as bs : List Addr} (h1 : Reads h v (.int a) as) (h2 : Reads h v (.int c) bs) : a = c := by
  cases h1
  cases h2
  rfl
theorem reads_pair {h : Heap} {v : Value} {p q : Int × Int} {as bs : List Addr} (h1 : Reads h v (pairP p) as) (h2 : Reads h v (pairP q) bs) : p = q := by
  unfold pairP at h1 h2
  cases h1 with
  | tuple g1 g2 g3 g4 =>
    cases h2 with
    | tuple k1 k2 k3 k4 =>
      rw [g1] at k1
      cases k1
      rw [g3] at k3
      cases k3
      rename_i vs n
      generalize vs.toList = l at g4 k4
      cases g4 with
      | cons a1 a2 =>
        cases a2 with
        | cons a3 a4 =>
          cases k4 with
          | cons b1 b2 =>
            cases b2 with
            | cons b3 b4 =>
              have e1 := reads_int a1 b1
              have e2 := reads_int a3 b3
              cases p; cases q
              simp at e1 e2
              rw [e1, e2]
theorem alike_pairs (ps : List (Int × Int)) : PySem.W.AlikeAll (ps.map pairP) := by
  refine ⟨fun x hx y hy => ?_, fun x hx => ?_⟩
  · obtain ⟨p, _, rfl⟩ := List.mem_map.mp hx
    obtain ⟨q, _, rfl⟩ := List.mem_map.mp hy
    simp [pairP, PySem.W.alike, PySem.W.alikeAll]
  · obtain ⟨p, _, rfl⟩ := List.mem_map.mp hx
    intro z; cases z
theorem depth_pairs : ∀ ps : List (Int × Int), PyData.depthAll (ps.map pairP) ≤ 1
  | [] => by show (0 : Nat) ≤ 1; omega
  | p :: ps => by
    show max (pairP p).depth (PyData.depthAll (ps.map pairP)) ≤ 1
    have h1 : (pairP p).depth = 1 := rfl
    have := depth_pairs ps
    omega
def maxPs : List (Int × Int) → Option O
  | p :: ps => some (.val (pairD (maxP p ps)))
  | [] => none
def lstSh (a : O) : Option (List D) := match a.sh with
  | some (.lst ds) => some ds
  | _ => none
theorem lstSh_eq {a : O} {ds : List D} (h : lstSh a = some ds) : a.sh = some (.lst ds) := by
  unfold lstSh at h
  split at h
  · rename_i e; cases h; exact e
  · cases h
def maxPO (a : O) : Option O := (lstSh a).bind fun ds => (pairs? ds).bind maxPs
theorem maxP_mem : ∀ (ps : List (Int × Int)) (p : Int × Int), maxP p ps ∈ p :: ps
  | [], p => List.mem_cons_self ..
  | q :: ps, p => by
    show maxP (if ltP p q = true then q else p) ps ∈ _
    have := maxP_mem ps (if ltP p q = true then q else p)
    rcases List.mem_cons.mp this with e | h
    · rw [e]
      split
      · exact List.mem_cons_of_mem _ (List.mem_cons_self ..)
      · exact List.mem_cons_self ..
    · exact List.mem_cons_of_mem _ (List.mem_cons_of_mem _ h)
def rMaxP (K : PySem.W.Frag) (vs : List V) (H : Hp) (Q : VK) : Prop := ∃ (a : Addr) (xs : List V) (p : Int × Int) (ps : List (Int × Int)), vs = [V.ref a] ∧ SqL K H a xs ∧ (∀ (i : Nat) (x : V), xs[i]? = some x → ∃ q, (p :: ps)[i]? = some q ∧ Dp K H x (pairP q)) ∧ xs.length = (p :: ps).length ∧
  ∀ (i : Nat) (x : V), xs[i]? = some x → (p :: ps)[i]? = some (maxP p ps) → Q x H
theorem reads_all {pins : List (Addr × Obj)} {s : Shared} {σ : L2.St} {H : Hp} (I : L2.Inv X pins σ H s) : ∀ {xs : List V} {us : List Value} {ps : List (Int × Int)}, Vals xs us → xs.length = ps.length → (∀ (i : Nat) (x : V), xs[i]? = some x → ∃ q, ps[i]? = some q ∧ Dp X.K H x (pairP q)) → ∃ as, ReadsAll s.heap us (ps.map pairP) as
  | [], _, [], .nil, _, _ => ⟨[], .nil⟩
  | x :: xs, _, p :: ps, .cons h t, hl, hh => by
    obtain ⟨q, e, d⟩ := hh 0 x rfl
    cases e
    obtain ⟨as, r⟩ := Dp.reads I _ _ _ d h
    obtain ⟨bs, rs⟩ := reads_all I (xs := xs) (ps := ps) t (by simpa using hl) fun i y hy => hh (i + 1) y (by simpa using hy)
    exact ⟨as ++ bs, .cons r rs⟩
theorem vals_get : ∀ {xs : List V} {us : List Value} {i : Nat} {u : Value}, Vals xs us → us[i]? = some u → ∃ x, xs[i]? = some x ∧ RelV x u
  | _, _, i, u, .nil, h => by simp at h
  | _, _, 0, u, .cons h _, e => by simp at e; subst e; exact ⟨_, rfl, h⟩
  | _, _, i + 1, u, .cons _ t, e => by
    obtain ⟨x, h1, h2⟩ := vals_get (i := i) t (by simpa using e)
    exact ⟨x, by simpa using h1, h2⟩
theorem cr_maxP (ok : CxOk X) : CallR X (.builtin "max") (rMaxP X.K) := by
  intro pins s σ H vs us Q I r h
  obtain ⟨a, xs, p, ps, rfl, hs, hp, hlen, q⟩ := h
  obtain ⟨its, rv, hl, _⟩ := Inv.list I hs
  obtain rfl := Vals.ref1 r
  obtain ⟨as, ra⟩ := reads_all I rv hlen hp
  refine PySem.W.max_list_data (vs := its.toArray) (x := pairP p) (xs := ps.map pairP) (I.ok.hd ok.calm) (PlainL.isList hl) (as := as) (by simpa using ra) (alike_pairs (p :: ps)) ?_ ?_
  · have h1 := depth_pairs (p :: ps)
    have h1 : PyData.depthAll (pairP p :: ps.map pairP) ≤ 1 := h1
    have := ok.units
    omega
  · intro i v h' tk bs hi hr hk
    have I' := Inv.kept (t' := tk) I hk
    obtain ⟨x, hx, rx⟩ := vals_get (i := i) rv (by simpa using hi)
    obtain ⟨w, hw, dw⟩ := hp i x hx
    obtain ⟨cs, r2⟩ := Dp.reads I' _ _ _ dw rx
    rw [maxD_pair] at hr
    have e : maxP p ps = w := reads_pair hr r2
    exact ⟨x, H, I', rx, q i x hx (by rw [e]; exact hw)⟩
theorem unv_maxP : UnV K mg (fun x H Q => rMaxP K [x] H Q) maxPO := by
  intro H L B x ox o Q R hx e k
  unfold maxPO at e
  cases e1 : lstSh ox with
  | none => rw [e1] at e; cases e
  | some ds =>
    rw [e1] at e
    have e : ((pairs? ds).bind maxPs) = some o := e
    cases ep : pairs? ds with
    | none => rw [ep] at e; cases e
    | some ps =>
      rw [ep] at e
      have e : maxPs ps = some o := e
      cases ps with
      | nil => cases e
      | cons p ps =>
        cases e
        have ed := pairs?_eq ep
        subst ed
        have v := R.sh hx (lstSh_eq e1)
        obtain ⟨a, vs, rfl, hp, lp, R1⟩ := R.shL hx (lstSh_eq e1)
        cases v with
        | lst h hs =>
          rename_i ws
          have : vs = ws := by
            rcases hp with hp | ⟨o1, hp⟩ <;> rcases h with h | ⟨o2, h⟩ <;> rw [hp] at h <;> cases h <;> rfl
          subst this
          refine ⟨a, vs, p, ps, rfl, .inl hp, fun i x hi => ?_, by simpa using lp, fun i x hi he => k _ _ (Same.refl _) ?_⟩
          · obtain ⟨d, hd, vd⟩ := hs.getV hi
            rw [List.getElem?_map] at hd
            cases hq : (p :: ps)[i]? with
            | none => rw [hq] at hd; cases hd
            | some q =>
              rw [hq] at hd
              cases hd
              exact ⟨q, rfl, vd.dp 9 rfl⟩
          · have hd : ((p :: ps).map pairD)[i]? = some (pairD (maxP p ps)) := by rw [List.getElem?_map, he]; rfl
            exact R1.nth hi hd
theorem maxPO_of {p : Int × Int} {ps : List (Int × Int)} : maxPO (.val (.lst ((p :: ps).map pairD))) = some (.val (pairD (maxP p ps))) := by
  show ((pairs? ((p :: ps).map pairD)).bind maxPs) = _
  rw [pairs?_map]; rfl
end
end FB

/-! repr of a thing made of texts, ints, truths, None, in lists and tuples. -/
namespace FB
open PySem PySem.Spec L2
open PyProof.Rows hiding St
def Okc (x : Str) : Prop := ∀ c ∈ x.cps.toList, c < 1114112
theorem okc_iff (x : Str) : PyData.strOk x = true ↔ Okc x := by
  unfold PyData.strOk Okc
  rw [← Array.all_toList, List.all_eq_true]
  simp
theorem Okc.app {a b : Str} (ha : Okc a) (hb : Okc b) : Okc (a ++ b) := by
  intro c hc
  have e : (a ++ b).cps = a.cps ++ b.cps := rfl
  rw [e, Array.toList_append, List.mem_append] at hc
  exact hc.elim (ha c) (hb c)
theorem Okc.lit (s : String) : Okc (Str.ofString s) := by
  intro c hc
  rw [Str.ofString_eq_toList] at hc
  have hc : c ∈ s.toList.map Char.toNat := hc
  obtain ⟨d, _, rfl⟩ := List.mem_map.mp hc
  have := d.valid
  show d.val.toNat < 1114112
  rcases this with h | ⟨_, h⟩
  · have : d.val.toNat < 55296 := h
    omega
  · exact h
theorem Okc.join {sep : Str} (hs : Okc sep) : ∀ {ts : List Str}, (∀ t ∈ ts, Okc t) → Okc (Str.join sep ts)
  | [], _ => fun c hc => by
    have hc : c ∈ (#[] : Array Nat).toList := hc
    simp at hc
  | [t], h => h t (by simp)
  | t :: u :: ts, h => by
    show Okc (t ++ sep ++ Str.join sep (u :: ts))
    exact ((h t (by simp)).app hs).app (Okc.join hs fun z hz => h z (List.mem_cons_of_mem _ hz))
theorem digits_ok (c : Nat) : ∀ d ∈ (Nat.toDigits 16 c).map Char.toNat, d < 1114112 := by
  intro d hd
  obtain ⟨e, _, rfl⟩ := List.mem_map.mp hd
  have := e.valid
  show e.val.toNat < 1114112
  rcases this with h | ⟨_, h⟩
  · have : e.val.toNat < 55296 := h
    omega
  · exact h
theorem reprChar_ok {q c : Nat} (hq : q < 1114112) (hc : c < 1114112) : ∀ d ∈ Builtin.Str.reprChar q c, d < 1114112 := by
  have hx : ∀ n, ∀ d ∈ List.replicate (n - ((Nat.toDigits 16 c).map Char.toNat).length) 48 ++ (Nat.toDigits 16 c).map Char.toNat, d < 1114112 := by
    intro n d hd
    rcases List.mem_append.mp hd with h | h
    · have := (List.mem_replicate.mp h).2; omega
    · exact digits_ok c d h
  intro d hd
  unfold Builtin.Str.reprChar at hd
  dsimp only at hd
  split at hd
  · simp at hd; omega
  · split at hd
    · simp at hd; omega
    · split at hd
      · simp at hd; omega
      · split at hd
        · simp at hd; omega
        · split at hd
          · simp at hd; omega
          · split at hd
            · rcases List.mem_append.mp hd with h | h
              · simp at h; omega
              · exact hx 2 d h
            · split at hd
              · rcases List.mem_append.mp hd with h | h
                · simp at h; omega
                · exact hx 4 d h
              · rcases List.mem_append.mp hd with h | h
                · simp at h; omega
                · exact hx 8 d h
theorem Okc.repr {x : Str} (h : Okc x) : Okc (reprText x) := by
  have hq : reprQuote x < 1114112 := by unfold reprQuote; split <;> omega
  have key : ∀ (l : List Nat) (acc : Array Nat), (∀ c ∈ l, c < 1114112) → (∀ c ∈ acc.toList, c < 1114112) → ∀ c ∈ (l.foldl (fun out c => out ++ (Builtin.Str.reprChar (reprQuote x) c).toArray) acc).toList, c < 1114112 := by
    intro l
    induction l with
    | nil => intro acc _ h2; exact h2
    | cons a l ih =>
      intro acc h1 h2
      rw [List.foldl_cons]
      refine ih _ (fun c hc => h1 c (List.mem_cons_of_mem _ hc)) fun c hc => ?_
      rw [Array.toList_append, List.mem_append] at hc
      exact hc.elim (h2 c) fun z => reprChar_ok hq (h1 a (List.mem_cons_self ..)) c (by simpa using z)
  intro c hc
  unfold reprText at hc
  rw [Array.toList_push, List.mem_append] at hc
  rcases hc with hc | hc
  · rw [← Array.foldl_toList] at hc
    exact key _ _ h (fun d hd => by simp at hd; omega) c hc
  · simp at hc; omega
mutual
theorem shown_okc : ∀ d : PyData, d.canLay0 = true → d.hasDict = false → Okc d.shown
  | .none, _, _ => Okc.lit "None"
  | .bool b, _, _ => by cases b <;> exact Okc.lit _
  | .int i, _, _ => Okc.lit (toString i)
  | .str x, h, _ => by
    have h : PyData.strOk x = true := by simpa [PyData.canLay0] using h
    rw [PyData.shown_str]
    exact ((okc_iff x).mp h).repr
  | .list xs, h, g => by
    rw [PyData.shown_list]
    exact ((Okc.lit _).app ((Okc.lit _).join (shownAll_okc xs (by simpa [PyData.canLay0] using h) (by simpa [PyData.hasDict] using g)))).app (Okc.lit _)
  | .tuple xs, h, g => by
    rw [PyData.shown_tuple]
    exact ((Okc.lit _).app ((Okc.lit _).join (shownAll_okc xs (by simpa [PyData.canLay0] using h) (by simpa [PyData.hasDict] using g)))).app (Okc.lit _)
  | .dict kvs, _, g => by simp [PyData.hasDict] at g
theorem shownAll_okc : ∀ xs : List PyData, PyData.canLayAll0 xs = true → PyData.hasDictAll xs = false → ∀ t ∈ PyData.shownAll xs, Okc t
  | [], _, _, t, ht => by simp [PyData.shownAll] at ht
  | x :: xs, h, g, t, ht => by
    rw [PyData.shownAll_cons] at ht
    have h : x.canLay0 = true ∧ PyData.canLayAll0 xs = true := by simpa [PyData.canLayAll0] using h
    have g : x.hasDict = false ∧ PyData.hasDictAll xs = false := by simpa [PyData.hasDictAll] using g
    rcases List.mem_cons.mp ht with rfl | ht
    · exact shown_okc x h.1 g.1
    · exact shownAll_okc xs h.2 g.2 t ht
end
section
variable {X : Cx} {K : PySem.W.Frag} {mg : Str → Option Value}
/-- a thing that repr tells -/
def repB (d : D) : Bool := d.okE 9 && (d.pd.showable && (!d.pd.hasDict && decide (d.pd.shown.length ≤ sizeLine)))
def repK : D → Bool
  | .non => true
  | .lst _ => true
  | .tup _ => true
  | _ => false
def reprO (a : O) : Option O := if (repK a.toD && repB a.toD) = true then some (.val (.str a.toD.pd.shown)) else none
def rRepr (K : PySem.W.Frag) (vs : List V) (H : Hp) (Q : VK) : Prop := ∃ (v : V) (d : PyData), vs = [v] ∧ Dp K H v d ∧ (d = .none ∨ (∃ xs, d = .list xs) ∨ ∃ xs, d = .tuple xs) ∧ d.showable = true ∧ d.hasDict = false ∧ d.shown.length ≤ sizeLine ∧ d.depth ≤ 9 ∧ Q (.str d.shown) H
theorem cr_repr (ok : CxOk X) (hg : X.A.guards = some []) : CallR X (.builtin "repr") (rRepr X.K) := by
  intro pins s σ H vs us Q I r h
  obtain ⟨v, d, rfl, hd, hk, hs, hn, hz, hdep, q⟩ := h
  obtain ⟨u, rfl, rv⟩ : ∃ u, us = [u] ∧ RelV v u := by
    cases r with
    | cons a b => cases b; exact ⟨_, rfl, a⟩
  obtain ⟨as, rd⟩ := Dp.reads I _ _ _ hd rv
  have un := ok.units
  rcases hk with rfl | hk
  · cases rd
    refine P.repr_of_none ?_
    exact ⟨.str _, H, Inv.kept (t' := s.toks + 1) I (fun _ _ e => e), ⟨_, rfl⟩, by simpa [PyData.shown] using q⟩
  · have hu : ∃ a, u = .ref a := by
      rcases hk with ⟨xs, rfl⟩ | ⟨xs, rfl⟩
      · cases rd; exact ⟨_, rfl⟩
      · cases rd; exact ⟨_, rfl⟩
    obtain ⟨a, rfl⟩ := hu
    refine repr_of_reads' rd hs (fun z => by rw [hn] at z; cases z) hg (by omega) (fun _ _ e => e) (fun h' u tk hk => ?_) hz
    exact ⟨.str _, H, Inv.kept (t' := tk) I hk, ⟨_, rfl⟩, q⟩
theorem unv_repr : UnV K mg (fun x H Q => rRepr K [x] H Q) reprO := by
  intro H L B x ox o Q R hx e k
  unfold reprO at e
  split at e
  · rename_i h
    cases e
    simp only [Bool.and_eq_true] at h
    obtain ⟨h1, h2⟩ := h
    unfold repB at h2
    simp only [Bool.and_eq_true, Bool.not_eq_true', decide_eq_true_eq] at h2
    obtain ⟨a1, a2, a3, a4⟩ := h2
    have vw := R.view hx
    have lay := vw.lay 9 a1
    refine ⟨x, ox.toD.pd, rfl, vw.dp 9 a1, ?_, a2, a3, a4, lay.2, k _ _ (Same.refl _) (R.scalB fun G => .str _ ((okc_iff _).mpr (shown_okc _ lay.1 a3)))⟩
    generalize ox.toD = d at *
    cases d <;> first | (exact .inl (by rfl)) | (cases h1; done) | skip
    · exact .inr (.inr ⟨_, by unfold D.pd; rfl⟩)
    · exact .inr (.inl ⟨_, by unfold D.pd; rfl⟩)
  · cases e
theorem e_reprO {a : O} {d : D} (ha : a.toD = d) (hk : repK d = true) (h : repB d = true) : reprO a = some (.val (.str d.pd.shown)) := by
  subst ha
  unfold reprO
  rw [hk, h]; rfl
end
end FB

/-! The law's own def, looked at where the law is asked alone: there no text is being made. -/
namespace FB
open PySem PySem.Spec L2
open PyProof.Rows hiding St
section
variable {P : Program} {w : World} {K : PySem.W.Frag} {mg : Str → Option Value} {base : Heap}
/-- what a def does when the law is asked -/
def AtTop (P : Program) (w : World) (K : PySem.W.Frag) (mg : Str → Option Value) (base : Heap) (g : Addr) (fd : FuncData) (x : Str) (sp : Sp) : Prop :=
  ∀ (s : Shared) (G : Hp) (u : Value) (v : V) (Q : VK) (E : XK), Env0 P w K mg base callerA [] s G → BindsTo s fd ⟨[u], []⟩ [(x, u)] → RelV v u → sp [v] G Q E →
    codeAny (model P w) callerA (.call (.ref g) ⟨[u], []⟩) (CR C8.CX0 [] P w G s Q E) s
theorem at_top {z : Str} {st : Stmt} {g : Addr} {fd : FuncData} {N : List Str} {x : Str} {k m : Nat} {Pr : List Nat} {b : M Fl} (F : C8.Fun K z z st g fd) (S : FnScope N [x] (C8.fnScope st)) (hm : N.length = m) (h1 : 1 ≤ m) (hr : Room (k + 1) callerA)
    (hb : ∀ (cdv : Value) (s : Shared) (G : Hp) (E : XK), Room k (callerA.deeper (envOfC z (C8.fnScope st) s.heap.objs.size g cdv)) → (callerA.deeper (envOfC z (C8.fnScope st) s.heap.objs.size g cdv)).guards = some [] → SSs (cxOf C8.CX0 P w K mg base N z (C8.fnScope st) g cdv callerA [] s G E).nox Pr (C8.fnBody st) b) :
    AtTop P w K mg base g fd x (spF K mg 1 (runF 1 m Pr b)) := by
  intro s G u v Q E e0 hb1 hv hsp
  obtain ⟨c1, c2, c3, c4, c5, c6, c7, cdv, c8, c9, rfl, look, hcode⟩ := F.ex
  have KI : K.In s.heap := e0.mod.kin.keeps (fun a o q => (e0.bs a o q).1)
  have nl : s.heap.NoLimit := e0.mod.nolimit.keeps (fun a o q => (e0.bs a o q).1)
  have loc : ∀ y ∈ [(x, u)], (C8.fnScope st).names.lookup y.1 = some .local ∨ ((C8.fnScope st).names.lookup y.1 = some .cell ∧ ((cellsFrom (s.heap.objs.size + 1) (C8.fnScope st).names []).lookup y.1).isSome = true) := by
    intro y hy
    rw [List.mem_singleton.mp hy]
    exact (S.par x (by simp)).elim .inl fun q => .inr ⟨q, PySem.W.cellsFrom_some _ _ _ (.inl q)⟩
  apply codeAny_call_function hr.depth (KI g _ look) rfl S.co S.gen rfl (PySem.W.codeRec_of KI hcode)
  refine hb1 _ _ _ _ (wpAny_newFunctionEnv_cells S.kind loc fun env he t it => ?_)
  subst he
  refine ⟨nl.keeps it.toInCall.keep, codeAny_func ?_⟩
  have sem := hb cdv s G E (hr.deeper _) rfl
  obtain ⟨t0, ht, hq⟩ := body_sem (X := (cxOf C8.CX0 P w K mg base N z (C8.fnScope st) g cdv callerA [] s G E).nox) (E := E) hm h1 sem hsp
  have J0 := inv_start (CX := C8.CX0) (E := E) S hr.hd e0 (us := [u]) (vs := [v]) rfl (.cons hv .nil) it
  refine wpAny_mono (ht.nox.run [] t (L2.start N [v]) G _ J0 hq) (fun fl t' h => ?_) fun _ _ h => h
  cases fl with
  | ret y => obtain ⟨y', σ1, G1, J, r, q⟩ := h; exact ⟨y', G1, J.os, J.bare, J.base, J.hok, r, q⟩
  | next => obtain ⟨σ1, G1, J, q⟩ := h; exact ⟨V.non, G1, J.os, J.bare, J.base, J.hok, rfl, q⟩
  | brk => obtain ⟨_, _, _, q⟩ := h; exact q.elim
  | cont => obtain ⟨_, _, _, q⟩ := h; exact q.elim

/-- the script's list, shown: locked, or one of the module's own -/
def scrH (K : PySem.W.Frag) (a : Addr) (ob : Obj) (ns : List Int) : Hp := fun c => if K.lookup a = none ∧ c = a then some (.frz ob (.lst (ns.map V.int))) else none
theorem scrH_out {a c : Addr} {ob : Obj} {ns : List Int} (h : c ≠ a) : scrH K a ob ns c = none := if_neg fun z => h z.2
theorem scrH_own {a c : Addr} {ob : Obj} {ns : List Int} (h : K.lookup a ≠ none) : scrH K a ob ns c = none := if_neg fun z => h z.1
theorem scrH_some {a c : Addr} {ob : Obj} {ns : List Int} {u : HO} (h : scrH K a ob ns c = some u) : K.lookup a = none ∧ c = a ∧ u = .frz ob (.lst (ns.map V.int)) := by
  unfold scrH at h
  split at h
  · rename_i z; cases h; exact ⟨z.1, z.2, rfl⟩
  · cases h
theorem at_law {mb : Str → Option Value} {k : Nat} {fa a : Addr} {fd : FuncData} {x : Str} {sp : Sp} {s : Shared} {vs : List Value} {ns : List Int}
    (KI : K.In s.heap) (n1 : s.heap.Ns mainGlobals mg) (n2 : s.heap.Ns builtinsNs mb) (n3 : ∀ y : Str, y ≠ "__name__" → mb y = bootBuiltins y) (nl : s.heap.NoLimit) (ng : s.gens = #[])
    (ga : s.heap.get? a = some { cls := .type "list", data := .seq vs.toArray }) (hi : IntsAre vs ns) (hz : ns.length ≤ sizeLine)
    (F : ∀ base : Heap, K.In base → base.Ns mainGlobals mg → AtTop P w K mg base fa fd x sp) (hb : ∀ (t : Shared) (u : Value), BindsTo t fd ⟨[u], []⟩ [(x, u)])
    (hsp : ∀ G : Hp, SqL K G a (ns.map V.int) → sp [.ref a] G (fun v _ => v = .bl true) fun _ _ _ => False) :
    codeAny (model P w) callerA (.call (.ref fa) ⟨[.ref a], []⟩) (fun r t => r = .ok (.ret (.bool true)) ∧ OldK s.heap t.heap ∧ t.os = s.os ∧ AllBare t.gens) s := by
  have rv := vals_ints hi
  have hlen : (ns.map V.int).length = vs.length := by rw [List.length_map]; exact hi.length.symm
  let ob : Obj := { cls := .type "list", data := .seq vs.toArray }
  let G := scrH K a ob ns
  have okG : HOk P w G s.heap := fun c u z => by
    obtain ⟨_, rfl, rfl⟩ := scrH_some z
    exact ⟨ga, by rw [List.length_map]; exact hz, vs, _, rv, ga⟩
  have gsq : SqL K G a (ns.map V.int) := by
    cases e : K.lookup a with
    | none => exact .inl (.inr ⟨ob, if_pos ⟨e, rfl⟩⟩)
    | some o =>
      have q := KI a o e
      rw [ga] at q
      cases q
      exact .inr ⟨_, vs.toArray, _, e, rfl, rfl, rfl, by rw [List.size_toArray, ← hlen, List.length_map]; exact hz, by simpa using rv⟩
  have away : ∀ {c : Addr} {o : Obj}, s.heap.get? c = some o → (∀ ys n, o.data ≠ .seq ys n) → G c = none := fun {c o} e d => by
    cases q : G c with
    | none => rfl
    | some u =>
      obtain ⟨_, rfl, _⟩ := scrH_some q
      rw [ga] at e
      cases e
      exact absurd rfl (d _ _)
  have keepNs : ∀ {c : Addr} {m : Str → Option Value}, s.heap.Ns c m → (hidT s.heap G).Ns c m := fun {c m} ⟨o, es, ep, e, d, r⟩ =>
    ⟨o, es, ep, hidT_get e (away e fun ys n z => by rw [d] at z; cases z), d, r⟩
  have KB : K.In (hidT s.heap G) := fun c o e => by
    refine hidT_get (KI c o e) ?_
    cases q : G c with
    | none => rfl
    | some u =>
      obtain ⟨h1, rfl, _⟩ := scrH_some q
      rw [h1] at e; cases e
  obtain ⟨mc, l1, l2⟩ := nl
  have e0 : Env0 P w K mg (hidT s.heap G) callerA [] s G :=
    ⟨rfl, ⟨KB, keepNs n1, ⟨mb, keepNs n2, n3⟩, mc, keepNs l1, l2⟩, fun c o e => of_hidT e, Nat.le_of_eq (hidT_size _ _), trivial, fun c hc => absurd (show c ∈ ([] : List Addr) from hc) (by simp), okG, .of_eq ng⟩
  refine codeAny_mono (F _ KB (keepNs n1) s G (.ref a) (.ref a) _ _ e0 (hb s _) rfl (hsp G gsq)) fun r t h => ?_
  match r, h with
  | .error _, h => exact False.elim h
  | .ok .next, h => exact False.elim h
  | .ok .brk, h => exact False.elim h
  | .ok .cont, h => exact False.elim h
  | .ok (.ret u), h =>
    obtain ⟨v, G', o1, o2, un, okG', r1, rfl⟩ := h
    have r1 : u = Value.bool true := r1
    subst r1
    refine ⟨rfl, OldK.of_keep fun c o e => ?_, o1, o2⟩
    cases q : G c with
    | none => exact un.keep c o e q (by simp [frs]) (by simp)
    | some y =>
      obtain ⟨_, rfl, rfl⟩ := scrH_some q
      have q2 := (okG' c _ (un.frzs c ob _ q)).1
      rw [ga] at e
      cases e
      exact q2
theorem walk_at {l : PySem.W.OpenLaw} {n : Nat} {q : Program} {loose : List Str} {XP : (Str → Option Value) → Heap → Prop} {YP : World → Heap → Prop} {d : DefRec} {x : Str} (hn : l.most = some n) (hz : n ≤ sizeLine) (hd : d.params.defaults = [])
    (F : ∀ (w : World) (mg : Str → Option Value) (fa : Addr) (h : Heap), YP w h → h.Ns mainGlobals mg → mg d.name = some (.ref fa) → ∃ (K : PySem.W.Frag) (fd : FuncData) (sp : Sp), K.In h ∧ (∀ (t : Shared) (u : Value), BindsTo t fd ⟨[u], []⟩ [(x, u)]) ∧
      (∀ (G : Hp) (a : Addr) (ns : List Int), ns.length ≤ n → SqL K G a (ns.map V.int) → sp [.ref a] G (fun v _ => v = .bl true) fun _ _ _ => False) ∧ ∀ base : Heap, K.In base → base.Ns mainGlobals mg → AtTop l.prog w K mg base fa fd x sp) :
    PySem.W.WalkO q loose XP YP l.row.toRowW d [] (fun f vs => PySem.call f vs) := by
  refine Att.attach_call hn hd ?_
  intro w s0 s mg mb fa o pm cd doc a vs ns G Y _ _ _ hm ga hi hl hg
  obtain ⟨K, fd, sp, KI, hb, hsp, hF⟩ := F w mg fa s.heap Y G.T.g hm
  exact at_law (k := 0) KI G.T.g G.T.b G.T.builtins G.T.nolimit hg ga hi (Nat.le_trans hl hz) hF hb fun H hS => hsp H a ns hl hS
end
end FB

/-! name.clear() of an own list. -/
namespace FB
open PySem PySem.Spec L2
open PyProof.Rows hiding St
section
variable {X : Cx} {K : PySem.W.Frag} {mg : Str → Option Value}
def mClear (i : Nat) : M O := fun ρ => match ρ[i]? with
  | some (some (.lst _)) => .ok (.val .non) (ρ.set i (some (.lst [])))
  | _ => .no
theorem se_clear (i : Nat) {x : Str} {p apos cpos : Pos} (hN : X.N[i]? = some x := by rfl) (hv : Vis X.env.scope x := by first | exact Or.inl rfl | exact Or.inr (Or.inl rfl) | exact Or.inr (Or.inr rfl)) (hd : (x == ("__debug__" : Str)) = false := by decide)
    (hcd : (x == ("__classdict__" : Str)) = false := by decide) (hbase : attributeBase (.Name x p) "clear" X.env (eval (.Name x p) X.env) = eval (.Name x p) X.env := by rfl) (hline : (apos.endLine == cpos.line) = true := by rfl) :
    SE X (.Call (.Attribute (.Name x p) "clear" apos) [] [] cpos) (mClear i) :=
  PE.imp (pe_bm0 PySem.F.plainAttrs_list PySem.F.slot_list_clear PySem.F.type_list_clear mt_clear (pv i hN hv hd hcd) hbase hline) fun σ H Q w => by
    obtain ⟨ρ, T, o, ρ', c, R, e0, k⟩ := w
    unfold mClear at e0
    split at e0
    · rename_i os e1
      cases e0
      obtain ⟨v, hv⟩ := c.ex i _ e1
      have R0 : Rep X.K X.mg H ([] ++ (pairs σ ρ ++ T)) [] := R
      obtain ⟨q, vs, ev, hl, R1⟩ := (Rep.slot hv e1 R0).openL
      subst ev
      have hq := R1.rawAt
      refine ⟨_, hv, .inl ⟨rfl, _, SqL.of hq⟩, q, vs, rfl, rfl, hq, ?_⟩
      have R2 := R1.write (o' := .lst [])
      have R3 : Rep X.K X.mg (upd H q (.lst [])) (.ov (.ref q) (.lst []) :: (pairs σ (ρ.set i none) ++ T)) [] := by
        refine Rep.closeL (vs := []) ?_ rfl
        refine (Rep.drops (M := zipI vs os) (R2.perm ?_))
        exact List.perm_middle.symm
      have R4 : Rep X.K X.mg _ ([] ++ (pairs σ (ρ.set i (some (.lst []))) ++ T)) [] := Rep.unslot hv e1 R3
      exact k .non _ (c.put hv _) (R4.scal fun _ => .non)
    · cases e0
def clK (i : Nat) (ρ : Env) : Option (Option O) → Res O
  | some (some (.lst _)) => .ok (.val .non) (ρ.set i (some (.lst [])))
  | _ => .no
@[simp] theorem e_mClear {ρ : Env} (i : Nat) : mClear i ρ = clK i ρ (ρ[i]?) := (rfl)
@[simp] theorem e_clK {ρ : Env} (i : Nat) (os : List O) : clK i ρ (some (some (.lst os))) = .ok (.val .non) (ρ.set i (some (.lst []))) := (rfl)
@[simp] theorem e_clKv {ρ : Env} (i : Nat) (ds : List D) : clK i ρ (some (some (vO ds))) = .ok (.val .non) (ρ.set i (some (.lst []))) := (rfl)
end
end FB

/-! try: ..; except Y: .. -/
namespace FB
open PySem PySem.Spec L2
open PyProof.Rows hiding St
section
variable {X : Cx} {K : PySem.W.Frag} {mg : Str → Option Value} {P : List Nat} {W : WX}
theorem ss_setPn (i : Nat) {x : Str} {e : Expr} {pos pos' : Pos} {m : M O} (nd : X.N.Nodup) (hi : X.N[i]? = some x) (hx : Loc X.env.scope x) (h : SE X e m) (hP : i ∉ P := by decide) (hs : swapsWith e (some (.Name x pos')) pos.line X.env = pure false := by rfl) (hf : X.fn x = true ∨ X.env.scope.names.lookup x = some .local := by first | exact .inl rfl | exact .inr rfl | assumption) :
    SS X P (.Assign [.Name x pos'] e pos) (mSetP i m) := PS.imp (ps_set nd hi hx h hs hf) fun D σ H w => by
  obtain ⟨ρ, T, c, R, h⟩ := tS_iff.mp w
  unfold mSetP at h
  cases e1 : m ρ with
  | ok o ρ1 =>
    rw [e1] at h
    exact ⟨ρ, T, o, ρ1, c, R, e1, fun v H' c' R' => h _ H' (Fix.set hP) (c'.set i v _) (Rep.store c' R'.frz)⟩
  | exc x ρ1 => rw [e1] at h; exact h.elim
  | no => rw [e1] at h; exact h.elim
def t1K (s : M Fl) (x : Exn) (ρ1 : Env) : Option Bool → Res Fl
  | some true => match s ρ1 with
    | .ok f ρ2 => .ok f ρ2
    | _ => .no
  | some false => .exc x ρ1
  | none => .no
def t1R (es : List Str) (y : Str) (s : M Fl) : Res Fl → Res Fl
  | .exc x ρ1 => t1K s x ρ1 (subX es x.c y)
  | .ok f ρ1 => .ok f ρ1
  | .no => .no
/-- try: b, except y: s -/
def mTry1 (es : List Str) (y : Str) (b : M Fl) (s : M Fl) : M Fl := fun ρ => t1R es y s (b ρ)
theorem ssX_try1 {y : Str} {body suite : List Stmt} {b₀ : Stmt} {np pos pos' : Pos} {b s : M Fl} {es : List Str} (E : ExAll X.K X.mg es) (hs : X.stack = X.env :: X.outer) (hf : X.env.frame = some X.env.locals) (hg : Gl X y) (tk : Takes X W)
    (hb : ∀ (W : WX) (pn : List (Addr × Obj)) (xe : Value → Shared → Prop), Takes (X.tr pn xe) W → PassesOwn (model X.prog X.w) X.A X.env xe → SSsX (X.tr pn xe) P W body b)
    (hsu : ∀ (a : Addr) (pn : List (Addr × Obj)), SSs (X.suite a pn) P (b₀ :: suite) s)
    (hy : y ∈ es := by decide) (hdy : (y == ("__debug__" : Str)) = false := by decide) :
    SSX X P W (.Try body [.ExceptHandler (some (.Name y np)) none (b₀ :: suite) pos'] [] [] pos) (mTry1 es y b s) := by
  have T0 := ps_try_only (X := X) (x := y) (c := .ref (He.ga X.K y)) (body := body) (b₀ := b₀) (suite := suite) (np := np) (pos := pos) (pos' := pos') (tb := fun W => tSX X.K X.mg P W b)
    (ts := fun a cls d => tS X.K X.mg P s) (Wout := W) hs hf ⟨hg, hdy, .inl (E.gl y hy)⟩ tk hb fun a oe cls d pn hz hfl => hsu a ((a, oe) :: pn)
  refine PS.imp T0 fun D σ H w => ?_
  obtain ⟨ρ, T, c, R, h⟩ := w
  refine ⟨ρ, T, c, R, ?_⟩
  unfold mTry1 at h
  cases e1 : b ρ with
  | no => rw [e1] at h; exact h.elim
  | ok f ρ1 => rw [e1] at h; exact h
  | exc x ρ1 =>
    rw [e1] at h
    intro cls d I σ' H' f' c' hm hI R'
    have h : PostX X.K X.mg P T W D σ (t1K s x ρ1 (subX es x.c y)) := h
    have sub : ∀ bb, subX es x.c y = some bb → PySem.W.exmOne X.K cls (.ref (He.ga X.K y)) = some bb := fun bb e => by
      unfold subX at e
      split at e
      · rename_i hx
        cases e
        have e2 := E.gl x.c hx.1
        rw [hm] at e2
        injection e2 with e2
        rw [e2]
        exact E.em x.c hx.1 y hx.2
      · cases e
    cases e2 : subX es x.c y with
    | none => rw [e2] at h; exact h.elim
    | some bb =>
      rw [e2] at h
      refine ⟨bb, sub bb e2, fun hbb a ha => ?_, fun hbb => ?_⟩
      · subst hbb
        cases e3 : s ρ1 with
        | no =>
          have h : PostX X.K X.mg P T W D σ (match s ρ1 with | .ok f ρ2 => .ok f ρ2 | _ => .no) := h
          rw [e3] at h; exact h.elim
        | exc x2 ρ2 =>
          have h : PostX X.K X.mg P T W D σ (match s ρ1 with | .ok f ρ2 => .ok f ρ2 | _ => .no) := h
          rw [e3] at h; exact h.elim
        | ok fl ρ2 =>
          have h : PostX X.K X.mg P T W D σ (match s ρ1 with | .ok f ρ2 => .ok f ρ2 | _ => .no) := h
          rw [e3] at h
          have h : Post X.K X.mg P T D σ (.ok fl ρ2) := h
          refine tS_iff.mpr ⟨ρ1, T, c', R'.drops, ?_⟩
          rw [e3]
          cases fl with
          | nx => exact fun σ2 H2 g c2 R2 => h _ H2 (f'.trans g) c2 R2
          | brk => exact fun σ2 H2 g c2 R2 => h _ H2 (f'.trans g) c2 R2
          | ct => exact fun σ2 H2 g c2 R2 => h _ H2 (f'.trans g) c2 R2
          | ret o => exact fun v σ2 H2 g c2 R2 => h v _ H2 (f'.trans g) c2 R2
      · subst hbb
        exact h cls d I σ' H' f' c' hm hI R'
@[simp] theorem e_mTry1 {ρ : Env} (es : List Str) (y : Str) (b s : M Fl) : mTry1 es y b s ρ = t1R es y s (b ρ) := (rfl)
@[simp] theorem e_t1Ro {ρ : Env} (es : List Str) (y : Str) (s : M Fl) (f : Fl) : t1R es y s (.ok f ρ) = .ok f ρ := (rfl)
@[simp] theorem e_t1Rx {ρ : Env} (es : List Str) (y : Str) (s : M Fl) (x : Exn) : t1R es y s (.exc x ρ) = t1K s x ρ (subX es x.c y) := (rfl)
end
end FB

namespace Wk
open PySem PySem.Spec L2 FB
open PyProof.Rows hiding St
def top (i : Nat) : Stmt := PySem.Challenge.pw_fuseboard_k20_rest_awake_held.main.body.getD i (.Pass ⟨0, 0, 0, 0⟩)
abbrev es : List Str := ["BoardError", "NoPlace"]
structure Fr (K : PySem.W.Frag) (mg : Str → Option Value) : Prop where
  n_ : True
  ex : ExAll K mg es
  xx_NoPlace : PySem.W.excIn K (He.ga K "NoPlace") He.veBase "ValueError.__new__" = true ∧ PySem.W.keepIn K (.ref (He.ga K "NoPlace")) = true ∧ PySem.W.subIn K (.ref (He.ga K "NoPlace")) (.type "BaseException") = some true ∧ PySem.W.typeIn K (.ref (He.ga K "NoPlace")) = some (.type "type")
  n_any : mg "any" = none
  n_bool : mg "bool" = none
  n_dict : mg "dict" = none
  n_int : mg "int" = none
  n_isinstance : mg "isinstance" = none
  n_len : mg "len" = none
  n_list : mg "list" = none
  n_max : mg "max" = none
  n_range : mg "range" = none
  n_tuple : mg "tuple" = none
abbrev s__law_stream : Stmt := top 18
noncomputable def b__law_stream : M Fl := mRet (mLst (mCons (mP (p1 listO (pSl (pVar 0) pNone (pInt (pC (.int 63)))))) (mCons (mP (pC (.int 0))) (mCons (mP (pC (.int 20011))) (mNil)))))
abbrev E__law_stream (v_script : Option O := none) : FB.Env := [v_script]
noncomputable def F__law_stream : FSem := runF 1 1 [] b__law_stream
theorem sc__law_stream : FnScope ["_law_script"] ["_law_script"] (C8.fnScope s__law_stream) := C8.fnScope_by (by decide +kernel)
abbrev s__law_take : Stmt := top 19
noncomputable def t1__law_take : M Bool := mAnd (mB (mP (p2 (eqO) (p2 ixO (pVar 0) (pC (.int 1))) (pC (.int 0))))) (mB (mP (p2 (neO) (p2 ixO (pVar 0) (pC (.int 0))) (pLst (pNil)))))
noncomputable def b1__law_take : M Fl := mSeq (mSetP 2 (mP (p2 ixO (p2 ixO (pVar 0) (pC (.int 0))) (pC (.int 0))))) (mSeq (mSetIt 0 (mP (pC (.int 0))) (mP (pSl (p2 ixO (pVar 0) (pC (.int 0))) (pInt (pC (.int 1))) pNone))) (mSeq (mSetIt 0 (mP (pC (.int 2))) (mP (p2 (lift2 modD) (p2 (lift2 addD) (p2 (lift2 mulD) (p2 ixO (pVar 0) (pC (.int 2))) (pC (.int 1000003))) (pVar 2)) (pC (.int 2305843009213693951))))) (mIf (mB (mP (p2 (lift2 geD) (pVar 2) (p2 (lift2 powD) (pC (.int 10)) (pC (.int 18)))))) (mSetIt 0 (mP (pC (.int 1))) (mP (pVar 2))) (mSkip))))
noncomputable def b__law_take : M Fl := mSeq (mWhile (fun _ => fuel) t1__law_take b1__law_take) (mSeq (mIf (mB (mP (p2 (lift2 gtD) (p2 ixO (pVar 0) (pC (.int 1))) (pC (.int 0))))) (mSeq (mSetP 3 (mP (p2 (lift2 modD) (p2 ixO (pVar 0) (pC (.int 1))) (pVar 1)))) (mSeq (mSetIt 0 (mP (pC (.int 1))) (mP (p2 (lift2 fdivD) (p2 ixO (pVar 0) (pC (.int 1))) (pVar 1)))) (mRet (mP (pVar 3))))) (mSkip)) (mSeq (mSetIt 0 (mP (pC (.int 2))) (mP (p2 (lift2 modD) (p2 (lift2 addD) (p2 (lift2 mulD) (p2 ixO (pVar 0) (pC (.int 2))) (pC (.int 636413622384679300))) (pC (.int 1442695040888963407))) (pC (.int 2305843009213693951))))) (mRet (mP (p2 (lift2 modD) (p2 (lift2 fdivD) (p2 (lift2 addD) (p2 (lift2 modD) (p2 (lift2 mulD) (p2 (lift2 fdivD) (p2 ixO (pVar 0) (pC (.int 2))) (pC (.int 1048576))) (pC (.int 48271))) (pC (.int 2147483647))) (p2 (lift2 modD) (p2 ixO (pVar 0) (pC (.int 2))) (pC (.int 2147483629)))) (pC (.int 3))) (pVar 1))))))
abbrev E__law_take (v_stream_here v_many v_cell v_found : Option O := none) : FB.Env := [v_stream_here, v_many, v_cell, v_found]
noncomputable def F__law_take : FSem := runF 2 4 [0] b__law_take
theorem sc__law_take : FnScope ["_law_stream_here", "_law_many", "_law_cell", "_law_found"] ["_law_stream_here", "_law_many"] (C8.fnScope s__law_take) := C8.fnScope_by (by decide +kernel)
abbrev s__law_names : Stmt := top 21
noncomputable def q1__law_names : M O := mComp (mR1 (mP (pVar 3))) (own2 [("_law_k", 8)]) (aN 8) (mTrue) (m2 ixO (mP (pVar 2)) (mCall F__law_take [.io 0, .v (mP (pC (.int 26)))]))
noncomputable def q2__law_names : M O := mComp (mR1 (mP (pVar 1))) (own2 [("_law_k", 8)]) (aN 8) (mTrue) (mP (p2 ixO (pVar 7) (p2 (lift2 modD) (p2 (lift2 addD) (pVar 6) (p2 (lift2 mulD) (pC (.int 5)) (pVar 8))) (pC (.int 26)))))
noncomputable def q3__law_names : M O := mComp (mR1 (mP (pVar 1))) (own2 [("_law_k", 8)]) (aN 8) (mTrue) (mP (p2 (lift2 addD) (p2 (lift2 addD) (pSl (pVar 4) pNone (pInt (pVar 5))) (p2 ixO (pVar 2) (p2 (lift2 modD) (p2 (lift2 addD) (pVar 6) (pVar 8)) (pC (.int 26))))) (pSl (pVar 4) (pInt (p2 (lift2 addD) (pVar 5) (pC (.int 1)))) pNone)))
noncomputable def b__law_names : M Fl := mSeq (mSetP 2 (mP (pC (.str "abcdefghijklmnopqrstuvwxyz")))) (mSeq (mSetP 3 (m2 (lift2 addD) (mP (pC (.int 1))) (mCall F__law_take [.io 0, .v (mP (pC (.int 8)))]))) (mSeq (mSetP 4 (mJoin "" (q1__law_names))) (mSeq (mSetP 5 (mCall F__law_take [.io 0, .v (mP (pVar 3))])) (mSeq (mSetP 6 (mCall F__law_take [.io 0, .v (mP (pC (.int 26)))])) (mSeq (mSetP 7 (mLst (mCons (mP (pC (.str "guard"))) (mCons (mP (pC (.str "load"))) (mCons (mP (pC (.str "on"))) (mCons (mP (pC (.str "off"))) (mCons (mP (pC (.str "open"))) (mCons (mP (pC (.str "close"))) (mCons (mP (pC (.str "fault"))) (mCons (mP (pC (.str "go"))) (mCons (mP (pC (.str "row"))) (mCons (mP (pC (.str "map"))) (mCons (mP (pC (.str "least"))) (mCons (mP (pC (.str "board"))) (mCons (mP (pC (.str "change"))) (mNil)))))))))))))))) (mSeq (mSetP 7 (mP (p2 (lift2 addD) (pVar 7) (pLst (pCons (pC (.str "move")) (pCons (pC (.str "dark")) (pCons (pC (.str "draws")) (pCons (pC (.str "sum")) (pCons (pC (.str "through")) (pCons (pC (.str "parted")) (pCons (pC (.str "not")) (pCons (pC (.str "awake")) (pNil))))))))))))) (mSeq (mSetP 7 (mP (p2 (lift2 addD) (pVar 7) (pLst (pCons (pC (.str "a")) (pCons (pC (.str "aa")) (pCons (pC (.str "aaa")) (pCons (pC (.str "aaaaaaaa")) (pCons (pC (.str "b")) (pNil)))))))))) (mSeq (mIf (mB (m2 (eqO) (mCall F__law_take [.io 0, .v (mP (pC (.int 4)))]) (mP (pC (.int 0))))) (mRet (q2__law_names)) (mSkip)) (mRet (q3__law_names))))))))))
abbrev E__law_names (v_stream_here v_many v_letters v_size v_base v_at v_start v_words v_k : Option O := none) : FB.Env := [v_stream_here, v_many, v_letters, v_size, v_base, v_at, v_start, v_words, v_k]
noncomputable def F__law_names : FSem := runF 2 9 [0] b__law_names
theorem sc__law_names : FnScope ["_law_stream_here", "_law_many", "_law_letters", "_law_size", "_law_base", "_law_at", "_law_start", "_law_words", "_law_k"] ["_law_stream_here", "_law_many"] (C8.fnScope s__law_names) := C8.fnScope_by (by decide +kernel)
abbrev s__law_curve : Stmt := top 20
noncomputable def b1__law_curve : M Fl := mSeq (mEx (mAppend 4 (m2 (lift2 addD) (mP (p2 (lift2 addD) (p2 ixO (p2 (lift2 addD) (pVar 4) (pLst (pCons (pC (.int 0)) (pNil)))) (p2 (lift2 subD) (pVar 6) (pC (.int 1)))) (pC (.int 1)))) (mCall F__law_take [.io 0, .v (mP (pVar 1))])))) (mEx (mAppend 5 (m2 (lift2 addD) (mP (p2 (lift2 addD) (p2 ixO (p2 (lift2 addD) (pVar 5) (pLst (pCons (pC (.int 0)) (pNil)))) (p2 (lift2 subD) (pVar 6) (pC (.int 1)))) (pC (.int 1)))) (mCall F__law_take [.io 0, .v (mP (pVar 2))]))))
noncomputable def q1__law_curve : M O := mComp (mR1 (mP (pVar 3))) (own2 [("_law_k", 6)]) (aN 6) (mTrue) (mP (pTup (pCons (p2 ixO (pVar 4) (pVar 6)) (pCons (p2 ixO (pVar 5) (p2 (lift2 subD) (p2 (lift2 subD) (pVar 3) (pC (.int 1))) (pVar 6))) (pNil)))))
noncomputable def b__law_curve : M Fl := mSeq (mSetP 3 (m2 (lift2 addD) (mP (pC (.int 1))) (mCall F__law_take [.io 0, .v (mP (pC (.int 5)))]))) (mSeq (mSetO 4 (mLst (mNil))) (mSeq (mSetO 5 (mLst (mNil))) (mSeq (mFor (mR1 (mP (pVar 3))) (aN 6) b1__law_curve) (mRet (m1 tupO (q1__law_curve))))))
abbrev E__law_curve (v_stream_here v_far v_long v_many v_levels v_turns v_k : Option O := none) : FB.Env := [v_stream_here, v_far, v_long, v_many, v_levels, v_turns, v_k]
noncomputable def F__law_curve : FSem := runF 3 7 [0] b__law_curve
theorem sc__law_curve : FnScope ["_law_stream_here", "_law_far", "_law_long", "_law_many", "_law_levels", "_law_turns", "_law_k"] ["_law_stream_here", "_law_far", "_law_long"] (C8.fnScope s__law_curve) := C8.fnScope_by (by decide +kernel)
abbrev s__law_guards : Stmt := top 22
noncomputable def b1__law_guards : M Fl := mSeq (mSetP 7 (m2 ixO (mLst (mCons (mP (p2 (lift2 subD) (pVar 6) (pC (.int 1)))) (mCons (mCall F__law_take [.io 0, .v (mFz (m2 (lift2 max2D) (mP (pC (.int 1))) (mP (pVar 6))))]) (mNil)))) (mCall F__law_take [.io 0, .v (mP (pC (.int 2)))]))) (mSeq (mSetP 8 (mP (pC .non))) (mSeq (mSetP 9 (mP (pC (.int 1)))) (mSeq (mIf (mAnd (mB (mP (p2 (lift2 gtD) (pVar 6) (pC (.int 0))))) (mAnd (mB (m2 (lift2 gtD) (mCall F__law_take [.io 0, .v (mP (pC (.int 7)))]) (mP (pC (.int 0))))) (mB (mP (p2 (lift2 ltD) (p2 ixO (pVar 5) (pVar 7)) (pC (.int 8))))))) (mSeq (mSetP 8 (mP (p2 ixO (pVar 1) (pVar 7)))) (mSetP 9 (mP (p2 (lift2 addD) (p2 ixO (pVar 5) (pVar 7)) (pC (.int 1)))))) (mSkip)) (mSeq (mEx (mAppend 5 (mP (pVar 9)))) (mSeq (mSetP 10 (mCall F__law_curve [.io 0, .v (mP (pVar 2)), .v (mP (pVar 3))])) (mEx (mAppend 4 (mTup (mCons (mP (p2 ixO (pVar 1) (pVar 6))) (mCons (mP (pVar 8)) (mCons (mP (pVar 10)) (mCons (mCall F__law_take [.io 0, .v (mFz (m2 ixO (mLst (mCons (mP (pC (.int 1))) (mCons (mP (pVar 3)) (mNil)))) (mCall F__law_take [.io 0, .v (mP (pC (.int 2)))])))]) (mCons (mCall F__law_take [.io 0, .v (mFz (m2 ixO (mLst (mCons (mP (pC (.int 1))) (mCons (mP (pVar 3)) (mNil)))) (mCall F__law_take [.io 0, .v (mP (pC (.int 2)))])))]) (mNil))))))))))))))
noncomputable def b__law_guards : M Fl := mSeq (mSetO 4 (mLst (mNil))) (mSeq (mSetO 5 (mLst (mNil))) (mSeq (mFor (mR1 (mP (p1 lenO (pVar 1)))) (aN 6) b1__law_guards) (mRet (mP (p1 tupO (pVar 4))))))
abbrev E__law_guards (v_stream_here v_names_here v_far v_long v_found v_deep v_k v_at v_under v_level v_curve_here : Option O := none) : FB.Env := [v_stream_here, v_names_here, v_far, v_long, v_found, v_deep, v_k, v_at, v_under, v_level, v_curve_here]
noncomputable def F__law_guards : FSem := runF 4 11 [0] b__law_guards
theorem sc__law_guards : FnScope ["_law_stream_here", "_law_names_here", "_law_far", "_law_long", "_law_found", "_law_deep", "_law_k", "_law_at", "_law_under", "_law_level", "_law_curve_here"] ["_law_stream_here", "_law_names_here", "_law_far", "_law_long"] (C8.fnScope s__law_guards) := C8.fnScope_by (by decide +kernel)
abbrev s__law_loads : Stmt := top 23
noncomputable def q1__law_loads : M O := mComp (mR1 (mCall F__law_take [.io 0, .v (mP (pC (.int 3)))])) (own2 [("_law_k", 9)]) (aN 9) (mTrue) (mTup (mCons (m2 (lift2 addD) (mP (pC (.int 1))) (mCall F__law_take [.io 0, .v (mP (pVar 4))])) (mCons (mCall F__law_take [.io 0, .v (mP (pVar 3))]) (mNil))))
noncomputable def b1__law_loads : M Fl := mSeq (mSetP 7 (q1__law_loads)) (mSeq (mSetP 8 (m2 ixO (m2 ixO (mP (pVar 2)) (mCall F__law_take [.io 0, .v (mP (p1 lenO (pVar 2)))])) (mP (pC (.int 0))))) (mEx (mAppend 5 (mTup (mCons (mP (pVar 6)) (mCons (mP (pVar 8)) (mCons (mP (p1 tupO (pVar 7))) (mCons (mCall F__law_take [.io 0, .v (mP (pVar 3))]) (mCons (m2 (lift2 gtD) (mCall F__law_take [.io 0, .v (mP (pC (.int 3)))]) (mP (pC (.int 0)))) (mNil))))))))))
noncomputable def b__law_loads : M Fl := mSeq (mSetO 5 (mLst (mNil))) (mSeq (mFor (mI (mP (pVar 1))) (aN 6) b1__law_loads) (mRet (mP (p1 tupO (pVar 5)))))
abbrev E__law_loads (v_stream_here v_names_here v_guards_here v_far v_long v_found v_name v_course v_at v_k : Option O := none) : FB.Env := [v_stream_here, v_names_here, v_guards_here, v_far, v_long, v_found, v_name, v_course, v_at, v_k]
noncomputable def F__law_loads : FSem := runF 5 10 [0] b__law_loads
theorem sc__law_loads : FnScope ["_law_stream_here", "_law_names_here", "_law_guards_here", "_law_far", "_law_long", "_law_found", "_law_name", "_law_course", "_law_at", "_law_k"] ["_law_stream_here", "_law_names_here", "_law_guards_here", "_law_far", "_law_long"] (C8.fnScope s__law_loads) := C8.fnScope_by (by decide +kernel)
abbrev s__law_board : Stmt := top 24
noncomputable def b__law_board : M Fl := mSeq (mSetP 5 (m2 (lift2 addD) (mP (pC (.int 1))) (mCall F__law_take [.io 0, .v (mP (pVar 1))]))) (mSeq (mSetP 6 (mCall F__law_names [.io 0, .v (mP (p2 (lift2 addD) (pVar 5) (pVar 2)))])) (mSeq (mSetP 7 (mCall F__law_guards [.io 0, .v (mP (pSl (pVar 6) pNone (pInt (pVar 5)))), .v (mP (pVar 3)), .v (mP (pVar 4))])) (mRet (mTup (mCons (mP (pVar 7)) (mCons (mCall F__law_loads [.io 0, .v (mP (pSl (pVar 6) (pInt (pVar 5)) pNone)), .v (mP (pVar 7)), .v (mP (pVar 3)), .v (mP (pVar 4))]) (mNil)))))))
abbrev E__law_board (v_stream_here v_most v_many v_far v_long v_guards_many v_names_here v_guards_here : Option O := none) : FB.Env := [v_stream_here, v_most, v_many, v_far, v_long, v_guards_many, v_names_here, v_guards_here]
noncomputable def F__law_board : FSem := runF 5 8 [0] b__law_board
theorem sc__law_board : FnScope ["_law_stream_here", "_law_most", "_law_many", "_law_far", "_law_long", "_law_guards_many", "_law_names_here", "_law_guards_here"] ["_law_stream_here", "_law_most", "_law_many", "_law_far", "_law_long"] (C8.fnScope s__law_board) := C8.fnScope_by (by decide +kernel)
abbrev s_guards_of : Stmt := top 6
noncomputable def q1_guards_of : M O := mComp (mI (mP (p2 ixO (pVar 0) (pC (.int 0))))) (own2 [("guard", 1)]) (aN 1) (mTrue) (mP (p2 ixO (pVar 1) (pC (.int 0))))
noncomputable def b_guards_of : M Fl := mRet (q1_guards_of)
abbrev E_guards_of (v_board v_guard : Option O := none) : FB.Env := [v_board, v_guard]
noncomputable def F_guards_of : FSem := runF 1 2 [] b_guards_of
theorem sc_guards_of : FnScope ["board", "guard"] ["board"] (C8.fnScope s_guards_of) := C8.fnScope_by (by decide +kernel)
abbrev s_chain : Stmt := top 7
noncomputable def q1_chain : M O := mComp (mI (mP (pVar 0))) (own2 [("guard", 4)]) (aN 4) (mTrue) (mP (pTup (pCons (p2 ixO (pVar 4) (pC (.int 0))) (pCons (p2 ixO (pVar 4) (pC (.int 1))) (pNil)))))
noncomputable def t1_chain : M Bool := mB (mP (p2 (notNO) (pVar 1) (pC .non)))
noncomputable def b1_chain : M Fl := mSeq (mEx (mAppend 3 (mP (pVar 1)))) (mSetP 1 (mP (p2 ixF (pVar 2) (pVar 1))))
noncomputable def b_chain : M Fl := mSeq (mSetP 2 (mDictP (q1_chain))) (mSeq (mSetO 3 (mLst (mNil))) (mSeq (mWhile (fun _ => fuel) t1_chain b1_chain) (mRet (mMove 3))))
abbrev E_chain (v_guards v_name v_unders v_found v_guard : Option O := none) : FB.Env := [v_guards, v_name, v_unders, v_found, v_guard]
noncomputable def F_chain : FSem := runF 2 5 [] b_chain
theorem sc_chain : FnScope ["guards", "name", "unders", "found", "guard"] ["guards", "name"] (C8.fnScope s_chain) := C8.fnScope_by (by decide +kernel)
abbrev s_over : Stmt := top 8
noncomputable def b1_over : M Fl := mIf (mB (mP (p2 (eqO) (pVar 2) (pVar 1)))) (mRet (mCall F_chain [.v (mP (p2 ixO (pVar 0) (pC (.int 0)))), .v (mP (pVar 3))])) (mSkip)
noncomputable def b_over : M Fl := mSeq (mIf (mB (m2 (inO) (mP (pVar 1)) (mCall F_guards_of [.v (mP (pVar 0))]))) (mRet (mCall F_chain [.v (mP (p2 ixO (pVar 0) (pC (.int 0)))), .v (mP (pVar 1))])) (mSkip)) (mSeq (mFor (mI (mP (p2 ixO (pVar 0) (pC (.int 1))))) (aTup (aCons (aN 2) (aCons (aN 3) (aCons (aN 4) (aCons (aN 5) (aCons (aN 6) (aNil))))))) b1_over) (mNever))
abbrev E_over (v_board v_place v_name v_at v_course v_last v_on : Option O := none) : FB.Env := [v_board, v_place, v_name, v_at, v_course, v_last, v_on]
noncomputable def F_over : FSem := runF 2 7 [] b_over
theorem sc_over : FnScope ["board", "place", "name", "at", "course", "last", "on"] ["board", "place"] (C8.fnScope s_over) := C8.fnScope_by (by decide +kernel)
abbrev s_draws : Stmt := top 12
noncomputable def b1_draws : M Fl := mSetIt 3 (mP (pVar 4)) (mP (pC (.int 0)))
noncomputable def q1_draws : M O := mComp (mI (mP (pVar 6))) (own2 [("guard", 4)]) (aN 4) (mTrue) (mP (p2 (inO) (pVar 4) (pVar 1)))
noncomputable def b2_draws : M Fl := mAugI 3 (fun i j => i + j) (pVar 4) (p2 ixF (pVar 2) (pVar 5))
noncomputable def b3_draws : M Fl := mSeq (mSetP 6 (mCall F_over [.v (mP (pVar 0)), .v (mP (pVar 5))])) (mIf (mNot (mB (m1 anyO (q1_draws)))) (mFor (mI (mP (pVar 6))) (aN 4) b2_draws) (mSkip))
noncomputable def b_draws : M Fl := mSeq (mSetO 3 (mDict0)) (mSeq (mFor (mI (mCall F_guards_of [.v (mP (pVar 0))])) (aN 4) b1_draws) (mSeq (mForK 2 (aN 5) b3_draws) (mRet (mMove 3))))
abbrev E_draws (v_board v_opened v_pulls v_found v_guard v_place v_above : Option O := none) : FB.Env := [v_board, v_opened, v_pulls, v_found, v_guard, v_place, v_above]
noncomputable def F_draws : FSem := runF 3 7 [] b_draws
theorem sc_draws : FnScope ["board", "opened", "pulls", "found", "guard", "place", "above"] ["board", "opened", "pulls"] (C8.fnScope s_draws) := C8.fnScope_by (by decide +kernel)
abbrev s_rest : Stmt := top 13
noncomputable def b1_rest : M Fl := mIf (mB (mP (pVar 6))) (mSetIt 1 (mP (pVar 2)) (mP (pVar 5))) (mSkip)
noncomputable def b_rest : M Fl := mSeq (mSetO 1 (mDict0)) (mSeq (mFor (mI (mP (p2 ixO (pVar 0) (pC (.int 1))))) (aTup (aCons (aN 2) (aCons (aN 3) (aCons (aN 4) (aCons (aN 5) (aCons (aN 6) (aNil))))))) b1_rest) (mRet (mCall F_draws [.v (mP (pVar 0)), .v (mFz (mLst (mNil))), .v (mFz (mFrz 1))])))
abbrev E_rest (v_board v_pulls v_name v_at v_course v_last v_on : Option O := none) : FB.Env := [v_board, v_pulls, v_name, v_at, v_course, v_last, v_on]
noncomputable def F_rest : FSem := runF 1 7 [] b_rest
theorem sc_rest : FnScope ["board", "pulls", "name", "at", "course", "last", "on"] ["board"] (C8.fnScope s_rest) := C8.fnScope_by (by decide +kernel)
abbrev s_least_of : Stmt := top 1
noncomputable def b_least_of : M Fl := mRet (mP (p2 ixO (p2 ixO (pVar 0) (pC (.int 0))) (pC (.int 0))))
abbrev E_least_of (v_curve : Option O := none) : FB.Env := [v_curve]
noncomputable def F_least_of : FSem := runF 1 1 [] b_least_of
theorem sc_least_of : FnScope ["curve"] ["curve"] (C8.fnScope s_least_of) := C8.fnScope_by (by decide +kernel)
abbrev s_awake : Stmt := top 14
noncomputable def q1_awake : M O := mComp (mI (mP (p2 ixO (pVar 0) (pC (.int 0))))) (own2 [("name", 2), ("under", 3), ("curve", 4), ("delay", 5), ("wait", 6)]) (aTup (aCons (aN 2) (aCons (aN 3) (aCons (aN 4) (aCons (aN 5) (aCons (aN 6) (aNil))))))) (mB (m2 (lift2 geD) (mP (p2 ixF (pVar 1) (pVar 2))) (mCall F_least_of [.v (mP (pVar 4))]))) (mP (pVar 2))
noncomputable def b_awake : M Fl := mRet (q1_awake)
abbrev E_awake (v_board v_found v_name v_under v_curve v_delay v_wait : Option O := none) : FB.Env := [v_board, v_found, v_name, v_under, v_curve, v_delay, v_wait]
noncomputable def F_awake : FSem := runF 2 7 [] b_awake
theorem sc_awake : FnScope ["board", "found", "name", "under", "curve", "delay", "wait"] ["board", "found"] (C8.fnScope s_awake) := C8.fnScope_by (by decide +kernel)
abbrev s_ask_guard : Stmt := top 9
noncomputable def b_ask_guard : M Fl := mIf (nx (mB (m2 (ninO) (mP (pVar 1)) (mCall F_guards_of [.v (mP (pVar 0))])))) (mRaise ⟨"NoPlace", [], []⟩) (mSkip)
abbrev E_ask_guard (v_board v_guard : Option O := none) : FB.Env := [v_board, v_guard]
noncomputable def F_ask_guard : FSemX := runX 2 2 [] b_ask_guard
theorem sc_ask_guard : FnScope ["board", "guard"] ["board", "guard"] (C8.fnScope s_ask_guard) := C8.fnScope_by (by decide +kernel)
abbrev s_kids : Stmt := top 10
noncomputable def q1_kids : M O := mComp (mI (mP (p2 ixO (pVar 0) (pC (.int 0))))) (own2 [("name", 2), ("under", 3), ("curve", 4), ("delay", 5), ("wait", 6)]) (aTup (aCons (aN 2) (aCons (aN 3) (aCons (aN 4) (aCons (aN 5) (aCons (aN 6) (aNil))))))) (mB (mP (p2 (eqO) (pVar 3) (pVar 1)))) (mP (pVar 2))
noncomputable def b_kids : M Fl := mSeq (mEx (mCallX F_ask_guard [.v (mP (pVar 0)), .v (mP (pVar 1))])) (nx (mRet (q1_kids)))
abbrev E_kids (v_board v_guard v_name v_under v_curve v_delay v_wait : Option O := none) : FB.Env := [v_board, v_guard, v_name, v_under, v_curve, v_delay, v_wait]
noncomputable def F_kids : FSemX := runX 2 7 [] b_kids
theorem sc_kids : FnScope ["board", "guard", "name", "under", "curve", "delay", "wait"] ["board", "guard"] (C8.fnScope s_kids) := C8.fnScope_by (by decide +kernel)
abbrev s_held : Stmt := top 15
noncomputable def q1_held : M O := mCompX (mI (mCallX F_kids [.v (mP (pVar 0)), .v (mP (pVar 2))])) (own2 [("kid", 4)]) (aN 4) (mTrue) (mP (p2 (inO) (pVar 4) (pVar 3)))
noncomputable def b_held : M Fl := mSeq (nx (mSetP 3 (mCall F_awake [.v (mP (pVar 0)), .v (mP (pVar 1))]))) (mRet (m1 anyO (q1_held)))
abbrev E_held (v_board v_found v_guard v_some v_kid : Option O := none) : FB.Env := [v_board, v_found, v_guard, v_some, v_kid]
noncomputable def F_held : FSemX := runX 3 5 [] b_held
theorem sc_held : FnScope ["board", "found", "guard", "some", "kid"] ["board", "found", "guard"] (C8.fnScope s_held) := C8.fnScope_by (by decide +kernel)
abbrev s_loud : Stmt := top 16
noncomputable def b1_loud : M Fl := mRet (mP (pVar 1))
noncomputable def b_loud : M Fl := mSeq (mFor (mI (mCall F_awake [.v (mP (pVar 0)), .v (mFz (mCall F_rest [.v (mP (pVar 0))]))])) (aN 1) b1_loud) (mRet (mP (pC .non)))
abbrev E_loud (v_board v_guard : Option O := none) : FB.Env := [v_board, v_guard]
noncomputable def F_loud : FSem := runF 1 2 [] b_loud
theorem sc_loud : FnScope ["board", "guard"] ["board"] (C8.fnScope s_loud) := C8.fnScope_by (by decide +kernel)
abbrev s__law_over : Stmt := top 25
noncomputable def q1__law_over : M O := mComp (mI (mP (p2 ixO (pVar 0) (pC (.int 0))))) (own2 [("_law_guard", 5)]) (aN 5) (mTrue) (mP (pTup (pCons (p2 ixO (pVar 5) (pC (.int 0))) (pCons (p2 ixO (pVar 5) (pC (.int 1))) (pNil)))))
noncomputable def q2__law_over : M O := mComp (mI (mP (p2 ixO (pVar 0) (pC (.int 1))))) (own2 [("_law_load", 6)]) (aN 6) (mTrue) (mP (pTup (pCons (p2 ixO (pVar 6) (pC (.int 0))) (pCons (p2 ixO (pVar 6) (pC (.int 1))) (pNil)))))
noncomputable def t1__law_over : M Bool := mB (mP (p2 (notNO) (pVar 3) (pC .non)))
noncomputable def b1__law_over : M Fl := mSeq (mEx (mAppend 4 (mP (pVar 3)))) (mSetP 3 (mP (p2 ixF (pVar 2) (pVar 3))))
noncomputable def b__law_over : M Fl := mSeq (mSetP 2 (mDictP (q1__law_over))) (mSeq (mSetP 3 (mGet (mDictP (q2__law_over)) (pVar 1) (pVar 1))) (mSeq (mSetO 4 (mLst (mNil))) (mSeq (mWhile (fun _ => fuel) t1__law_over b1__law_over) (mRet (mMove 4)))))
abbrev E__law_over (v_board_here v_place v_unders v_at v_found v_guard v_load : Option O := none) : FB.Env := [v_board_here, v_place, v_unders, v_at, v_found, v_guard, v_load]
noncomputable def F__law_over : FSem := runF 2 7 [] b__law_over
theorem sc__law_over : FnScope ["_law_board_here", "_law_place", "_law_unders", "_law_at", "_law_found", "_law_guard", "_law_load"] ["_law_board_here", "_law_place"] (C8.fnScope s__law_over) := C8.fnScope_by (by decide +kernel)
abbrev s__law_no_guard : Stmt := top 26
noncomputable def u1__law_no_guard : M Fl := mSetP 3 (mP (pC (.bl true)))
noncomputable def b1__law_no_guard : M Fl := mEx (mCallX F_held [.v (mP (pVar 0)), .v (mP (pVar 1)), .v (mP (pVar 2))])
noncomputable def b__law_no_guard : M Fl := mSeq (mSetP 3 (mP (pC (.bl false)))) (mSeq (nx (mTry1 es "NoPlace" b1__law_no_guard u1__law_no_guard)) (mRet (mP (pVar 3))))
abbrev E__law_no_guard (v_board_here v_found v_thing v_refused : Option O := none) : FB.Env := [v_board_here, v_found, v_thing, v_refused]
noncomputable def F__law_no_guard : FSem := runF 3 4 [] b__law_no_guard
theorem sc__law_no_guard : FnScope ["_law_board_here", "_law_found", "_law_thing", "_law_refused"] ["_law_board_here", "_law_found", "_law_thing"] (C8.fnScope s__law_no_guard) := C8.fnScope_by (by decide +kernel)
abbrev s__law_right : Stmt := top 27
noncomputable def q1__law_right : M O := mComp (mI (mP (p2 ixO (pVar 0) (pC (.int 0))))) (own2 [("_law_guard", 6)]) (aN 6) (mTrue) (mP (pTup (pCons (p2 ixO (pVar 6) (pC (.int 0))) (pCons (pC (.int 0)) (pNil)))))
noncomputable def b1__law_right : M Fl := mSetIt 1 (mP (pVar 6)) (mP (p2 (lift2 addD) (p2 ixF (pVar 1) (pVar 6)) (p2 (lift2 mulD) (pVar 11) (p1 intO (pVar 12)))))
noncomputable def b2__law_right : M Fl := mFor (mI (mCall F__law_over [.v (mP (pVar 0)), .v (mP (pVar 8))])) (aN 6) b1__law_right
noncomputable def q2__law_right : M O := mComp (mI (mP (p2 ixO (pVar 0) (pC (.int 0))))) (own2 [("_law_guard", 6)]) (aN 6) (mB (mP (p2 (lift2 geD) (p2 ixF (pVar 1) (p2 ixO (pVar 6) (pC (.int 0)))) (p2 ixO (p2 ixO (p2 ixO (pVar 6) (pC (.int 2))) (pC (.int 0))) (pC (.int 0)))))) (mP (p2 ixO (pVar 6) (pC (.int 0))))
noncomputable def q3__law_right : M O := mComp (mI (mP (p2 ixO (pVar 0) (pC (.int 0))))) (own2 [("_law_other", 15)]) (aN 15) (mAnd (mB (mP (p2 (eqO) (p2 ixO (pVar 15) (pC (.int 1))) (p2 ixO (pVar 6) (pC (.int 0)))))) (mB (mP (p2 (inO) (p2 ixO (pVar 15) (pC (.int 0))) (pVar 3))))) (mP (p2 ixO (pVar 15) (pC (.int 0))))
noncomputable def b3__law_right : M Fl := mSeq (mSetP 13 (q3__law_right)) (mSeq (mSetP 14 (mCall (downF F_held) [.v (mP (pVar 0)), .v (mP (pVar 2)), .v (mP (p2 ixO (pVar 6) (pC (.int 0))))])) (mIf (mOr (mNot (mB (mP (p1 (isiO "bool") (pVar 14))))) (mB (mP (p2 (neO) (pVar 14) (p2 (neO) (pVar 13) (pLst (pNil))))))) (mRet (mP (pC (.bl false)))) (mSkip)))
noncomputable def q4__law_right : M O := mComp (mI (mP (p2 ixO (pVar 0) (pC (.int 1))))) (own2 [("_law_load", 16)]) (aN 16) (mTrue) (mP (p2 ixO (pVar 16) (pC (.int 0))))
noncomputable def b4__law_right : M Fl := mIf (mNot (mB (mCall F__law_no_guard [.v (mP (pVar 0)), .v (mP (pVar 2)), .v (mP (pVar 7))]))) (mRet (mP (pC (.bl false)))) (mSkip)
noncomputable def b__law_right : M Fl := mSeq (mSetO 1 (mDictPO (q1__law_right))) (mSeq (mFor (mI (mP (p2 ixO (pVar 0) (pC (.int 1))))) (aTup (aCons (aN 8) (aCons (aN 9) (aCons (aN 10) (aCons (aN 11) (aCons (aN 12) (aNil))))))) b2__law_right) (mSeq (mSetP 2 (mCall F_rest [.v (mP (pVar 0))])) (mSeq (mIf (mOr (mNot (mB (mP (p1 (isiO "dict") (pVar 2))))) (mB (mP (p2 (neKO) (pVar 2) (pVar 1))))) (mRet (mP (pC (.bl false)))) (mSkip)) (mSeq (mSetP 3 (q2__law_right)) (mSeq (mSetO 4 (mCall F_awake [.v (mP (pVar 0)), .v (mP (pVar 2))])) (mSeq (mIf (mOr (mNot (mB (mP (p1 (isiO "list") (pVar 4))))) (mOr (mB (mP (p2 (neO) (pVar 4) (pVar 3)))) (mB (m2 (neO) (mCall F_loud [.v (mP (pVar 0))]) (mP (p2 ixO (p2 (lift2 addD) (pVar 3) (pLst (pCons (pC .non) (pNil)))) (pC (.int 0)))))))) (mRet (mP (pC (.bl false)))) (mSkip)) (mSeq (mEx (mAppend 4 (mP (pC (.str "a"))))) (mSeq (mSetO 5 (mCall F_rest [.v (mP (pVar 0))])) (mSeq (mSetIt 5 (mP (p2 ixO (p2 ixO (p2 ixO (pVar 0) (pC (.int 0))) (pC (.int 0))) (pC (.int 0)))) (mP (p1 negO (pC (.int 1))))) (mSeq (mFor (mI (mP (p2 ixO (pVar 0) (pC (.int 0))))) (aN 6) b3__law_right) (mSeq (mFor (mI (m2 (lift2 addD) (mFz (mLst (mCons (mP (pC .non)) (mCons (mP (pC (.int 1))) (mCons (mP (pC (.str ""))) (mCons (mLst (mCons (mP (p2 ixO (p2 ixO (p2 ixO (pVar 0) (pC (.int 0))) (pC (.int 0))) (pC (.int 0)))) (mNil))) (mNil))))))) (q4__law_right))) (aN 7) b4__law_right) (mRet (mAndV (m2 (eqO) (mCall F_awake [.v (mP (pVar 0)), .v (mP (pVar 2))]) (mP (pVar 3))) (m2 (eqKO) (mCall F_rest [.v (mP (pVar 0))]) (mFrz 1)))))))))))))))
abbrev E__law_right (v_board_here v_due v_found v_some v_told v_again v_guard v_thing v_name v_at v_course v_last v_on v_under_it v_answer v_other v_load : Option O := none) : FB.Env := [v_board_here, v_due, v_found, v_some, v_told, v_again, v_guard, v_thing, v_name, v_at, v_course, v_last, v_on, v_under_it, v_answer, v_other, v_load]
noncomputable def F__law_right : FSem := runF 1 17 [] b__law_right
theorem sc__law_right : FnScope ["_law_board_here", "_law_due", "_law_found", "_law_some", "_law_told", "_law_again", "_law_guard", "_law_thing", "_law_name", "_law_at", "_law_course", "_law_last", "_law_on", "_law_under_it", "_law_answer", "_law_other", "_law_load"] ["_law_board_here"] (C8.fnScope s__law_right) := C8.fnScope_by (by decide +kernel)
abbrev s_law : Stmt := top 28
noncomputable def q1_law : M O := mComp (mI (mP (p2 ixO (pVar 3) (pC (.int 1))))) (own2 [("_law_load", 5)]) (aN 5) (mTrue) (m2 (lift2 addD) (mP (pSl (pVar 5) pNone (pInt (pC (.int 4))))) (mTup (mCons (mNotV (mP (p2 ixO (pVar 5) (pC (.int 4))))) (mNil))))
noncomputable def b_law : M Fl := mSeq (mSetO 1 (mCall F__law_stream [.v (mP (pVar 0))])) (mSeq (mSetP 2 (m2 ixO (mLst (mCons (mP (pC (.int 5))) (mCons (mP (pC (.int 30))) (mCons (mP (p2 (lift2 powD) (pC (.int 10)) (pC (.int 59)))) (mNil))))) (mCall F__law_take [.io 1, .v (mP (pC (.int 3)))]))) (mSeq (mSetP 3 (mCall F__law_board [.io 1, .v (mP (pC (.int 12))), .v (mFz (mCall F__law_take [.io 1, .v (mP (pC (.int 11)))])), .v (mP (pVar 2)), .v (mP (pC (.int 9)))])) (mSeq (mSetP 4 (mTup (mCons (mP (p2 ixO (pVar 3) (pC (.int 0)))) (mCons (m1 tupO (q1_law)) (mNil))))) (mRet (mAndV (mCall F__law_right [.v (mP (pVar 3))]) (mAndV (mCall F__law_right [.v (mP (pVar 4))]) (mAndV (mCall F__law_right [.v (mP (pVar 3))]) (mCall F__law_right [.v (mP (pTup (pCons (p2 ixO (pVar 3) (pC (.int 0))) (pCons (pTup (pNil)) (pNil)))))]))))))))
abbrev E_law (v_script v_stream_here v_far v_board_here v_turned v_load : Option O := none) : FB.Env := [v_script, v_stream_here, v_far, v_board_here, v_turned, v_load]
noncomputable def F_law : FSem := runF 1 6 [] b_law
theorem sc_law : FnScope ["_law_script", "_law_stream_here", "_law_far", "_law_board_here", "_law_turned", "_law_load"] ["_law_script"] (C8.fnScope s_law) := C8.fnScope_by (by decide +kernel)
section
variable {P : Program} {w : World} {K : PySem.W.Frag} {mg : Str → Option Value} {base : Heap}
theorem c__law_stream {f : Addr} {fd : FuncData} (F : C8.Def K mg "_law_stream" s__law_stream f fd) (bi : Binds K fd ["_law_script"] []) (Z : Fr K mg)   : C8.Cal P w K mg base 1 "_law_stream" (spF K mg 1 F__law_stream) [] :=
  cal_sem F bi sc__law_stream rfl rfl (by decide) fun cdv A outer s H E hr => by
    have ok := bodyOk (P := P) (w := w) (K := K) (mg := mg) (base := base) (qual := "_law_stream") (cdv := cdv) (A := A) (outer := outer) (s := s) (H := H) (E := E) sc__law_stream hr
    exact (sss_one (ss_ret (se_lst (ses_cons (se_p (sp_t1 call_list_of unv_list rfl Z.n_list (by rfl) (sp_sl (sp_var 0) spo_none (spo_some sp_int)))) (ses_cons (se_p sp_int) (ses_cons (se_p sp_int) ses_nil))))))
theorem c__law_take {f : Addr} {fd : FuncData} (F : C8.Def K mg "_law_take" s__law_take f fd) (bi : Binds K fd ["_law_stream_here", "_law_many"] []) (Z : Fr K mg)   : C8.Cal P w K mg base 1 "_law_take" (spF K mg 2 F__law_take) [] :=
  cal_sem F bi sc__law_take rfl rfl (by decide) fun cdv A outer s H E hr => by
    have ok := bodyOk (P := P) (w := w) (K := K) (mg := mg) (base := base) (qual := "_law_take") (cdv := cdv) (A := A) (outer := outer) (s := s) (H := H) (E := E) sc__law_take hr
    exact (sss_cons (ss_while (fun _ => fuel) .never (sew_t (sew_and (set_cmpP (op_eqD ok.u64) opv_eq (sp_ix ix_seq opv_ix (sp_var 0) sp_int) sp_int rfl) (sew_and1 (set_cmpP (op_neD ok.u64) opv_ne (sp_ix ix_seq opv_ix (sp_var 0) sp_int) (sp_lst sps_nil) rfl)))) (sss_cons (ss_setP 2 ok rfl (by first | exact Or.inl rfl | exact Or.inr rfl) (se_p (sp_ix ix_seq opv_ix (sp_ix ix_seq opv_ix (sp_var 0) sp_int) sp_int))) (sss_cons (ss_setIt 0 ok (se_p sp_int) (se_p (sp_sl (sp_ix ix_seq opv_ix (sp_var 0) sp_int) (spo_some sp_int) spo_none))) (sss_cons (ss_setIt 0 ok (se_p sp_int) (se_p (sp_bin op_mod opv_mod (sp_bin op_addF opv_add (sp_bin op_mulF opv_mul (sp_ix ix_seq opv_ix (sp_var 0) sp_int) sp_int) (sp_var 2)) sp_int))) (sss_one (ss_if (set_cmpP op_ge opv_ge (sp_var 2) (sp_bin op_pow opv_pow sp_int sp_int) rfl) (sss_one (ss_setIt 0 ok (se_p sp_int) (se_p (sp_var 2)))) sss_nil)))))) (sss_cons (ss_if (set_cmpP op_gt opv_gt (sp_ix ix_seq opv_ix (sp_var 0) sp_int) sp_int rfl) (sss_cons (ss_setP 3 ok rfl (by first | exact Or.inl rfl | exact Or.inr rfl) (se_p (sp_bin op_mod opv_mod (sp_ix ix_seq opv_ix (sp_var 0) sp_int) (sp_var 1)))) (sss_cons (ss_setIt 0 ok (se_p sp_int) (se_p (sp_bin op_fdivW opv_fdiv (sp_ix ix_seq opv_ix (sp_var 0) sp_int) (sp_var 1)))) (sss_one (ss_ret (se_p (sp_var 3)))))) sss_nil) (sss_cons (ss_setIt 0 ok (se_p sp_int) (se_p (sp_bin op_mod opv_mod (sp_bin op_addF opv_add (sp_bin op_mulF opv_mul (sp_ix ix_seq opv_ix (sp_var 0) sp_int) sp_int) sp_int) sp_int))) (sss_one (ss_ret (se_p (sp_bin op_mod opv_mod (sp_bin op_fdivW opv_fdiv (sp_bin op_addF opv_add (sp_bin op_mod opv_mod (sp_bin op_mulF opv_mul (sp_bin op_fdivW opv_fdiv (sp_ix ix_seq opv_ix (sp_var 0) sp_int) sp_int) sp_int) sp_int) (sp_bin op_mod opv_mod (sp_ix ix_seq opv_ix (sp_var 0) sp_int) sp_int)) sp_int) (sp_var 1))))))))
theorem c__law_names {f : Addr} {fd : FuncData} (F : C8.Def K mg "_law_names" s__law_names f fd) (bi : Binds K fd ["_law_stream_here", "_law_many"] []) (Z : Fr K mg)  (c__law_take : C8.Cal P w K mg base 1 "_law_take" (spF K mg 2 F__law_take) []) : C8.Cal P w K mg base 2 "_law_names" (spF K mg 2 F__law_names) [] :=
  cal_sem F bi sc__law_names rfl rfl (by decide) fun cdv A outer s H E hr => by
    have ok := bodyOk (P := P) (w := w) (K := K) (mg := mg) (base := base) (qual := "_law_names") (cdv := cdv) (A := A) (outer := outer) (s := s) (H := H) (E := E) sc__law_names hr
    exact (sss_cons (ss_setP 2 ok rfl (by first | exact Or.inl rfl | exact Or.inr rfl) (se_p sp_str)) (sss_cons (ss_setP 3 ok rfl (by first | exact Or.inl rfl | exact Or.inr rfl) (se_bin op_addF opv_add (se_p sp_int) (se_call c__law_take hr (by decide) rfl (sas_io 0 (sas_v (se_p sp_int) sas_nil))))) (sss_cons (ss_setP 4 ok rfl (by first | exact Or.inl rfl | exact Or.inr rfl) (se_join (se_comp ok (si_range1 rfl Z.n_range (se_p (sp_var 3))) (blkOk_by (by first | rfl | decide +kernel)) (own := [("_law_k", 8)]) (fun _ _ _ _ _ => (sg_n 8 ok.blk rfl (by first | exact Or.inl rfl | exact Or.inr rfl) wipSet)) (fun _ _ _ _ _ => sets_nil) (fun _ _ _ _ _ => (se_ix ix_seq opv_ix (se_p (sp_var 2)) (se_call c__law_take hr (by decide) rfl (sas_io 0 (sas_v (se_p sp_int) sas_nil)))))))) (sss_cons (ss_setP 5 ok rfl (by first | exact Or.inl rfl | exact Or.inr rfl) (se_call c__law_take hr (by decide) rfl (sas_io 0 (sas_v (se_p (sp_var 3)) sas_nil)))) (sss_cons (ss_setP 6 ok rfl (by first | exact Or.inl rfl | exact Or.inr rfl) (se_call c__law_take hr (by decide) rfl (sas_io 0 (sas_v (se_p sp_int) sas_nil)))) (sss_cons (ss_setP 7 ok rfl (by first | exact Or.inl rfl | exact Or.inr rfl) (se_lst (ses_cons (se_p sp_str) (ses_cons (se_p sp_str) (ses_cons (se_p sp_str) (ses_cons (se_p sp_str) (ses_cons (se_p sp_str) (ses_cons (se_p sp_str) (ses_cons (se_p sp_str) (ses_cons (se_p sp_str) (ses_cons (se_p sp_str) (ses_cons (se_p sp_str) (ses_cons (se_p sp_str) (ses_cons (se_p sp_str) (ses_cons (se_p sp_str) ses_nil))))))))))))))) (sss_cons (ss_setP 7 ok rfl (by first | exact Or.inl rfl | exact Or.inr rfl) (se_p (sp_bin op_addF opv_add (sp_var 7) (sp_lst (sps_cons sp_str (sps_cons sp_str (sps_cons sp_str (sps_cons sp_str (sps_cons sp_str (sps_cons sp_str (sps_cons sp_str (sps_cons sp_str sps_nil)))))))))))) (sss_cons (ss_setP 7 ok rfl (by first | exact Or.inl rfl | exact Or.inr rfl) (se_p (sp_bin op_addF opv_add (sp_var 7) (sp_lst (sps_cons sp_str (sps_cons sp_str (sps_cons sp_str (sps_cons sp_str (sps_cons sp_str sps_nil))))))))) (sss_cons (ss_if (set_cmp (op_eqD ok.u64) opv_eq (se_call c__law_take hr (by decide) rfl (sas_io 0 (sas_v (se_p sp_int) sas_nil))) (se_p sp_int) rfl) (sss_one (ss_ret (se_comp ok (si_range1 rfl Z.n_range (se_p (sp_var 1))) (blkOk_by (by first | rfl | decide +kernel)) (own := [("_law_k", 8)]) (fun _ _ _ _ _ => (sg_n 8 ok.blk rfl (by first | exact Or.inl rfl | exact Or.inr rfl) wipSet)) (fun _ _ _ _ _ => sets_nil) (fun _ _ _ _ _ => (se_p (sp_ix ix_seq opv_ix (sp_var 7) (sp_bin op_mod opv_mod (sp_bin op_addF opv_add (sp_var 6) (sp_bin op_mulF opv_mul sp_int (sp_var 8))) sp_int))))))) sss_nil) (sss_one (ss_ret (se_comp ok (si_range1 rfl Z.n_range (se_p (sp_var 1))) (blkOk_by (by first | rfl | decide +kernel)) (own := [("_law_k", 8)]) (fun _ _ _ _ _ => (sg_n 8 ok.blk rfl (by first | exact Or.inl rfl | exact Or.inr rfl) wipSet)) (fun _ _ _ _ _ => sets_nil) (fun _ _ _ _ _ => (se_p (sp_bin op_addF opv_add (sp_bin op_addF opv_add (sp_sl (sp_var 4) spo_none (spo_some (sp_var 5))) (sp_ix ix_seq opv_ix (sp_var 2) (sp_bin op_mod opv_mod (sp_bin op_addF opv_add (sp_var 6) (sp_var 8)) sp_int))) (sp_sl (sp_var 4) (spo_some (sp_bin op_addF opv_add (sp_var 5) sp_int)) spo_none))))))))))))))))
theorem c__law_curve {f : Addr} {fd : FuncData} (F : C8.Def K mg "_law_curve" s__law_curve f fd) (bi : Binds K fd ["_law_stream_here", "_law_far", "_law_long"] []) (Z : Fr K mg)  (c__law_take : C8.Cal P w K mg base 1 "_law_take" (spF K mg 2 F__law_take) []) : C8.Cal P w K mg base 2 "_law_curve" (spF K mg 3 F__law_curve) [] :=
  cal_sem F bi sc__law_curve rfl rfl (by decide) fun cdv A outer s H E hr => by
    have ok := bodyOk (P := P) (w := w) (K := K) (mg := mg) (base := base) (qual := "_law_curve") (cdv := cdv) (A := A) (outer := outer) (s := s) (H := H) (E := E) sc__law_curve hr
    exact (sss_cons (ss_setP 3 ok rfl (by first | exact Or.inl rfl | exact Or.inr rfl) (se_bin op_addF opv_add (se_p sp_int) (se_call c__law_take hr (by decide) rfl (sas_io 0 (sas_v (se_p sp_int) sas_nil))))) (sss_cons (ss_setO 4 ok rfl (by first | exact Or.inl rfl | exact Or.inr rfl) (se_lst ses_nil)) (sss_cons (ss_setO 5 ok rfl (by first | exact Or.inl rfl | exact Or.inr rfl) (se_lst ses_nil)) (sss_cons (ss_for ok .never (si_range1 rfl Z.n_range (se_p (sp_var 3))) (sg_n 6 ok rfl (by first | exact Or.inl rfl | exact Or.inr rfl) fixSet) (sss_cons (ss_expr (se_append 4 (se_bin op_addF opv_add (se_p (sp_bin op_addF opv_add (sp_ix ix_seq opv_ix (sp_bin op_addF opv_add (sp_var 4) (sp_lst (sps_cons sp_int sps_nil))) (sp_bin op_sub opv_sub (sp_var 6) sp_int)) sp_int)) (se_call c__law_take hr (by decide) rfl (sas_io 0 (sas_v (se_p (sp_var 1)) sas_nil)))))) (sss_one (ss_expr (se_append 5 (se_bin op_addF opv_add (se_p (sp_bin op_addF opv_add (sp_ix ix_seq opv_ix (sp_bin op_addF opv_add (sp_var 5) (sp_lst (sps_cons sp_int sps_nil))) (sp_bin op_sub opv_sub (sp_var 6) sp_int)) sp_int)) (se_call c__law_take hr (by decide) rfl (sas_io 0 (sas_v (se_p (sp_var 2)) sas_nil))))))))) (sss_one (ss_ret (se_t1 call_tuple_of unv_tup rfl Z.n_tuple (by rfl) (se_comp ok (si_range1 rfl Z.n_range (se_p (sp_var 3))) (blkOk_by (by first | rfl | decide +kernel)) (own := [("_law_k", 6)]) (fun _ _ _ _ _ => (sg_n 6 ok.blk rfl (by first | exact Or.inl rfl | exact Or.inr rfl) wipSet)) (fun _ _ _ _ _ => sets_nil) (fun _ _ _ _ _ => (se_p (sp_tup (sps_cons (sp_ix ix_seq opv_ix (sp_var 4) (sp_var 6)) (sps_cons (sp_ix ix_seq opv_ix (sp_var 5) (sp_bin op_sub opv_sub (sp_bin op_sub opv_sub (sp_var 3) sp_int) (sp_var 6))) sps_nil)))))))))))))
theorem c__law_guards {f : Addr} {fd : FuncData} (F : C8.Def K mg "_law_guards" s__law_guards f fd) (bi : Binds K fd ["_law_stream_here", "_law_names_here", "_law_far", "_law_long"] []) (Z : Fr K mg)  (c__law_take : C8.Cal P w K mg base 1 "_law_take" (spF K mg 2 F__law_take) []) (c__law_curve : C8.Cal P w K mg base 2 "_law_curve" (spF K mg 3 F__law_curve) []) : C8.Cal P w K mg base 3 "_law_guards" (spF K mg 4 F__law_guards) [] :=
  cal_sem F bi sc__law_guards rfl rfl (by decide) fun cdv A outer s H E hr => by
    have ok := bodyOk (P := P) (w := w) (K := K) (mg := mg) (base := base) (qual := "_law_guards") (cdv := cdv) (A := A) (outer := outer) (s := s) (H := H) (E := E) sc__law_guards hr
    exact (sss_cons (ss_setO 4 ok rfl (by first | exact Or.inl rfl | exact Or.inr rfl) (se_lst ses_nil)) (sss_cons (ss_setO 5 ok rfl (by first | exact Or.inl rfl | exact Or.inr rfl) (se_lst ses_nil)) (sss_cons (ss_for ok .never (si_range1 rfl Z.n_range (se_p (sp_b1 call_lenF unv_len rfl Z.n_len (by rfl) (sp_var 1)))) (sg_n 6 ok rfl (by first | exact Or.inl rfl | exact Or.inr rfl) fixSet) (sss_cons (ss_setP 7 ok rfl (by first | exact Or.inl rfl | exact Or.inr rfl) (se_ix ix_seq opv_ix (se_lst (ses_cons (se_p (sp_bin op_sub opv_sub (sp_var 6) sp_int)) (ses_cons (se_call c__law_take hr (by decide) rfl (sas_io 0 (sas_v (se_fz (se_b2 (call_max2 ok.calm) opv_max2 rfl Z.n_max (by rfl) (se_p sp_int) (se_p (sp_var 6)))) sas_nil))) ses_nil))) (se_call c__law_take hr (by decide) rfl (sas_io 0 (sas_v (se_p sp_int) sas_nil))))) (sss_cons (ss_setP 8 ok rfl (by first | exact Or.inl rfl | exact Or.inr rfl) (se_p sp_non)) (sss_cons (ss_setP 9 ok rfl (by first | exact Or.inl rfl | exact Or.inr rfl) (se_p sp_int)) (sss_cons (ss_if (sew_t (sew_and (set_cmpP op_gt opv_gt (sp_var 6) sp_int rfl) (sew_and (set_cmp op_gt opv_gt (se_call c__law_take hr (by decide) rfl (sas_io 0 (sas_v (se_p sp_int) sas_nil))) (se_p sp_int) rfl) (sew_and1 (set_cmpP op_lt opv_lt (sp_ix ix_seq opv_ix (sp_var 5) (sp_var 7)) sp_int rfl))))) (sss_cons (ss_setP 8 ok rfl (by first | exact Or.inl rfl | exact Or.inr rfl) (se_p (sp_ix ix_seq opv_ix (sp_var 1) (sp_var 7)))) (sss_one (ss_setP 9 ok rfl (by first | exact Or.inl rfl | exact Or.inr rfl) (se_p (sp_bin op_addF opv_add (sp_ix ix_seq opv_ix (sp_var 5) (sp_var 7)) sp_int))))) sss_nil) (sss_cons (ss_expr (se_append 5 (se_p (sp_var 9)))) (sss_cons (ss_setP 10 ok rfl (by first | exact Or.inl rfl | exact Or.inr rfl) (se_call c__law_curve hr (by decide) rfl (sas_io 0 (sas_v (se_p (sp_var 2)) (sas_v (se_p (sp_var 3)) sas_nil))))) (sss_one (ss_expr (se_append 4 (se_tup (ses_cons (se_p (sp_ix ix_seq opv_ix (sp_var 1) (sp_var 6))) (ses_cons (se_p (sp_var 8)) (ses_cons (se_p (sp_var 10)) (ses_cons (se_call c__law_take hr (by decide) rfl (sas_io 0 (sas_v (se_fz (se_ix ix_seq opv_ix (se_lst (ses_cons (se_p sp_int) (ses_cons (se_p (sp_var 3)) ses_nil))) (se_call c__law_take hr (by decide) rfl (sas_io 0 (sas_v (se_p sp_int) sas_nil))))) sas_nil))) (ses_cons (se_call c__law_take hr (by decide) rfl (sas_io 0 (sas_v (se_fz (se_ix ix_seq opv_ix (se_lst (ses_cons (se_p sp_int) (ses_cons (se_p (sp_var 3)) ses_nil))) (se_call c__law_take hr (by decide) rfl (sas_io 0 (sas_v (se_p sp_int) sas_nil))))) sas_nil))) ses_nil)))))))))))))))) (sss_one (ss_ret (se_p (sp_t1 call_tuple_of unv_tup rfl Z.n_tuple (by rfl) (sp_var 4))))))))
theorem c__law_loads {f : Addr} {fd : FuncData} (F : C8.Def K mg "_law_loads" s__law_loads f fd) (bi : Binds K fd ["_law_stream_here", "_law_names_here", "_law_guards_here", "_law_far", "_law_long"] []) (Z : Fr K mg)  (c__law_take : C8.Cal P w K mg base 1 "_law_take" (spF K mg 2 F__law_take) []) : C8.Cal P w K mg base 2 "_law_loads" (spF K mg 5 F__law_loads) [] :=
  cal_sem F bi sc__law_loads rfl rfl (by decide) fun cdv A outer s H E hr => by
    have ok := bodyOk (P := P) (w := w) (K := K) (mg := mg) (base := base) (qual := "_law_loads") (cdv := cdv) (A := A) (outer := outer) (s := s) (H := H) (E := E) sc__law_loads hr
    exact (sss_cons (ss_setO 5 ok rfl (by first | exact Or.inl rfl | exact Or.inr rfl) (se_lst ses_nil)) (sss_cons (ss_for ok .never (si_val (se_p (sp_var 1))) (sg_n 6 ok rfl (by first | exact Or.inl rfl | exact Or.inr rfl) fixSet) (sss_cons (ss_setLcP 7 ok rfl rfl (sw_true rfl rfl rfl rfl) (si_range1 rfl Z.n_range (se_call c__law_take hr (by decide) rfl (sas_io 0 (sas_v (se_p sp_int) sas_nil)))) (blkOk_by (by first | rfl | decide +kernel)) (own := [("_law_k", 9)]) (fun _ _ _ _ _ => (sg_n 9 ok.blk rfl (by first | exact Or.inl rfl | exact Or.inr rfl) wipSet)) (fun _ _ _ _ _ => sets_nil) (fun _ _ _ _ _ => (se_tup (ses_cons (se_bin op_addF opv_add (se_p sp_int) (se_call c__law_take hr (by decide) rfl (sas_io 0 (sas_v (se_p (sp_var 4)) sas_nil)))) (ses_cons (se_call c__law_take hr (by decide) rfl (sas_io 0 (sas_v (se_p (sp_var 3)) sas_nil))) ses_nil))))) (sss_cons (ss_setP 8 ok rfl (by first | exact Or.inl rfl | exact Or.inr rfl) (se_ix ix_seq opv_ix (se_ix ix_seq opv_ix (se_p (sp_var 2)) (se_call c__law_take hr (by decide) rfl (sas_io 0 (sas_v (se_p (sp_b1 call_lenF unv_len rfl Z.n_len (by rfl) (sp_var 2))) sas_nil)))) (se_p sp_int))) (sss_one (ss_expr (se_append 5 (se_tup (ses_cons (se_p (sp_var 6)) (ses_cons (se_p (sp_var 8)) (ses_cons (se_p (sp_t1 call_tuple_of unv_tup rfl Z.n_tuple (by rfl) (sp_var 7))) (ses_cons (se_call c__law_take hr (by decide) rfl (sas_io 0 (sas_v (se_p (sp_var 3)) sas_nil))) (ses_cons (se_cmp op_gt opv_gt (se_call c__law_take hr (by decide) rfl (sas_io 0 (sas_v (se_p sp_int) sas_nil))) (se_p sp_int) rfl) ses_nil)))))))))))) (sss_one (ss_ret (se_p (sp_t1 call_tuple_of unv_tup rfl Z.n_tuple (by rfl) (sp_var 5)))))))
theorem c__law_board {f : Addr} {fd : FuncData} (F : C8.Def K mg "_law_board" s__law_board f fd) (bi : Binds K fd ["_law_stream_here", "_law_most", "_law_many", "_law_far", "_law_long"] []) (Z : Fr K mg)  (c__law_take : C8.Cal P w K mg base 1 "_law_take" (spF K mg 2 F__law_take) []) (c__law_names : C8.Cal P w K mg base 2 "_law_names" (spF K mg 2 F__law_names) []) (c__law_guards : C8.Cal P w K mg base 3 "_law_guards" (spF K mg 4 F__law_guards) []) (c__law_loads : C8.Cal P w K mg base 2 "_law_loads" (spF K mg 5 F__law_loads) []) : C8.Cal P w K mg base 4 "_law_board" (spF K mg 5 F__law_board) [] :=
  cal_sem F bi sc__law_board rfl rfl (by decide) fun cdv A outer s H E hr => by
    have ok := bodyOk (P := P) (w := w) (K := K) (mg := mg) (base := base) (qual := "_law_board") (cdv := cdv) (A := A) (outer := outer) (s := s) (H := H) (E := E) sc__law_board hr
    exact (sss_cons (ss_setP 5 ok rfl (by first | exact Or.inl rfl | exact Or.inr rfl) (se_bin op_addF opv_add (se_p sp_int) (se_call c__law_take hr (by decide) rfl (sas_io 0 (sas_v (se_p (sp_var 1)) sas_nil))))) (sss_cons (ss_setP 6 ok rfl (by first | exact Or.inl rfl | exact Or.inr rfl) (se_call c__law_names hr (by decide) rfl (sas_io 0 (sas_v (se_p (sp_bin op_addF opv_add (sp_var 5) (sp_var 2))) sas_nil)))) (sss_cons (ss_setP 7 ok rfl (by first | exact Or.inl rfl | exact Or.inr rfl) (se_call c__law_guards hr (by decide) rfl (sas_io 0 (sas_v (se_p (sp_sl (sp_var 6) spo_none (spo_some (sp_var 5)))) (sas_v (se_p (sp_var 3)) (sas_v (se_p (sp_var 4)) sas_nil)))))) (sss_one (ss_ret (se_tup (ses_cons (se_p (sp_var 7)) (ses_cons (se_call c__law_loads hr (by decide) rfl (sas_io 0 (sas_v (se_p (sp_sl (sp_var 6) (spo_some (sp_var 5)) spo_none)) (sas_v (se_p (sp_var 7)) (sas_v (se_p (sp_var 3)) (sas_v (se_p (sp_var 4)) sas_nil)))))) ses_nil))))))))
theorem c_guards_of {f : Addr} {fd : FuncData} (F : C8.Def K mg "guards_of" s_guards_of f fd) (bi : Binds K fd ["board"] []) (Z : Fr K mg)   : C8.Cal P w K mg base 1 "guards_of" (spF K mg 1 F_guards_of) [] :=
  cal_sem F bi sc_guards_of rfl rfl (by decide) fun cdv A outer s H E hr => by
    have ok := bodyOk (P := P) (w := w) (K := K) (mg := mg) (base := base) (qual := "guards_of") (cdv := cdv) (A := A) (outer := outer) (s := s) (H := H) (E := E) sc_guards_of hr
    exact (sss_one (ss_ret (se_comp ok (si_val (se_p (sp_ix ix_seq opv_ix (sp_var 0) sp_int))) (blkOk_by (by first | rfl | decide +kernel)) (own := [("guard", 1)]) (fun _ _ _ _ _ => (sg_n 1 ok.blk rfl (by first | exact Or.inl rfl | exact Or.inr rfl) wipSet)) (fun _ _ _ _ _ => sets_nil) (fun _ _ _ _ _ => (se_p (sp_ix ix_seq opv_ix (sp_var 1) sp_int))))))
theorem c_chain {f : Addr} {fd : FuncData} (F : C8.Def K mg "chain" s_chain f fd) (bi : Binds K fd ["guards", "name"] []) (Z : Fr K mg)   : C8.Cal P w K mg base 1 "chain" (spF K mg 2 F_chain) [] :=
  cal_sem F bi sc_chain rfl rfl (by decide) fun cdv A outer s H E hr => by
    have ok := bodyOk (P := P) (w := w) (K := K) (mg := mg) (base := base) (qual := "chain") (cdv := cdv) (A := A) (outer := outer) (s := s) (H := H) (E := E) sc_chain hr
    exact (sss_cons (ss_setP 2 ok rfl (by first | exact Or.inl rfl | exact Or.inr rfl) (se_dictP ok rfl Z.n_dict (by rfl) (se_comp ok (si_val (se_p (sp_var 0))) (blkOk_by (by first | rfl | decide +kernel)) (own := [("guard", 4)]) (fun _ _ _ _ _ => (sg_n 4 ok.blk rfl (by first | exact Or.inl rfl | exact Or.inr rfl) wipSet)) (fun _ _ _ _ _ => sets_nil) (fun _ _ _ _ _ => (se_p (sp_tup (sps_cons (sp_ix ix_seq opv_ix (sp_var 4) sp_int) (sps_cons (sp_ix ix_seq opv_ix (sp_var 4) sp_int) sps_nil)))))))) (sss_cons (ss_setO 3 ok rfl (by first | exact Or.inl rfl | exact Or.inr rfl) (se_lst ses_nil)) (sss_cons (ss_while (fun _ => fuel) .never (set_cmpP op_notN opv_notN (sp_var 1) sp_non rfl) (sss_cons (ss_expr (se_append 3 (se_p (sp_var 1)))) (sss_one (ss_setP 1 ok rfl (by first | exact Or.inl rfl | exact Or.inr rfl) (se_p (sp_ix (ix_F ok) opv_ixF (sp_var 2) (sp_var 1))))))) (sss_one (ss_ret (se_move 3))))))
theorem c_over {f : Addr} {fd : FuncData} (F : C8.Def K mg "over" s_over f fd) (bi : Binds K fd ["board", "place"] []) (Z : Fr K mg)  (c_guards_of : C8.Cal P w K mg base 1 "guards_of" (spF K mg 1 F_guards_of) []) (c_chain : C8.Cal P w K mg base 1 "chain" (spF K mg 2 F_chain) []) : C8.Cal P w K mg base 2 "over" (spF K mg 2 F_over) [] :=
  cal_sem F bi sc_over rfl rfl (by decide) fun cdv A outer s H E hr => by
    have ok := bodyOk (P := P) (w := w) (K := K) (mg := mg) (base := base) (qual := "over") (cdv := cdv) (A := A) (outer := outer) (s := s) (H := H) (E := E) sc_over hr
    exact (sss_cons (ss_if (set_cmp (op_inF ok) opv_in (se_p (sp_var 1)) (se_call c_guards_of hr (by decide) rfl (sas_v (se_p (sp_var 0)) sas_nil)) rfl) (sss_one (ss_ret (se_call c_chain hr (by decide) rfl (sas_v (se_p (sp_ix ix_seq opv_ix (sp_var 0) sp_int)) (sas_v (se_p (sp_var 1)) sas_nil))))) sss_nil) (sss_cons (ss_for ok .never (si_val (se_p (sp_ix ix_seq opv_ix (sp_var 0) sp_int))) (sg_tup ok (sgs_cons (fixOk _) (sg_n 2 ok rfl (by first | exact Or.inl rfl | exact Or.inr rfl) fixSet) (sgs_cons (fixOk _) (sg_n 3 ok rfl (by first | exact Or.inl rfl | exact Or.inr rfl) fixSet) (sgs_cons (fixOk _) (sg_n 4 ok rfl (by first | exact Or.inl rfl | exact Or.inr rfl) fixSet) (sgs_cons (fixOk _) (sg_n 5 ok rfl (by first | exact Or.inl rfl | exact Or.inr rfl) fixSet) (sgs_cons (fixOk _) (sg_n 6 ok rfl (by first | exact Or.inl rfl | exact Or.inr rfl) fixSet) (sgs_nil (fixOk _))))))) (hl := (aCons_len (aCons_len (aCons_len (aCons_len (aCons_len aNil_len))))))) (sss_one (ss_if (set_cmpP (op_eqD ok.u64) opv_eq (sp_var 2) (sp_var 1) rfl) (sss_one (ss_ret (se_call c_chain hr (by decide) rfl (sas_v (se_p (sp_ix ix_seq opv_ix (sp_var 0) sp_int)) (sas_v (se_p (sp_var 3)) sas_nil))))) sss_nil))) (sss_one ss_never)))
theorem c_draws {f : Addr} {fd : FuncData} (F : C8.Def K mg "draws" s_draws f fd) (bi : Binds K fd ["board", "opened", "pulls"] []) (Z : Fr K mg)  (c_guards_of : C8.Cal P w K mg base 1 "guards_of" (spF K mg 1 F_guards_of) []) (c_over : C8.Cal P w K mg base 2 "over" (spF K mg 2 F_over) []) : C8.Cal P w K mg base 3 "draws" (spF K mg 3 F_draws) [] :=
  cal_sem F bi sc_draws rfl rfl (by decide) fun cdv A outer s H E hr => by
    have ok := bodyOk (P := P) (w := w) (K := K) (mg := mg) (base := base) (qual := "draws") (cdv := cdv) (A := A) (outer := outer) (s := s) (H := H) (E := E) sc_draws hr
    exact (sss_cons (ss_setO 3 ok rfl (by first | exact Or.inl rfl | exact Or.inr rfl) se_dict0) (sss_cons (ss_for ok .never (si_val (se_call c_guards_of hr (by decide) rfl (sas_v (se_p (sp_var 0)) sas_nil))) (sg_n 4 ok rfl (by first | exact Or.inl rfl | exact Or.inr rfl) fixSet) (sss_one (ss_setIt 3 ok (se_p (sp_var 4)) (se_p sp_int)))) (sss_cons (ss_forK 2 ok .never (sg_n 5 ok rfl (by first | exact Or.inl rfl | exact Or.inr rfl) fixSet) (sss_cons (ss_setP 6 ok rfl (by first | exact Or.inl rfl | exact Or.inr rfl) (se_call c_over hr (by decide) rfl (sas_v (se_p (sp_var 0)) (sas_v (se_p (sp_var 5)) sas_nil)))) (sss_one (ss_if (set_not (set_val (se_b1 (cr_any ok.calm) unv_any rfl Z.n_any (by rfl) (se_comp ok (si_val (se_p (sp_var 6))) (blkOk_by (by first | rfl | decide +kernel)) (own := [("guard", 4)]) (fun _ _ _ _ _ => (sg_n 4 ok.blk rfl (by first | exact Or.inl rfl | exact Or.inr rfl) wipSet)) (fun _ _ _ _ _ => sets_nil) (fun _ _ _ _ _ => (se_p (sp_cmp (op_inF ok.blk) opv_in (sp_var 4) (sp_var 1) rfl))))))) (sss_one (ss_for ok .never (si_val (se_p (sp_var 6))) (sg_n 4 ok rfl (by first | exact Or.inl rfl | exact Or.inr rfl) fixSet) (sss_one (ss_augI 3 ok ip_add (sp_var 4) (sp_ix (ix_F ok) opv_ixF (sp_var 2) (sp_var 5)))))) sss_nil)))) (sss_one (ss_ret (se_move 3))))))
theorem c_rest {f : Addr} {fd : FuncData} (F : C8.Def K mg "rest" s_rest f fd) (bi : Binds K fd ["board"] []) (Z : Fr K mg)  (c_draws : C8.Cal P w K mg base 3 "draws" (spF K mg 3 F_draws) []) : C8.Cal P w K mg base 4 "rest" (spF K mg 1 F_rest) [] :=
  cal_sem F bi sc_rest rfl rfl (by decide) fun cdv A outer s H E hr => by
    have ok := bodyOk (P := P) (w := w) (K := K) (mg := mg) (base := base) (qual := "rest") (cdv := cdv) (A := A) (outer := outer) (s := s) (H := H) (E := E) sc_rest hr
    exact (sss_cons (ss_setO 1 ok rfl (by first | exact Or.inl rfl | exact Or.inr rfl) se_dict0) (sss_cons (ss_for ok .never (si_val (se_p (sp_ix ix_seq opv_ix (sp_var 0) sp_int))) (sg_tup ok (sgs_cons (fixOk _) (sg_n 2 ok rfl (by first | exact Or.inl rfl | exact Or.inr rfl) fixSet) (sgs_cons (fixOk _) (sg_n 3 ok rfl (by first | exact Or.inl rfl | exact Or.inr rfl) fixSet) (sgs_cons (fixOk _) (sg_n 4 ok rfl (by first | exact Or.inl rfl | exact Or.inr rfl) fixSet) (sgs_cons (fixOk _) (sg_n 5 ok rfl (by first | exact Or.inl rfl | exact Or.inr rfl) fixSet) (sgs_cons (fixOk _) (sg_n 6 ok rfl (by first | exact Or.inl rfl | exact Or.inr rfl) fixSet) (sgs_nil (fixOk _))))))) (hl := (aCons_len (aCons_len (aCons_len (aCons_len (aCons_len aNil_len))))))) (sss_one (ss_if (set_val (se_p (sp_var 6))) (sss_one (ss_setIt 1 ok (se_p (sp_var 2)) (se_p (sp_var 5)))) sss_nil))) (sss_one (ss_ret (se_call c_draws hr (by decide) rfl (sas_v (se_p (sp_var 0)) (sas_v (se_fz (se_lst ses_nil)) (sas_v (se_fz (se_frz 1)) sas_nil))))))))
theorem c_least_of {f : Addr} {fd : FuncData} (F : C8.Def K mg "least_of" s_least_of f fd) (bi : Binds K fd ["curve"] []) (Z : Fr K mg)   : C8.Cal P w K mg base 1 "least_of" (spF K mg 1 F_least_of) [] :=
  cal_sem F bi sc_least_of rfl rfl (by decide) fun cdv A outer s H E hr => by
    have ok := bodyOk (P := P) (w := w) (K := K) (mg := mg) (base := base) (qual := "least_of") (cdv := cdv) (A := A) (outer := outer) (s := s) (H := H) (E := E) sc_least_of hr
    exact (sss_one (ss_ret (se_p (sp_ix ix_seq opv_ix (sp_ix ix_seq opv_ix (sp_var 0) sp_int) sp_int))))
theorem c_awake {f : Addr} {fd : FuncData} (F : C8.Def K mg "awake" s_awake f fd) (bi : Binds K fd ["board", "found"] []) (Z : Fr K mg)  (c_least_of : C8.Cal P w K mg base 1 "least_of" (spF K mg 1 F_least_of) []) : C8.Cal P w K mg base 2 "awake" (spF K mg 2 F_awake) [] :=
  cal_sem F bi sc_awake rfl rfl (by decide) fun cdv A outer s H E hr => by
    have ok := bodyOk (P := P) (w := w) (K := K) (mg := mg) (base := base) (qual := "awake") (cdv := cdv) (A := A) (outer := outer) (s := s) (H := H) (E := E) sc_awake hr
    exact (sss_one (ss_ret (se_comp ok (si_val (se_p (sp_ix ix_seq opv_ix (sp_var 0) sp_int))) (blkOk_by (by first | rfl | decide +kernel)) (own := [("name", 2), ("under", 3), ("curve", 4), ("delay", 5), ("wait", 6)]) (fun _ _ _ _ _ => (sg_tup ok.blk (sgs_cons (wipOk _) (sg_n 2 ok.blk rfl (by first | exact Or.inl rfl | exact Or.inr rfl) wipSet) (sgs_cons (wipOk _) (sg_n 3 ok.blk rfl (by first | exact Or.inl rfl | exact Or.inr rfl) wipSet) (sgs_cons (wipOk _) (sg_n 4 ok.blk rfl (by first | exact Or.inl rfl | exact Or.inr rfl) wipSet) (sgs_cons (wipOk _) (sg_n 5 ok.blk rfl (by first | exact Or.inl rfl | exact Or.inr rfl) wipSet) (sgs_cons (wipOk _) (sg_n 6 ok.blk rfl (by first | exact Or.inl rfl | exact Or.inr rfl) wipSet) (sgs_nil (wipOk _))))))) (hl := (aCons_len (aCons_len (aCons_len (aCons_len (aCons_len aNil_len)))))))) (fun _ _ _ _ _ => (sets_one (set_cmp op_ge opv_ge (se_p (sp_ix (ix_F ok.blk) opv_ixF (sp_var 1) (sp_var 2))) (se_call c_least_of hr (by decide) rfl (sas_v (se_p (sp_var 4)) sas_nil)) rfl))) (fun _ _ _ _ _ => (se_p (sp_var 2))))))
theorem c_ask_guard {f : Addr} {fd : FuncData} (F : C8.Def K mg "ask_guard" s_ask_guard f fd) (bi : Binds K fd ["board", "guard"] []) (Z : Fr K mg)  (c_guards_of : C8.Cal P w K mg base 1 "guards_of" (spF K mg 1 F_guards_of) []) : CalX P w K mg base 4 "ask_guard" (spX K mg 2 F_ask_guard) :=
  cal_semX F bi sc_ask_guard rfl rfl (by decide) fun cdv A outer s H E hr tk hp => by
    have ok := bodyOkX (P := P) (w := w) (K := K) (mg := mg) (base := base) (qual := "ask_guard") (cdv := cdv) (A := A) (outer := outer) (s := s) (H := H) (E := E) sc_ask_guard hr
    exact (sssX_one (ssX_if (set_cmp (op_ninF ok) opv_nin (se_p (sp_var 1)) (se_call c_guards_of hr (by decide) rfl (sas_v (se_p (sp_var 0)) sas_nil)) rfl) (sssX_one (ssX_raise ok tk (Z.ex.gl "NoPlace" (by decide +kernel)) (pmk_c Z.xx_NoPlace (Z.ex.gl "NoPlace" (by decide +kernel)) rfl))) sssX_nil))
theorem c_kids {f : Addr} {fd : FuncData} (F : C8.Def K mg "kids" s_kids f fd) (bi : Binds K fd ["board", "guard"] []) (Z : Fr K mg)  (c_ask_guard : CalX P w K mg base 4 "ask_guard" (spX K mg 2 F_ask_guard)) : CalX P w K mg base 5 "kids" (spX K mg 2 F_kids) :=
  cal_semX F bi sc_kids rfl rfl (by decide) fun cdv A outer s H E hr tk hp => by
    have ok := bodyOkX (P := P) (w := w) (K := K) (mg := mg) (base := base) (qual := "kids") (cdv := cdv) (A := A) (outer := outer) (s := s) (H := H) (E := E) sc_kids hr
    exact (sssX_cons (ssX_expr (seX_call c_ask_guard tk hr (by decide) rfl (sas_v (se_p (sp_var 0)) (sas_v (se_p (sp_var 1)) sas_nil)))) (sssX_one (ssX_of (ss_ret (se_comp ok (si_val (se_p (sp_ix ix_seq opv_ix (sp_var 0) sp_int))) (blkOk_by (by first | rfl | decide +kernel)) (own := [("name", 2), ("under", 3), ("curve", 4), ("delay", 5), ("wait", 6)]) (fun _ _ _ _ _ => (sg_tup ok.blk (sgs_cons (wipOk _) (sg_n 2 ok.blk rfl (by first | exact Or.inl rfl | exact Or.inr rfl) wipSet) (sgs_cons (wipOk _) (sg_n 3 ok.blk rfl (by first | exact Or.inl rfl | exact Or.inr rfl) wipSet) (sgs_cons (wipOk _) (sg_n 4 ok.blk rfl (by first | exact Or.inl rfl | exact Or.inr rfl) wipSet) (sgs_cons (wipOk _) (sg_n 5 ok.blk rfl (by first | exact Or.inl rfl | exact Or.inr rfl) wipSet) (sgs_cons (wipOk _) (sg_n 6 ok.blk rfl (by first | exact Or.inl rfl | exact Or.inr rfl) wipSet) (sgs_nil (wipOk _))))))) (hl := (aCons_len (aCons_len (aCons_len (aCons_len (aCons_len aNil_len)))))))) (fun _ _ _ _ _ => (sets_one (set_cmpP (op_eqD ok.blk.u64) opv_eq (sp_var 3) (sp_var 1) rfl))) (fun _ _ _ _ _ => (se_p (sp_var 2))))))))
theorem c_held {f : Addr} {fd : FuncData} (F : C8.Def K mg "held" s_held f fd) (bi : Binds K fd ["board", "found", "guard"] []) (Z : Fr K mg)  (c_awake : C8.Cal P w K mg base 2 "awake" (spF K mg 2 F_awake) []) (c_kids : CalX P w K mg base 5 "kids" (spX K mg 2 F_kids)) : CalX P w K mg base 6 "held" (spX K mg 3 F_held) :=
  cal_semX F bi sc_held rfl rfl (by decide) fun cdv A outer s H E hr tk hp => by
    have ok := bodyOkX (P := P) (w := w) (K := K) (mg := mg) (base := base) (qual := "held") (cdv := cdv) (A := A) (outer := outer) (s := s) (H := H) (E := E) sc_held hr
    exact (sssX_cons (ssX_of (ss_setP 3 ok rfl (by first | exact Or.inl rfl | exact Or.inr rfl) (se_call c_awake hr (by decide) rfl (sas_v (se_p (sp_var 0)) (sas_v (se_p (sp_var 1)) sas_nil))))) (sssX_one (ssX_ret (seX_b1 (cr_any ok.calm) unv_any rfl Z.n_any (by rfl) (seX_comp ok (siX_val (seX_call c_kids tk hr (by decide) rfl (sas_v (se_p (sp_var 0)) (sas_v (se_p (sp_var 2)) sas_nil)))) (blkOk_by (by first | rfl | decide +kernel)) (own := [("kid", 4)]) (fun _ _ _ _ _ => (sg_n 4 ok.blk rfl (by first | exact Or.inl rfl | exact Or.inr rfl) wipSet)) (fun _ _ _ _ _ => sets_nil) (fun _ _ _ _ _ => (se_p (sp_cmp (op_inF ok.blk) opv_in (sp_var 4) (sp_var 3) rfl))))))))
theorem c_loud {f : Addr} {fd : FuncData} (F : C8.Def K mg "loud" s_loud f fd) (bi : Binds K fd ["board"] []) (Z : Fr K mg)  (c_rest : C8.Cal P w K mg base 4 "rest" (spF K mg 1 F_rest) []) (c_awake : C8.Cal P w K mg base 2 "awake" (spF K mg 2 F_awake) []) : C8.Cal P w K mg base 5 "loud" (spF K mg 1 F_loud) [] :=
  cal_sem F bi sc_loud rfl rfl (by decide) fun cdv A outer s H E hr => by
    have ok := bodyOk (P := P) (w := w) (K := K) (mg := mg) (base := base) (qual := "loud") (cdv := cdv) (A := A) (outer := outer) (s := s) (H := H) (E := E) sc_loud hr
    exact (sss_cons (ss_for ok .never (si_val (se_call c_awake hr (by decide) rfl (sas_v (se_p (sp_var 0)) (sas_v (se_fz (se_call c_rest hr (by decide) rfl (sas_v (se_p (sp_var 0)) sas_nil))) sas_nil)))) (sg_n 1 ok rfl (by first | exact Or.inl rfl | exact Or.inr rfl) fixSet) (sss_one (ss_ret (se_p (sp_var 1))))) (sss_one (ss_ret (se_p sp_non))))
theorem c__law_over {f : Addr} {fd : FuncData} (F : C8.Def K mg "_law_over" s__law_over f fd) (bi : Binds K fd ["_law_board_here", "_law_place"] []) (Z : Fr K mg)   : C8.Cal P w K mg base 1 "_law_over" (spF K mg 2 F__law_over) [] :=
  cal_sem F bi sc__law_over rfl rfl (by decide) fun cdv A outer s H E hr => by
    have ok := bodyOk (P := P) (w := w) (K := K) (mg := mg) (base := base) (qual := "_law_over") (cdv := cdv) (A := A) (outer := outer) (s := s) (H := H) (E := E) sc__law_over hr
    exact (sss_cons (ss_setP 2 ok rfl (by first | exact Or.inl rfl | exact Or.inr rfl) (se_dictP ok rfl Z.n_dict (by rfl) (se_comp ok (si_val (se_p (sp_ix ix_seq opv_ix (sp_var 0) sp_int))) (blkOk_by (by first | rfl | decide +kernel)) (own := [("_law_guard", 5)]) (fun _ _ _ _ _ => (sg_n 5 ok.blk rfl (by first | exact Or.inl rfl | exact Or.inr rfl) wipSet)) (fun _ _ _ _ _ => sets_nil) (fun _ _ _ _ _ => (se_p (sp_tup (sps_cons (sp_ix ix_seq opv_ix (sp_var 5) sp_int) (sps_cons (sp_ix ix_seq opv_ix (sp_var 5) sp_int) sps_nil)))))))) (sss_cons (ss_setP 3 ok rfl (by first | exact Or.inl rfl | exact Or.inr rfl) (se_get ok (se_dictP ok rfl Z.n_dict (by rfl) (se_comp ok (si_val (se_p (sp_ix ix_seq opv_ix (sp_var 0) sp_int))) (blkOk_by (by first | rfl | decide +kernel)) (own := [("_law_load", 6)]) (fun _ _ _ _ _ => (sg_n 6 ok.blk rfl (by first | exact Or.inl rfl | exact Or.inr rfl) wipSet)) (fun _ _ _ _ _ => sets_nil) (fun _ _ _ _ _ => (se_p (sp_tup (sps_cons (sp_ix ix_seq opv_ix (sp_var 6) sp_int) (sps_cons (sp_ix ix_seq opv_ix (sp_var 6) sp_int) sps_nil))))))) (sp_var 1) (sp_var 1))) (sss_cons (ss_setO 4 ok rfl (by first | exact Or.inl rfl | exact Or.inr rfl) (se_lst ses_nil)) (sss_cons (ss_while (fun _ => fuel) .never (set_cmpP op_notN opv_notN (sp_var 3) sp_non rfl) (sss_cons (ss_expr (se_append 4 (se_p (sp_var 3)))) (sss_one (ss_setP 3 ok rfl (by first | exact Or.inl rfl | exact Or.inr rfl) (se_p (sp_ix (ix_F ok) opv_ixF (sp_var 2) (sp_var 3))))))) (sss_one (ss_ret (se_move 4)))))))
theorem c__law_no_guard {f : Addr} {fd : FuncData} (F : C8.Def K mg "_law_no_guard" s__law_no_guard f fd) (bi : Binds K fd ["_law_board_here", "_law_found", "_law_thing"] []) (Z : Fr K mg)  (c_held : CalX P w K mg base 6 "held" (spX K mg 3 F_held)) : C8.Cal P w K mg base 7 "_law_no_guard" (spF K mg 3 F__law_no_guard) [] :=
  cal_sem F bi sc__law_no_guard rfl rfl (by decide) fun cdv A outer s H E hr => by
    have ok := bodyOk (P := P) (w := w) (K := K) (mg := mg) (base := base) (qual := "_law_no_guard") (cdv := cdv) (A := A) (outer := outer) (s := s) (H := H) (E := E) sc__law_no_guard hr
    exact (sss_cons (ss_setP 3 ok rfl (by first | exact Or.inl rfl | exact Or.inr rfl) (se_p sp_bl)) (sss_cons (ss_ofX (ssX_try1 Z.ex rfl rfl rfl takes_no (fun W pn xe tk hp => by have ok := ok.tr (pn := pn) (xe := xe); exact (sssX_one (ssX_expr (seX_call c_held tk hr (by decide) rfl (sas_v (se_p (sp_var 0)) (sas_v (se_p (sp_var 1)) (sas_v (se_p (sp_var 2)) sas_nil))))))) (fun a pn => by have nd0 := ok.nd; exact (sss_one (ss_setPn 3 nd0 rfl (by first | exact Or.inl rfl | exact Or.inr rfl) (se_p sp_bl)))) (hy := by decide +kernel))) (sss_one (ss_ret (se_p (sp_var 3))))))
theorem c__law_right {f : Addr} {fd : FuncData} (F : C8.Def K mg "_law_right" s__law_right f fd) (bi : Binds K fd ["_law_board_here"] []) (Z : Fr K mg)  (c_rest : C8.Cal P w K mg base 4 "rest" (spF K mg 1 F_rest) []) (c_awake : C8.Cal P w K mg base 2 "awake" (spF K mg 2 F_awake) []) (c_held : CalX P w K mg base 6 "held" (spX K mg 3 F_held)) (c_loud : C8.Cal P w K mg base 5 "loud" (spF K mg 1 F_loud) []) (c__law_over : C8.Cal P w K mg base 1 "_law_over" (spF K mg 2 F__law_over) []) (c__law_no_guard : C8.Cal P w K mg base 7 "_law_no_guard" (spF K mg 3 F__law_no_guard) []) : C8.Cal P w K mg base 8 "_law_right" (spF K mg 1 F__law_right) [] :=
  cal_sem F bi sc__law_right rfl rfl (by decide) fun cdv A outer s H E hr => by
    have ok := bodyOk (P := P) (w := w) (K := K) (mg := mg) (base := base) (qual := "_law_right") (cdv := cdv) (A := A) (outer := outer) (s := s) (H := H) (E := E) sc__law_right hr
    exact (sss_cons (ss_setO 1 ok rfl (by first | exact Or.inl rfl | exact Or.inr rfl) (se_dictPO ok rfl Z.n_dict (by rfl) (se_comp ok (si_val (se_p (sp_ix ix_seq opv_ix (sp_var 0) sp_int))) (blkOk_by (by first | rfl | decide +kernel)) (own := [("_law_guard", 6)]) (fun _ _ _ _ _ => (sg_n 6 ok.blk rfl (by first | exact Or.inl rfl | exact Or.inr rfl) wipSet)) (fun _ _ _ _ _ => sets_nil) (fun _ _ _ _ _ => (se_p (sp_tup (sps_cons (sp_ix ix_seq opv_ix (sp_var 6) sp_int) (sps_cons sp_int sps_nil)))))))) (sss_cons (ss_for ok .never (si_val (se_p (sp_ix ix_seq opv_ix (sp_var 0) sp_int))) (sg_tup ok (sgs_cons (fixOk _) (sg_n 8 ok rfl (by first | exact Or.inl rfl | exact Or.inr rfl) fixSet) (sgs_cons (fixOk _) (sg_n 9 ok rfl (by first | exact Or.inl rfl | exact Or.inr rfl) fixSet) (sgs_cons (fixOk _) (sg_n 10 ok rfl (by first | exact Or.inl rfl | exact Or.inr rfl) fixSet) (sgs_cons (fixOk _) (sg_n 11 ok rfl (by first | exact Or.inl rfl | exact Or.inr rfl) fixSet) (sgs_cons (fixOk _) (sg_n 12 ok rfl (by first | exact Or.inl rfl | exact Or.inr rfl) fixSet) (sgs_nil (fixOk _))))))) (hl := (aCons_len (aCons_len (aCons_len (aCons_len (aCons_len aNil_len))))))) (sss_one (ss_for ok .never (si_val (se_call c__law_over hr (by decide) rfl (sas_v (se_p (sp_var 0)) (sas_v (se_p (sp_var 8)) sas_nil)))) (sg_n 6 ok rfl (by first | exact Or.inl rfl | exact Or.inr rfl) fixSet) (sss_one (ss_setIt 1 ok (se_p (sp_var 6)) (se_p (sp_bin op_addF opv_add (sp_ix (ix_F ok) opv_ixF (sp_var 1) (sp_var 6)) (sp_bin op_mulF opv_mul (sp_var 11) (sp_t1 call_int1 unv_int rfl Z.n_int (by rfl) (sp_var 12)))))))))) (sss_cons (ss_setP 2 ok rfl (by first | exact Or.inl rfl | exact Or.inr rfl) (se_call c_rest hr (by decide) rfl (sas_v (se_p (sp_var 0)) sas_nil))) (sss_cons (ss_if (sew_t (sew_or (set_not (set_val (se_p (sp_isi "dict" rfl Z.n_isinstance rfl Z.n_dict (by rfl) (sp_var 2))))) (sew_or1 (set_cmpP (op_neK ok) opv_neK (sp_var 2) (sp_var 1) rfl)))) (sss_one (ss_ret (se_p sp_bl))) sss_nil) (sss_cons (ss_setP 3 ok rfl (by first | exact Or.inl rfl | exact Or.inr rfl) (se_comp ok (si_val (se_p (sp_ix ix_seq opv_ix (sp_var 0) sp_int))) (blkOk_by (by first | rfl | decide +kernel)) (own := [("_law_guard", 6)]) (fun _ _ _ _ _ => (sg_n 6 ok.blk rfl (by first | exact Or.inl rfl | exact Or.inr rfl) wipSet)) (fun _ _ _ _ _ => (sets_one (set_cmpP op_ge opv_ge (sp_ix (ix_F ok.blk) opv_ixF (sp_var 1) (sp_ix ix_seq opv_ix (sp_var 6) sp_int)) (sp_ix ix_seq opv_ix (sp_ix ix_seq opv_ix (sp_ix ix_seq opv_ix (sp_var 6) sp_int) sp_int) sp_int) rfl))) (fun _ _ _ _ _ => (se_p (sp_ix ix_seq opv_ix (sp_var 6) sp_int))))) (sss_cons (ss_setO 4 ok rfl (by first | exact Or.inl rfl | exact Or.inr rfl) (se_call c_awake hr (by decide) rfl (sas_v (se_p (sp_var 0)) (sas_v (se_p (sp_var 2)) sas_nil)))) (sss_cons (ss_if (sew_t (sew_or (set_not (set_val (se_p (sp_isi "list" rfl Z.n_isinstance rfl Z.n_list (by rfl) (sp_var 4))))) (sew_or (set_cmpP (op_neD ok.u64) opv_ne (sp_var 4) (sp_var 3) rfl) (sew_or1 (set_cmp (op_neD ok.u64) opv_ne (se_call c_loud hr (by decide) rfl (sas_v (se_p (sp_var 0)) sas_nil)) (se_p (sp_ix ix_seq opv_ix (sp_bin op_addF opv_add (sp_var 3) (sp_lst (sps_cons sp_non sps_nil))) sp_int)) rfl))))) (sss_one (ss_ret (se_p sp_bl))) sss_nil) (sss_cons (ss_expr (se_append 4 (se_p sp_str))) (sss_cons (ss_setO 5 ok rfl (by first | exact Or.inl rfl | exact Or.inr rfl) (se_call c_rest hr (by decide) rfl (sas_v (se_p (sp_var 0)) sas_nil))) (sss_cons (ss_setIt 5 ok (se_p (sp_ix ix_seq opv_ix (sp_ix ix_seq opv_ix (sp_ix ix_seq opv_ix (sp_var 0) sp_int) sp_int) sp_int)) (se_p (sp_un un_neg unv_neg sp_int))) (sss_cons (ss_for ok .never (si_val (se_p (sp_ix ix_seq opv_ix (sp_var 0) sp_int))) (sg_n 6 ok rfl (by first | exact Or.inl rfl | exact Or.inr rfl) fixSet) (sss_cons (ss_setLcP 13 ok rfl rfl (sw_true rfl rfl rfl rfl) (si_val (se_p (sp_ix ix_seq opv_ix (sp_var 0) sp_int))) (blkOk_by (by first | rfl | decide +kernel)) (own := [("_law_other", 15)]) (fun _ _ _ _ _ => (sg_n 15 ok.blk rfl (by first | exact Or.inl rfl | exact Or.inr rfl) wipSet)) (fun _ _ _ _ _ => (sets_one (sew_t (sew_and (set_cmpP (op_eqD ok.blk.u64) opv_eq (sp_ix ix_seq opv_ix (sp_var 15) sp_int) (sp_ix ix_seq opv_ix (sp_var 6) sp_int) rfl) (sew_and1 (set_cmpP (op_inF ok.blk) opv_in (sp_ix ix_seq opv_ix (sp_var 15) sp_int) (sp_var 3) rfl)))))) (fun _ _ _ _ _ => (se_p (sp_ix ix_seq opv_ix (sp_var 15) sp_int)))) (sss_cons (ss_setP 14 ok rfl (by first | exact Or.inl rfl | exact Or.inr rfl) (se_call c_held.down hr (by decide) rfl (sas_v (se_p (sp_var 0)) (sas_v (se_p (sp_var 2)) (sas_v (se_p (sp_ix ix_seq opv_ix (sp_var 6) sp_int)) sas_nil))))) (sss_one (ss_if (sew_t (sew_or (set_not (set_val (se_p (sp_isi "bool" rfl Z.n_isinstance rfl Z.n_bool (by rfl) (sp_var 14))))) (sew_or1 (set_cmpP (op_neD ok.u64) opv_ne (sp_var 14) (sp_cmp (op_neD ok.u64) opv_ne (sp_var 13) (sp_lst sps_nil) rfl) rfl)))) (sss_one (ss_ret (se_p sp_bl))) sss_nil))))) (sss_cons (ss_for ok .never (si_val (se_bin op_addF opv_add (se_fz (se_lst (ses_cons (se_p sp_non) (ses_cons (se_p sp_int) (ses_cons (se_p sp_str) (ses_cons (se_lst (ses_cons (se_p (sp_ix ix_seq opv_ix (sp_ix ix_seq opv_ix (sp_ix ix_seq opv_ix (sp_var 0) sp_int) sp_int) sp_int)) ses_nil)) ses_nil)))))) (se_comp ok (si_val (se_p (sp_ix ix_seq opv_ix (sp_var 0) sp_int))) (blkOk_by (by first | rfl | decide +kernel)) (own := [("_law_load", 16)]) (fun _ _ _ _ _ => (sg_n 16 ok.blk rfl (by first | exact Or.inl rfl | exact Or.inr rfl) wipSet)) (fun _ _ _ _ _ => sets_nil) (fun _ _ _ _ _ => (se_p (sp_ix ix_seq opv_ix (sp_var 16) sp_int)))))) (sg_n 7 ok rfl (by first | exact Or.inl rfl | exact Or.inr rfl) fixSet) (sss_one (ss_if (set_not (set_val (se_call c__law_no_guard hr (by decide) rfl (sas_v (se_p (sp_var 0)) (sas_v (se_p (sp_var 2)) (sas_v (se_p (sp_var 7)) sas_nil)))))) (sss_one (ss_ret (se_p sp_bl))) sss_nil))) (sss_one (ss_ret (se_and (se_cmp (op_eqD ok.u64) opv_eq (se_call c_awake hr (by decide) rfl (sas_v (se_p (sp_var 0)) (sas_v (se_p (sp_var 2)) sas_nil))) (se_p (sp_var 3)) rfl) (se_one (se_cmp (op_eqK ok) opv_eqK (se_call c_rest hr (by decide) rfl (sas_v (se_p (sp_var 0)) sas_nil)) (se_frz 1) rfl)))))))))))))))))
theorem c_law {f : Addr} {fd : FuncData} (F : C8.Fun K "law" "law" s_law f fd) (Z : Fr K mg)  (c__law_stream : C8.Cal P w K mg base 1 "_law_stream" (spF K mg 1 F__law_stream) []) (c__law_take : C8.Cal P w K mg base 1 "_law_take" (spF K mg 2 F__law_take) []) (c__law_board : C8.Cal P w K mg base 4 "_law_board" (spF K mg 5 F__law_board) []) (c__law_right : C8.Cal P w K mg base 8 "_law_right" (spF K mg 1 F__law_right) []) : FnOk P w K mg base C8.CX0 9 f fd ["_law_script"] (spF K mg 1 F_law) :=
  fn_sem F sc_law rfl rfl (by decide) fun cdv A outer s H E hr => by
    have ok := bodyOk (P := P) (w := w) (K := K) (mg := mg) (base := base) (qual := "law") (cdv := cdv) (A := A) (outer := outer) (s := s) (H := H) (E := E) sc_law hr
    exact (sss_cons (ss_setO 1 ok rfl (by first | exact Or.inl rfl | exact Or.inr rfl) (se_call c__law_stream hr (by decide) rfl (sas_v (se_p (sp_var 0)) sas_nil))) (sss_cons (ss_setP 2 ok rfl (by first | exact Or.inl rfl | exact Or.inr rfl) (se_ix ix_seq opv_ix (se_lst (ses_cons (se_p sp_int) (ses_cons (se_p sp_int) (ses_cons (se_p (sp_bin op_pow opv_pow sp_int sp_int)) ses_nil)))) (se_call c__law_take hr (by decide) rfl (sas_io 1 (sas_v (se_p sp_int) sas_nil))))) (sss_cons (ss_setP 3 ok rfl (by first | exact Or.inl rfl | exact Or.inr rfl) (se_call c__law_board hr (by decide) rfl (sas_io 1 (sas_v (se_p sp_int) (sas_v (se_fz (se_call c__law_take hr (by decide) rfl (sas_io 1 (sas_v (se_p sp_int) sas_nil)))) (sas_v (se_p (sp_var 2)) (sas_v (se_p sp_int) sas_nil))))))) (sss_cons (ss_setP 4 ok rfl (by first | exact Or.inl rfl | exact Or.inr rfl) (se_tup (ses_cons (se_p (sp_ix ix_seq opv_ix (sp_var 3) sp_int)) (ses_cons (se_t1 call_tuple_of unv_tup rfl Z.n_tuple (by rfl) (se_comp ok (si_val (se_p (sp_ix ix_seq opv_ix (sp_var 3) sp_int))) (blkOk_by (by first | rfl | decide +kernel)) (own := [("_law_load", 5)]) (fun _ _ _ _ _ => (sg_n 5 ok.blk rfl (by first | exact Or.inl rfl | exact Or.inr rfl) wipSet)) (fun _ _ _ _ _ => sets_nil) (fun _ _ _ _ _ => (se_bin op_addF opv_add (se_p (sp_sl (sp_var 5) spo_none (spo_some sp_int))) (se_tup (ses_cons (se_not (se_p (sp_ix ix_seq opv_ix (sp_var 5) sp_int))) ses_nil)))))) ses_nil)))) (sss_one (ss_ret (se_and (se_call c__law_right hr (by decide) rfl (sas_v (se_p (sp_var 3)) sas_nil)) (se_and (se_call c__law_right hr (by decide) rfl (sas_v (se_p (sp_var 4)) sas_nil)) (se_and (se_call c__law_right hr (by decide) rfl (sas_v (se_p (sp_var 3)) sas_nil)) (se_one (se_call c__law_right hr (by decide) rfl (sas_v (se_p (sp_tup (sps_cons (sp_ix ix_seq opv_ix (sp_var 3) sp_int) (sps_cons (sp_tup sps_nil) sps_nil)))) sas_nil))))))))))))
end
def d__law_stream : He.DefD := ⟨("_law_stream", none), "_law_stream", "_law_stream", C8.fnArgs s__law_stream, C8.fnBody s__law_stream, C8.fnScope s__law_stream, [], []⟩
def d__law_take : He.DefD := ⟨("_law_take", none), "_law_take", "_law_take", C8.fnArgs s__law_take, C8.fnBody s__law_take, C8.fnScope s__law_take, [], []⟩
def d__law_names : He.DefD := ⟨("_law_names", none), "_law_names", "_law_names", C8.fnArgs s__law_names, C8.fnBody s__law_names, C8.fnScope s__law_names, [], []⟩
def d__law_curve : He.DefD := ⟨("_law_curve", none), "_law_curve", "_law_curve", C8.fnArgs s__law_curve, C8.fnBody s__law_curve, C8.fnScope s__law_curve, [], []⟩
def d__law_guards : He.DefD := ⟨("_law_guards", none), "_law_guards", "_law_guards", C8.fnArgs s__law_guards, C8.fnBody s__law_guards, C8.fnScope s__law_guards, [], []⟩
def d__law_loads : He.DefD := ⟨("_law_loads", none), "_law_loads", "_law_loads", C8.fnArgs s__law_loads, C8.fnBody s__law_loads, C8.fnScope s__law_loads, [], []⟩
def d__law_board : He.DefD := ⟨("_law_board", none), "_law_board", "_law_board", C8.fnArgs s__law_board, C8.fnBody s__law_board, C8.fnScope s__law_board, [], []⟩
def d_guards_of : He.DefD := ⟨("guards_of", none), "guards_of", "guards_of", C8.fnArgs s_guards_of, C8.fnBody s_guards_of, C8.fnScope s_guards_of, [], []⟩
def d_chain : He.DefD := ⟨("chain", none), "chain", "chain", C8.fnArgs s_chain, C8.fnBody s_chain, C8.fnScope s_chain, [], []⟩
def d_over : He.DefD := ⟨("over", none), "over", "over", C8.fnArgs s_over, C8.fnBody s_over, C8.fnScope s_over, [], []⟩
def d_draws : He.DefD := ⟨("draws", none), "draws", "draws", C8.fnArgs s_draws, C8.fnBody s_draws, C8.fnScope s_draws, [], []⟩
def d_rest : He.DefD := ⟨("rest", none), "rest", "rest", C8.fnArgs s_rest, C8.fnBody s_rest, C8.fnScope s_rest, [], []⟩
def d_least_of : He.DefD := ⟨("least_of", none), "least_of", "least_of", C8.fnArgs s_least_of, C8.fnBody s_least_of, C8.fnScope s_least_of, [], []⟩
def d_awake : He.DefD := ⟨("awake", none), "awake", "awake", C8.fnArgs s_awake, C8.fnBody s_awake, C8.fnScope s_awake, [], []⟩
def d_ask_guard : He.DefD := ⟨("ask_guard", none), "ask_guard", "ask_guard", C8.fnArgs s_ask_guard, C8.fnBody s_ask_guard, C8.fnScope s_ask_guard, [], []⟩
def d_kids : He.DefD := ⟨("kids", none), "kids", "kids", C8.fnArgs s_kids, C8.fnBody s_kids, C8.fnScope s_kids, [], []⟩
def d_held : He.DefD := ⟨("held", none), "held", "held", C8.fnArgs s_held, C8.fnBody s_held, C8.fnScope s_held, [], []⟩
def d_loud : He.DefD := ⟨("loud", none), "loud", "loud", C8.fnArgs s_loud, C8.fnBody s_loud, C8.fnScope s_loud, [], []⟩
def d__law_over : He.DefD := ⟨("_law_over", none), "_law_over", "_law_over", C8.fnArgs s__law_over, C8.fnBody s__law_over, C8.fnScope s__law_over, [], []⟩
def d__law_no_guard : He.DefD := ⟨("_law_no_guard", none), "_law_no_guard", "_law_no_guard", C8.fnArgs s__law_no_guard, C8.fnBody s__law_no_guard, C8.fnScope s__law_no_guard, [], []⟩
def d__law_right : He.DefD := ⟨("_law_right", none), "_law_right", "_law_right", C8.fnArgs s__law_right, C8.fnBody s__law_right, C8.fnScope s__law_right, [], []⟩
def d_law : He.DefD := ⟨("law", none), "law", "law", C8.fnArgs s_law, C8.fnBody s_law, C8.fnScope s_law, [], []⟩
def fn : List He.DefD := [d__law_stream, d__law_take, d__law_names, d__law_curve, d__law_guards, d__law_loads, d__law_board, d_guards_of, d_chain, d_over, d_draws, d_rest, d_least_of, d_awake, d_ask_guard, d_kids, d_held, d_loud, d__law_over, d__law_no_guard, d__law_right, d_law]
def fa : List He.Fa := [.glo "_law_stream", .glo "_law_take", .glo "_law_names", .glo "_law_curve", .glo "_law_guards", .glo "_law_loads", .glo "_law_board", .glo "guards_of", .glo "chain", .glo "over", .glo "draws", .glo "rest", .glo "least_of", .glo "awake", .glo "ask_guard", .glo "kids", .glo "held", .glo "loud", .glo "_law_over", .glo "_law_no_guard", .glo "_law_right", .glo "law", .free "any", .free "bool", .free "dict", .free "int", .free "isinstance", .free "len", .free "list", .free "max", .free "range", .free "tuple", .exc "NoPlace"]
abbrev R : PySem.W.OpenRow := PySem.W.OpenLaw.row PySem.Challenge.rw_fuseboard_k20_rest_awake_held
def px : List (PySem.W.Frag → Bool) := [exAllB es]
def hk : PySem.W.Hook := hookP px 6 fa fn
def ob (s : PySem.W.SharedT) : He.AlD := obsPG px 6 fa fn (HandSHeadRun.getT s)
theorem ob_eq (s : PySem.W.SharedT) : ob s = hk.obs s.abs := obsPG_eq (HandSHeadRun.getT_eq s)
def loose : List PySem.Str := ([("__name__" : PySem.Str), ("least_of" : PySem.Str), ("BoardError" : PySem.Str), ("NoPlace" : PySem.Str), ("guards_of" : PySem.Str), ("chain" : PySem.Str), ("over" : PySem.Str), ("ask_guard" : PySem.Str), ("kids" : PySem.Str), ("draws" : PySem.Str), ("rest" : PySem.Str), ("awake" : PySem.Str), ("held" : PySem.Str), ("loud" : PySem.Str), ("_law_stream" : PySem.Str), ("_law_take" : PySem.Str), ("_law_curve" : PySem.Str), ("_law_names" : PySem.Str), ("_law_guards" : PySem.Str), ("_law_loads" : PySem.Str), ("_law_board" : PySem.Str), ("_law_over" : PySem.Str), ("_law_no_guard" : PySem.Str), ("_law_right" : PySem.Str)] : List PySem.Str) ++ ([("held" : PySem.Str), ("loud" : PySem.Str), ("_law_stream" : PySem.Str), ("_law_take" : PySem.Str), ("_law_curve" : PySem.Str), ("_law_names" : PySem.Str), ("_law_guards" : PySem.Str), ("_law_loads" : PySem.Str), ("_law_board" : PySem.Str), ("_law_over" : PySem.Str), ("_law_no_guard" : PySem.Str), ("_law_right" : PySem.Str)] : List PySem.Str)
theorem run (w : World) : HandSHeadRun.RunEq R (PySem.W.view R.prog [28]) hk ob 4000 loose w := by
  intro os
  kernel_rfl
theorem facts {P : Program} {w : World} {K : PySem.W.Frag} {h : Heap} {mg : Str → Option Value} {f : Addr} (X : K.In h) (G : h.Ns mainGlobals mg) (hfa : mg ("law" : Str) = some (.ref f)) (c : SaysP px fa fn K) :
    ∃ fd : FuncData, (∀ (s : Shared) (v : Value), BindsTo s fd ⟨[v], []⟩ [("_law_script", v)]) ∧ ∀ base : Heap, K.In base → base.Ns mainGlobals mg → FnOk P w K mg base C8.CX0 9 f fd ["_law_script"] (spF K mg 1 F_law) := by
  obtain ⟨c, cpx⟩ := c.says
  have Z : Fr K mg := ⟨trivial, exAll_ok X G (cpx (exAllB es) (List.mem_cons_self ..)), He.exc_ok (c.fact 32 (f := .exc "NoPlace") rfl), He.free_ok X G (c.fact 22 (f := .free "any") rfl), He.free_ok X G (c.fact 23 (f := .free "bool") rfl), He.free_ok X G (c.fact 24 (f := .free "dict") rfl), He.free_ok X G (c.fact 25 (f := .free "int") rfl), He.free_ok X G (c.fact 26 (f := .free "isinstance") rfl), He.free_ok X G (c.fact 27 (f := .free "len") rfl), He.free_ok X G (c.fact 28 (f := .free "list") rfl), He.free_ok X G (c.fact 29 (f := .free "max") rfl), He.free_ok X G (c.fact 30 (f := .free "range") rfl), He.free_ok X G (c.fact 31 (f := .free "tuple") rfl)⟩
  obtain ⟨fd__law_stream, D__law_stream⟩ := c.def_ 0 (d := d__law_stream) rfl
  have bi__law_stream := FunD.bindsN (ps := ["_law_script"]) D__law_stream fun _ _ _ _ _ _ us hl => match us, hl with | [_], _ => rfl
  have g__law_stream := He.glo_ok X G (c.fact 0 (f := .glo "_law_stream") rfl)
  obtain ⟨fd__law_take, D__law_take⟩ := c.def_ 1 (d := d__law_take) rfl
  have bi__law_take := FunD.bindsN (ps := ["_law_stream_here", "_law_many"]) D__law_take fun _ _ _ _ _ _ us hl => match us, hl with | [_, _], _ => rfl
  have g__law_take := He.glo_ok X G (c.fact 1 (f := .glo "_law_take") rfl)
  obtain ⟨fd__law_names, D__law_names⟩ := c.def_ 2 (d := d__law_names) rfl
  have bi__law_names := FunD.bindsN (ps := ["_law_stream_here", "_law_many"]) D__law_names fun _ _ _ _ _ _ us hl => match us, hl with | [_, _], _ => rfl
  have g__law_names := He.glo_ok X G (c.fact 2 (f := .glo "_law_names") rfl)
  obtain ⟨fd__law_curve, D__law_curve⟩ := c.def_ 3 (d := d__law_curve) rfl
  have bi__law_curve := FunD.bindsN (ps := ["_law_stream_here", "_law_far", "_law_long"]) D__law_curve fun _ _ _ _ _ _ us hl => match us, hl with | [_, _, _], _ => rfl
  have g__law_curve := He.glo_ok X G (c.fact 3 (f := .glo "_law_curve") rfl)
  obtain ⟨fd__law_guards, D__law_guards⟩ := c.def_ 4 (d := d__law_guards) rfl
  have bi__law_guards := FunD.bindsN (ps := ["_law_stream_here", "_law_names_here", "_law_far", "_law_long"]) D__law_guards fun _ _ _ _ _ _ us hl => match us, hl with | [_, _, _, _], _ => rfl
  have g__law_guards := He.glo_ok X G (c.fact 4 (f := .glo "_law_guards") rfl)
  obtain ⟨fd__law_loads, D__law_loads⟩ := c.def_ 5 (d := d__law_loads) rfl
  have bi__law_loads := FunD.bindsN (ps := ["_law_stream_here", "_law_names_here", "_law_guards_here", "_law_far", "_law_long"]) D__law_loads fun _ _ _ _ _ _ us hl => match us, hl with | [_, _, _, _, _], _ => rfl
  have g__law_loads := He.glo_ok X G (c.fact 5 (f := .glo "_law_loads") rfl)
  obtain ⟨fd__law_board, D__law_board⟩ := c.def_ 6 (d := d__law_board) rfl
  have bi__law_board := FunD.bindsN (ps := ["_law_stream_here", "_law_most", "_law_many", "_law_far", "_law_long"]) D__law_board fun _ _ _ _ _ _ us hl => match us, hl with | [_, _, _, _, _], _ => rfl
  have g__law_board := He.glo_ok X G (c.fact 6 (f := .glo "_law_board") rfl)
  obtain ⟨fd_guards_of, D_guards_of⟩ := c.def_ 7 (d := d_guards_of) rfl
  have bi_guards_of := FunD.bindsN (ps := ["board"]) D_guards_of fun _ _ _ _ _ _ us hl => match us, hl with | [_], _ => rfl
  have g_guards_of := He.glo_ok X G (c.fact 7 (f := .glo "guards_of") rfl)
  obtain ⟨fd_chain, D_chain⟩ := c.def_ 8 (d := d_chain) rfl
  have bi_chain := FunD.bindsN (ps := ["guards", "name"]) D_chain fun _ _ _ _ _ _ us hl => match us, hl with | [_, _], _ => rfl
  have g_chain := He.glo_ok X G (c.fact 8 (f := .glo "chain") rfl)
  obtain ⟨fd_over, D_over⟩ := c.def_ 9 (d := d_over) rfl
  have bi_over := FunD.bindsN (ps := ["board", "place"]) D_over fun _ _ _ _ _ _ us hl => match us, hl with | [_, _], _ => rfl
  have g_over := He.glo_ok X G (c.fact 9 (f := .glo "over") rfl)
  obtain ⟨fd_draws, D_draws⟩ := c.def_ 10 (d := d_draws) rfl
  have bi_draws := FunD.bindsN (ps := ["board", "opened", "pulls"]) D_draws fun _ _ _ _ _ _ us hl => match us, hl with | [_, _, _], _ => rfl
  have g_draws := He.glo_ok X G (c.fact 10 (f := .glo "draws") rfl)
  obtain ⟨fd_rest, D_rest⟩ := c.def_ 11 (d := d_rest) rfl
  have bi_rest := FunD.bindsN (ps := ["board"]) D_rest fun _ _ _ _ _ _ us hl => match us, hl with | [_], _ => rfl
  have g_rest := He.glo_ok X G (c.fact 11 (f := .glo "rest") rfl)
  obtain ⟨fd_least_of, D_least_of⟩ := c.def_ 12 (d := d_least_of) rfl
  have bi_least_of := FunD.bindsN (ps := ["curve"]) D_least_of fun _ _ _ _ _ _ us hl => match us, hl with | [_], _ => rfl
  have g_least_of := He.glo_ok X G (c.fact 12 (f := .glo "least_of") rfl)
  obtain ⟨fd_awake, D_awake⟩ := c.def_ 13 (d := d_awake) rfl
  have bi_awake := FunD.bindsN (ps := ["board", "found"]) D_awake fun _ _ _ _ _ _ us hl => match us, hl with | [_, _], _ => rfl
  have g_awake := He.glo_ok X G (c.fact 13 (f := .glo "awake") rfl)
  obtain ⟨fd_ask_guard, D_ask_guard⟩ := c.def_ 14 (d := d_ask_guard) rfl
  have bi_ask_guard := FunD.bindsN (ps := ["board", "guard"]) D_ask_guard fun _ _ _ _ _ _ us hl => match us, hl with | [_, _], _ => rfl
  have g_ask_guard := He.glo_ok X G (c.fact 14 (f := .glo "ask_guard") rfl)
  obtain ⟨fd_kids, D_kids⟩ := c.def_ 15 (d := d_kids) rfl
  have bi_kids := FunD.bindsN (ps := ["board", "guard"]) D_kids fun _ _ _ _ _ _ us hl => match us, hl with | [_, _], _ => rfl
  have g_kids := He.glo_ok X G (c.fact 15 (f := .glo "kids") rfl)
  obtain ⟨fd_held, D_held⟩ := c.def_ 16 (d := d_held) rfl
  have bi_held := FunD.bindsN (ps := ["board", "found", "guard"]) D_held fun _ _ _ _ _ _ us hl => match us, hl with | [_, _, _], _ => rfl
  have g_held := He.glo_ok X G (c.fact 16 (f := .glo "held") rfl)
  obtain ⟨fd_loud, D_loud⟩ := c.def_ 17 (d := d_loud) rfl
  have bi_loud := FunD.bindsN (ps := ["board"]) D_loud fun _ _ _ _ _ _ us hl => match us, hl with | [_], _ => rfl
  have g_loud := He.glo_ok X G (c.fact 17 (f := .glo "loud") rfl)
  obtain ⟨fd__law_over, D__law_over⟩ := c.def_ 18 (d := d__law_over) rfl
  have bi__law_over := FunD.bindsN (ps := ["_law_board_here", "_law_place"]) D__law_over fun _ _ _ _ _ _ us hl => match us, hl with | [_, _], _ => rfl
  have g__law_over := He.glo_ok X G (c.fact 18 (f := .glo "_law_over") rfl)
  obtain ⟨fd__law_no_guard, D__law_no_guard⟩ := c.def_ 19 (d := d__law_no_guard) rfl
  have bi__law_no_guard := FunD.bindsN (ps := ["_law_board_here", "_law_found", "_law_thing"]) D__law_no_guard fun _ _ _ _ _ _ us hl => match us, hl with | [_, _, _], _ => rfl
  have g__law_no_guard := He.glo_ok X G (c.fact 19 (f := .glo "_law_no_guard") rfl)
  obtain ⟨fd__law_right, D__law_right⟩ := c.def_ 20 (d := d__law_right) rfl
  have bi__law_right := FunD.bindsN (ps := ["_law_board_here"]) D__law_right fun _ _ _ _ _ _ us hl => match us, hl with | [_], _ => rfl
  have g__law_right := He.glo_ok X G (c.fact 20 (f := .glo "_law_right") rfl)
  obtain ⟨fd_law, D_law⟩ := c.def_ 21 (d := d_law) rfl
  have e := hfa.symm.trans (He.glo_ok X G (c.fact 21 (f := .glo "law") rfl))
  cases e
  have b := FunD.bindsA (ps := ["_law_script"]) D_law fun _ _ _ _ _ _ us hl => match us, hl with | [_], _ => rfl
  refine ⟨fd_law, fun s v => b s [v] rfl, fun base _ _ => ?_⟩
  have k__law_stream := c__law_stream (P := P) (w := w) (base := base) ⟨fun_of D__law_stream, g__law_stream, D__law_stream.kp⟩ bi__law_stream Z  
  have k__law_take := c__law_take (P := P) (w := w) (base := base) ⟨fun_of D__law_take, g__law_take, D__law_take.kp⟩ bi__law_take Z  
  have k__law_names := c__law_names (P := P) (w := w) (base := base) ⟨fun_of D__law_names, g__law_names, D__law_names.kp⟩ bi__law_names Z  k__law_take
  have k__law_curve := c__law_curve (P := P) (w := w) (base := base) ⟨fun_of D__law_curve, g__law_curve, D__law_curve.kp⟩ bi__law_curve Z  k__law_take
  have k__law_guards := c__law_guards (P := P) (w := w) (base := base) ⟨fun_of D__law_guards, g__law_guards, D__law_guards.kp⟩ bi__law_guards Z  k__law_take k__law_curve
  have k__law_loads := c__law_loads (P := P) (w := w) (base := base) ⟨fun_of D__law_loads, g__law_loads, D__law_loads.kp⟩ bi__law_loads Z  k__law_take
  have k__law_board := c__law_board (P := P) (w := w) (base := base) ⟨fun_of D__law_board, g__law_board, D__law_board.kp⟩ bi__law_board Z  k__law_take k__law_names k__law_guards k__law_loads
  have k_guards_of := c_guards_of (P := P) (w := w) (base := base) ⟨fun_of D_guards_of, g_guards_of, D_guards_of.kp⟩ bi_guards_of Z  
  have k_chain := c_chain (P := P) (w := w) (base := base) ⟨fun_of D_chain, g_chain, D_chain.kp⟩ bi_chain Z  
  have k_over := c_over (P := P) (w := w) (base := base) ⟨fun_of D_over, g_over, D_over.kp⟩ bi_over Z  k_guards_of k_chain
  have k_draws := c_draws (P := P) (w := w) (base := base) ⟨fun_of D_draws, g_draws, D_draws.kp⟩ bi_draws Z  k_guards_of k_over
  have k_rest := c_rest (P := P) (w := w) (base := base) ⟨fun_of D_rest, g_rest, D_rest.kp⟩ bi_rest Z  k_draws
  have k_least_of := c_least_of (P := P) (w := w) (base := base) ⟨fun_of D_least_of, g_least_of, D_least_of.kp⟩ bi_least_of Z  
  have k_awake := c_awake (P := P) (w := w) (base := base) ⟨fun_of D_awake, g_awake, D_awake.kp⟩ bi_awake Z  k_least_of
  have k_ask_guard := c_ask_guard (P := P) (w := w) (base := base) ⟨fun_of D_ask_guard, g_ask_guard, D_ask_guard.kp⟩ bi_ask_guard Z  k_guards_of
  have k_kids := c_kids (P := P) (w := w) (base := base) ⟨fun_of D_kids, g_kids, D_kids.kp⟩ bi_kids Z  k_ask_guard
  have k_held := c_held (P := P) (w := w) (base := base) ⟨fun_of D_held, g_held, D_held.kp⟩ bi_held Z  k_awake k_kids
  have k_loud := c_loud (P := P) (w := w) (base := base) ⟨fun_of D_loud, g_loud, D_loud.kp⟩ bi_loud Z  k_rest k_awake
  have k__law_over := c__law_over (P := P) (w := w) (base := base) ⟨fun_of D__law_over, g__law_over, D__law_over.kp⟩ bi__law_over Z  
  have k__law_no_guard := c__law_no_guard (P := P) (w := w) (base := base) ⟨fun_of D__law_no_guard, g__law_no_guard, D__law_no_guard.kp⟩ bi__law_no_guard Z  k_held
  have k__law_right := c__law_right (P := P) (w := w) (base := base) ⟨fun_of D__law_right, g__law_right, D__law_right.kp⟩ bi__law_right Z  k_rest k_awake k_held k_loud k__law_over k__law_no_guard
  exact c_law (fun_of D_law) Z  k__law_stream k__law_take k__law_board k__law_right
end Wk

namespace Lw
open PySem PySem.Spec L2 FB Wk
open PyProof.Rows hiding St
def sm (cells : List Int) (big seed : Int) : O := .lst [.val (.lst (cells.map .int)), .val (.int big), .val (.int seed)]
theorem stream (ns : List Int) (hl : ns.length ≤ 63) : F__law_stream [.val (.scr ns)] = some (sm ns 0 20011, [none]) := by
  unfold F__law_stream
  rw [runF_eq]
  have e : cutL ns none (some 63) = ns := by
    rw [show (63 : Int) = ((63 : Nat) : Int) from rfl, cut_to, List.take_of_length_le hl]
  simp [b__law_stream, e, sm]
  rfl
def Sok (o : O) : Prop := ∃ cells big seed, o = sm cells big seed ∧ 0 ≤ big ∧ 0 ≤ seed ∧ seed < 2305843009213693951 ∧ cells.length ≤ 63
theorem take_t (cells : List Int) (big seed m : Int) (c f : Option O) : t1__law_take [some (sm cells big seed), some (.val (.int m)), c, f] = .ok (decide (big = 0) && !cells.isEmpty) [some (sm cells big seed), some (.val (.int m)), c, f] := by
  by_cases h : big = 0 <;> simp [t1__law_take, sm, neO_ints, h]
theorem take_b (a : Int) (cells : List Int) (seed m : Int) (c f : Option O) : b1__law_take [some (sm (a :: cells) 0 seed), some (.val (.int m)), c, f] = .ok .nx [some (sm cells (if 10 ^ 18 ≤ a then a else 0) ((seed * 1000003 + a) % 2305843009213693951)), some (.val (.int m)), some (.val (.int a)), f] := by
  have e1 : cutL (D.int a :: cells.map D.int) (some 1) none = cells.map D.int := by
    rw [show (1 : Int) = ((1 : Nat) : Int) from rfl, cut_from]; rfl
  by_cases ha : 1000000000000000000 ≤ a <;> simp [b1__law_take, sm, e1, e_mulr, e_mod, e_pow, ha]
theorem take_loop (o : O) (m : Int) (h : Sok o) : ∃ ρ', whileN t1__law_take b1__law_take fuel [some o, some (.val (.int m)), none, none] = .ok .nx ρ' ∧ ∃ o c f, ρ' = [some o, some (.val (.int m)), c, f] ∧ Sok o := by
  refine while_inv (fun ρ => ∃ o c f, ρ = [some o, some (.val (.int m)), c, f] ∧ Sok o) _
    (fun ρ => match ρ with | some (.lst (.val (.lst ds) :: _)) :: _ => ds.length | _ => 0) ?_ fuel [some o, some (.val (.int m)), none, none] ⟨o, none, none, rfl, h⟩ ?_
  · rintro ρ ⟨o, c, f, rfl, cells, big, seed, rfl, hb, hs0, hs1, hc⟩
    have ht := take_t cells big seed m c f
    by_cases hbig : big = 0
    · subst hbig
      cases cells with
      | nil => exact .inl ⟨_, ht, _, _, _, rfl, [], 0, seed, rfl, hb, hs0, hs1, hc⟩
      | cons a cells =>
        refine .inr ⟨_, _, ht, .inl (take_b a cells seed m c f), ⟨_, _, _, rfl, _, _, _, rfl, ?_, by omega, by omega, by simp at hc; omega⟩, by simp [sm]⟩
        split <;> omega
    · refine .inl ⟨[some (sm cells big seed), some (.val (.int m)), c, f], by rw [ht]; simp [hbig], _, _, _, rfl, cells, big, seed, rfl, hb, hs0, hs1, hc⟩
  · obtain ⟨cells, big, seed, rfl, hb, hs0, hs1, hc⟩ := h
    rw [fuel_eq]
    simp [sm]; omega
theorem take (o : O) (m : Int) (h : Sok o) (h0 : 0 < m) (hl : m.natAbs.log2 < 9000) : ∃ r o', F__law_take [o, .val (.int m)] = some (.val (.int r), [some o', none]) ∧ Sok o' ∧ 0 ≤ r ∧ r < m := by
  unfold F__law_take
  rw [runF_eq]
  obtain ⟨ρ', e, o', c, f, rfl, cells, big, seed, rfl, hb, hs0, hs1, hc⟩ := take_loop o m h
  have e : whileN t1__law_take b1__law_take fuel ([o, O.val (D.int m)].map some ++ List.replicate (4 - [o, O.val (D.int m)].length) none) = _ := e
  by_cases hbig : 0 < big
  · refine ⟨big % m, sm cells (big / m) seed, ?_, ⟨_, _, _, rfl, Int.ediv_nonneg hb (by omega), hs0, hs1, hc⟩, Int.emod_nonneg _ (by omega), Int.emod_lt_of_pos _ h0⟩
    simp only [b__law_take, e_mSeq, e_mWhile, e]
    simp [sm, hbig, e_mod, e_fdiv, h0, hl]
    rfl
  · have l1 : Nat.log2 1048576 < 9000 := by decide
    have l3 : Nat.log2 3 < 9000 := by decide
    refine ⟨((seed * 636413622384679300 + 1442695040888963407) % 2305843009213693951 / 1048576 * 48271 % 2147483647 + (seed * 636413622384679300 + 1442695040888963407) % 2305843009213693951 % 2147483629) / 3 % m, sm cells big ((seed * 636413622384679300 + 1442695040888963407) % 2305843009213693951), ?_, ⟨_, _, _, rfl, hb, by omega, by omega, hc⟩, Int.emod_nonneg _ (by omega), Int.emod_lt_of_pos _ h0⟩
    simp only [b__law_take, e_mSeq, e_mWhile, e]
    simp [sm, hbig, e_mod, e_fdiv, e_mulr, h0, hl, l1, l3]
    rfl
/-! ### curves -/
def top' (ls : List Int) : Int := ls.getLast?.getD 0
theorem top'_app (ls : List Int) (v : Int) : top' (ls ++ [v]) = v := by unfold top'; simp
theorem atI_prev (ls : List Int) : atI (ls.map D.int ++ [D.int 0]) ((ls.length : Int) - 1) = some (.int (top' ls)) := by
  cases h : ls.getLast? with
  | none =>
    have : ls = [] := by simpa using h
    subst this
    rfl
  | some v =>
    have hne : ls ≠ [] := by intro e; subst e; simp at h
    have hl : 0 < ls.length := List.length_pos_iff.mpr hne
    rw [show (ls.length : Int) - 1 = ((ls.length - 1 : Nat) : Int) by omega, atN]
    unfold top'
    rw [h]
    rw [List.getElem?_append_left (by simp; omega), List.getElem?_map]
    rw [List.getLast?_eq_getElem?] at h
    rw [h]; rfl
def lO (ls : List Int) : O := vO (ls.map D.int)
def Up (b : Int) (ls : List Int) : Prop := ls.Pairwise (· < ·) ∧ (∀ x ∈ ls, x ≤ top' ls ∧ 1 ≤ x) ∧ 0 ≤ top' ls ∧ top' ls ≤ b * ls.length
theorem Up.nil (b : Int) : Up b [] := ⟨List.Pairwise.nil, by simp, by simp [top'], by simp [top']⟩
theorem Up.app {b : Int} {ls : List Int} {r : Int} (h : Up b ls) (hr : 0 ≤ r) (hb : r < b) : Up b (ls ++ [top' ls + 1 + r]) := by
  obtain ⟨h1, h2, h3, h4⟩ := h
  refine ⟨List.pairwise_append.mpr ⟨h1, by simp, fun a ha b hb => ?_⟩, fun x hx => ?_, by rw [top'_app]; omega, ?_⟩
  · have := (h2 a ha).1
    simp at hb
    omega
  · rw [top'_app]
    rcases List.mem_append.mp hx with hx | hx
    · have := h2 x hx
      omega
    · simp at hx
      omega
  · rw [top'_app, List.length_append, List.length_singleton]
    push_cast
    rw [Int.mul_add]
    omega
theorem Up.pos {b : Int} {ls : List Int} (h : Up b ls) {k : Nat} (hk : k < ls.length) : 1 ≤ ls.getD k 0 := by
  rw [List.getD_eq_getElem?_getD, List.getElem?_eq_getElem hk]
  exact (h.2.1 _ (List.getElem_mem hk)).2
theorem Up.le {b : Int} {ls : List Int} (h : Up b ls) (hb : 0 < b) (h5 : ls.length ≤ 5) {k : Nat} (hk : k < ls.length) : ls.getD k 0 ≤ 5 * b := by
  rw [List.getD_eq_getElem?_getD, List.getElem?_eq_getElem hk]
  have h1 := (h.2.1 _ (List.getElem_mem hk)).1
  have h2 : b * (ls.length : Int) ≤ b * 5 := Int.mul_le_mul_of_nonneg_left (by omega) (by omega)
  have h3 := h.2.2.2
  show ls[k] ≤ 5 * b
  omega
theorem curve_b (o o1 o2 : O) (far long many : Int) (ls ts : List Int) (r1 r2 : Int) (hl : ts.length = ls.length) (hn : ls.length ≤ 5) (e1 : F__law_take [o, .val (.int far)] = some (.val (.int r1), [some o1, none])) (e2 : F__law_take [o1, .val (.int long)] = some (.val (.int r2), [some o2, none])) :
    b1__law_curve [some o, some (.val (.int far)), some (.val (.int long)), some (.val (.int many)), some (lO ls), some (lO ts), some (.val (.int ls.length))] =
      .ok .nx [some o2, some (.val (.int far)), some (.val (.int long)), some (.val (.int many)), some (lO (ls ++ [top' ls + 1 + r1])), some (lO (ts ++ [top' ts + 1 + r2])), some (.val (.int ls.length))] := by
  have q := atI_prev ls
  have q2 := atI_prev ts
  rw [hl] at q2
  have h1 : ls.length + 1 ≤ 1000000 := by omega
  have h2 : ts.length + 1 ≤ 1000000 := by omega
  have h3 : ls.length < 1000000 := by omega
  have h4 : ts.length < 1000000 := by omega
  simp [b1__law_curve, lO, h1, h2, h3, h4, q, q2, e1, e2]
def pD (p : Int × Int) : D := .tup [.int p.1, .int p.2]
def cv (C : List (Int × Int)) : D := .tup (C.map pD)
def Cok (C : List (Int × Int)) : Prop := C ≠ [] ∧ C.length ≤ 5 ∧ C.Pairwise (fun p q => p.1 < q.1 ∧ q.2 < p.2) ∧ ∀ p ∈ C, 1 ≤ p.1 ∧ 1 ≤ p.2 ∧ p.1 < 1000000000000000000000000000000000000000000000000000000000000 ∧ p.2 < 1000000000000000000000000000000000000000000000000000000000000
theorem log_big {x : Int} (h0 : 0 ≤ x) (h : x ≤ 10000000000000000000000000000000000000000000000000000000000000) : x.natAbs.log2 < 9000 := by
  have h2 : x.natAbs ≤ 10000000000000000000000000000000000000000000000000000000000000 := by omega
  have h3 : x.natAbs.log2 ≤ Nat.log2 10000000000000000000000000000000000000000000000000000000000000 := by
    rcases Nat.eq_zero_or_pos x.natAbs with e | e
    · rw [e]; simp
    · rw [Nat.le_log2 (by decide)]
      exact Nat.le_trans (Nat.log2_self_le (by omega)) h2
  exact Nat.lt_of_le_of_lt h3 (by decide)

end Lw

namespace Lw
open PySem PySem.Spec L2 FB Wk
open PyProof.Rows hiding St
theorem curve_q (o fa lo k : Option O) (n : Nat) (ls ts : List Int) (hn : n ≤ 5) (hls : ls.length = n) (hts : ts.length = n) :
    q1__law_curve [o, fa, lo, some (.val (.int n)), some (lO ls), some (lO ts), k] = .ok (vO ((List.range n).map fun i => .tup [.int (ls.getD i 0), .int (ts.getD (n - 1 - i) 0)])) [o, fa, lo, some (.val (.int n)), some (lO ls), some (lO ts), k] := by
  have hk : ∀ k, k < n → atI (ls.map D.int) (k : Int) = some (.int (ls.getD k 0)) := fun k hk => by
    rw [atN, List.getElem?_map, List.getElem?_eq_getElem (by omega)]
    simp [List.getD_eq_getElem?_getD, List.getElem?_eq_getElem (show k < ls.length by omega)]
  have hk2 : ∀ k, k < n → atI (ts.map D.int) ((n : Int) - 1 - (k : Int)) = some (.int (ts.getD (n - 1 - k) 0)) := fun k hk => by
    rw [show (n : Int) - 1 - (k : Int) = ((n - 1 - k : Nat) : Int) by omega, atN, List.getElem?_map, List.getElem?_eq_getElem (by omega)]
    simp [List.getD_eq_getElem?_getD, List.getElem?_eq_getElem (show n - 1 - k < ts.length by omega)]
  have sn := small_nat (n := n) (by omega)
  have hlen : (rangeL 0 n).length = n := by simp [rangeL]
  have hc := compL_all (ρ := [o, fa, lo, some (.val (.int n)), some (lO ls), some (lO ts), none]) (own := [6]) (a := aN 6) (t := mTrue) (e := mP (pTup (pCons (p2 ixO (pVar 4) (pVar 6)) (pCons (p2 ixO (pVar 5) (p2 (lift2 subD) (p2 (lift2 subD) (pVar 3) (pC (.int 1))) (pVar 6))) (pNil)))))
    (fun i : Nat => D.int (0 + (i : Int))) (fun i => O.val (.tup [.int (ls.getD i 0), .int (ts.getD (n - 1 - i) 0)])) (xs := List.range n) (by
      intro i hi
      have hi : i < n := by simpa using hi
      refine ⟨[o, fa, lo, some (.val (.int n)), some (lO ls), some (lO ts), some (.val (.int i))], [o, fa, lo, some (.val (.int n)), some (lO ls), some (lO ts), some (.val (.int i))], [o, fa, lo, some (.val (.int n)), some (lO ls), some (lO ts), some (.val (.int i))], ?_, ?_, ?_, ?_⟩
      · simp
      · simp
      · simp [lO, hk i hi, hk2 i hi]
      · simp)
  simp [q1__law_curve, sn, hlen, show n ≤ 1000000 by omega]
  unfold rangeL
  rw [hc]
  simp [vO, bkK_eta]

end Lw

namespace Lw
open PySem PySem.Spec L2 FB Wk
open PyProof.Rows hiding St
theorem getD_lt {ls : List Int} (h : ls.Pairwise (· < ·)) {i j : Nat} (hij : i < j) (hj : j < ls.length) : ls.getD i 0 < ls.getD j 0 := by
  have q := (List.pairwise_iff_getElem.mp h) i j (by omega) hj hij
  simpa [List.getD_eq_getElem?_getD, List.getElem?_eq_getElem hj, List.getElem?_eq_getElem (show i < ls.length by omega)] using q
theorem curve (o : O) (far long : Int) (h : Sok o) (f0 : 0 < far) (f1 : far.natAbs.log2 < 9000) (l0 : 0 < long) (l1 : long.natAbs.log2 < 9000) (f2 : far ≤ 100000000000000000000000000000000000000000000000000000000000) (l2 : long ≤ 100000000000000000000000000000000000000000000000000000000000) : ∃ C o', F__law_curve [o, .val (.int far), .val (.int long)] = some (.val (cv C), [some o', none, none]) ∧ Sok o' ∧ Cok C ∧ ∀ p ∈ C, p.1 ≤ 5 * far ∧ p.2 ≤ 5 * long := by
  obtain ⟨r, o1, e1, s1, r0, r1⟩ := take o 5 h (by omega) (by decide)
  obtain ⟨n, hn⟩ : ∃ n : Nat, 1 + r = (n : Int) := ⟨(1 + r).toNat, by omega⟩
  have hn5 : n ≤ 5 := by omega
  have hn1 : 1 ≤ n := by omega
  have hlen : (rangeL 0 n).length = n := by simp [rangeL]
  obtain ⟨ρ', e, o', ls, ts, k, rfl, s', hls, hts, u1, u2⟩ := forL_inv (a := aN 6) (b := b1__law_curve) (ds := rangeL 0 n) (fun i ρ => ∃ o ls ts k, ρ = [some o, some (.val (.int far)), some (.val (.int long)), some (.val (.int n)), some (lO ls), some (lO ts), k] ∧ Sok o ∧ ls.length = i ∧ ts.length = i ∧ Up far ls ∧ Up long ts) (ρ := [some o1, some (.val (.int far)), some (.val (.int long)), some (.val (.int n)), some (lO []), some (lO []), none])
    ⟨o1, [], [], none, rfl, s1, rfl, rfl, Up.nil _, Up.nil _⟩ (by
      rintro i d ρ hd ⟨o, ls, ts, k, rfl, so, hls, hts, u1, u2⟩
      have hi : i < n := by
        have := (List.getElem?_eq_some_iff.mp hd).1
        simpa [rangeL] using this
      have ed : d = .int i := by
        unfold rangeL at hd
        simp [hi] at hd
        exact hd.symm
      subst ed
      obtain ⟨a, oa, ea, sa, a0, a1⟩ := take o far so f0 f1
      obtain ⟨b, ob, eb, sb, b0, b1⟩ := take oa long sa l0 l1
      subst hls
      refine ⟨_, _, e_aN _ _, .inl (curve_b o oa ob far long n ls ts a b hts (by omega) ea eb), ob, _, _, some (.val (.int ls.length)), rfl, sb, by simp, by simp [hts], u1.app a0 a1, u2.app b0 b1⟩)
  rw [hlen] at hls hts
  refine ⟨(List.range n).map fun k => (ls.getD k 0, ts.getD (n - 1 - k) 0), o', ?_, s', ⟨?_, ?_, ?_, ?_⟩, ?_⟩
  · unfold F__law_curve
    rw [runF_eq]
    have sn := small_nat (n := n) (by omega)
    have eq := curve_q (some o') (some (.val (.int far))) (some (.val (.int long))) k n ls ts hn5 hls hts
    have e : forL (aN 6) b1__law_curve (rangeL 0 n) [some o1, some (.val (.int far)), some (.val (.int long)), some (.val (.int n)), some (O.lst []), some (O.lst []), none] = _ := e
    simp [b__law_curve, e1, hn, sn, e, eq, cv, pD]
    rfl
  · intro z
    have := congrArg List.length z
    simp at this
    omega
  · simp; exact hn5
  · rw [List.pairwise_map]
    refine List.Pairwise.imp_of_mem ?_ (List.pairwise_lt_range (n := n))
    intro i j hi hj hij
    have hi : i < n := by simpa using hi
    have hj : j < n := by simpa using hj
    exact ⟨getD_lt u1.1 hij (by omega), getD_lt u2.1 (by omega) (by omega)⟩
  · intro p hp
    obtain ⟨k, hk, rfl⟩ := List.mem_map.mp hp
    have hk : k < n := by simpa using hk
    have w1 := u1.le f0 (by omega) (show k < ls.length by omega)
    have w2 := u2.le l0 (by omega) (show n - 1 - k < ts.length by omega)
    exact ⟨u1.pos (by omega), u2.pos (by omega), by show ls.getD k 0 < _; omega, by show ts.getD (n - 1 - k) 0 < _; omega⟩
  · intro p hp
    obtain ⟨k, hk, rfl⟩ := List.mem_map.mp hp
    have hk : k < n := by simpa using hk
    exact ⟨u1.le f0 (by omega) (by omega), u2.le l0 (by omega) (by omega)⟩

end Lw

namespace Lw
open PySem PySem.Spec L2 FB Wk
open PyProof.Rows hiding St
def sD (l : List Nat) : D := .str (SL l)
def nO (ns : List (List Nat)) : O := vO (ns.map sD)
def NsOk (ns : List (List Nat)) : Prop := ns.Nodup ∧ ∀ l ∈ ns, NameOk l
theorem addD_lst (xs ys : List D) (h : xs.length + ys.length ≤ 1000000) : addD (.lst xs) (.lst ys) = some (.lst (xs ++ ys)) := if_pos h
theorem slO_str (z : Str) (lo hi : Option Int) (h : z.length ≤ 1000000) : slO (.val (.str z)) lo hi = some (.val (.str (cutS z lo hi))) := if_pos h
theorem nodup_range {α : Type} (g : Nat → α) (n : Nat) (h : ∀ i j, i < n → j < n → g i = g j → i = j) : ((List.range n).map g).Nodup := by
  unfold List.Nodup
  rw [List.pairwise_map]
  refine List.Pairwise.imp_of_mem ?_ (List.pairwise_lt_range (n := n))
  intro i j hi hj hij e
  have := h i j (by simpa using hi) (by simpa using hj) e
  omega
/-! the words -/
def Wd : List Str := ["guard", "load", "on", "off", "open", "close", "fault", "go", "row", "map", "least", "board", "change", "move", "dark", "draws", "sum", "through", "parted", "not", "awake", "a", "aa", "aaa", "aaaaaaaa", "b"]
def W26 : List (List Nat) := [[6, 20, 0, 17, 3], [11, 14, 0, 3], [14, 13], [14, 5, 5], [14, 15, 4, 13], [2, 11, 14, 18, 4], [5, 0, 20, 11, 19], [6, 14], [17, 14, 22], [12, 0, 15], [11, 4, 0, 18, 19], [1, 14, 0, 17, 3], [2, 7, 0, 13, 6, 4], [12, 14, 21, 4], [3, 0, 17, 10], [3, 17, 0, 22, 18], [18, 20, 12], [19, 7, 17, 14, 20, 6, 7], [15, 0, 17, 19, 4, 3], [13, 14, 19], [0, 22, 0, 10, 4], [0], [0, 0], [0, 0, 0], [0, 0, 0, 0, 0, 0, 0, 0], [1]]
theorem Wd_eq : Wd = W26.map SL := by decide +kernel
theorem W26_nd : W26.Nodup := by decide +kernel
theorem W26_ok : ∀ l ∈ W26, NameOk l := by
  have h : W26.all (fun l => decide (1 ≤ l.length) && decide (l.length ≤ 8) && l.all fun c => decide (c < 26)) = true := by decide +kernel
  intro l hl
  have := List.all_eq_true.mp h l hl
  simp at this
  exact ⟨this.1.1, this.1.2, this.2⟩
theorem words_eq : [D.str "guard", D.str "load", D.str "on", D.str "off", D.str "open", D.str "close", D.str "fault", D.str "go", D.str "row", D.str "map", D.str "least", D.str "board", D.str "change", D.str "move", D.str "dark", D.str "draws", D.str "sum", D.str "through", D.str "parted", D.str "not", D.str "awake", D.str "a", D.str "aa", D.str "aaa", D.str "aaaaaaaa", D.str "b"] = W26.map sD := by
  have : W26.map sD = Wd.map D.str := by rw [Wd_eq, List.map_map]; rfl
  rw [this]; rfl
def wdV : D := .lst (W26.map sD)
/-- the k-th name of one base -/
def nmC (bs : List Nat) (a s k : Nat) : List Nat := bs.take a ++ [(s + k) % 26] ++ bs.drop (a + 1)
theorem nmC_ok {bs : List Nat} {a s : Nat} (k : Nat) (h8 : bs.length ≤ 8) (ha : a < bs.length) (hb : ∀ b ∈ bs, b < 26) : NameOk (nmC bs a s k) := by
  unfold nmC
  refine ⟨by simp; omega, by simp; omega, fun c hc => ?_⟩
  rcases List.mem_append.mp hc with hc | hc
  · rcases List.mem_append.mp hc with hc | hc
    · exact hb c (List.mem_of_mem_take hc)
    · simp at hc; omega
  · exact hb c (List.mem_of_mem_drop hc)
theorem nmC_inj {bs : List Nat} {a s i j : Nat} (ha : a < bs.length) (hi : i < 26) (hj : j < 26) (h : nmC bs a s i = nmC bs a s j) : i = j := by
  unfold nmC at h
  have h1 := List.append_cancel_right h
  have h2 := List.append_cancel_left h1
  simp at h2
  omega
theorem cutS_tl (z : Str) (lo hi : Option Int) : (cutS z lo hi).cps.toList = cutL z.cps.toList lo hi := by
  unfold cutS cutL
  rw [Array.length_toList]
  rfl
theorem cut_SL_to (l : List Nat) (a : Nat) (h : l.length ≤ 100) : slO (.val (.str (SL l))) none (some (a : Int)) = some (.val (.str (SL (l.take a)))) := by
  rw [slO_str _ _ _ (by rw [SL_len]; omega)]
  congr 3
  apply Str_ext
  rw [cutS_tl, cut_to, SL_tl, SL_tl, List.map_take]
theorem cut_SL_from (l : List Nat) (a : Nat) (h : l.length ≤ 100) : slO (.val (.str (SL l))) (some (a : Int)) none = some (.val (.str (SL (l.drop a)))) := by
  rw [slO_str _ _ _ (by rw [SL_len]; omega)]
  congr 3
  apply Str_ext
  rw [cutS_tl, cut_from, SL_tl, SL_tl, List.map_drop]
theorem names_q1 (o : O) (n : Nat) (a1 a4 a5 a6 a7 : Option O) (h : Sok o) (hn : n ≤ 8) : ∃ (o' : O) (bs : List Nat), q1__law_names [some o, a1, some (.val (.str "abcdefghijklmnopqrstuvwxyz")), some (.val (.int (n : Int))), a4, a5, a6, a7, none] =
    .ok (nO (bs.map fun b => [b])) [some o', a1, some (.val (.str "abcdefghijklmnopqrstuvwxyz")), some (.val (.int (n : Int))), a4, a5, a6, a7, none] ∧ Sok o' ∧ bs.length = n ∧ ∀ b ∈ bs, b < 26 := by
  have sn := small_nat (n := n) (by omega)
  obtain ⟨os, ρ', hc, hl, hp, o', e, s'⟩ := compL_inv (own := [8]) (a := aN 8) (e := m2 ixO (mP (pVar 2)) (mCall F__law_take [.io 0, .v (mP (pC (.int 26)))])) (ds := rangeL 0 n) (ρ := [some o, a1, some (.val (.str "abcdefghijklmnopqrstuvwxyz")), some (.val (.int (n : Int))), a4, a5, a6, a7, none])
    (fun i ρ => ∃ o, ρ = [some o, a1, some (.val (.str "abcdefghijklmnopqrstuvwxyz")), some (.val (.int (n : Int))), a4, a5, a6, a7, none] ∧ Sok o) (fun _ o => ∃ b : Nat, b < 26 ∧ o = .val (sD [b])) ⟨o, rfl, h⟩ (by
      rintro i d ρ hd ⟨o, rfl, so⟩
      obtain ⟨hi, rfl⟩ := rangeL_get hd
      obtain ⟨r, o', e, s', p, q⟩ := take o 26 so (by decide) (by decide)
      obtain ⟨k, rfl⟩ : ∃ k : Nat, r = (k : Int) := ⟨r.toNat, by omega⟩
      have lt := letter_at k (by omega)
      exact ⟨[some o, a1, some (.val (.str "abcdefghijklmnopqrstuvwxyz")), some (.val (.int (n : Int))), a4, a5, a6, a7, some (.val (.int (0 + (i : Int))))], .val (sD [k]), [some o', a1, some (.val (.str "abcdefghijklmnopqrstuvwxyz")), some (.val (.int (n : Int))), a4, a5, a6, a7, some (.val (.int (0 + (i : Int))))], by simp, by simp [e, lt, sD], ⟨k, by omega, rfl⟩, o', by simp, s'⟩)
  subst e
  rw [rangeL_len] at hl
  obtain ⟨bs, e2, hb⟩ := list_of (fun b : Nat => O.val (sD [b])) (fun b => b < 26) hp
  subst e2
  refine ⟨o', bs, ?_, s', by simpa using hl, hb⟩
  have e3 : nO (bs.map fun b => [b]) = .lst (bs.map fun b => O.val (sD [b])) := by unfold nO vO; rw [List.map_map, List.map_map]; rfl
  rw [e3]
  simp [q1__law_names, sn, rangeL_len, show n ≤ 1000000 by omega]
  rw [hc]
  simp [bkK_eta]
theorem wd_at (k : Nat) (h : k < 26) : ixO (.val wdV) (.val (.int (k : Int))) = some (.val (sD (W26.getD k []))) := by
  have hl : W26.length = 26 := by decide +kernel
  unfold wdV
  simp [atN, List.getElem?_eq_getElem (show k < W26.length by omega)]
theorem names_q2 (a0 a2 a3 a4 a5 : Option O) (s m : Nat) (hs : s < 26) (hm : m ≤ 26) : q2__law_names [a0, some (.val (.int (m : Int))), a2, a3, a4, a5, some (.val (.int (s : Int))), some (.val wdV), none] =
    .ok (nO ((List.range m).map fun k => W26.getD ((s + 5 * k) % 26) [])) [a0, some (.val (.int (m : Int))), a2, a3, a4, a5, some (.val (.int (s : Int))), some (.val wdV), none] := by
  have sn := small_nat (n := m) (by omega)
  have hc := compL_all (ρ := [a0, some (.val (.int (m : Int))), a2, a3, a4, a5, some (.val (.int (s : Int))), some (.val wdV), none]) (own := [8]) (a := aN 8) (t := mTrue) (e := mP (p2 ixO (pVar 7) (p2 (lift2 modD) (p2 (lift2 addD) (pVar 6) (p2 (lift2 mulD) (pC (.int 5)) (pVar 8))) (pC (.int 26)))))
    (fun i : Nat => D.int (0 + (i : Int))) (fun k => O.val (sD (W26.getD ((s + 5 * k) % 26) []))) (xs := List.range m) (by
    intro i hi
    have hi : i < m := by simpa using hi
    have e1 : ((s : Int) + 5 * (i : Int)) % 26 = (((s + 5 * i) % 26 : Nat) : Int) := by omega
    have e3 := wd_at ((s + 5 * i) % 26) (by omega)
    rw [← e1] at e3
    have mu : mulD (.int 5) (.int (i : Int)) = some (.int (5 * (i : Int))) := by unfold mulD mulOk; simp
    have e6 := @e_mod ((s : Int) + 5 * (i : Int)) 26 (by decide)
    generalize wdV = WV at *
    generalize W26.getD ((s + 5 * i) % 26) [] = w at *
    refine ⟨[a0, some (.val (.int (m : Int))), a2, a3, a4, a5, some (.val (.int (s : Int))), some (.val WV), some (.val (.int (i : Int)))], [a0, some (.val (.int (m : Int))), a2, a3, a4, a5, some (.val (.int (s : Int))), some (.val WV), some (.val (.int (i : Int)))], [a0, some (.val (.int (m : Int))), a2, a3, a4, a5, some (.val (.int (s : Int))), some (.val WV), some (.val (.int (i : Int)))], by simp, by simp, by simp [mu, e6, e3], by simp⟩)
  generalize wdV = WV at *
  simp [q2__law_names, sn, rangeL_len, show m ≤ 1000000 by omega]
  unfold rangeL
  rw [hc]
  simp [vO, nO, bkK_eta]
theorem names_q3 (a0 a3 a7 : Option O) (bs : List Nat) (a s m : Nat) (hb : bs.length ≤ 8) (hs : s < 26) (hm : m ≤ 26) : q3__law_names [a0, some (.val (.int (m : Int))), some (.val (.str "abcdefghijklmnopqrstuvwxyz")), a3, some (.val (sD bs)), some (.val (.int (a : Int))), some (.val (.int (s : Int))), a7, none] =
    .ok (nO ((List.range m).map (nmC bs a s))) [a0, some (.val (.int (m : Int))), some (.val (.str "abcdefghijklmnopqrstuvwxyz")), a3, some (.val (sD bs)), some (.val (.int (a : Int))), some (.val (.int (s : Int))), a7, none] := by
  have sn := small_nat (n := m) (by omega)
  have hc := compL_all (ρ := [a0, some (.val (.int (m : Int))), some (.val (.str "abcdefghijklmnopqrstuvwxyz")), a3, some (.val (sD bs)), some (.val (.int (a : Int))), some (.val (.int (s : Int))), a7, none]) (own := [8]) (a := aN 8) (t := mTrue) (e := mP (p2 (lift2 addD) (p2 (lift2 addD) (pSl (pVar 4) pNone (pInt (pVar 5))) (p2 ixO (pVar 2) (p2 (lift2 modD) (p2 (lift2 addD) (pVar 6) (pVar 8)) (pC (.int 26))))) (pSl (pVar 4) (pInt (p2 (lift2 addD) (pVar 5) (pC (.int 1)))) pNone)))
    (fun i : Nat => D.int (0 + (i : Int))) (fun k => O.val (sD (nmC bs a s k))) (xs := List.range m) (by
    intro i hi
    have hi : i < m := by simpa using hi
    have e1 : ((s : Int) + (i : Int)) % 26 = (((s + i) % 26 : Nat) : Int) := by omega
    have e3 := letter_at ((s + i) % 26) (by omega)
    rw [← e1] at e3
    have e6 := @e_mod ((s : Int) + (i : Int)) 26 (by decide)
    have c1 := cut_SL_to bs a (by omega)
    have c2 := cut_SL_from bs (a + 1) (by omega)
    rw [show ((a + 1 : Nat) : Int) = (a : Int) + 1 by omega] at c2
    have a1 := addD_SL (bs.take a) [(s + i) % 26] (by simp; omega)
    have a2 := addD_SL (bs.take a ++ [(s + i) % 26]) (bs.drop (a + 1)) (by simp; omega)
    have e9 : sD (nmC bs a s i) = .str (SL (bs.take a ++ [(s + i) % 26] ++ bs.drop (a + 1))) := rfl
    rw [e9]
    have eb : sD bs = .str (SL bs) := rfl
    rw [eb]
    generalize SL (bs.take a ++ [(s + i) % 26] ++ bs.drop (a + 1)) = s1 at *
    generalize SL (bs.take a ++ [(s + i) % 26]) = s2 at *
    generalize SL (bs.take a) = s3 at *
    generalize SL (bs.drop (a + 1)) = s4 at *
    generalize SL [(s + i) % 26] = s5 at *
    generalize SL bs = s6 at *
    refine ⟨[a0, some (.val (.int (m : Int))), some (.val (.str "abcdefghijklmnopqrstuvwxyz")), a3, some (.val (.str s6)), some (.val (.int (a : Int))), some (.val (.int (s : Int))), a7, some (.val (.int (i : Int)))], [a0, some (.val (.int (m : Int))), some (.val (.str "abcdefghijklmnopqrstuvwxyz")), a3, some (.val (.str s6)), some (.val (.int (a : Int))), some (.val (.int (s : Int))), a7, some (.val (.int (i : Int)))], [a0, some (.val (.int (m : Int))), some (.val (.str "abcdefghijklmnopqrstuvwxyz")), a3, some (.val (.str s6)), some (.val (.int (a : Int))), some (.val (.int (s : Int))), a7, some (.val (.int (i : Int)))], by simp, by simp, by simp [c1, c2, e6, e3, a1, a2], by simp⟩)
  have eb : sD bs = .str (SL bs) := rfl
  rw [eb] at hc ⊢
  generalize SL bs = s6 at *
  simp [q3__law_names, sn, rangeL_len, show m ≤ 1000000 by omega]
  unfold rangeL
  rw [hc]
  simp [vO, nO, bkK_eta]
theorem flat1 : ∀ bs : List Nat, (bs.map fun b => [b]).flatten = bs
  | [] => rfl
  | b :: bs => by rw [List.map_cons, List.flatten_cons, flat1 bs]; rfl
theorem sum1 : ∀ bs : List Nat, ((bs.map fun b => [b]).map List.length).sum = bs.length
  | [] => rfl
  | b :: bs => by rw [List.map_cons, List.map_cons, List.sum_cons, sum1 bs]; show 1 + bs.length = bs.length + 1; omega
theorem names (o : O) (m : Nat) (h : Sok o) (hm : m ≤ 26) : ∃ o' ns, F__law_names [o, .val (.int (m : Int))] = some (nO ns, [some o', none]) ∧ Sok o' ∧ ns.length = m ∧ NsOk ns := by
  obtain ⟨r1, o1, e1, s1, p1, q1⟩ := take o 8 h (by decide) (by decide)
  obtain ⟨n, hn⟩ : ∃ n : Nat, 1 + r1 = (n : Int) := ⟨(1 + r1).toNat, by omega⟩
  obtain ⟨o2, bs, e2, s2, hbl, hb⟩ := names_q1 o1 n (some (.val (.int (m : Int)))) none none none none s1 (by omega)
  obtain ⟨r3, o3, e3, s3, p3, q3⟩ := take o2 (n : Int) s2 (by omega) (by
    refine log_big (by omega) (by omega))
  obtain ⟨a, rfl⟩ : ∃ k : Nat, r3 = (k : Int) := ⟨r3.toNat, by omega⟩
  obtain ⟨r4, o4, e4, s4, p4, q4⟩ := take o3 26 s3 (by decide) (by decide)
  obtain ⟨s, rfl⟩ : ∃ k : Nat, r4 = (k : Int) := ⟨r4.toNat, by omega⟩
  obtain ⟨r5, o5, e5, s5, p5, q5⟩ := take o4 4 s4 (by decide) (by decide)
  have jn : joinD "" ((nO (bs.map fun b => [b])).toD) = some (.str (SL bs)) := by
    have : (nO (bs.map fun b => [b])).toD = .lst (((bs.map fun b => [b]).map SL).map D.str) := by unfold nO; rw [vO_toD]; simp [List.map_map]; intro a _; rfl
    rw [this, joinD_SL _ (by rw [sum1]; omega), flat1]
  have ha1 : addD (.lst [D.str "guard", D.str "load", D.str "on", D.str "off", D.str "open", D.str "close", D.str "fault", D.str "go", D.str "row", D.str "map", D.str "least", D.str "board", D.str "change"]) (.lst [D.str "move", D.str "dark", D.str "draws", D.str "sum", D.str "through", D.str "parted", D.str "not", D.str "awake"]) = some (.lst [D.str "guard", D.str "load", D.str "on", D.str "off", D.str "open", D.str "close", D.str "fault", D.str "go", D.str "row", D.str "map", D.str "least", D.str "board", D.str "change", D.str "move", D.str "dark", D.str "draws", D.str "sum", D.str "through", D.str "parted", D.str "not", D.str "awake"]) := (addD_lst _ _ (by simp)).trans rfl
  have ha2 : addD (.lst [D.str "guard", D.str "load", D.str "on", D.str "off", D.str "open", D.str "close", D.str "fault", D.str "go", D.str "row", D.str "map", D.str "least", D.str "board", D.str "change", D.str "move", D.str "dark", D.str "draws", D.str "sum", D.str "through", D.str "parted", D.str "not", D.str "awake"]) (.lst [D.str "a", D.str "aa", D.str "aaa", D.str "aaaaaaaa", D.str "b"]) = some wdV := (addD_lst _ _ (by simp)).trans (by
      show some (D.lst [D.str "guard", D.str "load", D.str "on", D.str "off", D.str "open", D.str "close", D.str "fault", D.str "go", D.str "row", D.str "map", D.str "least", D.str "board", D.str "change", D.str "move", D.str "dark", D.str "draws", D.str "sum", D.str "through", D.str "parted", D.str "not", D.str "awake", D.str "a", D.str "aa", D.str "aaa", D.str "aaaaaaaa", D.str "b"]) = some wdV
      rw [words_eq]; rfl)
  have eb : sD bs = .str (SL bs) := rfl
  have f2 := names_q2 (some o5) (some (.val (.str "abcdefghijklmnopqrstuvwxyz"))) (some (.val (.int (n : Int)))) (some (.val (sD bs))) (some (.val (.int (a : Int)))) s m (by omega) hm
  have f3 := names_q3 (some o5) (some (.val (.int (n : Int)))) (some (.val wdV)) bs a s m (by omega) (by omega) hm
  rw [eb] at f2 f3
  have hW : W26.length = 26 := by decide +kernel
  by_cases h5 : r5 = 0
  · refine ⟨o5, (List.range m).map fun k => W26.getD ((s + 5 * k) % 26) [], ?_, s5, by simp, nodup_range _ _ (fun i j hi hj e => ?_), fun l hl => ?_⟩
    · subst h5
      generalize nO ((List.range m).map fun k => W26.getD ((s + 5 * k) % 26) []) = R at *
      generalize nO (bs.map fun b => [b]) = NB at *
      generalize wdV = WV at *
      generalize SL bs = sb at *
      unfold F__law_names
      rw [runF_eq]
      simp [b__law_names, e1, hn, e2, jn, e3, e4, ha1, ha2, e5, f2]
      rfl
    · rw [List.getD_eq_getElem?_getD, List.getD_eq_getElem?_getD, List.getElem?_eq_getElem (by omega), List.getElem?_eq_getElem (by omega)] at e
      have := (List.getElem_inj W26_nd).mp e
      omega
    · obtain ⟨k, hk, rfl⟩ := List.mem_map.mp hl
      rw [List.getD_eq_getElem?_getD, List.getElem?_eq_getElem (by omega)]
      exact W26_ok _ (List.getElem_mem _)
  · refine ⟨o5, (List.range m).map (nmC bs a s), ?_, s5, by simp, nodup_range _ _ (fun i j hi hj e => nmC_inj (by omega) (by omega) (by omega) e), fun l hl => ?_⟩
    · generalize nO ((List.range m).map (nmC bs a s)) = R at *
      generalize nO (bs.map fun b => [b]) = NB at *
      generalize wdV = WV at *
      generalize SL bs = sb at *
      unfold F__law_names
      rw [runF_eq]
      simp [b__law_names, e1, hn, e2, jn, e3, e4, ha1, ha2, e5, h5, f3]
      rfl
    · obtain ⟨k, hk, rfl⟩ := List.mem_map.mp hl
      exact nmC_ok k (by omega) (by omega) hb

end Lw

namespace Lw
open PySem PySem.Spec L2 FB Wk
open PyProof.Rows hiding St
structure Gd where
  nm : List Nat
  un : Option (List Nat)
  C : List (Int × Int)
  dl : Int
  wt : Int
def uD : Option (List Nat) → D
  | none => .non
  | some l => sD l
def gD (g : Gd) : D := .tup [sD g.nm, uD g.un, cv g.C, .int g.dl, .int g.wt]
def numOk (n : Int) : Prop := 0 ≤ n ∧ n < 1000000000000000000000000000000000000000000000000000000000000
def kD (ms : List (List Nat)) : List Key := ms.map fun l => .inr (SL l)
theorem idx_none {l : List Nat} : ∀ {ms : List (List Nat)}, l ∉ ms → idxK (kD ms) (.inr (SL l)) = none
  | [], _ => rfl
  | m :: ms, h => by
    have ih := idx_none (l := l) (ms := ms) fun z => h (List.mem_cons_of_mem _ z)
    unfold idxK kD at ih ⊢
    rw [List.map_cons, List.findIdx?_cons, ih]
    have : ¬ (Sum.inr (SL m) : Key) = Sum.inr (SL l) := fun z => h (by rw [← SL_inj (Sum.inr.inj z)]; exact List.mem_cons_self ..)
    rw [if_neg (by simpa using this)]; rfl
theorem idx_some {l : List Nat} : ∀ {ms : List (List Nat)} {i : Nat}, ms.Nodup → ms[i]? = some l → idxK (kD ms) (.inr (SL l)) = some i
  | [], _, _, h => by simp at h
  | m :: ms, 0, nd, h => by
    simp at h
    subst h
    unfold idxK kD
    rw [List.map_cons, List.findIdx?_cons, if_pos (by simp)]
  | m :: ms, i + 1, nd, h => by
    have h : ms[i]? = some l := by simpa using h
    have ih := idx_some (List.nodup_cons.mp nd).2 h
    unfold idxK kD at ih ⊢
    rw [List.map_cons, List.findIdx?_cons, ih]
    have : ¬ (Sum.inr (SL m) : Key) = Sum.inr (SL l) := fun z => (List.nodup_cons.mp nd).1 (by rw [SL_inj (Sum.inr.inj z)]; exact List.mem_of_getElem? h)
    rw [if_neg (by simpa using this)]; rfl
/-- the guards so far; ds: how deep each is -/
structure GsOk (gs : List Gd) (ds : List Nat) : Prop where
  len : ds.length = gs.length
  nd : (gs.map Gd.nm).Nodup
  names : ∀ g ∈ gs, NameOk g.nm
  rest : ∀ g ∈ gs, Cok g.C ∧ numOk g.dl ∧ numOk g.wt
  under : ∀ (i : Nat) (g : Gd), gs[i]? = some g → (g.un = none ∧ ds[i]? = some 1) ∨ ∃ (j : Nat) (u : Gd) (d : Nat), j < i ∧ gs[j]? = some u ∧ g.un = some u.nm ∧ ds[j]? = some d ∧ d < 8 ∧ ds[i]? = some (d + 1)
theorem GsOk.nil : GsOk [] [] := ⟨rfl, by simp, by simp, by simp, fun i g h => by simp at h⟩
theorem get_snoc {α : Type} {l : List α} {x y : α} {i : Nat} (h : (l ++ [x])[i]? = some y) : (i < l.length ∧ l[i]? = some y) ∨ (i = l.length ∧ y = x) := by
  by_cases hi : i < l.length
  · rw [List.getElem?_append_left hi] at h
    exact .inl ⟨hi, h⟩
  · rw [List.getElem?_append_right (by omega)] at h
    have h9 := (List.getElem?_eq_some_iff.mp h).1
    simp at h9
    have : i = l.length := by omega
    subst this
    simp at h
    exact .inr ⟨rfl, h.symm⟩
theorem GsOk.snoc {gs : List Gd} {ds : List Nat} {g : Gd} {v : Nat} (h : GsOk gs ds) (hn : g.nm ∉ gs.map Gd.nm) (hk : NameOk g.nm) (hr : Cok g.C ∧ numOk g.dl ∧ numOk g.wt) (hu : (g.un = none ∧ v = 1) ∨ ∃ (j : Nat) (u : Gd) (d : Nat), j < gs.length ∧ gs[j]? = some u ∧ g.un = some u.nm ∧ ds[j]? = some d ∧ d < 8 ∧ v = d + 1) : GsOk (gs ++ [g]) (ds ++ [v]) := by
  obtain ⟨h1, h2, h3, h4, h5⟩ := h
  refine ⟨by simp [h1], ?_, ?_, ?_, fun i g' hi => ?_⟩
  · rw [List.map_append, List.nodup_append]
    exact ⟨h2, by simp, fun a ha b hb e => hn (by simp at hb; rw [← hb, ← e]; exact ha)⟩
  · intro x hx
    rcases List.mem_append.mp hx with q | q
    · exact h3 x q
    · simp at q; rw [q]; exact hk
  · intro x hx
    rcases List.mem_append.mp hx with q | q
    · exact h4 x q
    · simp at q; rw [q]; exact hr
  · rcases get_snoc hi with ⟨q, e⟩ | ⟨q, e⟩
    · rcases h5 i g' e with ⟨a, b⟩ | ⟨j, u, d, b1, b2, b3, b4, b5, b6⟩
      · exact .inl ⟨a, by rw [List.getElem?_append_left (by omega)]; exact b⟩
      · refine .inr ⟨j, u, d, b1, ?_, b3, ?_, b5, ?_⟩
        · rw [List.getElem?_append_left (by omega)]; exact b2
        · rw [List.getElem?_append_left (by omega)]; exact b4
        · rw [List.getElem?_append_left (by omega)]; exact b6
    · subst e
      rw [q]
      have ev : (ds ++ [v])[gs.length]? = some v := by rw [← h1]; simp
      rcases hu with ⟨a, b⟩ | ⟨j, u, d, b1, b2, b3, b4, b5, b6⟩
      · exact .inl ⟨a, by rw [ev, b]⟩
      · refine .inr ⟨j, u, d, b1, ?_, b3, ?_, b5, by rw [ev, b6]⟩
        · rw [List.getElem?_append_left (by omega)]; exact b2
        · rw [List.getElem?_append_left (by omega)]; exact b4
def gsO (gs : List Gd) : O := vO (gs.map gD)
theorem gsO_sh (gs : List Gd) : (gsO gs).sh = some (.lst (gs.map gD)) := vO_sh _
theorem gD_0 (g : Gd) : ixO (.val (gD g)) (.val (.int 0)) = some (.val (sD g.nm)) := by unfold gD; simp
def lN (bs : List Nat) : O := vO (bs.map fun b : Nat => D.int (b : Int))
theorem lN_ix (bs : List Nat) (i : Nat) (h : i < bs.length) : ixO (lN bs) (.val (.int (i : Int))) = some (.val (.int (bs.getD i 0 : Nat))) := by
  unfold lN
  rw [vO_ix, atN, List.getElem?_map, List.getElem?_eq_getElem h]
  simp [List.getD_eq_getElem?_getD, List.getElem?_eq_getElem h]
theorem lN_apA (j : Nat) (ns : List Nat) (ρ : FB.Env) (mm : M O) : apA j mm ρ (some (some (lN ns))) = apB j (mm ρ) := rfl
theorem lN_ap (j : Nat) (ns : List Nat) (v : Nat) (h : ns.length < 100) (ρ : FB.Env) : apC j (.val (.int (v : Int))) ρ (some (some (lN ns))) = .ok (.val .non) (ρ.set j (some (lN (ns ++ [v])))) := by
  unfold lN
  rw [vO_apC _ _ _ (by simp; omega)]; simp
def nsV (ns : List (List Nat)) : D := .lst (ns.map sD)
theorem nsV_ix (ns : List (List Nat)) (i : Nat) (l : List Nat) (h : ns[i]? = some l) : ixO (.val (nsV ns)) (.val (.int (i : Int))) = some (.val (sD l)) := by
  unfold nsV
  simp [atN, h]
theorem gs_apA (gs : List Gd) (ρ : FB.Env) (mm : M O) : apA 4 mm ρ (some (some (gsO gs))) = apB 4 (mm ρ) := rfl
theorem gs_ap (gs : List Gd) (g : Gd) (h : gs.length < 100) (ρ : FB.Env) : apC 4 (.val (.tup [sD g.nm, uD g.un, cv g.C, .int g.dl, .int g.wt])) ρ (some (some (gsO gs))) = .ok (.val .non) (ρ.set 4 (some (gsO (gs ++ [g])))) := by
  unfold gsO
  rw [vO_apC _ _ _ (by simp; omega)]; simp [gD]
/-- one or the long one -/
theorem one_of (long : Int) (o : O) (so : Sok o) (h0 : 0 < long) (h1 : long ≤ 100000000000000000000000000000000000000000000000000000000000) : ∃ r o1 x o2, F__law_take [o, .val (.int 2)] = some (.val (.int r), [some o1, none]) ∧ ixO (.lst [.val (.int 1), .val (.int long)]) (.val (.int r)) = some (.val (.int x)) ∧ (∃ y, F__law_take [o1, .val (.int x)] = some (.val (.int y), [some o2, none]) ∧ 0 ≤ y ∧ y < 100000000000000000000000000000000000000000000000000000000000) ∧ Sok o2 := by
  obtain ⟨r, o1, e1, s1, p1, q1⟩ := take o 2 so (by decide) (by decide)
  obtain ⟨x, ex, x0, x1⟩ : ∃ x : Int, ixO (.lst [.val (.int 1), .val (.int long)]) (.val (.int r)) = some (.val (.int x)) ∧ 0 < x ∧ x ≤ 100000000000000000000000000000000000000000000000000000000000 := by
    have : r = 0 ∨ r = 1 := by omega
    rcases this with e | e <;> subst e
    · exact ⟨1, by simp, by decide, by decide⟩
    · exact ⟨long, by simp, h0, h1⟩
  obtain ⟨y, o2, e2, s2, p2, q2⟩ := take o1 x s1 x0 (log_big (by omega) (by omega))
  exact ⟨r, o1, x, o2, e1, ex, ⟨y, e2, p2, by omega⟩, s2⟩
noncomputable def gP1 : M Fl := mSetP 7 (m2 ixO (mLst (mCons (mP (p2 (lift2 subD) (pVar 6) (pC (.int 1)))) (mCons (mCall F__law_take [.io 0, .v (mFz (m2 (lift2 max2D) (mP (pC (.int 1))) (mP (pVar 6))))]) (mNil)))) (mCall F__law_take [.io 0, .v (mP (pC (.int 2)))]))
noncomputable def gP4 : M Fl := mIf (mAnd (mB (mP (p2 (lift2 gtD) (pVar 6) (pC (.int 0))))) (mAnd (mB (m2 (lift2 gtD) (mCall F__law_take [.io 0, .v (mP (pC (.int 7)))]) (mP (pC (.int 0))))) (mB (mP (p2 (lift2 ltD) (p2 ixO (pVar 5) (pVar 7)) (pC (.int 8))))))) (mSeq (mSetP 8 (mP (p2 ixO (pVar 1) (pVar 7)))) (mSetP 9 (mP (p2 (lift2 addD) (p2 ixO (pVar 5) (pVar 7)) (pC (.int 1)))))) (mSkip)
noncomputable def gP5 : M Fl := mSeq (mEx (mAppend 5 (mP (pVar 9)))) (mSeq (mSetP 10 (mCall F__law_curve [.io 0, .v (mP (pVar 2)), .v (mP (pVar 3))])) (mEx (mAppend 4 (mTup (mCons (mP (p2 ixO (pVar 1) (pVar 6))) (mCons (mP (pVar 8)) (mCons (mP (pVar 10)) (mCons (mCall F__law_take [.io 0, .v (mFz (m2 ixO (mLst (mCons (mP (pC (.int 1))) (mCons (mP (pVar 3)) (mNil)))) (mCall F__law_take [.io 0, .v (mP (pC (.int 2)))])))]) (mCons (mCall F__law_take [.io 0, .v (mFz (m2 ixO (mLst (mCons (mP (pC (.int 1))) (mCons (mP (pVar 3)) (mNil)))) (mCall F__law_take [.io 0, .v (mP (pC (.int 2)))])))]) (mNil))))))))))
theorem gP_eq : b1__law_guards = mSeq gP1 (mSeq (mSetP 8 (mP (pC .non))) (mSeq (mSetP 9 (mP (pC (.int 1)))) (mSeq gP4 gP5))) := rfl
theorem at_b (o : O) (so : Sok o) (k : Nat) (hk : k < 100) (x1 x2 x3 x4 x5 a7 a8 a9 a10 : Option O) : ∃ (o' : O) (j : Int), gP1 [some o, x1, x2, x3, x4, x5, some (.val (.int (k : Int))), a7, a8, a9, a10] = .ok .nx [some o', x1, x2, x3, x4, x5, some (.val (.int (k : Int))), some (.val (.int j)), a8, a9, a10] ∧ Sok o' ∧ (0 < k → 0 ≤ j ∧ j < k) := by
  have mx : 0 < k → (max 1 (k : Int)) = k := by omega
  obtain ⟨r1, o1, e1, s1, p1, q1⟩ := take o (max 1 (k : Int)) so (by omega) (log_big (by omega) (by omega))
  obtain ⟨r2, o2, e2, s2, p2, q2⟩ := take o1 2 s1 (by decide) (by decide)
  have md : max2D (.int 1) (.int (k : Int)) = some (.int (max 1 (k : Int))) := rfl
  generalize (max 1 (k : Int)) = mm at *
  have : r2 = 0 ∨ r2 = 1 := by omega
  rcases this with e | e <;> subst e
  · exact ⟨o2, (k : Int) - 1, by simp [gP1, md, e1, e2], s2, by omega⟩
  · refine ⟨o2, r1, by simp [gP1, md, e1, e2], s2, fun h => ?_⟩
    have := mx h
    omega
/-- what it is under -/
def UnB (gs : List Gd) (ds : List Nat) (u : Option (List Nat)) (v : Nat) : Prop := (u = none ∧ v = 1) ∨ ∃ (j : Nat) (g : Gd) (d : Nat), j < gs.length ∧ gs[j]? = some g ∧ u = some g.nm ∧ ds[j]? = some d ∧ d < 8 ∧ v = d + 1
theorem under_b (o : O) (so : Sok o) (ns : List (List Nat)) (gs : List Gd) (ds : List Nat) (h : GsOk gs ds) (hm : gs.map Gd.nm = ns.take gs.length) (hg : gs.length < 100) (x2 x3 x4 a10 : Option O) (j : Int) (hj : 0 < gs.length → 0 ≤ j ∧ j < gs.length) : ∃ o' u v, gP4 [some o, some (.val (nsV ns)), x2, x3, x4, some (lN ds), some (.val (.int (gs.length : Int))), some (.val (.int j)), some (.val .non), some (.val (.int 1)), a10] =
    .ok .nx [some o', some (.val (nsV ns)), x2, x3, x4, some (lN ds), some (.val (.int (gs.length : Int))), some (.val (.int j)), some (.val (uD u)), some (.val (.int (v : Nat))), a10] ∧ Sok o' ∧ UnB gs ds u v := by
  by_cases h0 : 0 < gs.length
  · obtain ⟨j0, j1⟩ := hj h0
    obtain ⟨i, rfl⟩ : ∃ i : Nat, j = (i : Int) := ⟨j.toNat, by omega⟩
    have hi : i < gs.length := by omega
    obtain ⟨r, o1, e1, s1, p1, q1⟩ := take o 7 so (by decide) (by decide)
    obtain ⟨g, hg2⟩ : ∃ g, gs[i]? = some g := ⟨_, List.getElem?_eq_getElem hi⟩
    have hn : ns[i]? = some g.nm := by
      have : (gs.map Gd.nm)[i]? = some g.nm := by rw [List.getElem?_map, hg2]; rfl
      rw [hm, List.getElem?_take_of_lt hi] at this
      exact this
    have nix := nsV_ix ns i g.nm hn
    have hd : ds[i]? = some (ds.getD i 0) := by rw [List.getD_eq_getElem?_getD, List.getElem?_eq_getElem (by rw [h.len]; exact hi)]; rfl
    have dix := lN_ix ds i (by rw [h.len]; exact hi)
    have hn0 : ¬ ((gs.length : Int) ≤ 0) := by omega
    have hgt : gs ≠ [] := by intro z; rw [z] at h0; simp at h0
    generalize ds.getD i 0 = d at *
    by_cases hr : 0 < r
    · by_cases h8 : d < 8
      · refine ⟨o1, some g.nm, d + 1, ?_, s1, .inr ⟨i, g, d, hi, hg2, rfl, hd, h8, rfl⟩⟩
        have h8' : (d : Int) < 8 := by omega
        generalize lN ds = LN at *
        generalize nsV ns = NV at *
        generalize hgl : gs.length = gl at *
        simp [gP4, h0, e1, hr, dix, h8', nix]
        rfl
      · refine ⟨o1, none, 1, ?_, s1, .inl ⟨rfl, rfl⟩⟩
        have h8' : ¬ (d : Int) < 8 := by omega
        generalize lN ds = LN at *
        generalize nsV ns = NV at *
        generalize hgl : gs.length = gl at *
        simp [gP4, h0, e1, hr, dix, h8', nix]
        rfl
    · refine ⟨o1, none, 1, ?_, s1, .inl ⟨rfl, rfl⟩⟩
      generalize lN ds = LN at *
      generalize nsV ns = NV at *
      generalize hgl : gs.length = gl at *
      simp [gP4, h0, e1, hr, dix, nix]
      rfl
  · refine ⟨o, none, 1, ?_, so, .inl ⟨rfl, rfl⟩⟩
    have h9 : gs.length = 0 := by omega
    rw [h9]
    generalize lN ds = LN at *
    generalize nsV ns = NV at *
    simp [gP4]
    rfl

end Lw

namespace Lw
open PySem PySem.Spec L2 FB Wk
open PyProof.Rows hiding St
/-- how far the numbers go -/
def farOk (n : Int) : Prop := 0 < n ∧ n ≤ 100000000000000000000000000000000000000000000000000000000000
theorem farOk.log {n : Int} (h : farOk n) : n.natAbs.log2 < 9000 := log_big (by have := h.1; omega) (by have := h.2; omega)
theorem row_b (o : O) (so : Sok o) (ns : List (List Nat)) (far long : Int) (hf : farOk far) (hl : farOk long) (gs : List Gd) (ds : List Nat) (h : GsOk gs ds) (l : List Nat) (hlk : ns[gs.length]? = some l) (hg : gs.length < 100) (u : Option (List Nat)) (v : Nat) (x7 a10 : Option O) : ∃ o' g y10, gP5 [some o, some (.val (nsV ns)), some (.val (.int far)), some (.val (.int long)), some (gsO gs), some (lN ds), some (.val (.int (gs.length : Int))), x7, some (.val (uD u)), some (.val (.int (v : Nat))), a10] =
    .ok .nx [some o', some (.val (nsV ns)), some (.val (.int far)), some (.val (.int long)), some (gsO (gs ++ [g])), some (lN (ds ++ [v])), some (.val (.int (gs.length : Int))), x7, some (.val (uD u)), some (.val (.int (v : Nat))), y10] ∧ Sok o' ∧ g.nm = l ∧ g.un = u ∧ Cok g.C ∧ numOk g.dl ∧ numOk g.wt := by
  obtain ⟨C, o1, e1, s1, kC, _⟩ := curve o far long so hf.1 hf.log hl.1 hl.log hf.2 hl.2
  obtain ⟨r2, o2, x2, o3, e2, i2, ⟨y2, e3, p3, q3⟩, s3⟩ := one_of long o1 s1 hl.1 hl.2
  obtain ⟨r4, o4, x4, o5, e4, i4, ⟨y4, e5, p5, q5⟩, s5⟩ := one_of long o3 s3 hl.1 hl.2
  have nix := nsV_ix ns gs.length l hlk
  have ap := gs_apA gs
  have ac : ∀ ρ : FB.Env, apC 4 (.val (.tup [sD l, uD u, cv C, .int y2, .int y4])) ρ (some (some (gsO gs))) = .ok (.val .non) (ρ.set 4 (some (gsO (gs ++ [⟨l, u, C, y2, y4⟩])))) := gs_ap gs ⟨l, u, C, y2, y4⟩ hg
  have bp := lN_apA 5 ds
  have bc := lN_ap 5 ds v (by rw [h.len]; exact hg)
  refine ⟨o5, ⟨l, u, C, y2, y4⟩, some (.val (cv C)), ?_, s5, rfl, rfl, kC, ⟨p3, by show y2 < _; omega⟩, ⟨p5, by show y4 < _; omega⟩⟩
  generalize gsO (gs ++ [⟨l, u, C, y2, y4⟩]) = G2 at *
  generalize gsO gs = G1 at *
  generalize lN (ds ++ [v]) = N2 at *
  generalize lN ds = N1 at *
  generalize nsV ns = NV at *
  generalize cv C = CC at *
  generalize sD l = SLL at *
  generalize uD u = UU at *
  generalize (gs.length : Int) = gl at *
  have i2' : ixO (.lst [.val (.int 1), .val (.int long)]) (.val (.int r2)) = some (.val (.int x2)) := i2
  simp only [ixO_lst] at i2 i4
  simp [gP5, bp, bc, e1, nix, e2, i2, e3, e4, i4, e5, ap, ac]
theorem guard_b (o : O) (so : Sok o) (ns : List (List Nat)) (far long : Int) (hf : farOk far) (hl : farOk long) (gs : List Gd) (ds : List Nat) (a7 a8 a9 a10 : Option O) (hns : NsOk ns) (h : GsOk gs ds) (hm : gs.map Gd.nm = ns.take gs.length) (hk : gs.length < ns.length) (hg : gs.length < 100) :
    ∃ o' g d y7 y8 y9 y10, b1__law_guards [some o, some (.val (nsV ns)), some (.val (.int far)), some (.val (.int long)), some (gsO gs), some (lN ds), some (.val (.int (gs.length : Int))), a7, a8, a9, a10] =
      .ok .nx [some o', some (.val (nsV ns)), some (.val (.int far)), some (.val (.int long)), some (gsO (gs ++ [g])), some (lN (ds ++ [d])), some (.val (.int (gs.length : Int))), y7, y8, y9, y10] ∧ Sok o' ∧ GsOk (gs ++ [g]) (ds ++ [d]) ∧ (gs ++ [g]).map Gd.nm = ns.take (gs.length + 1) := by
  obtain ⟨l, hlk⟩ : ∃ l, ns[gs.length]? = some l := ⟨_, List.getElem?_eq_getElem hk⟩
  have hnew : l ∉ gs.map Gd.nm := fun z => by
    rw [hm] at z
    have e := hns.1
    rw [← List.take_append_drop gs.length ns, List.nodup_append] at e
    refine e.2.2 l z l ?_ rfl
    rw [List.drop_eq_getElem_cons hk]
    rw [List.getElem?_eq_getElem hk] at hlk
    rw [Option.some.inj hlk]
    exact List.mem_cons_self ..
  have hok := hns.2 l (List.mem_of_getElem? hlk)
  obtain ⟨o1, j, e1, s1, hj⟩ := at_b o so gs.length hg (some (.val (nsV ns))) (some (.val (.int far))) (some (.val (.int long))) (some (gsO gs)) (some (lN ds)) a7 a8 a9 a10
  obtain ⟨o2, u, v, e2, s2, hu⟩ := under_b o1 s1 ns gs ds h hm hg (some (.val (.int far))) (some (.val (.int long))) (some (gsO gs)) a10 j (fun q => by have := hj q; omega)
  obtain ⟨o3, g, y10, e3, s3, g1, g2, g3, g4, g5⟩ := row_b o2 s2 ns far long hf hl gs ds h l hlk hg u v (some (.val (.int j))) a10
  refine ⟨o3, g, v, some (.val (.int j)), some (.val (uD u)), some (.val (.int (v : Nat))), y10, ?_, s3, ?_, ?_⟩
  · generalize gsO (gs ++ [g]) = G2 at *
    generalize gsO gs = G1 at *
    generalize lN (ds ++ [v]) = N2 at *
    generalize lN ds = N1 at *
    generalize nsV ns = NV at *
    rw [gP_eq]
    simp [e1, e2, e3]
  · subst g1 g2
    exact h.snoc hnew hok ⟨g3, g4, g5⟩ hu
  · rw [List.map_append, hm, List.take_succ, hlk, List.map_cons, g1]; rfl
theorem guards (o : O) (so : Sok o) (ns : List (List Nat)) (far long : Int) (hf : farOk far) (hl : farOk long) (hns : NsOk ns) (hg : ns.length < 100) :
    ∃ o' gs ds, F__law_guards [o, .val (nsV ns), .val (.int far), .val (.int long)] = some (.val (.tup (gs.map gD)), [some o', none, none, none]) ∧ Sok o' ∧ GsOk gs ds ∧ gs.map Gd.nm = ns := by
  obtain ⟨ρ', f1, o', gs, ds, y6, y7, y8, y9, y10, rfl, s', h1, h2, h3⟩ := forL_inv (a := aN 6) (b := b1__law_guards) (ds := rangeL 0 ns.length) (fun i ρ => ∃ o gs ds y6 y7 y8 y9 y10, ρ = [some o, some (.val (nsV ns)), some (.val (.int far)), some (.val (.int long)), some (gsO gs), some (lN ds), y6, y7, y8, y9, y10] ∧ Sok o ∧ GsOk gs ds ∧ gs.map Gd.nm = ns.take i ∧ gs.length = i)
    (ρ := [some o, some (.val (nsV ns)), some (.val (.int far)), some (.val (.int long)), some (O.lst []), some (O.lst []), none, none, none, none, none]) ⟨o, [], [], none, none, none, none, none, rfl, so, GsOk.nil, by simp, rfl⟩ (by
      rintro i d ρ hd ⟨o, gs, ds, y6, y7, y8, y9, y10, rfl, so, h1, h2, h3⟩
      obtain ⟨hi, rfl⟩ := rangeL_get hd
      subst h3
      obtain ⟨o', g, d, z7, z8, z9, z10, eb, s', g1, g2⟩ := guard_b o so ns far long hf hl gs ds y7 y8 y9 y10 hns h1 h2 hi (by omega)
      rw [show (0 : Int) + (gs.length : Int) = (gs.length : Int) by omega]
      exact ⟨[some o, some (.val (nsV ns)), some (.val (.int far)), some (.val (.int long)), some (gsO gs), some (lN ds), some (.val (.int (gs.length : Int))), y7, y8, y9, y10], _, by simp, .inl eb, o', gs ++ [g], ds ++ [d], _, z7, z8, z9, z10, rfl, s', g1, g2, by simp⟩)
  rw [rangeL_len] at h2 h3
  have sn := small_nat (n := ns.length) (by omega)
  have nl : lenO (.val (nsV ns)) = some (.val (.int (ns.length : Int))) := by unfold nsV; simp
  have tg : tupO (gsO gs) = some (.val (.tup (gs.map gD))) := by unfold gsO; simp [tupO]
  refine ⟨o', gs, ds, ?_, s', h1, by rw [h2, List.take_length]⟩
  generalize gsO gs = GG at *
  generalize lN ds = LN at *
  generalize nsV ns = NV at *
  unfold F__law_guards
  rw [runF_eq]
  simp [b__law_guards, sn, nl, f1, tg]
  rfl

end Lw

namespace Lw
open PySem PySem.Spec L2 FB Wk
open PyProof.Rows hiding St
structure Ld where
  nm : List Nat
  pl : List Nat
  cs : List (Int × Int)
  la : Int
  on : Bool
def lD (l : Ld) : D := .tup [sD l.nm, sD l.pl, cv l.cs, .int l.la, .bl l.on]
def csOk (cs : List (Int × Int)) : Prop := cs.length ≤ 4 ∧ ∀ p ∈ cs, 1 ≤ p.1 ∧ numOk p.1 ∧ numOk p.2
theorem course_q (o : O) (so : Sok o) (a1 a2 a5 a6 a7 a8 : Option O) (far long : Int) (hf : farOk far) (hl : farOk long) : ∃ (o' : O) (cs : List (Int × Int)), q1__law_loads [some o, a1, a2, some (.val (.int far)), some (.val (.int long)), a5, a6, a7, a8, none] = .ok (vO (cs.map pD)) [some o', a1, a2, some (.val (.int far)), some (.val (.int long)), a5, a6, a7, a8, none] ∧ Sok o' ∧ csOk cs := by
  obtain ⟨r, o1, e1, s1, p1, q1⟩ := take o 3 so (by decide) (by decide)
  obtain ⟨n, hn⟩ : ∃ n : Nat, r = (n : Int) := ⟨r.toNat, by omega⟩
  subst hn
  have sn := small_nat (n := n) (by omega)
  obtain ⟨os, ρ', hc, hl', hp, o', e, s'⟩ := compL_inv (own := [9]) (a := aN 9) (e := mTup (mCons (m2 (lift2 addD) (mP (pC (.int 1))) (mCall F__law_take [.io 0, .v (mP (pVar 4))])) (mCons (mCall F__law_take [.io 0, .v (mP (pVar 3))]) (mNil)))) (ds := rangeL 0 n) (ρ := [some o1, a1, a2, some (.val (.int far)), some (.val (.int long)), a5, a6, a7, a8, none])
    (fun i ρ => ∃ o, ρ = [some o, a1, a2, some (.val (.int far)), some (.val (.int long)), a5, a6, a7, a8, none] ∧ Sok o) (fun _ o => ∃ p : Int × Int, (1 ≤ p.1 ∧ numOk p.1 ∧ numOk p.2) ∧ o = .val (pD p)) ⟨o1, rfl, s1⟩ (by
      rintro i d ρ hd ⟨o, rfl, so⟩
      obtain ⟨hi, rfl⟩ := rangeL_get hd
      obtain ⟨v, o2, e2, s2, v1, v2⟩ := take o long so hl.1 hl.log
      obtain ⟨w, o3, e3, s3, w1, w2⟩ := take o2 far s2 hf.1 hf.log
      have f2 := hf.2
      have l2 := hl.2
      exact ⟨[some o, a1, a2, some (.val (.int far)), some (.val (.int long)), a5, a6, a7, a8, some (.val (.int (0 + (i : Int))))], .val (pD (1 + v, w)), [some o3, a1, a2, some (.val (.int far)), some (.val (.int long)), a5, a6, a7, a8, some (.val (.int (0 + (i : Int))))], by simp, by simp [e2, e3, pD], ⟨(1 + v, w), ⟨by show 1 ≤ 1 + v; omega, ⟨by show 0 ≤ 1 + v; omega, by show 1 + v < _; omega⟩, ⟨w1, by show w < _; omega⟩⟩, rfl⟩, o3, by simp, s3⟩)
  subst e
  rw [rangeL_len] at hl'
  obtain ⟨cs, e2, hb⟩ := list_of (fun p : Int × Int => O.val (pD p)) (fun p => 1 ≤ p.1 ∧ numOk p.1 ∧ numOk p.2) hp
  subst e2
  refine ⟨o', cs, ?_, s', by simp at hl'; omega, hb⟩
  have e3 : vO (cs.map pD) = .lst (cs.map fun p => O.val (pD p)) := by unfold vO; rw [List.map_map]; rfl
  rw [e3]
  simp [q1__law_loads, e1, sn, rangeL_len, show n ≤ 1000000 by omega]
  rw [hc]
  simp [bkK_eta]
def lsO (ls : List Ld) : O := vO (ls.map lD)
theorem ls_apA (ls : List Ld) (ρ : FB.Env) (mm : M O) : apA 5 mm ρ (some (some (lsO ls))) = apB 5 (mm ρ) := rfl
theorem ls_ap (ls : List Ld) (l : Ld) (h : ls.length < 100) (ρ : FB.Env) : apC 5 (.val (.tup [sD l.nm, sD l.pl, cv l.cs, .int l.la, .bl l.on])) ρ (some (some (lsO ls))) = .ok (.val .non) (ρ.set 5 (some (lsO (ls ++ [l])))) := by
  unfold lsO
  rw [vO_apC _ _ _ (by simp; omega)]; simp [lD]
structure LsOk (gs : List Gd) (ls : List Ld) : Prop where
  names : ∀ l ∈ ls, NameOk l.nm
  pl : ∀ l ∈ ls, l.pl ∈ gs.map Gd.nm
  rest : ∀ l ∈ ls, csOk l.cs ∧ numOk l.la
def gsT (gs : List Gd) : D := .tup (gs.map gD)
theorem load_b (o : O) (so : Sok o) (ns : List (List Nat)) (far long : Int) (hf : farOk far) (hlo : farOk long) (gs : List Gd) (ls : List Ld) (a7 a8 : Option O) (hns : NsOk ns) (hg : 0 < gs.length) (hg2 : gs.length ≤ 40) (h : LsOk gs ls) (l : List Nat) (hlk : l ∈ ns) (hk : ls.length < 100) :
    ∃ o' y y7 y8, b1__law_loads [some o, some (.val (nsV ns)), some (.val (gsT gs)), some (.val (.int far)), some (.val (.int long)), some (lsO ls), some (.val (sD l)), a7, a8, none] =
      .ok .nx [some o', some (.val (nsV ns)), some (.val (gsT gs)), some (.val (.int far)), some (.val (.int long)), some (lsO (ls ++ [y])), some (.val (sD l)), y7, y8, none] ∧ Sok o' ∧ LsOk gs (ls ++ [y]) ∧ y.nm = l := by
  have hok := hns.2 l hlk
  obtain ⟨o1, cs, e1, s1, kcs⟩ := course_q o so (some (.val (nsV ns))) (some (.val (gsT gs))) (some (lsO ls)) (some (.val (sD l))) a7 a8 far long hf hlo
  obtain ⟨w, o2, e2, s2, p1, q1⟩ := take o1 (gs.length : Int) s1 (by omega) (log_big (by omega) (by omega))
  obtain ⟨j, hj⟩ : ∃ n : Nat, w = (n : Int) := ⟨w.toNat, by omega⟩
  subst hj
  obtain ⟨g, hgj⟩ : ∃ g, gs[j]? = some g := ⟨_, List.getElem?_eq_getElem (by omega)⟩
  have gix : ixO (.val (gsT gs)) (.val (.int (j : Int))) = some (.val (gD g)) := by
    show (atI (gs.map gD) (j : Int)).map O.val = _
    rw [atN, List.getElem?_map, hgj]; rfl
  have g0 := gD_0 g
  have gl : lenO (.val (gsT gs)) = some (.val (.int (gs.length : Int))) := by unfold gsT; simp
  have tup : tupO (.val (vO (cs.map pD)).toD) = some (.val (cv cs)) := by rw [vO_toD]; rfl
  obtain ⟨x, o3, e3, s3, x1, x2⟩ := take o2 far s2 hf.1 hf.log
  obtain ⟨b, o4, e4, s4, b1, b2⟩ := take o3 3 s3 (by decide) (by decide)
  have f2 := hf.2
  refine ⟨o4, ⟨l, g.nm, cs, x, decide (0 < b)⟩, some (.val (vO (cs.map pD)).toD), some (.val (sD g.nm)), ?_, s4, ?_, rfl⟩
  · have ap := ls_apA ls
    have ac : ∀ ρ : FB.Env, apC 5 (.val (.tup [sD l, sD g.nm, cv cs, .int x, .bl (decide (0 < b))])) ρ (some (some (lsO ls))) = .ok (.val .non) (ρ.set 5 (some (lsO (ls ++ [⟨l, g.nm, cs, x, decide (0 < b)⟩])))) := ls_ap ls ⟨l, g.nm, cs, x, decide (0 < b)⟩ (by omega)
    generalize lsO (ls ++ [⟨l, g.nm, cs, x, decide (0 < b)⟩]) = L2 at *
    generalize lsO ls = L1 at *
    generalize vO (cs.map pD) = VC at *
    generalize gsT gs = GT at *
    generalize nsV ns = NV at *
    simp [b1__law_loads, e1, gl, e2, gix, g0, tup, e3, e4, ap, ac]
  · obtain ⟨h1, h2, h3⟩ := h
    refine ⟨fun y hy => ?_, fun y hy => ?_, fun y hy => ?_⟩
    · rcases List.mem_append.mp hy with q | q
      · exact h1 y q
      · simp at q; rw [q]; exact hok
    · rcases List.mem_append.mp hy with q | q
      · exact h2 y q
      · simp at q; rw [q]; exact List.mem_map.mpr ⟨g, List.mem_of_getElem? hgj, rfl⟩
    · rcases List.mem_append.mp hy with q | q
      · exact h3 y q
      · simp at q; rw [q]; exact ⟨kcs, x1, by show x < _; omega⟩
theorem loads (o : O) (so : Sok o) (ns : List (List Nat)) (far long : Int) (hf : farOk far) (hlo : farOk long) (gs : List Gd) (hns : NsOk ns) (hg : 0 < gs.length) (hg2 : gs.length ≤ 40) (hl : ns.length ≤ 40) :
    ∃ o' ls, F__law_loads [o, .val (nsV ns), .val (gsT gs), .val (.int far), .val (.int long)] = some (.val (.tup (ls.map lD)), [some o', none, none, none, none]) ∧ Sok o' ∧ LsOk gs ls ∧ ls.map Ld.nm = ns := by
  obtain ⟨ρ', f1, o', ls, y6, y7, y8, rfl, s', h1, h2, h3⟩ := forL_inv (a := aN 6) (b := b1__law_loads) (ds := ns.map sD) (fun i ρ => ∃ o ls y6 y7 y8, ρ = [some o, some (.val (nsV ns)), some (.val (gsT gs)), some (.val (.int far)), some (.val (.int long)), some (lsO ls), y6, y7, y8, none] ∧ Sok o ∧ LsOk gs ls ∧ ls.map Ld.nm = ns.take i ∧ ls.length = i)
    (ρ := [some o, some (.val (nsV ns)), some (.val (gsT gs)), some (.val (.int far)), some (.val (.int long)), some (O.lst []), none, none, none, none]) ⟨o, [], none, none, none, rfl, so, ⟨by simp, by simp, by simp⟩, by simp, rfl⟩ (by
      rintro i d ρ hd ⟨o, ls, y6, y7, y8, rfl, so, h1, h2, h3⟩
      rw [List.getElem?_map] at hd
      cases hlk : ns[i]? with
      | none => rw [hlk] at hd; cases hd
      | some l =>
        rw [hlk] at hd
        cases hd
        have hi := (List.getElem?_eq_some_iff.mp hlk).1
        subst h3
        obtain ⟨o', y, z7, z8, eb, s', g1, g2⟩ := load_b o so ns far long hf hlo gs ls y7 y8 hns hg hg2 h1 l (List.mem_of_getElem? hlk) (by omega)
        exact ⟨[some o, some (.val (nsV ns)), some (.val (gsT gs)), some (.val (.int far)), some (.val (.int long)), some (lsO ls), some (.val (sD l)), y7, y8, none], _, by simp, .inl eb, o', ls ++ [y], _, z7, z8, rfl, s', g1, by rw [List.map_append, h2, List.take_succ, hlk, List.map_cons, g2]; rfl, by simp⟩)
  rw [List.length_map] at h2 h3
  have it : (nsV ns).items? = some (ns.map sD) := rfl
  have tg : tupO (lsO ls) = some (.val (.tup (ls.map lD))) := by unfold lsO; simp [tupO]
  refine ⟨o', ls, ?_, s', h1, by rw [h2, List.take_length]⟩
  generalize lsO ls = LL at *
  generalize gsT gs = GT at *
  generalize nsV ns = NV at *
  unfold F__law_loads
  rw [runF_eq]
  simp [b__law_loads, it, f1, tg]
  rfl
/-- a right board -/
structure Bd where
  gs : List Gd
  ls : List Ld
def bD (b : Bd) : D := .tup [.tup (b.gs.map gD), .tup (b.ls.map lD)]
structure BOk (b : Bd) : Prop where
  deep : ∃ ds, GsOk b.gs ds
  ls : LsOk b.gs b.ls
  g1 : 0 < b.gs.length
  g2 : b.gs.length ≤ 16
  l2 : b.ls.length ≤ 24
  nd : (b.gs.map Gd.nm ++ b.ls.map Ld.nm).Nodup
theorem board (o : O) (so : Sok o) (most many far long : Int) (hf : farOk far) (hlo : farOk long) (m1 : 1 ≤ most) (m2 : most ≤ 16) (n0 : 0 ≤ many) (n1 : many ≤ 10) : ∃ o' b, F__law_board [o, .val (.int most), .val (.int many), .val (.int far), .val (.int long)] = some (.val (bD b), [some o', none, none, none, none]) ∧ Sok o' ∧ BOk b := by
  obtain ⟨r1, o1, e1, s1, p1, q1⟩ := take o most so (by omega) (log_big (by omega) (by omega))
  obtain ⟨m, hm⟩ : ∃ m : Nat, 1 + r1 = (m : Int) := ⟨(1 + r1).toNat, by omega⟩
  obtain ⟨n, hn⟩ : ∃ n : Nat, (m : Int) + many = (n : Int) := ⟨((m : Int) + many).toNat, by omega⟩
  obtain ⟨o2, ns, e2, s2, hnl, hns⟩ := names o1 n s1 (by omega)
  have hns1 : NsOk (ns.take m) := ⟨hns.1.sublist (List.take_sublist _ _), fun l hl => hns.2 l (List.mem_of_mem_take hl)⟩
  have hns2 : NsOk (ns.drop m) := ⟨hns.1.sublist (List.drop_sublist _ _), fun l hl => hns.2 l (List.mem_of_mem_drop hl)⟩
  obtain ⟨o3, gs, ds, e3, s3, hgs, hgm⟩ := guards o2 s2 (ns.take m) far long hf hlo hns1 (by simp; omega)
  have hgl : gs.length = m := by
    have := congrArg List.length hgm
    simp at this
    omega
  obtain ⟨o4, ls, e4, s4, hls, hlm⟩ := loads o3 s3 (ns.drop m) far long hf hlo gs hns2 (by omega) (by omega) (by simp; omega)
  refine ⟨o4, ⟨gs, ls⟩, ?_, s4, ⟨⟨ds, hgs⟩, hls, by show 0 < gs.length; omega, by show gs.length ≤ 16; omega, ?_, ?_⟩⟩
  · have nt : (nO ns).toD = nsV ns := by unfold nO nsV; rw [vO_toD]
    have cut1 : slO (.val (nsV ns)) none (some (m : Int)) = some (.val (nsV (ns.take m))) := by
      unfold nsV
      rw [slO_val_lst, cut_to, List.map_take]
    have cut2 : slO (.val (nsV ns)) (some (m : Int)) none = some (.val (nsV (ns.drop m))) := by
      unfold nsV
      rw [slO_val_lst, cut_from, List.map_drop]
    have e4' : F__law_loads [o3, .val (nsV (ns.drop m)), .val (.tup (gs.map gD)), .val (.int far), .val (.int long)] = _ := e4
    have ebd : bD ⟨gs, ls⟩ = .tup [.tup (gs.map gD), .tup (ls.map lD)] := rfl
    rw [ebd]
    generalize nO ns = NO at *
    generalize nsV ns = NV at *
    generalize nsV (ns.take m) = N1 at *
    generalize nsV (ns.drop m) = N2 at *
    generalize D.tup (gs.map gD) = GT at *
    generalize D.tup (ls.map lD) = LT at *
    unfold F__law_board
    rw [runF_eq]
    simp [b__law_board, e1, hm, hn, e2, nt, cut1, cut2, e3, e4']
    rfl
  · show ls.length ≤ 24
    have := congrArg List.length hlm
    simp at this
    omega
  · show (gs.map Gd.nm ++ ls.map Ld.nm).Nodup
    rw [hgm, hlm, List.take_append_drop]
    exact hns.1

end Lw

namespace Lw
open PySem PySem.Spec L2 FB Wk
open PyProof.Rows hiding St
def sO (L : List (List Nat)) : O := vO (L.map sD)
theorem sO_sh (L : List (List Nat)) : (sO L).sh = some (.lst (L.map sD)) := vO_sh _
theorem sO_toD (L : List (List Nat)) : (sO L).toD = .lst (L.map sD) := by unfold sO; rw [vO_toD]
theorem sO_apA (j : Nat) (L : List (List Nat)) (ρ : FB.Env) (mm : M O) : apA j mm ρ (some (some (sO L))) = apB j (mm ρ) := rfl
theorem sO_ap (j : Nat) (L : List (List Nat)) (l : List Nat) (h : L.length < 100) (ρ : FB.Env) : apC j (.val (sD l)) ρ (some (some (sO L))) = .ok (.val .non) (ρ.set j (some (sO (L ++ [l])))) := by
  unfold sO
  rw [vO_apC _ _ _ (by simp; omega)]; simp
theorem lD_0 (g : Ld) : ixO (.val (lD g)) (.val (.int 0)) = some (.val (sD g.nm)) := by unfold lD; simp
theorem lD_1 (y : Ld) : ixO (.val (lD y)) (.val (.int 1)) = some (.val (sD y.pl)) := by unfold lD; simp
theorem gD_1 (g : Gd) : ixO (.val (gD g)) (.val (.int 1)) = some (.val (uD g.un)) := by unfold gD; simp
theorem bD_0 (b : Bd) : ixO (.val (bD b)) (.val (.int 0)) = some (.val (.tup (b.gs.map gD))) := by unfold bD; simp
theorem bD_1 (b : Bd) : ixO (.val (bD b)) (.val (.int 1)) = some (.val (.tup (b.ls.map lD))) := by unfold bD; simp
theorem gu (b : Bd) (h : BOk b) : F_guards_of [.val (bD b)] = some (sO (b.gs.map Gd.nm), [none]) := by
  have hc := compL_all (ρ := [some (.val (bD b)), none]) (own := [1]) (a := aN 1) (t := mTrue) (e := mP (p2 ixO (pVar 1) (pC (.int 0)))) gD (fun g => O.val (sD g.nm)) (xs := b.gs) (by
    intro g hg
    have g0 := gD_0 g
    exact ⟨[some (.val (bD b)), some (.val (gD g))], [some (.val (bD b)), some (.val (gD g))], [some (.val (bD b)), some (.val (gD g))], by simp, by simp, by simp [g0], by simp⟩)
  have b0 := bD_0 b
  have hl : b.gs.length ≤ 1000000 := by have := h.g2; omega
  have q : q1_guards_of [some (.val (bD b)), none] = .ok (sO (b.gs.map Gd.nm)) [some (.val (bD b)), none] := by
    simp [q1_guards_of, b0, hl]
    rw [hc]
    simp [sO, vO, bkK_eta]
  unfold F_guards_of
  rw [runF_eq]
  simp [b_guards_of, q]
  rfl
/-! ### the dict of what each is under -/
def pK (gs : List Gd) : List Key := kD (gs.map Gd.nm)
def pV (gs : List Gd) : List O := gs.map fun g => O.val (uD g.un)
def prD (gs : List Gd) : D := .dct (pK gs) (gs.map fun g => uD g.un)
def pO (gs : List Gd) : O := .dct (pK gs) (pV gs)
theorem prD_p (gs : List Gd) : dctP (.val (prD gs)) = some (pK gs, pV gs) := by
  show some (pK gs, (gs.map fun g => uD g.un).map O.val) = _
  rw [List.map_map]; rfl
theorem get_un {gs : List Gd} {g : Gd} {a : O} (hp : dctP a = some (pK gs, pV gs)) (nd : (gs.map Gd.nm).Nodup) (hg : g ∈ gs) : ixF a (.val (sD g.nm)) = some (.val (uD g.un)) := by
  obtain ⟨i, hi⟩ := List.getElem?_of_mem hg
  have e : ixF a (.val (sD g.nm)) = (idxK (pK gs) (.inr (SL g.nm))).bind fun j => (pV gs)[j]? := by
    have : dgO a (.val (sD g.nm)) = (idxK (pK gs) (.inr (SL g.nm))).bind fun j => (pV gs)[j]? := by
      unfold dgO; rw [hp]; rfl
    rw [← this]
    cases a with
    | val d => cases d <;> first | rfl | cases hp
    | dct _ _ => rfl
    | _ => cases hp
  rw [e]
  unfold pK pV
  rw [idx_some (i := i) nd (by rw [List.getElem?_map, hi]; rfl)]
  show (gs.map _)[i]? = _
  rw [List.getElem?_map, hi]; rfl
theorem prs_gs : ∀ (gs : List Gd), prs? (gs.map fun g => D.tup [sD g.nm, uD g.un]) = some (gs.map fun g => ((.inr (SL g.nm) : Key), uD g.un))
  | [] => rfl
  | g :: gs => by
    have ih := prs_gs gs
    rw [List.map_cons]
    show (some ((.inr (SL g.nm) : Key), uD g.un)).bind (fun p => (prs? (gs.map fun g => D.tup [sD g.nm, uD g.un])).map (p :: ·)) = _
    rw [ih]; rfl
theorem merge_nd {α : Type} : ∀ (kvs : List (Key × α)) (ks : List Key) (os : List α), (ks ++ kvs.map (·.1)).Nodup → mergeL (ks, os) kvs = (ks ++ kvs.map (·.1), os ++ kvs.map (·.2))
  | [], ks, os, _ => by simp [mergeL]
  | kv :: kvs, ks, os, nd => by
    have hk : kv.1 ∉ ks := fun z => by
      have := (List.nodup_append.mp nd).2.2 kv.1 z kv.1 (by simp)
      exact this rfl
    have hi : idxK ks kv.1 = none := by
      unfold idxK
      rw [List.findIdx?_eq_none_iff]
      intro x hx
      simp
      intro e
      exact hk (e ▸ hx)
    have e : mergeL (ks, os) (kv :: kvs) = mergeL (ks ++ [kv.1], os ++ [kv.2]) kvs := by
      show mergeL (putL ks os kv.1 kv.2) kvs = _
      unfold putL
      rw [hi]
    rw [e, merge_nd kvs _ _ (by simpa using nd)]
    simp
theorem inr_nd {gs : List Gd} (nd : (gs.map Gd.nm).Nodup) : (gs.map fun g => (.inr (SL g.nm) : Key)).Nodup := by
  have : (gs.map fun g => (.inr (SL g.nm) : Key)) = (gs.map Gd.nm).map fun l => (.inr (SL l) : Key) := by rw [List.map_map]; rfl
  rw [this]
  refine List.Pairwise.map _ (fun a b h z => h ?_) nd
  exact SL_inj (Sum.inr.inj z)
theorem dct_gs {gs : List Gd} (nd : (gs.map Gd.nm).Nodup) : dctOf (gs.map fun g => ((.inr (SL g.nm) : Key), uD g.un)) = prD gs := by
  unfold dctOf prD pK kD
  rw [merge_nd _ _ _ (by rw [List.nil_append, List.map_map]; exact inr_nd nd)]
  simp [List.map_map]
/-! ### upwards -/
inductive Ch (gs : List Gd) : Option (List Nat) → List (List Nat) → Prop
  | nil : Ch gs none []
  | cons {g : Gd} {L : List (List Nat)} : g ∈ gs → Ch gs g.un L → Ch gs (some g.nm) (g.nm :: L)
theorem ch_ex {gs : List Gd} {ds : List Nat} (h : GsOk gs ds) : ∀ (i : Nat) (g : Gd), gs[i]? = some g → ∃ L, Ch gs (some g.nm) L ∧ L.length ≤ i + 1 := by
  intro i
  induction i using Nat.strongRecOn with
  | ind i ih =>
    intro g hg
    have hm := List.mem_of_getElem? hg
    rcases h.under i g hg with ⟨hu, _⟩ | ⟨j, u, d, hj, hu, hn, _⟩
    · refine ⟨[g.nm], .cons hm ?_, by simp⟩
      rw [hu]; exact .nil
    · obtain ⟨L, hL, hl⟩ := ih j hj u hu
      refine ⟨g.nm :: L, .cons hm ?_, by simp; omega⟩
      rw [hn]; exact hL
theorem ch_mem {gs : List Gd} {ds : List Nat} (h : GsOk gs ds) {g : Gd} (hg : g ∈ gs) (hl : gs.length ≤ 16) : ∃ L, Ch gs (some g.nm) L ∧ L.length ≤ 16 := by
  obtain ⟨i, hi⟩ := List.getElem?_of_mem hg
  obtain ⟨L, h1, h2⟩ := ch_ex h i g hi
  have := (List.getElem?_eq_some_iff.mp hi).1
  exact ⟨L, h1, by omega⟩
theorem uD_ne (l : List Nat) : notNO (.val (sD l)) (.val .non) = some (.val (.bl true)) := rfl
theorem up_chain {gs : List Gd} (nd : (gs.map Gd.nm).Nodup) (x0 : Option O) {u : Option (List Nat)} {L : List (List Nat)} (c : Ch gs u L) : ∀ (F : List (List Nat)) (n : Nat), F.length + L.length < 100 → L.length < n →
    whileN t1_chain b1_chain n [x0, some (.val (uD u)), some (.val (prD gs)), some (sO F), none] = .ok .nx [x0, some (.val .non), some (.val (prD gs)), some (sO (F ++ L)), none] := by
  induction c with
  | nil =>
    intro F n h1 h2
    cases n with
    | zero => simp at h2
    | succ n =>
      unfold whileN
      have e : notNO (.val (uD none)) (.val .non) = some (.val (.bl false)) := rfl
      simp [t1_chain, e]
      rfl
  | @cons g L hg hc ih =>
    intro F n h1 h2
    cases n with
    | zero => simp at h2
    | succ n =>
      have e := uD_ne g.nm
      have ap := sO_apA 3 F
      have ac := sO_ap 3 F g.nm (by simp at h1; omega)
      have ix := get_un (prD_p gs) nd hg
      have ih := ih (F ++ [g.nm]) n (by simp at h1 ⊢; omega) (by simp at h2; omega)
      rw [List.append_assoc] at ih
      rw [show F ++ ([g.nm] ++ L) = F ++ g.nm :: L by simp] at ih
      have ht : t1_chain [x0, some (.val (uD (some g.nm))), some (.val (prD gs)), some (sO F), none] = .ok true [x0, some (.val (uD (some g.nm))), some (.val (prD gs)), some (sO F), none] := by
        have e : notNO (.val (uD (some g.nm))) (.val .non) = some (.val (.bl true)) := rfl
        simp [t1_chain, e]
      have hb : b1_chain [x0, some (.val (uD (some g.nm))), some (.val (prD gs)), some (sO F), none] = .ok .nx [x0, some (.val (uD g.un)), some (.val (prD gs)), some (sO (F ++ [g.nm])), none] := by
        show b1_chain [x0, some (.val (sD g.nm)), some (.val (prD gs)), some (sO F), none] = _
        generalize prD gs = PD at *
        generalize sO (F ++ [g.nm]) = S2 at *
        generalize sO F = S1 at *
        simp [b1_chain, ap, ac, ix]
      unfold whileN
      rw [ht]
      simp [hb, ih]
theorem chain {gs : List Gd} (nd : (gs.map Gd.nm).Nodup) (hl : gs.length ≤ 100) {l : List Nat} {L : List (List Nat)} (c : Ch gs (some l) L) (h16 : L.length ≤ 16) : F_chain [.val (.tup (gs.map gD)), .val (sD l)] = some (sO L, [none, none]) := by
  have hc := compL_all (ρ := [some (.val (.tup (gs.map gD))), some (.val (sD l)), none, none, none]) (own := [4]) (a := aN 4) (t := mTrue) (e := mP (pTup (pCons (p2 ixO (pVar 4) (pC (.int 0))) (pCons (p2 ixO (pVar 4) (pC (.int 1))) pNil)))) gD (fun g => O.val (.tup [sD g.nm, uD g.un])) (xs := gs) (by
    intro g hg
    have g0 := gD_0 g
    have g1 := gD_1 g
    exact ⟨[some (.val (.tup (gs.map gD))), some (.val (sD l)), none, none, some (.val (gD g))], [some (.val (.tup (gs.map gD))), some (.val (sD l)), none, none, some (.val (gD g))], [some (.val (.tup (gs.map gD))), some (.val (sD l)), none, none, some (.val (gD g))], by simp, by simp, by simp [g0, g1], by simp⟩)
  have q : q1_chain [some (.val (.tup (gs.map gD))), some (.val (sD l)), none, none, none] = .ok (vO (gs.map fun g => D.tup [sD g.nm, uD g.un])) [some (.val (.tup (gs.map gD))), some (.val (sD l)), none, none, none] := by
    simp [q1_chain, show gs.length ≤ 1000000 by omega]
    rw [hc]
    simp [vO, bkK_eta]
  have w := up_chain nd (some (.val (.tup (gs.map gD)))) c [] fuel (by simp; omega) (by rw [fuel_eq]; omega)
  rw [List.nil_append] at w
  have pg := prs_gs gs
  have dg := dct_gs nd
  have vt := vO_toD (gs.map fun g => D.tup [sD g.nm, uD g.un])
  generalize vO (gs.map fun g => D.tup [sD g.nm, uD g.un]) = VV at *
  have w' : whileN t1_chain b1_chain fuel [some (.val (.tup (gs.map gD))), some (.val (sD l)), some (.val (prD gs)), some (O.lst []), none] = .ok .nx [some (.val (.tup (gs.map gD))), some (.val .non), some (.val (prD gs)), some (sO L), none] := w
  generalize sO L = S at *
  unfold F_chain
  rw [runF_eq]
  simp [b_chain, q, vt, pg, dg, mWhile, w']
  rfl

end Lw

namespace Lw
open PySem PySem.Spec L2 FB Wk
open PyProof.Rows hiding St
theorem map_sD (L : List (List Nat)) : L.map sD = (L.map SL).map D.str := by rw [List.map_map]; rfl
theorem SL_eq (l m : List Nat) : decide (SL l = SL m) = decide (l = m) := by
  by_cases h : l = m
  · subst h; simp
  · rw [decide_eq_false h, decide_eq_false fun z => h (SL_inj z)]
theorem in_names (l : List Nat) (L : List (List Nat)) : inH (.val (sD l)) (sO L) = some (.val (.bl (decide (l ∈ L)))) := by
  show inO (.val (.str (SL l))) (sO L) = _
  unfold inO
  rw [sO_toD, map_sD]
  show (inD (.str (SL l)) (.lst ((L.map SL).map D.str))).map _ = _
  rw [inD_strs]
  show some (O.val (.bl _)) = _
  congr 3
  rw [List.any_map]
  induction L with
  | nil => simp
  | cons m L ih =>
    rw [List.any_cons, ih]
    show (decide (SL m = SL l) || _) = _
    rw [SL_eq]
    by_cases h : m = l
    · subst h; simp
    · simp [h, show ¬ l = m from fun z => h z.symm]
theorem eq_name (l m : List Nat) : eqG (.val (sD l)) (.val (sD m)) = some (.val (.bl (decide (l = m)))) := by
  show eqG (.val (.str (SL l))) (.val (.str (SL m))) = _
  rw [eqG_str, eqO_str, SL_eq]
theorem eq_name0 (l m : List Nat) : eqO (.val (sD l)) (.val (sD m)) = some (.val (.bl (decide (l = m)))) := by
  show eqO (.val (.str (SL l))) (.val (.str (SL m))) = _
  rw [eqO_str, SL_eq]
/-- what stands over a name -/
def OverL (b : Bd) (l : List Nat) (L : List (List Nat)) : Prop := (l ∈ b.gs.map Gd.nm ∧ Ch b.gs (some l) L) ∨ ∃ x ∈ b.ls, x.nm = l ∧ Ch b.gs (some x.pl) L
theorem over_ex (b : Bd) (h : BOk b) {l : List Nat} (hl : l ∈ b.gs.map Gd.nm ++ b.ls.map Ld.nm) : ∃ L, OverL b l L ∧ L.length ≤ 16 := by
  obtain ⟨ds, hg⟩ := h.deep
  rcases List.mem_append.mp hl with q | q
  · obtain ⟨g, h1, h2⟩ := List.mem_map.mp q
    obtain ⟨L, c, hL⟩ := ch_mem hg h1 h.g2
    exact ⟨L, .inl ⟨q, h2 ▸ c⟩, hL⟩
  · obtain ⟨x, h1, h2⟩ := List.mem_map.mp q
    have ha := h.ls.pl x h1
    obtain ⟨g, h3, h4⟩ := List.mem_map.mp ha
    obtain ⟨L, c, hL⟩ := ch_mem hg h3 h.g2
    exact ⟨L, .inr ⟨x, h1, h2, h4 ▸ c⟩, hL⟩

end Lw

namespace Lw
open PySem PySem.Spec L2 FB Wk
open PyProof.Rows hiding St
theorem ld_eq {b : Bd} (h : BOk b) {x y : Ld} (hx : x ∈ b.ls) (hy : y ∈ b.ls) (e : x.nm = y.nm) : x = y := by
  have nd := (List.nodup_append.mp h.nd).2.1
  obtain ⟨i, hi⟩ := List.getElem?_of_mem hx
  obtain ⟨j, hj⟩ := List.getElem?_of_mem hy
  have i1 := (List.getElem?_eq_some_iff.mp hi).1
  have j1 := (List.getElem?_eq_some_iff.mp hj).1
  have : i = j := by
    have a1 : (b.ls.map Ld.nm)[i]? = some x.nm := by rw [List.getElem?_map, hi]; rfl
    have a2 : (b.ls.map Ld.nm)[j]? = some x.nm := by rw [List.getElem?_map, hj, e]; rfl
    exact (List.getElem?_inj (by simpa using i1) nd).mp (a1.trans a2.symm)
  subst this
  rw [hi] at hj
  cases hj; rfl
theorem apart {b : Bd} (h : BOk b) {x : Ld} (hx : x ∈ b.ls) {l : List Nat} (hl : l ∈ b.gs.map Gd.nm) : x.nm ≠ l := fun e => by
  have := (List.nodup_append.mp h.nd).2.2 l hl x.nm (List.mem_map.mpr ⟨x, hx, rfl⟩)
  exact this e.symm
theorem lsnd {b : Bd} (h : BOk b) : (b.ls.map Ld.nm).Nodup := (List.nodup_append.mp h.nd).2.1
theorem gsnd {b : Bd} (h : BOk b) : (b.gs.map Gd.nm).Nodup := (List.nodup_append.mp h.nd).1
theorem in_names0 (l : List Nat) (L : List (List Nat)) : inO (.val (sD l)) (sO L) = some (.val (.bl (decide (l ∈ L)))) := in_names l L
theorem over_run (b : Bd) (h : BOk b) {l : List Nat} {L : List (List Nat)} (o : OverL b l L) (h16 : L.length ≤ 16) : F_over [.val (bD b), .val (sD l)] = some (sO L, [none, none]) := by
  have b0 := bD_0 b
  have b1 := bD_1 b
  have G := gu b h
  have hi := in_names0 l (b.gs.map Gd.nm)
  have g16 := h.g2
  rcases o with ⟨hl, c⟩ | ⟨x, hx, rfl, c⟩
  · have ch := chain (gsnd h) (by omega) c h16
    rw [decide_eq_true hl] at hi
    generalize sO (b.gs.map Gd.nm) = S1 at *
    generalize sO L = S2 at *
    unfold F_over
    rw [runF_eq]
    simp [b_over, G, hi, b0, ch]
    rfl
  · have ch := chain (gsnd h) (by omega) c h16
    have hn : x.nm ∉ b.gs.map Gd.nm := fun z => apart h hx z rfl
    rw [decide_eq_false hn] at hi
    have lp := forL_all (a := aTup (aCons (aN 2) (aCons (aN 3) (aCons (aN 4) (aCons (aN 5) (aCons (aN 6) (aNil))))))) (b := b1_over) lD (fun c : Option O × Option O × Option O × Option O × Option O => E_over (some (.val (bD b))) (some (.val (sD x.nm))) c.1 c.2.1 c.2.2.1 c.2.2.2.1 c.2.2.2.2) (fun y => !decide (y.nm = x.nm)) (fun _ => sO L) (fun _ y => (some (.val (sD y.nm)), some (.val (sD y.pl)), some (.val (cv y.cs)), some (.val (.int y.la)), some (.val (.bl y.on)))) (xs := b.ls) (none, none, none, none, none) (by
      intro y hy c
      have eg := eq_name0 y.nm x.nm
      refine ⟨fun hp => ?_, fun hp => ?_⟩
      · have e : ¬ y.nm = x.nm := by simpa using hp
        rw [decide_eq_false e] at eg
        simp [b1_over, eg, lD]
      · have e : y.nm = x.nm := by simpa using hp
        have ey : y = x := ld_eq h hy hx e
        subst ey
        rw [decide_eq_true rfl] at eg
        refine ⟨E_over (some (.val (bD b))) (some (.val (sD y.nm))) (some (.val (sD y.nm))) (some (.val (sD y.pl))) (some (.val (cv y.cs))) (some (.val (.int y.la))) (some (.val (.bl y.on))), ?_⟩
        generalize sO L = S2 at *
        simp [b1_over, eg, b0, ch, lD])
    rcases lp with ⟨hall, _⟩ | ⟨_, _, _, ρ2, lp⟩
    · have := List.all_eq_true.mp hall x hx
      simp at this
    · generalize sO (b.gs.map Gd.nm) = S1 at *
      generalize sO L = S2 at *
      unfold F_over
      rw [runF_eq]
      simp at lp
      simp [b_over, G, hi, b1, lp]
      rfl

end Lw

namespace Lw
open PySem PySem.Spec L2 FB Wk
open PyProof.Rows hiding St
/-! dicts made of pairs of a name and a thing -/
section
variable {α : Type} (k : α → List Nat) (v : α → D)
def dK (xs : List α) : D := .dct (kD (xs.map k)) (xs.map v)
theorem prs_gen : ∀ (xs : List α), prs? (xs.map fun x => D.tup [sD (k x), v x]) = some (xs.map fun x => ((.inr (SL (k x)) : Key), v x))
  | [] => rfl
  | x :: xs => by
    have ih := prs_gen xs
    rw [List.map_cons]
    show (some ((.inr (SL (k x)) : Key), v x)).bind (fun p => (prs? (xs.map fun x => D.tup [sD (k x), v x])).map (p :: ·)) = _
    rw [ih]; rfl
theorem kD_nd {ms : List (List Nat)} (nd : ms.Nodup) : (kD ms).Nodup := by
  unfold kD
  exact List.Pairwise.map _ (fun a b h z => h (SL_inj (Sum.inr.inj z))) nd
theorem dct_gen {xs : List α} (nd : (xs.map k).Nodup) : dctOf (xs.map fun x => ((.inr (SL (k x)) : Key), v x)) = dK k v xs := by
  unfold dctOf dK
  have e : (xs.map fun x => ((.inr (SL (k x)) : Key), v x)).map (·.1) = kD (xs.map k) := by unfold kD; rw [List.map_map, List.map_map]; rfl
  rw [merge_nd _ _ _ (by rw [List.nil_append, e]; exact kD_nd nd), e]
  simp [List.map_map]
theorem dK_p (xs : List α) : dctP (.val (dK k v xs)) = some (kD (xs.map k), (xs.map v).map O.val) := rfl
theorem get_in {xs : List α} (nd : (xs.map k).Nodup) {x : α} (hx : x ∈ xs) (c : O) : getO (.val (dK k v xs)) (.val (sD (k x))) c = some (.val (v x)) := by
  obtain ⟨i, hi⟩ := List.getElem?_of_mem hx
  show some (((idxK (kD (xs.map k)) (.inr (SL (k x)))).bind fun j => ((xs.map v).map O.val)[j]?).getD c) = _
  rw [idx_some (i := i) nd (by rw [List.getElem?_map, hi]; rfl)]
  show some ((((xs.map v).map O.val)[i]?).getD c) = _
  rw [List.getElem?_map, List.getElem?_map, hi]; rfl
theorem get_out {xs : List α} {l : List Nat} (hl : l ∉ xs.map k) (c : O) : getO (.val (dK k v xs)) (.val (sD l)) c = some c := by
  show some (((idxK (kD (xs.map k)) (.inr (SL l))).bind fun j => ((xs.map v).map O.val)[j]?).getD c) = _
  rw [idx_none hl]; rfl
theorem ix_in {xs : List α} (nd : (xs.map k).Nodup) {x : α} (hx : x ∈ xs) : ixF (.val (dK k v xs)) (.val (sD (k x))) = some (.val (v x)) := by
  obtain ⟨i, hi⟩ := List.getElem?_of_mem hx
  show ((idxK (kD (xs.map k)) (.inr (SL (k x)))).bind fun j => ((xs.map v).map O.val)[j]?) = _
  rw [idx_some (i := i) nd (by rw [List.getElem?_map, hi]; rfl)]
  show ((xs.map v).map O.val)[i]? = _
  rw [List.getElem?_map, List.getElem?_map, hi]; rfl
end
theorem prD_dK (gs : List Gd) : prD gs = dK Gd.nm (fun g => uD g.un) gs := rfl

end Lw

namespace Lw
open PySem PySem.Spec L2 FB Wk
open PyProof.Rows hiding St
theorem up_over {gs : List Gd} (nd : (gs.map Gd.nm).Nodup) (x0 x1 : Option O) {u : Option (List Nat)} {L : List (List Nat)} (c : Ch gs u L) : ∀ (F : List (List Nat)) (n : Nat), F.length + L.length < 100 → L.length < n →
    whileN t1__law_over b1__law_over n [x0, x1, some (.val (prD gs)), some (.val (uD u)), some (sO F), none, none] = .ok .nx [x0, x1, some (.val (prD gs)), some (.val .non), some (sO (F ++ L)), none, none] := by
  induction c with
  | nil =>
    intro F n h1 h2
    cases n with
    | zero => simp at h2
    | succ n =>
      unfold whileN
      have e : notNO (.val (uD none)) (.val .non) = some (.val (.bl false)) := rfl
      simp [t1__law_over, e]
      rfl
  | @cons g L hg hc ih =>
    intro F n h1 h2
    cases n with
    | zero => simp at h2
    | succ n =>
      have ap := sO_apA 4 F
      have ac := sO_ap 4 F g.nm (by simp at h1; omega)
      have ix := get_un (prD_p gs) nd hg
      have ih := ih (F ++ [g.nm]) n (by simp at h1 ⊢; omega) (by simp at h2; omega)
      rw [List.append_assoc] at ih
      rw [show F ++ ([g.nm] ++ L) = F ++ g.nm :: L by simp] at ih
      have ht : t1__law_over [x0, x1, some (.val (prD gs)), some (.val (uD (some g.nm))), some (sO F), none, none] = .ok true [x0, x1, some (.val (prD gs)), some (.val (uD (some g.nm))), some (sO F), none, none] := by
        have e : notNO (.val (uD (some g.nm))) (.val .non) = some (.val (.bl true)) := rfl
        simp [t1__law_over, e]
      have hb : b1__law_over [x0, x1, some (.val (prD gs)), some (.val (uD (some g.nm))), some (sO F), none, none] = .ok .nx [x0, x1, some (.val (prD gs)), some (.val (uD g.un)), some (sO (F ++ [g.nm])), none, none] := by
        show b1__law_over [x0, x1, some (.val (prD gs)), some (.val (sD g.nm)), some (sO F), none, none] = _
        generalize prD gs = PD at *
        generalize sO (F ++ [g.nm]) = S2 at *
        generalize sO F = S1 at *
        simp [b1__law_over, ap, ac, ix]
      unfold whileN
      rw [ht]
      simp [hb, ih]
theorem over_q1 (b : Bd) (h : BOk b) (x1 x2 x3 x4 x6 : Option O) : q1__law_over [some (.val (bD b)), x1, x2, x3, x4, none, x6] = .ok (vO (b.gs.map fun g => D.tup [sD g.nm, uD g.un])) [some (.val (bD b)), x1, x2, x3, x4, none, x6] := by
  have hc := compL_all (ρ := [some (.val (bD b)), x1, x2, x3, x4, none, x6]) (own := [5]) (a := aN 5) (t := mTrue) (e := mP (pTup (pCons (p2 ixO (pVar 5) (pC (.int 0))) (pCons (p2 ixO (pVar 5) (pC (.int 1))) (pNil))))) gD (fun g => O.val (.tup [sD g.nm, uD g.un])) (xs := b.gs) (by
    intro g hg
    have g0 := gD_0 g
    have g1 := gD_1 g
    exact ⟨[some (.val (bD b)), x1, x2, x3, x4, some (.val (gD g)), x6], [some (.val (bD b)), x1, x2, x3, x4, some (.val (gD g)), x6], [some (.val (bD b)), x1, x2, x3, x4, some (.val (gD g)), x6], by simp, by simp, by simp [g0, g1], by simp⟩)
  have b0 := bD_0 b
  have hl : b.gs.length ≤ 1000000 := by have := h.g2; omega
  simp [q1__law_over, b0, hl]
  rw [hc]
  simp [vO, bkK_eta]
theorem over_q2 (b : Bd) (h : BOk b) (x1 x2 x3 x4 x5 : Option O) : q2__law_over [some (.val (bD b)), x1, x2, x3, x4, x5, none] = .ok (vO (b.ls.map fun g => D.tup [sD g.nm, sD g.pl])) [some (.val (bD b)), x1, x2, x3, x4, x5, none] := by
  have hc := compL_all (ρ := [some (.val (bD b)), x1, x2, x3, x4, x5, none]) (own := [6]) (a := aN 6) (t := mTrue) (e := mP (pTup (pCons (p2 ixO (pVar 6) (pC (.int 0))) (pCons (p2 ixO (pVar 6) (pC (.int 1))) (pNil))))) lD (fun g => O.val (.tup [sD g.nm, sD g.pl])) (xs := b.ls) (by
    intro g hg
    have g0 := lD_0 g
    have g1 := lD_1 g
    exact ⟨[some (.val (bD b)), x1, x2, x3, x4, x5, some (.val (lD g))], [some (.val (bD b)), x1, x2, x3, x4, x5, some (.val (lD g))], [some (.val (bD b)), x1, x2, x3, x4, x5, some (.val (lD g))], by simp, by simp, by simp [g0, g1], by simp⟩)
  have b1 := bD_1 b
  have hl : b.ls.length ≤ 1000000 := by have := h.l2; omega
  simp [q2__law_over, b1, hl]
  rw [hc]
  simp [vO, bkK_eta]
theorem law_over (b : Bd) (h : BOk b) {l : List Nat} {L : List (List Nat)} (o : OverL b l L) (h16 : L.length ≤ 16) : F__law_over [.val (bD b), .val (sD l)] = some (sO L, [none, none]) := by
  have q1 := over_q1 b h (some (.val (sD l))) none none none none
  obtain ⟨m, hm, hc⟩ : ∃ m, getO (.val (dK Ld.nm (fun y => sD y.pl) b.ls)) (.val (sD l)) (.val (sD l)) = some (.val (sD m)) ∧ Ch b.gs (some m) L := by
    rcases o with ⟨hl, c⟩ | ⟨x, hx, rfl, c⟩
    · exact ⟨l, get_out _ _ (fun z => by
        obtain ⟨y, hy, e⟩ := List.mem_map.mp z
        exact apart h hy hl e) _, c⟩
    · exact ⟨x.pl, get_in _ _ (lsnd h) hx _, c⟩
  have w := up_over (gsnd h) (some (.val (bD b))) (some (.val (sD l))) hc [] fuel (by simp; omega) (by rw [fuel_eq]; omega)
  rw [List.nil_append] at w
  have w' : whileN t1__law_over b1__law_over fuel [some (.val (bD b)), some (.val (sD l)), some (.val (prD b.gs)), some (.val (sD m)), some (O.lst []), none, none] = .ok .nx [some (.val (bD b)), some (.val (sD l)), some (.val (prD b.gs)), some (.val .non), some (sO L), none, none] := w
  have q2 := over_q2 b h (some (.val (sD l))) (some (.val (prD b.gs))) none none none
  have pg := prs_gs b.gs
  have dg := dct_gs (gsnd h)
  have vt := vO_toD (b.gs.map fun g => D.tup [sD g.nm, uD g.un])
  have pl := prs_gen Ld.nm (fun y => sD y.pl) b.ls
  have dl := dct_gen Ld.nm (fun y => sD y.pl) (lsnd h)
  have vl := vO_toD (b.ls.map fun g => D.tup [sD g.nm, sD g.pl])
  generalize vO (b.gs.map fun g => D.tup [sD g.nm, uD g.un]) = VV at *
  generalize vO (b.ls.map fun g => D.tup [sD g.nm, sD g.pl]) = VL at *
  generalize sO L = S at *
  unfold F__law_over
  rw [runF_eq]
  simp [b__law_over, q1, vt, pg, dg, q2, vl, pl, dl, hm, mWhile, w']
  rfl

end Lw

namespace Lw
open PySem PySem.Spec L2 FB Wk
open PyProof.Rows hiding St
def nms (b : Bd) : List (List Nat) := b.gs.map Gd.nm ++ b.ls.map Ld.nm
def nmV (b : Bd) : D := .lst ((nms b).map sD)
theorem nms_ok {b : Bd} (h : BOk b) : ∀ l ∈ nms b, NameOk l := fun l hl => by
  obtain ⟨ds, hg⟩ := h.deep
  rcases List.mem_append.mp hl with q | q
  · obtain ⟨g, h1, h2⟩ := List.mem_map.mp q
    rw [← h2]; exact hg.names g h1
  · obtain ⟨g, h1, h2⟩ := List.mem_map.mp q
    rw [← h2]; exact h.ls.names g h1
theorem addD_str (a b : Str) (h : a.length + b.length ≤ 1000000) : addD (.str a) (.str b) = some (.str (a ++ b)) := if_pos h
/-- some open ones, as a list or tuple -/
def OpT (t : D) (S : List (List Nat)) : Prop := t = .lst (S.map sD) ∨ t = .tup (S.map sD)
theorem any_dec (m : List Nat) (S : List (List Nat)) : (S.map SL).any (fun y => decide (y = SL m)) = decide (m ∈ S) := by
  rw [List.any_map]
  induction S with
  | nil => simp
  | cons s S ih =>
    rw [List.any_cons, ih]
    show (decide (SL s = SL m) || _) = _
    rw [SL_eq]
    by_cases h : s = m
    · subst h; simp
    · simp [h, show ¬ m = s from fun z => h z.symm]
theorem op_in {t : D} {S : List (List Nat)} (h : OpT t S) (m : List Nat) : inO (.val (sD m)) (.val t) = some (.val (.bl (decide (m ∈ S)))) := by
  rcases h with h | h <;> subst h
  · show (inD (.str (SL m)) (.lst (S.map sD))).map _ = _
    rw [map_sD, inD_strs, any_dec]; rfl
  · show (inD (.str (SL m)) (.tup (S.map sD))).map _ = _
    have q : inD (.str (SL m)) (.tup (S.map sD)) = inD (.str (SL m)) (.lst (S.map sD)) := by
      rw [map_sD]
      have h : D.flat (.str (SL m)) = true ∧ ((S.map SL).map D.str).all D.flat = true := ⟨rfl, by simp⟩
      show (if D.flat (.str (SL m)) = true ∧ ((S.map SL).map D.str).all D.flat = true then _ else _) = (if D.flat (.str (SL m)) = true ∧ ((S.map SL).map D.str).all D.flat = true then _ else _)
      rw [if_pos h, if_pos h]
    rw [q, map_sD, inD_strs, any_dec]; rfl
def fedB (L S : List (List Nat)) : Bool := !L.any fun m => decide (m ∈ S)

end Lw

namespace Lw
open PySem PySem.Spec L2 FB Wk
open PyProof.Rows hiding St
theorem nm_len (b : Bd) (h : BOk b) : 0 < (nms b).length ∧ (nms b).length ≤ 40 := by
  have g1 := h.g1
  have g2 := h.g2
  have l2 := h.l2
  unfold nms
  simp
  omega
theorem eqvs_names : ∀ S : List (List Nat), eqvs (S.map sD) (S.map sD) = true
  | [] => by simp
  | l :: S => by
    rw [List.map_cons, eqvs_cc, eqvs_names S]
    show (D.eqv (.str (SL l)) (.str (SL l)) && true) = true
    rw [eqv_str]; simp
theorem okE_names (n : Nat) (S : List (List Nat)) : (S.map sD).all (D.okE n) = true := by
  rw [List.all_eq_true]
  intro d hd
  obtain ⟨l, _, rfl⟩ := List.mem_map.mp hd
  exact okE_str n _
theorem neO_names (S : List (List Nat)) : neO (.val (.lst (S.map sD))) (.val (.lst (S.map sD))) = some (.val (.bl false)) := by
  have h : D.okE (8 + 1) (.lst (S.map sD)) = true := by rw [okE_lst, okE_names]
  rw [e_neO (a := .val (.lst (S.map sD))) (b := .val (.lst (S.map sD))) h h]
  show some (O.val (.bl (!D.eqv (.lst (S.map sD)) (.lst (S.map sD))))) = _
  rw [eqv_lst, eqvs_names]; rfl
theorem eqO_nil (F : List (List Nat)) : eqO (sO F) (.lst []) = some (.val (.bl F.isEmpty)) := by
  have h : D.okE (8 + 1) (.lst (F.map sD)) = true := by rw [okE_lst, okE_names]
  rw [e_eqO (by rw [sO_toD]; exact h) rfl, sO_toD]
  show some (O.val (.bl (D.eqv (.lst (F.map sD)) (.lst [])))) = _
  rw [eqv_lst, eqvs_n]
  cases F <;> rfl

end Lw

namespace Lw
open PySem PySem.Spec L2 FB Wk
open PyProof.Rows hiding St
theorem nmV_ix (b : Bd) (k : Nat) (hk : k < (nms b).length) : ∃ l ∈ nms b, ixO (.val (nmV b)) (.val (.int (k : Int))) = some (.val (sD l)) := by
  refine ⟨(nms b)[k], List.getElem_mem hk, ?_⟩
  show (atI ((nms b).map sD) (k : Int)).map O.val = _
  rw [atN, List.getElem?_map, List.getElem?_eq_getElem hk]; rfl

end Lw

namespace Lw
open PySem PySem.Spec L2 FB Wk
open PyProof.Rows hiding St
/-! dicts from names -/
def updN (v : List Nat → D) (n : List Nat) (d : D) : List Nat → D := fun m => if m = n then d else v m
def mD (ks : List (List Nat)) (v : List Nat → D) : D := .dct (kD ks) (ks.map v)
def mO (ks : List (List Nat)) (v : List Nat → D) : O := .dct (kD ks) ((ks.map v).map O.val)
theorem mO_toD (ks : List (List Nat)) (v : List Nat → D) : (mO ks v).toD = mD ks v := by
  show D.dct (kD ks) (O.toDs ((ks.map v).map O.val)) = _
  rw [toDs_vals]; rfl
theorem mD_same {ks : List (List Nat)} {v w : List Nat → D} (h : ∀ n ∈ ks, v n = w n) : mD ks v = mD ks w := by
  unfold mD
  rw [List.map_congr_left h]
theorem mO_same {ks : List (List Nat)} {v w : List Nat → D} (h : ∀ n ∈ ks, v n = w n) : mO ks v = mO ks w := by
  unfold mO
  rw [List.map_congr_left h]
theorem dctP_mD (ks : List (List Nat)) (v : List Nat → D) : dctP (.val (mD ks v)) = some (kD ks, (ks.map v).map O.val) := rfl
theorem dctP_mO (ks : List (List Nat)) (v : List Nat → D) : dctP (mO ks v) = some (kD ks, (ks.map v).map O.val) := rfl
theorem idx_of {ks : List (List Nat)} (nd : ks.Nodup) {n : List Nat} (h : n ∈ ks) : ∃ i, ks[i]? = some n ∧ idxK (kD ks) (.inr (SL n)) = some i := by
  obtain ⟨i, hi⟩ := List.getElem?_of_mem h
  exact ⟨i, hi, idx_some nd hi⟩
theorem dg_m {a : O} {ks : List (List Nat)} {v : List Nat → D} (ha : dctP a = some (kD ks, (ks.map v).map O.val)) (nd : ks.Nodup) {n : List Nat} (h : n ∈ ks) : dgO a (.val (sD n)) = some (.val (v n)) := by
  obtain ⟨i, hi, e⟩ := idx_of nd h
  unfold dgO
  rw [ha]
  show ((idxK (kD ks) (.inr (SL n))).bind fun j => ((ks.map v).map O.val)[j]?) = _
  rw [e]
  show ((ks.map v).map O.val)[i]? = _
  rw [List.getElem?_map, List.getElem?_map, hi]; rfl
theorem ix_mD {ks : List (List Nat)} {v : List Nat → D} (nd : ks.Nodup) {n : List Nat} (h : n ∈ ks) : ixF (.val (mD ks v)) (.val (sD n)) = some (.val (v n)) := dg_m (dctP_mD ks v) nd h
theorem ix_mO {ks : List (List Nat)} {v : List Nat → D} (nd : ks.Nodup) {n : List Nat} (h : n ∈ ks) : ixF (mO ks v) (.val (sD n)) = some (.val (v n)) := dg_m (dctP_mO ks v) nd h
theorem get_m {a : O} {ks : List (List Nat)} {v : List Nat → D} (ha : dctP a = some (kD ks, (ks.map v).map O.val)) (nd : ks.Nodup) (n : List Nat) (c : D) : getO a (.val (sD n)) (.val c) = some (.val (if n ∈ ks then v n else c)) := by
  unfold getO
  rw [ha]
  show some (getK (kD ks, (ks.map v).map O.val) (.val c) (some (.inr (SL n)))) = _
  by_cases h : n ∈ ks
  · obtain ⟨i, hi, e⟩ := idx_of nd h
    rw [if_pos h]
    show some (((idxK (kD ks) (.inr (SL n))).bind fun j => ((ks.map v).map O.val)[j]?).getD (.val c)) = _
    rw [e]
    show some ((((ks.map v).map O.val)[i]?).getD (.val c)) = _
    rw [List.getElem?_map, List.getElem?_map, hi]; rfl
  · rw [if_neg h]
    show some (((idxK (kD ks) (.inr (SL n))).bind fun j => ((ks.map v).map O.val)[j]?).getD (.val c)) = _
    rw [idx_none h]; rfl
theorem get_mD {ks : List (List Nat)} {v : List Nat → D} (nd : ks.Nodup) (n : List Nat) (c : D) : getO (.val (mD ks v)) (.val (sD n)) (.val c) = some (.val (if n ∈ ks then v n else c)) := get_m (dctP_mD ks v) nd n c
theorem get_mO {ks : List (List Nat)} {v : List Nat → D} (nd : ks.Nodup) (n : List Nat) (c : D) : getO (mO ks v) (.val (sD n)) (.val c) = some (.val (if n ∈ ks then v n else c)) := get_m (dctP_mO ks v) nd n c
theorem set_new {ks : List (List Nat)} {v : List Nat → D} {n : List Nat} (h : n ∉ ks) (hl : ks.length < 1000000) (d : D) : setItO (mO ks v) (.val (sD n)) (.val d) = some (mO (ks ++ [n]) (updN v n d)) := by
  show (if (kD ks).length < 1000000 then some (O.dct (putL (kD ks) ((ks.map v).map O.val) (.inr (SL n)) (.val d)).1 (putL (kD ks) ((ks.map v).map O.val) (.inr (SL n)) (.val d)).2) else none) = _
  rw [if_pos (by unfold kD; simpa using hl)]
  unfold putL
  rw [idx_none h]
  unfold mO
  have e1 : kD (ks ++ [n]) = kD ks ++ [.inr (SL n)] := by unfold kD; simp
  have e2 : (ks ++ [n]).map (updN v n d) = ks.map v ++ [d] := by
    rw [List.map_append]
    congr 1
    · exact List.map_congr_left fun m hm => if_neg fun (e : m = n) => h (e ▸ hm)
    · simp [updN]
  rw [e1, e2, List.map_append]; rfl
theorem set_old {ks : List (List Nat)} {v : List Nat → D} (nd : ks.Nodup) {n : List Nat} (h : n ∈ ks) (hl : ks.length < 1000000) (d : D) : setItO (mO ks v) (.val (sD n)) (.val d) = some (mO ks (updN v n d)) := by
  obtain ⟨i, hi, e⟩ := idx_of nd h
  show (if (kD ks).length < 1000000 then some (O.dct (putL (kD ks) ((ks.map v).map O.val) (.inr (SL n)) (.val d)).1 (putL (kD ks) ((ks.map v).map O.val) (.inr (SL n)) (.val d)).2) else none) = _
  rw [if_pos (by unfold kD; simpa using hl)]
  unfold putL
  rw [e]
  unfold mO
  show some (O.dct (kD ks) (((ks.map v).map O.val).set i (.val d))) = _
  congr 2
  apply List.ext_getElem?
  intro j
  have il : i < ks.length := (List.getElem?_eq_some_iff.mp hi).1
  by_cases ej : i = j
  · subst ej
    rw [List.getElem?_set_self (by simpa using il), List.getElem?_map, List.getElem?_map, hi]
    simp [updN]
  · rw [List.getElem?_set_ne ej, List.getElem?_map, List.getElem?_map, List.getElem?_map, List.getElem?_map]
    cases hj : ks[j]? with
    | none => rfl
    | some m =>
      have : m ≠ n := fun z => by
        subst z
        exact ej ((List.getElem?_inj il nd).mp (hi.trans hj.symm))
      simp [updN, this]
theorem aug_mO {ρ : FB.Env} {i : Nat} {g : Int → Int → Int} {nn mm : Pf} {ks : List (List Nat)} {v : List Nat → D} {n : List Nat} {x y : Int} (h0 : ρ[i]? = some (some (mO ks v))) (hn : nn ρ = some (.val (sD n))) (hm : mm ρ = some (.val (.int y))) (nd : ks.Nodup) (h : n ∈ ks) (hv : v n = .int x) (hl : ks.length < 1000000) :
    mAugI i g nn mm ρ = .ok .nx (ρ.set i (some (mO ks (updN v n (.int (g x y)))))) :=
  e_mAugI i g nn mm (mO ks v) (mO ks (updN v n (.int (g x y)))) (sD n) x y h0 hn hm ((dg_m (dctP_mO ks v) nd h).trans (by rw [hv])) (set_old nd h hl _)
theorem keys_mD (ks : List (List Nat)) : (kD ks).map keyD = ks.map sD := by unfold kD; rw [List.map_map]; rfl
theorem strOk_SL {l : List Nat} (h : ∀ c ∈ l, c < 26) : PyData.strOk (SL l) = true := by
  show (SL l).cps.all (· < 0x110000) = true
  rw [← Array.all_toList, List.all_eq_true]
  intro c hc
  obtain ⟨a, ha, rfl⟩ := List.mem_map.mp (show c ∈ l.map (97 + ·) by simpa [SL] using hc)
  have := h a ha
  simp; omega
theorem keyOk_kD {ks : List (List Nat)} (h : ∀ l ∈ ks, NameOk l) : (kD ks).all keyOk = true := by
  rw [List.all_eq_true]
  intro k hk
  obtain ⟨l, hl, rfl⟩ := List.mem_map.mp hk
  exact strOk_SL (h l hl).2.2
theorem keysOf_mD {ρ : FB.Env} {i : Nat} {ks : List (List Nat)} {v : List Nat → D} (h : ρ[i]? = some (some (.val (mD ks v)))) (hk : ∀ l ∈ ks, NameOk l) (hl : ks.length ≤ 1000000) : keysOf i ρ = some (ks.map sD, ρ) := by
  rw [← keys_mD]
  exact keysOf_val (ks := kD ks) (ds := ks.map v) h (keyOk_kD hk) (by unfold kD; simpa using hl)
theorem keysOf_mO {ρ : FB.Env} {i : Nat} {ks : List (List Nat)} {v : List Nat → D} (h : ρ[i]? = some (some (mO ks v))) (hk : ∀ l ∈ ks, NameOk l) (hl : ks.length ≤ 1000000) : keysOf i ρ = some (ks.map sD, ρ.set i (some (.val (mD ks v)))) := by
  rw [← keys_mD, ← mO_toD]
  exact keysOf_dct (ks := kD ks) (os := (ks.map v).map O.val) h (keyOk_kD hk) (by unfold kD; simpa using hl)
theorem len_mD (ks : List (List Nat)) (v : List Nat → D) : lenKO (.val (mD ks v)) = some (.val (.int ks.length)) := by
  show some (O.val (.int (kD ks).length)) = _
  unfold kD; simp
theorem list_mD {ks : List (List Nat)} (v : List Nat → D) (hk : ∀ l ∈ ks, NameOk l) : listKO (.val (mD ks v)) = some (.val (.lst (ks.map sD))) := by
  rw [← keys_mD]
  exact listKO_val (kD ks) (ks.map v) (keyOk_kD hk)
theorem mO_nil (v : List Nat → D) : (O.dct [] [] : O) = mO [] v := rfl
theorem mD_nil (v : List Nat → D) : (D.dct [] [] : D) = mD [] v := rfl
theorem same_mD {ks : List (List Nat)} {v w : List Nat → D} (h : ∀ n ∈ ks, v n = w n) (hf : ∀ n ∈ ks, flatD (v n) = true) {a b : O} (ha : a.toD = mD ks v) (hb : b.toD = mD ks w) : sameK a b :=
  ⟨kD ks, ks.map v, ha, by rw [hb, ← mD_same h]; rfl, by rw [List.all_map, List.all_eq_true]; exact hf⟩
theorem dct_mD {α : Type} (k : α → List Nat) (v : List Nat → D) {xs : List α} (nd : (xs.map k).Nodup) : dctOf (xs.map fun x => ((.inr (SL (k x)) : Key), v (k x))) = mD (xs.map k) v := by
  rw [dct_gen k (fun x => v (k x)) nd]
  unfold dK mD
  rw [List.map_map]; rfl

end Lw

namespace Lw
open PySem PySem.Spec L2 FB Wk
open PyProof.Rows hiding St
/-! what is over a name, as a function -/
theorem ch_in {gs : List Gd} {u : Option (List Nat)} {L : List (List Nat)} (c : Ch gs u L) : ∀ m ∈ L, m ∈ gs.map Gd.nm := by
  induction c with
  | nil => intro m hm; simp at hm
  | cons hg _ ih =>
    intro m hm
    rcases List.mem_cons.mp hm with e | hm
    · subst e; exact List.mem_map.mpr ⟨_, hg, rfl⟩
    · exact ih m hm
theorem gd_eq {gs : List Gd} (nd : (gs.map Gd.nm).Nodup) {g g' : Gd} (h : g ∈ gs) (h' : g' ∈ gs) (e : g.nm = g'.nm) : g = g' := by
  obtain ⟨i, hi⟩ := List.getElem?_of_mem h
  obtain ⟨j, hj⟩ := List.getElem?_of_mem h'
  have i1 := (List.getElem?_eq_some_iff.mp hi).1
  have : i = j := by
    have a1 : (gs.map Gd.nm)[i]? = some g.nm := by rw [List.getElem?_map, hi]; rfl
    have a2 : (gs.map Gd.nm)[j]? = some g.nm := by rw [List.getElem?_map, hj, e]; rfl
    exact (List.getElem?_inj (by simpa using i1) nd).mp (a1.trans a2.symm)
  subst this
  rw [hi] at hj
  cases hj; rfl
theorem ch_uniq {gs : List Gd} (nd : (gs.map Gd.nm).Nodup) {u : Option (List Nat)} {L : List (List Nat)} (c : Ch gs u L) : ∀ {L' : List (List Nat)}, Ch gs u L' → L = L' := by
  induction c with
  | nil => intro L' c'; cases c'; rfl
  | cons hg _ ih =>
    intro L' c'
    generalize eu : some _ = u at c'
    cases c' with
    | nil => cases eu
    | cons hg' c2 =>
      have := gd_eq nd hg hg' (Option.some.inj eu)
      subst this
      rw [ih c2]
/-- a chain falls along the places -/
theorem ch_fall {gs : List Gd} {ds : List Nat} (h : GsOk gs ds) : ∀ (i : Nat) (g : Gd) (L : List (List Nat)), gs[i]? = some g → Ch gs (some g.nm) L → ∃ L', L = g.nm :: L' ∧ Ch gs g.un L' ∧ L.Nodup ∧ ∀ m ∈ L', ∃ (j : Nat) (k : Gd), j < i ∧ gs[j]? = some k ∧ k.nm = m := by
  intro i
  induction i using Nat.strongRecOn with
  | ind i ih =>
    intro g L hg c
    have hm := List.mem_of_getElem? hg
    generalize eu : some g.nm = u at c
    cases c with
    | nil => cases eu
    | cons hg' c2 =>
      rename_i g' L'
      have := gd_eq h.nd hm hg' (Option.some.inj eu)
      subst this
      have key : L'.Nodup ∧ ∀ m ∈ L', ∃ (j : Nat) (k : Gd), j < i ∧ gs[j]? = some k ∧ k.nm = m := by
        rcases h.under i g hg with ⟨hu, _⟩ | ⟨j, u, d, hj, hu, hn, _⟩
        · rw [hu] at c2
          cases c2
          exact ⟨List.nodup_nil, fun m hm => by simp at hm⟩
        · rw [hn] at c2
          obtain ⟨L2, rfl, _, nd2, h2⟩ := ih j hj u L' hu c2
          refine ⟨nd2, fun m hm => ?_⟩
          rcases List.mem_cons.mp hm with e | hm
          · exact ⟨j, u, hj, hu, e.symm⟩
          · obtain ⟨k, x, q1, q2, q3⟩ := h2 m hm
            exact ⟨k, x, by omega, q2, q3⟩
      refine ⟨L', rfl, c2, List.nodup_cons.mpr ⟨fun z => ?_, key.1⟩, key.2⟩
      obtain ⟨j, k, hj, hk, e⟩ := key.2 _ z
      have i1 := (List.getElem?_eq_some_iff.mp hg).1
      have a1 : (gs.map Gd.nm)[i]? = some g.nm := by rw [List.getElem?_map, hg]; rfl
      have a2 : (gs.map Gd.nm)[j]? = some g.nm := by rw [List.getElem?_map, hk, ← e]; rfl
      have := (List.getElem?_inj (by simpa using i1) h.nd).mp (a1.trans a2.symm)
      omega
theorem ch_nodup {gs : List Gd} {ds : List Nat} (h : GsOk gs ds) {u : Option (List Nat)} {L : List (List Nat)} (c : Ch gs u L) : L.Nodup := by
  cases c with
  | nil => exact List.nodup_nil
  | cons hg c2 =>
    obtain ⟨i, hi⟩ := List.getElem?_of_mem hg
    obtain ⟨_, _, _, nd, _⟩ := ch_fall h i _ _ hi (.cons hg c2)
    exact nd
open Classical in
noncomputable def ovr (b : Bd) (l : List Nat) : List (List Nat) := if h : ∃ L, OverL b l L ∧ L.length ≤ 16 then Classical.choose h else []
theorem ovr_ok {b : Bd} (h : BOk b) {l : List Nat} (hl : l ∈ nms b) : OverL b l (ovr b l) ∧ (ovr b l).length ≤ 16 := by
  have e := over_ex b h hl
  unfold ovr
  rw [dif_pos e]
  exact Classical.choose_spec e
theorem over_uniq {b : Bd} (h : BOk b) {l : List Nat} {L L' : List (List Nat)} (o : OverL b l L) (o' : OverL b l L') : L = L' := by
  have nd := gsnd h
  rcases o with ⟨h1, c⟩ | ⟨x, h1, e, c⟩ <;> rcases o' with ⟨h2, c'⟩ | ⟨y, h2, e', c'⟩
  · exact ch_uniq nd c c'
  · exact absurd e' (apart h h2 h1)
  · exact absurd e (apart h h1 h2)
  · have := ld_eq h h1 h2 (e.trans e'.symm)
    subst this
    exact ch_uniq nd c c'
theorem ovr_eq {b : Bd} (h : BOk b) {l : List Nat} {L : List (List Nat)} (hl : l ∈ nms b) (o : OverL b l L) : ovr b l = L := over_uniq h (ovr_ok h hl).1 o
theorem over_in {b : Bd} {l : List Nat} {L : List (List Nat)} (o : OverL b l L) : ∀ m ∈ L, m ∈ b.gs.map Gd.nm := by
  rcases o with ⟨_, c⟩ | ⟨_, _, _, c⟩ <;> exact ch_in c
theorem over_nodup {b : Bd} (h : BOk b) {l : List Nat} {L : List (List Nat)} (o : OverL b l L) : L.Nodup := by
  obtain ⟨ds, hg⟩ := h.deep
  rcases o with ⟨_, c⟩ | ⟨_, _, _, c⟩ <;> exact ch_nodup hg c
theorem nms_g {b : Bd} {l : List Nat} (h : l ∈ b.gs.map Gd.nm) : l ∈ nms b := List.mem_append_left _ h
theorem nms_l {b : Bd} {l : List Nat} (h : l ∈ b.ls.map Ld.nm) : l ∈ nms b := List.mem_append_right _ h
theorem nms_gs {b : Bd} {g : Gd} (h : g ∈ b.gs) : g.nm ∈ nms b := nms_g (List.mem_map.mpr ⟨g, h, rfl⟩)
theorem nms_ls {b : Bd} {x : Ld} (h : x ∈ b.ls) : x.nm ∈ nms b := nms_l (List.mem_map.mpr ⟨x, h, rfl⟩)
theorem nms_pl {b : Bd} (h : BOk b) {x : Ld} (hx : x ∈ b.ls) : x.pl ∈ nms b := nms_g (h.ls.pl x hx)
/-- over a guard: itself, then over its under -/
theorem ovr_guard {b : Bd} (h : BOk b) {g : Gd} (hg : g ∈ b.gs) : Ch b.gs (some g.nm) (ovr b g.nm) := by
  rcases (ovr_ok h (nms_gs hg)).1 with ⟨_, c⟩ | ⟨x, hx, e, _⟩
  · exact c
  · exact absurd e (apart h hx (List.mem_map.mpr ⟨g, hg, rfl⟩))
theorem ovr_load {b : Bd} (h : BOk b) {x : Ld} (hx : x ∈ b.ls) : ovr b x.nm = ovr b x.pl := by
  refine ovr_eq h (nms_ls hx) (.inr ⟨x, hx, rfl, ?_⟩)
  have hp := h.ls.pl x hx
  rcases (ovr_ok h (nms_g hp)).1 with ⟨_, c⟩ | ⟨y, hy, e, _⟩
  · exact c
  · exact absurd e (apart h hy hp)
def ovU (b : Bd) : Option (List Nat) → (List Nat → List (List Nat)) → List (List Nat)
  | none, _ => []
  | some u, f => f u
theorem un_in {b : Bd} (h : BOk b) {g : Gd} (hg : g ∈ b.gs) {u : List Nat} (e : g.un = some u) : u ∈ b.gs.map Gd.nm := by
  obtain ⟨ds, hd⟩ := h.deep
  obtain ⟨i, hi⟩ := List.getElem?_of_mem hg
  rcases hd.under i g hi with ⟨hu, _⟩ | ⟨j, v, d, hj, hv, hn, _⟩
  · rw [hu] at e; cases e
  · rw [hn] at e
    cases e
    exact List.mem_map.mpr ⟨v, List.mem_of_getElem? hv, rfl⟩
theorem ovr_cons {b : Bd} (h : BOk b) {g : Gd} (hg : g ∈ b.gs) : ovr b g.nm = g.nm :: ovU b g.un (ovr b) := by
  have c := ovr_guard h hg
  generalize ovr b g.nm = L at c
  generalize eu : some g.nm = u at c
  cases c with
  | nil => cases eu
  | cons hg' c2 =>
    have := gd_eq (gsnd h) hg hg' (Option.some.inj eu)
    subst this
    congr 1
    cases e : g.un with
    | none => rw [e] at c2; cases c2; rfl
    | some u =>
      rw [e] at c2
      have hu := un_in h hg e
      exact (ovr_eq h (nms_g hu) (.inl ⟨hu, c2⟩)).symm

end Lw

namespace Lw
open PySem PySem.Spec L2 FB Wk
open PyProof.Rows hiding St
/-! draws -/
noncomputable def drw (b : Bd) (S ks : List (List Nat)) (v : List Nat → Int) (g : List Nat) : Int := ((ks.filter fun p => fedB (ovr b p) S && decide (g ∈ ovr b p)).map v).sum
theorem drw_snoc (b : Bd) (S ks : List (List Nat)) (v : List Nat → Int) (p g : List Nat) : drw b S (ks ++ [p]) v g = drw b S ks v g + if (fedB (ovr b p) S && decide (g ∈ ovr b p)) = true then v p else 0 := by
  unfold drw
  rw [List.filter_append, List.map_append, List.sum_append]
  congr 1
  cases h : (fedB (ovr b p) S && decide (g ∈ ovr b p)) <;> simp [List.filter_cons, h]
abbrev iV (v : List Nat → Int) : List Nat → D := fun n => .int (v n)
theorem updN_iV (v : List Nat → Int) (n : List Nat) (x : Int) : updN (iV v) n (.int x) = iV (fun m => if m = n then x else v m) := by
  funext m
  unfold updN
  by_cases h : m = n <;> simp [h]
theorem draws_zero (b : Bd) (h : BOk b) (t P : D) : ∃ c, forL (aN 4) b1_draws ((b.gs.map Gd.nm).map sD) (E_draws (some (.val (bD b))) (some (.val t)) (some (.val P)) (some (mO [] (iV fun _ => 0)))) = .ok .nx (E_draws (some (.val (bD b))) (some (.val t)) (some (.val P)) (some (mO (b.gs.map Gd.nm) (iV fun _ => 0))) c) := by
  have nd := gsnd h
  have g2 := h.g2
  obtain ⟨⟨ks, c⟩, e, i⟩ := forL_ex (a := aN 4) (b := b1_draws) sD (fun s : List (List Nat) × Option O => E_draws (some (.val (bD b))) (some (.val t)) (some (.val P)) (some (mO s.1 (iV fun _ => 0))) s.2) (fun xs s => s.1 ++ xs = b.gs.map Gd.nm) (xs := b.gs.map Gd.nm) ([], none) rfl (by
    rintro x xs ⟨ks, c⟩ hi
    have hi : ks ++ x :: xs = b.gs.map Gd.nm := hi
    have hx : x ∉ ks := by
      rw [← hi, List.nodup_append] at nd
      exact fun z => nd.2.2 x z x (List.mem_cons_self ..) rfl
    have hl : ks.length < 1000000 := by
      have := congrArg List.length hi
      simp at this
      omega
    have q := set_new (v := iV fun _ => 0) hx hl (.int 0)
    rw [updN_iV] at q
    refine ⟨(ks ++ [x], some (.val (sD x))), ?_, by simp [hi]⟩
    simp [b1_draws, q])
  have i : ks ++ [] = b.gs.map Gd.nm := i
  rw [List.append_nil] at i
  subst i
  exact ⟨c, e⟩
theorem draws_add (b : Bd) (h : BOk b) (t : D) (ks : List (List Nat)) (v : List Nat → Int) (nk : ks.Nodup) {p : List Nat} (hp : p ∈ ks) (ab : Option O) : ∀ (L : List (List Nat)), L.Nodup → (∀ m ∈ L, m ∈ b.gs.map Gd.nm) → ∀ (f : List Nat → Int) (c : Option O), ∃ c', forL (aN 4) b2_draws (L.map sD) (E_draws (some (.val (bD b))) (some (.val t)) (some (.val (mD ks (iV v)))) (some (mO (b.gs.map Gd.nm) (iV f))) c (some (.val (sD p))) ab) =
    .ok .nx (E_draws (some (.val (bD b))) (some (.val t)) (some (.val (mD ks (iV v)))) (some (mO (b.gs.map Gd.nm) (iV fun g => f g + if g ∈ L then v p else 0))) c' (some (.val (sD p))) ab)
  | [], _, _, f, c => ⟨c, by simp [forL]⟩
  | m :: L, nd, hm, f, c => by
    rw [List.nodup_cons] at nd
    have g2 := h.g2
    have q := aug_mO (ρ := E_draws (some (.val (bD b))) (some (.val t)) (some (.val (mD ks (iV v)))) (some (mO (b.gs.map Gd.nm) (iV f))) (some (.val (sD m))) (some (.val (sD p))) ab) (i := 3) (g := fun i j => i + j) (nn := pVar 4) (mm := p2 ixF (pVar 2) (pVar 5)) (n := m) (x := f m) (y := v p) rfl (by simp) (by have := ix_mD (v := iV v) nk hp; simp [this]) (gsnd h) (hm m (List.mem_cons_self ..)) rfl (by simp; omega)
    rw [updN_iV] at q
    obtain ⟨c', ih⟩ := draws_add b h t ks v nk hp ab L nd.2 (fun x hx => hm x (List.mem_cons_of_mem _ hx)) (fun x => if x = m then f m + v p else f x) (some (.val (sD m)))
    refine ⟨c', ?_⟩
    rw [List.map_cons, forL_step, e_fstep, e_aN]
    show (match flK (b2_draws (E_draws (some (.val (bD b))) (some (.val t)) (some (.val (mD ks (iV v)))) (some (mO (b.gs.map Gd.nm) (iV f))) (some (.val (sD m))) (some (.val (sD p))) ab)) with
      | .ok .nx ρ1 => forL (aN 4) b2_draws (L.map sD) ρ1
      | .ok .ct ρ1 => forL (aN 4) b2_draws (L.map sD) ρ1
      | .ok .brk ρ1 => .ok .nx ρ1
      | .ok (.ret o) ρ1 => .ok (.ret o) ρ1
      | .exc x ρ1 => .exc x ρ1
      | .no => .no : Res Fl) = _
    unfold b2_draws
    rw [q]
    show forL (aN 4) (mAugI 3 (fun i j => i + j) (pVar 4) (p2 ixF (pVar 2) (pVar 5))) (L.map sD) (E_draws _ _ _ (some (mO (b.gs.map Gd.nm) (iV fun x => if x = m then f m + v p else f x))) _ _ _) = _
    have ih2 := ih
    unfold b2_draws at ih2
    rw [ih2]
    congr 5
    funext g
    by_cases e : g = m
    · subst e; simp [nd.1]
    · simp [e]
theorem draws_run (b : Bd) (h : BOk b) {t : D} {S : List (List Nat)} (ht : OpT t S) {ks : List (List Nat)} (nk : ks.Nodup) (hk : ∀ p ∈ ks, p ∈ nms b) (v : List Nat → Int) :
    F_draws [.val (bD b), .val t, .val (mD ks (iV v))] = some (mO (b.gs.map Gd.nm) (iV (drw b S ks v)), [none, none, none]) := by
  have G := gu b h
  have g2 := h.g2
  have td := sO_toD (b.gs.map Gd.nm)
  obtain ⟨c1, z⟩ := draws_zero b h t (mD ks (iV v))
  have hkl : ks.length ≤ 1000000 := by
    have := List.Nodup.length_le_of_subset nk (l₂ := nms b) hk
    have := (nm_len b h).2
    omega
  have ky := keysOf_mD (ρ := E_draws (some (.val (bD b))) (some (.val t)) (some (.val (mD ks (iV v)))) (some (mO (b.gs.map Gd.nm) (iV fun _ => 0))) c1) (i := 2) (ks := ks) (v := iV v) rfl (fun l hl => nms_ok h l (hk l hl)) hkl
  obtain ⟨⟨f, c, p, ab⟩, e, i⟩ := forL_ex (a := aN 5) (b := b3_draws) sD (fun s : (List Nat → Int) × Option O × Option O × Option O => E_draws (some (.val (bD b))) (some (.val t)) (some (.val (mD ks (iV v)))) (some (mO (b.gs.map Gd.nm) (iV s.1))) s.2.1 s.2.2.1 s.2.2.2) (fun xs s => ∃ done, done ++ xs = ks ∧ s.1 = drw b S done v) (xs := ks) (fun _ => 0, c1, none, none) ⟨[], rfl, rfl⟩ (by
    rintro p xs ⟨f, c, p0, ab0⟩ ⟨done, hd, rfl⟩
    have hp : p ∈ ks := by rw [← hd]; simp
    obtain ⟨ov, h16⟩ := ovr_ok h (hk p hp)
    have e1 := over_run b h ov h16
    have td2 := sO_toD (ovr b p)
    have q : q1_draws (E_draws (some (.val (bD b))) (some (.val t)) (some (.val (mD ks (iV v)))) (some (mO (b.gs.map Gd.nm) (iV (drw b S done v)))) c (some (.val (sD p))) (some (.val (.lst ((ovr b p).map sD))))) = .ok (.lst ((ovr b p).map fun m => O.val (.bl (decide (m ∈ S))))) (E_draws (some (.val (bD b))) (some (.val t)) (some (.val (mD ks (iV v)))) (some (mO (b.gs.map Gd.nm) (iV (drw b S done v)))) c (some (.val (sD p))) (some (.val (.lst ((ovr b p).map sD))))) := by
      refine comp_map sD _ (by simp) (by omega) (by decide) fun m hm => ?_
      have e := op_in ht m
      simp [e]
    have am := any_map (fun m => decide (m ∈ S)) (ovr b p)
    have fb : ((ovr b p).any fun m => decide (m ∈ S)) = !fedB (ovr b p) S := by unfold fedB; simp
    rw [fb] at am
    obtain ⟨c', ad⟩ := draws_add b h t ks v nk hp (some (.val (.lst ((ovr b p).map sD)))) (ovr b p) (over_nodup h ov) (over_in ov) (drw b S done v) c
    cases hf : fedB (ovr b p) S with
    | false =>
      rw [hf] at am
      refine ⟨(drw b S done v, c, some (.val (sD p)), some (.val (.lst ((ovr b p).map sD)))), ?_, done ++ [p], by simp [hd], ?_⟩
      · generalize ((ovr b p).map fun m => O.val (.bl (decide (m ∈ S)))) = RR at *
        simp [b3_draws, e1, td2, q, am]
      · funext g
        rw [drw_snoc, hf]; simp
    | true =>
      rw [hf] at am
      refine ⟨(fun g => drw b S done v g + if g ∈ ovr b p then v p else 0, c', some (.val (sD p)), some (.val (.lst ((ovr b p).map sD)))), ?_, done ++ [p], by simp [hd], ?_⟩
      · generalize ((ovr b p).map fun m => O.val (.bl (decide (m ∈ S)))) = RR at *
        simp [b3_draws, e1, td2, q, am, ad]
      · funext g
        rw [drw_snoc, hf]; simp)
  obtain ⟨done, hd, rfl⟩ := i
  rw [List.append_nil] at hd
  subst hd
  unfold F_draws
  rw [runF_eq]
  dsimp only at e
  generalize mO (b.gs.map Gd.nm) (iV (drw b S done v)) = R1 at *
  simp [-List.map_map, b_draws, mO_nil (iV fun _ => 0), G, td, z, ky, e]
  rfl

end Lw

namespace Lw
open PySem PySem.Spec L2 FB Wk
open PyProof.Rows hiding St
/-! sums over lists -/
def S1 {α : Type} (xs : List α) (f : α → Int) : Int := (xs.map f).sum
theorem S1_nil {α : Type} (f : α → Int) : S1 [] f = 0 := rfl
theorem S1_cons {α : Type} (x : α) (xs : List α) (f : α → Int) : S1 (x :: xs) f = f x + S1 xs f := by unfold S1; simp
theorem S1_app {α : Type} (xs ys : List α) (f : α → Int) : S1 (xs ++ ys) f = S1 xs f + S1 ys f := by unfold S1; simp
theorem S1_same {α : Type} {xs : List α} {f g : α → Int} (h : ∀ x ∈ xs, f x = g x) : S1 xs f = S1 xs g := by
  unfold S1; rw [List.map_congr_left h]
theorem S1_add {α : Type} (xs : List α) (f g : α → Int) : S1 xs (fun x => f x + g x) = S1 xs f + S1 xs g := by
  induction xs with
  | nil => rfl
  | cons x xs ih => rw [S1_cons, S1_cons, S1_cons, ih]; omega
theorem S1_mul {α : Type} (c : Int) (xs : List α) (f : α → Int) : S1 xs (fun x => c * f x) = c * S1 xs f := by
  induction xs with
  | nil => rw [S1_nil, S1_nil, Int.mul_zero]
  | cons x xs ih => rw [S1_cons, S1_cons, ih, Int.mul_add]
theorem S1_zero {α : Type} {xs : List α} {f : α → Int} (h : ∀ x ∈ xs, f x = 0) : S1 xs f = 0 := by
  induction xs with
  | nil => rfl
  | cons x xs ih => rw [S1_cons, h x (List.mem_cons_self ..), ih fun y hy => h y (List.mem_cons_of_mem _ hy)]; rfl
theorem S1_swap {α β : Type} (xs : List α) (ys : List β) (f : α → β → Int) : S1 xs (fun x => S1 ys (f x)) = S1 ys fun y => S1 xs fun x => f x y := by
  induction xs with
  | nil => rw [S1_nil]; exact (S1_zero fun y _ => rfl).symm
  | cons x xs ih =>
    rw [S1_cons, ih, ← S1_add]
    exact S1_same fun y _ => by rw [S1_cons]
theorem S1_filter {α : Type} (c : α → Bool) (xs : List α) (f : α → Int) : ((xs.filter c).map f).sum = S1 xs fun x => if c x = true then f x else 0 := by
  induction xs with
  | nil => rfl
  | cons x xs ih =>
    rw [S1_cons, List.filter_cons, ← ih]
    cases h : c x <;> simp
theorem S1_map {α β : Type} (k : α → β) (xs : List α) (f : β → Int) : S1 (xs.map k) f = S1 xs fun x => f (k x) := by unfold S1; rw [List.map_map]; rfl
/-- just one of them is so -/
theorem S1_one {α : Type} (k : α → List Nat) {xs : List α} (nd : (xs.map k).Nodup) {x : α} (hx : x ∈ xs) (f : α → Int) : S1 xs (fun y => if k y = k x then f y else 0) = f x := by
  induction xs with
  | nil => simp at hx
  | cons z xs ih =>
    rw [List.map_cons, List.nodup_cons] at nd
    rw [S1_cons]
    rcases List.mem_cons.mp hx with e | hx
    · subst e
      rw [if_pos rfl, S1_zero fun y hy => if_neg fun e => nd.1 (by rw [← e]; exact List.mem_map.mpr ⟨y, hy, rfl⟩)]
      omega
    · rw [if_neg fun e => nd.1 (by rw [e]; exact List.mem_map.mpr ⟨x, hx, rfl⟩), ih nd.2 hx]
      omega
theorem S1_none {α : Type} (k : α → List Nat) {xs : List α} {n : List Nat} (h : n ∉ xs.map k) (f : α → Int) : S1 xs (fun y => if k y = n then f y else 0) = 0 :=
  S1_zero fun y hy => if_neg fun e => h (by rw [← e]; exact List.mem_map.mpr ⟨y, hy, rfl⟩)
theorem S1_at {ks : List (List Nat)} (nd : ks.Nodup) (n : List Nat) (v : List Nat → Int) : S1 ks (fun p => if p = n then v p else 0) = if n ∈ ks then v n else 0 := by
  by_cases h : n ∈ ks
  · rw [if_pos h]
    exact S1_one (k := id) (by simpa using nd) h v
  · rw [if_neg h]
    exact S1_none (k := id) (by simpa using h) v
theorem drw_S1 (b : Bd) (S ks : List (List Nat)) (v : List Nat → Int) (g : List Nat) : drw b S ks v g = S1 ks fun p => if (fedB (ovr b p) S && decide (g ∈ ovr b p)) = true then v p else 0 := S1_filter _ _ _

end Lw

namespace Lw
open PySem PySem.Spec L2 FB Wk
open PyProof.Rows hiding St
theorem eq_un (u : Option (List Nat)) (n : List Nat) : eqO (.val (uD u)) (.val (sD n)) = some (.val (.bl (decide (u = some n)))) := by
  cases u with
  | none => exact (e_eqO (a := .val .non) (b := .val (.str (SL n))) rfl rfl).trans rfl
  | some m =>
    show eqO (.val (sD m)) (.val (sD n)) = _
    rw [eq_name0]
    by_cases h : m = n <;> simp [h]
theorem is_un (u : Option (List Nat)) : isNO (.val (uD u)) (.val .non) = some (.val (.bl (decide (u = none)))) := by
  cases u with
  | none => rfl
  | some m => rfl
theorem isnt_un (u : Option (List Nat)) : notNO (.val (uD u)) (.val .non) = some (.val (.bl (!decide (u = none)))) := by
  cases u with
  | none => rfl
  | some m => rfl
theorem sumO_of {α : Type} (xs : List α) (f : α → Int) : sumO (.lst (xs.map fun x => O.val (.int (f x)))) = some (.val (.int (S1 xs f))) := by
  have e : (O.lst (xs.map fun x => O.val (.int (f x)))).toD = .lst ((xs.map f).map D.int) := by
    rw [e_toD_lst, show (xs.map fun x => O.val (D.int (f x))) = ((xs.map f).map D.int).map O.val by rw [List.map_map, List.map_map]; rfl, toDs_vals]
  have q := sumO_ints (xs.map f)
  unfold sumO at q ⊢
  rw [e]
  exact q
theorem sum_filter {α : Type} (xs : List α) (c : α → Bool) (f : α → Int) : sumO (.lst ((xs.filter c).map fun x => O.val (.int (f x)))) = some (.val (.int (S1 xs fun x => if c x = true then f x else 0))) := by
  rw [sumO_of]
  unfold S1
  rw [S1_filter]; rfl

end Lw

namespace Lw
open PySem PySem.Spec L2 FB Wk
open PyProof.Rows hiding St
/-! rest -/
theorem lD_3 (x : Ld) : ixO (.val (lD x)) (.val (.int 3)) = some (.val (.int x.la)) := rfl
theorem lD_4 (x : Ld) : ixO (.val (lD x)) (.val (.int 4)) = some (.val (.bl x.on)) := rfl
/-- what a load draws at rest -/
def lav (x : Ld) : Int := if x.on = true then x.la else 0
noncomputable def rst (b : Bd) (g : List Nat) : Int := S1 b.ls fun x => if g ∈ ovr b x.nm then lav x else 0
theorem updN_self (v : List Nat → D) (n : List Nat) : updN v n (v n) = v := by
  funext m
  unfold updN
  by_cases h : m = n
  · subst h; simp
  · simp [h]

end Lw

namespace Lw
open PySem PySem.Spec L2 FB Wk
open PyProof.Rows hiding St
/-! rest, awake, loud -/
theorem gD_2 (g : Gd) : ixO (.val (gD g)) (.val (.int 2)) = some (.val (cv g.C)) := rfl
theorem gD_3 (g : Gd) : ixO (.val (gD g)) (.val (.int 3)) = some (.val (.int g.dl)) := rfl
theorem gD_4 (g : Gd) : ixO (.val (gD g)) (.val (.int 4)) = some (.val (.int g.wt)) := rfl
theorem pD_0 (p : Int × Int) : ixO (.val (pD p)) (.val (.int 0)) = some (.val (.int p.1)) := rfl
theorem pD_1 (p : Int × Int) : ixO (.val (pD p)) (.val (.int 1)) = some (.val (.int p.2)) := rfl
def hd0 : List (Int × Int) → Int × Int
  | [] => (0, 0)
  | p :: _ => p
def lstC (C : List (Int × Int)) : Int := (hd0 C).1
theorem cv_0 {C : List (Int × Int)} (h : C ≠ []) : ixO (.val (cv C)) (.val (.int 0)) = some (.val (pD (hd0 C))) := by
  cases C with
  | nil => exact absurd rfl h
  | cons p C =>
    show (atI ((p :: C).map pD) ((0 : Nat) : Int)).map O.val = _
    rw [atN]; rfl
theorem least {C : List (Int × Int)} (h : C ≠ []) : F_least_of [.val (cv C)] = some (.val (.int (lstC C)), [none]) := by
  have c0 := cv_0 h
  have p0 := pD_0 (hd0 C)
  unfold F_least_of
  rw [runF_eq]
  simp [b_least_of, c0, p0, lstC]
  rfl
/-- what the load of a name is -/
def laf (b : Bd) (n : List Nat) : Int := ((b.ls.find? fun x => decide (x.nm = n)).map Ld.la).getD 0
theorem laf_at {b : Bd} (h : BOk b) {x : Ld} (hx : x ∈ b.ls) : laf b x.nm = x.la := by
  unfold laf
  cases hf : b.ls.find? fun y => decide (y.nm = x.nm) with
  | none =>
    rw [List.find?_eq_none] at hf
    exact absurd (by simp) (hf x hx)
  | some y =>
    have h1 := List.mem_of_find?_eq_some hf
    have h2 := List.find?_some hf
    have := ld_eq h h1 hx (by simpa using h2)
    subst this; rfl
def ons (b : Bd) : List (List Nat) := (b.ls.filter fun x => x.on).map Ld.nm
theorem ons_in {b : Bd} : ∀ p ∈ ons b, p ∈ nms b := fun p hp => by
  obtain ⟨x, hx, rfl⟩ := List.mem_map.mp hp
  exact nms_ls (List.mem_filter.mp hx).1
theorem ons_nd {b : Bd} (h : BOk b) : (ons b).Nodup := (lsnd h).sublist ((List.filter_sublist (l := b.ls)).map Ld.nm)
theorem rst_drw {b : Bd} (h : BOk b) (g : List Nat) : drw b [] (ons b) (laf b) g = rst b g := by
  rw [drw_S1]
  unfold ons rst
  rw [S1_map]
  unfold S1
  rw [S1_filter]
  refine S1_same fun x hx => ?_
  rw [laf_at h hx]
  have : fedB (ovr b x.nm) [] = true := by unfold fedB; simp
  rw [this]
  unfold lav
  by_cases a : x.on = true <;> by_cases c : g ∈ ovr b x.nm <;> simp [a, c]
theorem rest (b : Bd) (h : BOk b) : F_rest [.val (bD b)] = some (mO (b.gs.map Gd.nm) (iV (rst b)), [none]) := by
  have b1 := bD_1 b
  have nd := lsnd h
  have l2 := h.l2
  obtain ⟨⟨ks, x2, x3, x4, x5, x6⟩, lp, done, hd, hk⟩ := forL_ex (a := aTup (aCons (aN 2) (aCons (aN 3) (aCons (aN 4) (aCons (aN 5) (aCons (aN 6) (aNil))))))) (b := b1_rest) lD (fun s : List (List Nat) × Option O × Option O × Option O × Option O × Option O => E_rest (some (.val (bD b))) (some (mO s.1 (iV (laf b)))) s.2.1 s.2.2.1 s.2.2.2.1 s.2.2.2.2.1 s.2.2.2.2.2) (fun xs s => ∃ done, done ++ xs = b.ls ∧ s.1 = (done.filter fun x => x.on).map Ld.nm) (xs := b.ls) ([], none, none, none, none, none) ⟨[], rfl, rfl⟩ (by
    rintro x xs ⟨ks, x2, x3, x4, x5, x6⟩ ⟨done, hd, hk⟩
    dsimp only at hk
    subst hk
    have hx : x ∈ b.ls := by rw [← hd]; simp
    have hn : x.nm ∉ (done.filter fun x => x.on).map Ld.nm := fun z => by
      rw [← hd, List.map_append, List.nodup_append] at nd
      obtain ⟨y, hy, e⟩ := List.mem_map.mp z
      exact nd.2.2 _ (List.mem_map.mpr ⟨y, (List.mem_filter.mp hy).1, e⟩) x.nm (by simp) rfl
    have hl : ((done.filter fun x => x.on).map Ld.nm).length < 1000000 := by
      have a1 := congrArg List.length hd
      have a2 := List.length_filter_le (fun x : Ld => x.on) done
      simp at a1 ⊢
      omega
    have st := set_new (v := iV (laf b)) hn hl (iV (laf b) x.nm)
    rw [updN_self] at st
    have ev : iV (laf b) x.nm = .int x.la := by show D.int (laf b x.nm) = _; rw [laf_at h hx]
    rw [ev] at st
    cases ho : x.on with
    | true =>
      refine ⟨((done.filter fun x => x.on).map Ld.nm ++ [x.nm], some (.val (sD x.nm)), some (.val (sD x.pl)), some (.val (cv x.cs)), some (.val (.int x.la)), some (.val (.bl x.on))), ?_, done ++ [x], by simp [hd], by simp [ho]⟩
      simp [-List.map_map, b1_rest, lD, ho, st]
    | false =>
      refine ⟨((done.filter fun x => x.on).map Ld.nm, some (.val (sD x.nm)), some (.val (sD x.pl)), some (.val (cv x.cs)), some (.val (.int x.la)), some (.val (.bl x.on))), ?_, done ++ [x], by simp [hd], by simp [ho]⟩
      simp [-List.map_map, b1_rest, lD, ho])
  dsimp only at lp hk
  rw [List.append_nil] at hd
  subst hk
  rw [hd] at lp
  have lp : forL (aTup (aCons (aN 2) (aCons (aN 3) (aCons (aN 4) (aCons (aN 5) (aCons (aN 6) (aNil))))))) b1_rest (b.ls.map lD) (E_rest (some (.val (bD b))) (some (mO [] (iV (laf b))))) = .ok .nx (E_rest (some (.val (bD b))) (some (mO (ons b) (iV (laf b)))) x2 x3 x4 x5 x6) := lp
  have dr := draws_run b h (t := .lst []) (S := []) (.inl rfl) (ons_nd h) ons_in (laf b)
  rw [show drw b [] (ons b) (laf b) = rst b from funext fun g => rst_drw h g] at dr
  have td := mO_toD (ons b) (iV (laf b))
  unfold F_rest
  rw [runF_eq]
  generalize mO (ons b) (iV (laf b)) = M1 at *
  generalize mD (ons b) (iV (laf b)) = M2 at *
  simp [b_rest, mO_nil (iV (laf b)), b1, lp, td, dr]
  rfl
/-- whether a guard is awake -/
def awB (f : List Nat → Int) (g : Gd) : Bool := decide (lstC g.C ≤ f g.nm)
theorem gC_ne {b : Bd} (h : BOk b) {g : Gd} (hg : g ∈ b.gs) : g.C ≠ [] := by
  obtain ⟨ds, hd⟩ := h.deep
  exact (hd.rest g hg).1.1
theorem awake (b : Bd) (h : BOk b) (f : List Nat → Int) : F_awake [.val (bD b), .val (mD (b.gs.map Gd.nm) (iV f))] = some (sO ((b.gs.filter (awB f)).map Gd.nm), [none, none]) := by
  have b0 := bD_0 b
  have g2 := h.g2
  have q : q1_awake (E_awake (some (.val (bD b))) (some (.val (mD (b.gs.map Gd.nm) (iV f))))) = .ok (sO ((b.gs.filter (awB f)).map Gd.nm)) (E_awake (some (.val (bD b))) (some (.val (mD (b.gs.map Gd.nm) (iV f))))) := by
    rw [show sO ((b.gs.filter (awB f)).map Gd.nm) = .lst ((b.gs.filter (awB f)).map fun g => O.val (sD g.nm)) from by unfold sO vO; rw [List.map_map, List.map_map]; rfl]
    refine comp_run gD (awB f) _ (by simp [b0]) (by omega) (by decide) fun g hg => ?_
    have ix := ix_mD (v := iV f) (gsnd h) (List.mem_map.mpr ⟨g, hg, rfl⟩)
    have le := least (gC_ne h hg)
    simp [gD, ix, le, awB]
  unfold F_awake
  rw [runF_eq]
  generalize sO ((b.gs.filter (awB f)).map Gd.nm) = S1 at *
  simp [b_awake, q]
  rfl
/-- the first guard that is awake at rest -/
noncomputable def loudO (b : Bd) : Option (List Nat) := ((b.gs.filter (awB (rst b))).map Gd.nm).head?
theorem loud (b : Bd) (h : BOk b) : F_loud [.val (bD b)] = some (.val (uD (loudO b)), [none]) := by
  have re := rest b h
  have td := mO_toD (b.gs.map Gd.nm) (iV (rst b))
  have aw := awake b h (rst b)
  have t2 := sO_toD ((b.gs.filter (awB (rst b))).map Gd.nm)
  unfold loudO
  generalize (b.gs.filter (awB (rst b))).map Gd.nm = L at *
  unfold F_loud
  rw [runF_eq]
  cases L with
  | nil =>
    simp [b_loud, re, td, aw, t2, forL]
    exact ⟨rfl, rfl⟩
  | cons l L =>
    simp [b_loud, re, td, aw, t2, forL_step, b1_loud]
    exact ⟨rfl, rfl⟩

end Lw

namespace Lw
open PySem PySem.Spec L2 FB Wk
open PyProof.Rows hiding St
/-! ask_guard, kids, held -/
theorem nin_of {a b : O} {v : Bool} (h : inO a b = some (.val (.bl v))) : ninO a b = some (.val (.bl !v)) := by
  unfold inO at h
  unfold ninO
  cases e : inD a.toD b.toD with
  | none => rw [e] at h; cases h
  | some w => rw [e] at h; cases h; rfl
/-- no guard of the board -/
def NoG (b : Bd) (t : D) : Prop := inO (.val t) (sO (b.gs.map Gd.nm)) = some (.val (.bl false))
theorem nog_name {b : Bd} {n : List Nat} (h : n ∉ b.gs.map Gd.nm) : NoG b (sD n) := by
  unfold NoG
  rw [in_names0, decide_eq_false h]
theorem nog_str {b : Bd} {s : Str} (h : ∀ m ∈ b.gs.map Gd.nm, SL m ≠ s) : NoG b (.str s) := by
  unfold NoG inO
  rw [sO_toD, map_sD]
  show (inD (.str s) (.lst (((b.gs.map Gd.nm).map SL).map D.str))).map _ = _
  rw [inD_strs, List.any_map]
  rw [show (b.gs.map Gd.nm).any ((fun y => decide (y = s)) ∘ SL) = false from by
    rw [List.any_eq_false]
    intro m hm
    simp [h m hm]]
  rfl
theorem nog_thing (b : Bd) {d : D} (h1 : d.isS = false) (h2 : d.okE 9 = true) : NoG b d := by
  have q := inH_no ((b.gs.map Gd.nm).map SL) (sO (b.gs.map Gd.nm)) (by rw [sO_toD, map_sD]) h1 (.inl h2)
  have e : inH (.val d) (sO (b.gs.map Gd.nm)) = inO (.val d) (sO (b.gs.map Gd.nm)) := by
    cases d <;> first | rfl | (cases h2; done)
  rw [e] at q
  exact q
theorem ask_ok (b : Bd) (h : BOk b) {n : List Nat} (hn : n ∈ b.gs.map Gd.nm) : F_ask_guard [.val (bD b), .val (sD n)] = .ok (.val .non) [none, none] := by
  have G := gu b h
  have hi := nin_of (in_names0 n (b.gs.map Gd.nm))
  rw [decide_eq_true hn] at hi
  generalize sO (b.gs.map Gd.nm) = S1 at *
  unfold F_ask_guard
  rw [runX_eq]
  simp [b_ask_guard, G, hi]
  rfl
theorem ask_no (b : Bd) (h : BOk b) {t : D} (ht : NoG b t) : F_ask_guard [.val (bD b), .val t] = .exc ⟨"NoPlace", [], []⟩ [none, none] := by
  have G := gu b h
  have hi := nin_of ht
  generalize sO (b.gs.map Gd.nm) = S1 at *
  unfold F_ask_guard
  rw [runX_eq]
  simp [b_ask_guard, G, hi]
  rfl
def kdL (b : Bd) (n : List Nat) : List (List Nat) := (b.gs.filter fun g => decide (g.un = some n)).map Gd.nm
theorem kids_ok (b : Bd) (h : BOk b) {n : List Nat} (hn : n ∈ b.gs.map Gd.nm) : F_kids [.val (bD b), .val (sD n)] = .ok (sO (kdL b n)) [none, none] := by
  have aq := ask_ok b h hn
  have b0 := bD_0 b
  have g2 := h.g2
  have q : q1_kids (E_kids (some (.val (bD b))) (some (.val (sD n)))) = .ok (sO (kdL b n)) (E_kids (some (.val (bD b))) (some (.val (sD n)))) := by
    rw [show sO (kdL b n) = .lst ((b.gs.filter fun g => decide (g.un = some n)).map fun g => O.val (sD g.nm)) from by unfold kdL sO vO; rw [List.map_map, List.map_map]; rfl]
    refine comp_run gD (fun g => decide (g.un = some n)) _ (by simp [b0]) (by omega) (by decide) fun g hg => ?_
    have eq := eq_un g.un n
    simp [gD, eq]
  unfold F_kids
  rw [runX_eq]
  generalize sO (kdL b n) = S1 at *
  simp [b_kids, aq, q]
  rfl
theorem kids_no (b : Bd) (h : BOk b) {t : D} (ht : NoG b t) : F_kids [.val (bD b), .val t] = .exc ⟨"NoPlace", [], []⟩ [none, none] := by
  have aq := ask_no b h ht
  unfold F_kids
  rw [runX_eq]
  simp [b_kids, aq]
  rfl
def hldB (b : Bd) (f : List Nat → Int) (n : List Nat) : Bool := (kdL b n).any fun k => decide (k ∈ (b.gs.filter (awB f)).map Gd.nm)
theorem kdL_len {b : Bd} (h : BOk b) (n : List Nat) : (kdL b n).length ≤ 16 := by
  have := List.length_filter_le (fun g : Gd => decide (g.un = some n)) b.gs
  have := h.g2
  unfold kdL
  rw [List.length_map]; omega
theorem held_ok (b : Bd) (h : BOk b) (f : List Nat → Int) {n : List Nat} (hn : n ∈ b.gs.map Gd.nm) : F_held [.val (bD b), .val (mD (b.gs.map Gd.nm) (iV f)), .val (sD n)] = .ok (.val (.bl (hldB b f n))) [none, none, none] := by
  have aw := awake b h f
  have ki := kids_ok b h hn
  have kl := kdL_len h n
  have td := sO_toD (kdL b n)
  have t2 := sO_toD ((b.gs.filter (awB f)).map Gd.nm)
  have q : q1_held (E_held (some (.val (bD b))) (some (.val (mD (b.gs.map Gd.nm) (iV f)))) (some (.val (sD n))) (some (.val (.lst (((b.gs.filter (awB f)).map Gd.nm).map sD))))) = .ok (.lst ((kdL b n).map fun k => O.val (.bl (decide (k ∈ (b.gs.filter (awB f)).map Gd.nm))))) (E_held (some (.val (bD b))) (some (.val (mD (b.gs.map Gd.nm) (iV f)))) (some (.val (sD n))) (some (.val (.lst (((b.gs.filter (awB f)).map Gd.nm).map sD))))) := by
    have := compX_run (it := mI (mCallX F_kids [.v (mP (pVar 0)), .v (mP (pVar 2))])) (own := own2 [("kid", 4)]) (a := aN 4) (t := mTrue) (e := mP (p2 (inO) (pVar 4) (pVar 3))) (ρ := E_held (some (.val (bD b))) (some (.val (mD (b.gs.map Gd.nm) (iV f)))) (some (.val (sD n))) (some (.val (.lst (((b.gs.filter (awB f)).map Gd.nm).map sD))))) (ρ1 := E_held (some (.val (bD b))) (some (.val (mD (b.gs.map Gd.nm) (iV f)))) (some (.val (sD n))) (some (.val (.lst (((b.gs.filter (awB f)).map Gd.nm).map sD))))) sD (fun _ => true) (fun k => O.val (.bl (decide (k ∈ (b.gs.filter (awB f)).map Gd.nm)))) (xs := kdL b n) (by
      generalize sO (kdL b n) = S1 at *
      simp [ki, td]) (by omega) (by decide) (fun k hk => by
      have e : inO (.val (sD k)) (.val (.lst (((b.gs.filter (awB f)).map Gd.nm).map sD))) = some (.val (.bl (decide (k ∈ (b.gs.filter (awB f)).map Gd.nm)))) := by
        have := in_names0 k ((b.gs.filter (awB f)).map Gd.nm)
        unfold inO at this ⊢
        rw [sO_toD] at this
        exact this
      generalize (b.gs.filter (awB f)).map Gd.nm = LL at *
      simp [-List.map_map, e])
    rw [filter_tt] at this
    exact this
  have am := any_map (fun k => decide (k ∈ (b.gs.filter (awB f)).map Gd.nm)) (kdL b n)
  unfold hldB
  unfold F_held
  rw [runX_eq]
  generalize (O.lst ((kdL b n).map fun k => O.val (.bl (decide (k ∈ (b.gs.filter (awB f)).map Gd.nm))))) = QQ at *
  generalize sO ((b.gs.filter (awB f)).map Gd.nm) = S2 at *
  simp [-List.map_map, b_held, aw, t2, q, am]
  rfl
theorem held_no (b : Bd) (h : BOk b) (f : List Nat → Int) {t : D} (ht : NoG b t) : F_held [.val (bD b), .val (mD (b.gs.map Gd.nm) (iV f)), .val t] = .exc ⟨"NoPlace", [], []⟩ [none, none, none] := by
  have aw := awake b h f
  have ki := kids_no b h ht
  have t2 := sO_toD ((b.gs.filter (awB f)).map Gd.nm)
  unfold F_held
  rw [runX_eq]
  generalize sO ((b.gs.filter (awB f)).map Gd.nm) = S2 at *
  simp [-List.map_map, b_held, aw, t2, q1_held, ki]
  rfl

end Lw

namespace Lw
open PySem PySem.Spec L2 FB Wk
open PyProof.Rows hiding St
theorem right_add (b : Bd) (h : BOk b) (x : Ld) (x2 x3 x4 x5 x7 x9 x10 x13 x14 : Option O) : ∀ (L : List (List Nat)), L.Nodup → (∀ m ∈ L, m ∈ b.gs.map Gd.nm) → ∀ (f : List Nat → Int) (c : Option O), ∃ c', forL (aN 6) b1__law_right (L.map sD) (E__law_right (some (.val (bD b))) (some (mO (b.gs.map Gd.nm) (iV f))) x2 x3 x4 x5 c x7 (some (.val (sD x.nm))) x9 x10 (some (.val (.int x.la))) (some (.val (.bl x.on))) x13 x14) =
    .ok .nx (E__law_right (some (.val (bD b))) (some (mO (b.gs.map Gd.nm) (iV fun g => f g + if g ∈ L then lav x else 0))) x2 x3 x4 x5 c' x7 (some (.val (sD x.nm))) x9 x10 (some (.val (.int x.la))) (some (.val (.bl x.on))) x13 x14)
  | [], _, _, f, c => ⟨c, by simp [forL]⟩
  | m :: L, nd, hm, f, c => by
    rw [List.nodup_cons] at nd
    have g2 := h.g2
    have hin := hm m (List.mem_cons_self ..)
    obtain ⟨c', ih⟩ := right_add b h x x2 x3 x4 x5 x7 x9 x10 x13 x14 L nd.2 (fun x hx => hm x (List.mem_cons_of_mem _ hx)) (fun y => if y = m then f m + lav x else f y) (some (.val (sD m)))
    refine ⟨c', ?_⟩
    have ix := ix_mO (v := iV f) (gsnd h) hin
    have st := set_old (v := iV f) (gsnd h) hin (by simp; omega) (.int (f m + lav x))
    rw [updN_iV] at st
    have m1 : mulD (.int x.la) (.int (if x.on = true then 1 else 0)) = some (.int (lav x)) := by
      rw [e_mulr _ (by split <;> decide)]
      unfold lav
      split <;> simp
    have one : fstep (aN 6) b1__law_right (sD m) (E__law_right (some (.val (bD b))) (some (mO (b.gs.map Gd.nm) (iV f))) x2 x3 x4 x5 c x7 (some (.val (sD x.nm))) x9 x10 (some (.val (.int x.la))) (some (.val (.bl x.on))) x13 x14) = .ok .nx (E__law_right (some (.val (bD b))) (some (mO (b.gs.map Gd.nm) (iV fun y => if y = m then f m + lav x else f y))) x2 x3 x4 x5 (some (.val (sD m))) x7 (some (.val (sD x.nm))) x9 x10 (some (.val (.int x.la))) (some (.val (.bl x.on))) x13 x14) := by
      generalize mO (b.gs.map Gd.nm) (iV f) = M0 at *
      generalize mO (b.gs.map Gd.nm) (iV fun y => if y = m then f m + lav x else f y) = M1 at *
      simp [b1__law_right, ix, m1, st]
    rw [List.map_cons, forL_step, one]
    show forL (aN 6) b1__law_right (L.map sD) _ = _
    rw [ih]
    have ef : (fun g => (if g = m then f m + lav x else f g) + if g ∈ L then lav x else 0) = fun g => f g + if g ∈ m :: L then lav x else 0 := by
      funext g
      by_cases e : g = m
      · subst e; simp [nd.1]
      · simp [e]
    rw [ef]
theorem head_un (L : List (List Nat)) : ixO (.val (.lst (L.map sD ++ [.non]))) (.val (.int 0)) = some (.val (uD L.head?)) := by
  cases L with
  | nil => rfl
  | cons l L =>
    show (atI ((l :: L).map sD ++ [.non]) ((0 : Nat) : Int)).map O.val = _
    rw [atN]; rfl
theorem ne_un (u : Option (List Nat)) : neO (.val (uD u)) (.val (uD u)) = some (.val (.bl false)) := by
  cases u with
  | none => rfl
  | some l =>
    show neO (.val (.str (SL l))) (.val (.str (SL l))) = _
    rw [e_neO (by simp) (by simp)]
    simp
theorem ne_names {a b : O} {S : List (List Nat)} (ha : a.toD = .lst (S.map sD)) (hb : b.toD = .lst (S.map sD)) : neO a b = some (.val (.bl false)) := by
  have h : D.okE (8 + 1) (.lst (S.map sD)) = true := by rw [okE_lst, okE_names]
  rw [e_neO (by rw [ha]; exact h) (by rw [hb]; exact h), ha, hb, eqv_lst, eqvs_names]; rfl
theorem eq_names {a b : O} {S : List (List Nat)} (ha : a.toD = .lst (S.map sD)) (hb : b.toD = .lst (S.map sD)) : eqO a b = some (.val (.bl true)) := by
  have h : D.okE (8 + 1) (.lst (S.map sD)) = true := by rw [okE_lst, okE_names]
  rw [e_eqO (by rw [ha]; exact h) (by rw [hb]; exact h), ha, hb, eqv_lst, eqvs_names]
theorem ne_nil (S : List (List Nat)) : neO (.val (.lst (S.map sD))) (.val (.lst [])) = some (.val (.bl (!S.isEmpty))) := by
  have h : D.okE (8 + 1) (.lst (S.map sD)) = true := by rw [okE_lst, okE_names]
  rw [e_neO (a := .val (.lst (S.map sD))) (b := .val (.lst [])) h rfl]
  show some (O.val (.bl (!D.eqv (.lst (S.map sD)) (.lst [])))) = _
  rw [eqv_lst, eqvs_n]
  cases S <;> rfl
theorem no_guard (b : Bd) (h : BOk b) (f : List Nat → Int) {t : D} (ht : NoG b t) : F__law_no_guard [.val (bD b), .val (mD (b.gs.map Gd.nm) (iV f)), .val t] = some (.val (.bl true), [none, none, none]) := by
  have he := held_no b h f ht
  have e5 : subX es "NoPlace" "NoPlace" = some true := by decide +kernel
  unfold F__law_no_guard
  rw [runF_eq]
  simp [b__law_no_guard, b1__law_no_guard, he, e5, t1K, u1__law_no_guard]
  rfl
/-- awake at rest -/
noncomputable def awL (b : Bd) : List (List Nat) := (b.gs.filter (awB (rst b))).map Gd.nm
theorem under_it (b : Bd) (h : BOk b) (n : List Nat) : ((b.gs.filter fun g => decide (g.un = some n) && decide (g.nm ∈ awL b)).map Gd.nm).isEmpty = !hldB b (rst b) n := by
  unfold hldB kdL awL
  generalize ((b.gs.filter (awB (rst b))).map Gd.nm) = L
  induction b.gs with
  | nil => rfl
  | cons g gs ih =>
    by_cases a : g.un = some n
    · by_cases c : g.nm ∈ L
      · simp [List.filter_cons, a, c]
      · simpa [List.filter_cons, a, c] using ih
    · simpa [List.filter_cons, a] using ih
theorem right_guard (b : Bd) (h : BOk b) (x1 x4 x5 x6 x7 x8 x9 x10 x11 x12 x13 x14 : Option O) {g : Gd} (hg : g ∈ b.gs) : ∃ y13 y14, fstep (aN 6) b3__law_right (gD g) (E__law_right (some (.val (bD b))) x1 (some (.val (mD (b.gs.map Gd.nm) (iV (rst b))))) (some (.val (.lst ((awL b).map sD)))) x4 x5 x6 x7 x8 x9 x10 x11 x12 x13 x14) = .ok .nx (E__law_right (some (.val (bD b))) x1 (some (.val (mD (b.gs.map Gd.nm) (iV (rst b))))) (some (.val (.lst ((awL b).map sD)))) x4 x5 (some (.val (gD g))) x7 x8 x9 x10 x11 x12 y13 y14) := by
  have b0 := bD_0 b
  have g2 := h.g2
  have e0 := gD_0 g
  have hn : g.nm ∈ b.gs.map Gd.nm := List.mem_map.mpr ⟨g, hg, rfl⟩
  have he := held_ok b h (rst b) hn
  have ui := under_it b h g.nm
  have q : q3__law_right (E__law_right (some (.val (bD b))) x1 (some (.val (mD (b.gs.map Gd.nm) (iV (rst b))))) (some (.val (.lst ((awL b).map sD)))) x4 x5 (some (.val (gD g))) x7 x8 x9 x10 x11 x12 x13 x14) = .ok (sO ((b.gs.filter fun k => decide (k.un = some g.nm) && decide (k.nm ∈ awL b)).map Gd.nm)) (E__law_right (some (.val (bD b))) x1 (some (.val (mD (b.gs.map Gd.nm) (iV (rst b))))) (some (.val (.lst ((awL b).map sD)))) x4 x5 (some (.val (gD g))) x7 x8 x9 x10 x11 x12 x13 x14) := by
    rw [show sO ((b.gs.filter fun k => decide (k.un = some g.nm) && decide (k.nm ∈ awL b)).map Gd.nm) = .lst ((b.gs.filter fun k => decide (k.un = some g.nm) && decide (k.nm ∈ awL b)).map fun k => O.val (sD k.nm)) from by unfold sO vO; rw [List.map_map, List.map_map]; rfl]
    refine comp_run gD (fun k => decide (k.un = some g.nm) && decide (k.nm ∈ awL b)) _ (by simp [b0]) (by omega) (by decide) fun k hk => ?_
    have k0 := gD_0 k
    have k1 := gD_1 k
    have eu := eq_un k.un g.nm
    have e : inO (.val (sD k.nm)) (.val (.lst ((awL b).map sD))) = some (.val (.bl (decide (k.nm ∈ awL b)))) := by
      have := in_names0 k.nm (awL b)
      unfold inO at this ⊢
      rw [sO_toD] at this
      exact this
    generalize awL b = LL at *
    by_cases a : k.un = some g.nm
    · rw [decide_eq_true a] at eu ⊢
      simp [-List.map_map, k0, k1, eu, e, e0]
    · rw [decide_eq_false a] at eu ⊢
      simp [-List.map_map, k0, k1, eu, e0]
  have td := sO_toD ((b.gs.filter fun k => decide (k.un = some g.nm) && decide (k.nm ∈ awL b)).map Gd.nm)
  have nn := ne_nil ((b.gs.filter fun k => decide (k.un = some g.nm) && decide (k.nm ∈ awL b)).map Gd.nm)
  rw [ui, Bool.not_not] at nn
  have ib : isiO "bool" (.val (.bl (hldB b (rst b) g.nm))) = some (.val (.bl true)) := rfl
  have nb : neO (.val (.bl (hldB b (rst b) g.nm))) (.val (.bl (hldB b (rst b) g.nm))) = some (.val (.bl false)) := by
    rw [e_neO (by simp) (by simp)]; simp
  refine ⟨some (.val (.lst (((b.gs.filter fun k => decide (k.un = some g.nm) && decide (k.nm ∈ awL b)).map Gd.nm).map sD))), some (.val (.bl (hldB b (rst b) g.nm))), ?_⟩
  generalize sO ((b.gs.filter fun k => decide (k.un = some g.nm) && decide (k.nm ∈ awL b)).map Gd.nm) = QQ at *
  generalize ((b.gs.filter fun k => decide (k.un = some g.nm) && decide (k.nm ∈ awL b)).map Gd.nm).map sD = QL at *
  generalize hldB b (rst b) g.nm = hb at *
  generalize mD (b.gs.map Gd.nm) (iV (rst b)) = M1 at *
  generalize (awL b).map sD = AL at *
  simp [b3__law_right, q, td, he, e0, ib, nn, nb]
theorem all_nog (b : Bd) (h : BOk b) {l : List Nat} (hl : NameOk l) : ∀ t ∈ ([.non, .int 1, .str "", .lst [sD l]] ++ b.ls.map fun x => sD x.nm : List D), NoG b t := by
  have e0 : ("" : Str) = SL [] := by decide +kernel
  intro t ht
  rcases List.mem_append.mp ht with ht | ht
  · simp only [List.mem_cons, List.not_mem_nil, or_false] at ht
    rcases ht with rfl | rfl | rfl | rfl
    · exact nog_thing b rfl rfl
    · exact nog_thing b rfl rfl
    · refine nog_str fun m hm e => ?_
      rw [e0] at e
      have := (nms_ok h m (List.mem_append_left _ hm)).1
      rw [SL_inj e] at this
      simp at this
    · exact nog_thing b rfl rfl
  · obtain ⟨x, hx, rfl⟩ := List.mem_map.mp ht
    exact nog_name fun z => apart h hx z rfl
set_option maxHeartbeats 0 in
theorem right (b : Bd) (h : BOk b) : F__law_right [.val (bD b)] = some (.val (.bl true), [none]) := by
  have b0 := bD_0 b
  have b1 := bD_1 b
  have g1 := h.g1
  have g2 := h.g2
  have l2 := h.l2
  have q1 : q1__law_right (E__law_right (some (.val (bD b)))) = .ok (.lst (b.gs.map fun g => O.val (.tup [sD g.nm, .int 0]))) (E__law_right (some (.val (bD b)))) := by
    refine comp_map gD _ (by simp [b0]) (by omega) (by decide) fun x hx => ?_
    have e := gD_0 x
    simp [e]
  have pr := prs_gen Gd.nm (fun _ => D.int 0) b.gs
  have dc := dct_mD Gd.nm (fun _ => D.int 0) (gsnd h)
  have dc2 : (O.dct (mergeL ([], []) (b.gs.map fun x => ((.inr (SL x.nm) : Key), D.int 0))).1 ((mergeL ([], []) (b.gs.map fun x => ((.inr (SL x.nm) : Key), D.int 0))).2.map O.val) : O) = mO (b.gs.map Gd.nm) (iV fun _ => 0) := by
    unfold dctOf mD at dc
    injection dc with d1 d2
    rw [d1, d2]; rfl
  have tl : (O.lst (b.gs.map fun g => O.val (.tup [sD g.nm, .int 0]))).toD = .lst (b.gs.map fun x => D.tup [sD x.nm, .int 0]) := by
    rw [e_toD_lst, show (b.gs.map fun g => O.val (.tup [sD g.nm, .int 0])) = (b.gs.map fun x => D.tup [sD x.nm, .int 0]).map O.val by rw [List.map_map]; rfl, toDs_vals]
  obtain ⟨⟨f, x6, x8, x9, x10, x11, x12⟩, lp, done, hd, hf⟩ := forL_ex (a := aTup (aCons (aN 8) (aCons (aN 9) (aCons (aN 10) (aCons (aN 11) (aCons (aN 12) (aNil))))))) (b := b2__law_right) lD (fun s : (List Nat → Int) × Option O × Option O × Option O × Option O × Option O × Option O => E__law_right (some (.val (bD b))) (some (mO (b.gs.map Gd.nm) (iV s.1))) none none none none s.2.1 none s.2.2.1 s.2.2.2.1 s.2.2.2.2.1 s.2.2.2.2.2.1 s.2.2.2.2.2.2) (fun xs s => ∃ done, done ++ xs = b.ls ∧ s.1 = fun g => S1 done fun x => if g ∈ ovr b x.nm then lav x else 0) (xs := b.ls) (fun _ => 0, none, none, none, none, none, none) ⟨[], rfl, rfl⟩ (by
    rintro x xs ⟨f, x6, x8, x9, x10, x11, x12⟩ ⟨done, hd, hf⟩
    dsimp only at hf
    subst hf
    have hx : x ∈ b.ls := by rw [← hd]; simp
    obtain ⟨o, h16⟩ := ovr_ok h (nms_ls hx)
    have ov := law_over b h o h16
    have td := sO_toD (ovr b x.nm)
    obtain ⟨c', ad⟩ := right_add b h x none none none none none (some (.val (sD x.pl))) (some (.val (cv x.cs))) none none (ovr b x.nm) (over_nodup h o) (over_in o) (fun g => S1 done fun x => if g ∈ ovr b x.nm then lav x else 0) x6
    refine ⟨(fun g => S1 (done ++ [x]) fun x => if g ∈ ovr b x.nm then lav x else 0, c', some (.val (sD x.nm)), some (.val (sD x.pl)), some (.val (cv x.cs)), some (.val (.int x.la)), some (.val (.bl x.on))), ?_, done ++ [x], by simp [hd], rfl⟩
    have ef : (fun g => S1 (done ++ [x]) fun x => if g ∈ ovr b x.nm then lav x else 0) = fun g => (S1 done fun x => if g ∈ ovr b x.nm then lav x else 0) + if g ∈ ovr b x.nm then lav x else 0 := by
      funext g
      rw [S1_app, S1_cons, S1_nil]; omega
    rw [ef]
    generalize sO (ovr b x.nm) = SS at *
    simp [-List.map_map, lD, b2__law_right, ov, td, ad])
  dsimp only at lp hf
  rw [List.append_nil] at hd
  subst hf
  rw [hd] at lp
  have lp : forL (aTup (aCons (aN 8) (aCons (aN 9) (aCons (aN 10) (aCons (aN 11) (aCons (aN 12) (aNil))))))) b2__law_right (b.ls.map lD) (E__law_right (some (.val (bD b))) (some (mO (b.gs.map Gd.nm) (iV fun _ => 0)))) = .ok .nx (E__law_right (some (.val (bD b))) (some (mO (b.gs.map Gd.nm) (iV (rst b)))) none none none none x6 none x8 x9 x10 x11 x12) := lp
  have re := rest b h
  have td := mO_toD (b.gs.map Gd.nm) (iV (rst b))
  have isd : isiO "dict" (.val (mD (b.gs.map Gd.nm) (iV (rst b)))) = some (.val (.bl true)) := rfl
  have ne1 := neKO_same (same_mD (ks := b.gs.map Gd.nm) (v := iV (rst b)) (w := iV (rst b)) (fun _ _ => rfl) (fun _ _ => rfl) (a := .val (mD (b.gs.map Gd.nm) (iV (rst b)))) (b := mO (b.gs.map Gd.nm) (iV (rst b))) rfl (mO_toD _ _))
  have eq1 := eqKO_same (same_mD (ks := b.gs.map Gd.nm) (v := iV (rst b)) (w := iV (rst b)) (fun _ _ => rfl) (fun _ _ => rfl) (a := mO (b.gs.map Gd.nm) (iV (rst b))) (b := .val (mD (b.gs.map Gd.nm) (iV (rst b)))) (mO_toD _ _) rfl)
  have q2 : ∀ y6 y8 y9 y10 y11 y12, q2__law_right (E__law_right (some (.val (bD b))) (some (mO (b.gs.map Gd.nm) (iV (rst b)))) (some (.val (mD (b.gs.map Gd.nm) (iV (rst b))))) none none none y6 none y8 y9 y10 y11 y12) = .ok (sO (awL b)) (E__law_right (some (.val (bD b))) (some (mO (b.gs.map Gd.nm) (iV (rst b)))) (some (.val (mD (b.gs.map Gd.nm) (iV (rst b))))) none none none y6 none y8 y9 y10 y11 y12) := by
    intro y6 y8 y9 y10 y11 y12
    rw [show sO (awL b) = .lst ((b.gs.filter (awB (rst b))).map fun g => O.val (sD g.nm)) from by unfold awL sO vO; rw [List.map_map, List.map_map]; rfl]
    refine comp_run gD (awB (rst b)) _ (by simp [b0]) (by omega) (by decide) fun g hg => ?_
    have e0 := gD_0 g
    have e2 := gD_2 g
    have ix := ix_mO (v := iV (rst b)) (gsnd h) (List.mem_map.mpr ⟨g, hg, rfl⟩)
    have c0 := cv_0 (gC_ne h hg)
    have p0 := pD_0 (hd0 g.C)
    generalize mO (b.gs.map Gd.nm) (iV (rst b)) = M0 at *
    have ew : awB (rst b) g = decide ((hd0 g.C).1 ≤ rst b g.nm) := rfl
    rw [ew]
    by_cases c : (hd0 g.C).1 ≤ rst b g.nm <;> simp [e0, e2, ix, c0, p0, c]
  have tdA := sO_toD (awL b)
  have aw : F_awake [.val (bD b), .val (mD (b.gs.map Gd.nm) (iV (rst b)))] = some (sO (awL b), [none, none]) := awake b h (rst b)
  have isl : isiO "list" (sO (awL b)) = some (.val (.bl true)) := rfl
  have ne2 := ne_names (a := sO (awL b)) (b := .val (.lst ((awL b).map sD))) (S := awL b) (sO_toD _) rfl
  have eq2 := eq_names (a := sO (awL b)) (b := .val (.lst ((awL b).map sD))) (S := awL b) (sO_toD _) rfl
  have lo : F_loud [.val (bD b)] = some (.val (uD (awL b).head?), [none]) := loud b h
  have al : (awL b).length ≤ 16 := by
    have := List.length_filter_le (awB (rst b)) b.gs
    unfold awL
    rw [List.length_map]; omega
  have ad1 : addD (.lst ((awL b).map sD)) (.lst [.non]) = some (.lst ((awL b).map sD ++ [.non])) := addD_lst _ _ (by simp; omega)
  have hu := head_un (awL b)
  have nu := ne_un (awL b).head?
  have apA1 : ∀ (ρ : FB.Env) (mm : M O), apA 4 mm ρ (some (some (sO (awL b)))) = apB 4 (mm ρ) := fun ρ mm => rfl
  have apC1 : ∀ (ρ : FB.Env), apC 4 (.val (.str "a")) ρ (some (some (sO (awL b)))) = .ok (.val .non) (ρ.set 4 (some (vO ((awL b).map sD ++ [.str "a"])))) := fun ρ => vO_apC 4 (.str "a") _ (by simp; omega)
  -- the first guard
  obtain ⟨g0, hg0, hgm⟩ : ∃ g0, b.gs[0]? = some g0 ∧ g0 ∈ b.gs := ⟨b.gs[0], List.getElem?_eq_getElem g1, List.getElem_mem g1⟩
  have i0 : ixO (.val (.tup (b.gs.map gD))) (.val (.int 0)) = some (.val (gD g0)) := by
    show (atI (b.gs.map gD) ((0 : Nat) : Int)).map O.val = _
    rw [atN, List.getElem?_map, hg0]; rfl
  have i1 := gD_0 g0
  have hin : g0.nm ∈ b.gs.map Gd.nm := List.mem_map.mpr ⟨g0, hgm, rfl⟩
  have st := set_old (v := iV (rst b)) (gsnd h) hin (by simp; omega) (.int (-1))
  obtain ⟨⟨z6, z13, z14⟩, lp3, _⟩ := forL_rel (a := aN 6) (b := b3__law_right) gD (fun c : Option O × Option O × Option O => E__law_right (some (.val (bD b))) (some (mO (b.gs.map Gd.nm) (iV (rst b)))) (some (.val (mD (b.gs.map Gd.nm) (iV (rst b))))) (some (.val (.lst ((awL b).map sD)))) (some (vO ((awL b).map sD ++ [.str "a"]))) (some (mO (b.gs.map Gd.nm) (updN (iV (rst b)) g0.nm (.int (-1))))) c.1 none x8 x9 x10 x11 x12 c.2.1 c.2.2) (fun _ => True) (fun _ _ _ => True) (xs := b.gs) (x6, none, none) trivial (by
    rintro g hg ⟨z6, z13, z14⟩ _
    obtain ⟨y13, y14, e⟩ := right_guard b h (some (mO (b.gs.map Gd.nm) (iV (rst b)))) (some (vO ((awL b).map sD ++ [.str "a"]))) (some (mO (b.gs.map Gd.nm) (updN (iV (rst b)) g0.nm (.int (-1))))) z6 none x8 x9 x10 x11 x12 z13 z14 hg
    exact ⟨(some (.val (gD g)), y13, y14), e, trivial, trivial⟩)
  dsimp only at lp3
  have q4 : ∀ y1 y2 y3 y4 y5 y6 y13 y14, q4__law_right (E__law_right (some (.val (bD b))) y1 y2 y3 y4 y5 y6 none x8 x9 x10 x11 x12 y13 y14) = .ok (vO (b.ls.map fun x => sD x.nm)) (E__law_right (some (.val (bD b))) y1 y2 y3 y4 y5 y6 none x8 x9 x10 x11 x12 y13 y14) := by
    intro y1 y2 y3 y4 y5 y6 y13 y14
    rw [show vO (b.ls.map fun x => sD x.nm) = .lst (b.ls.map fun x => O.val (sD x.nm)) from by unfold vO; rw [List.map_map]; rfl]
    refine comp_map lD _ (by simp [b1]) (by omega) (by decide) fun x hx => ?_
    have e0 := lD_0 x
    simp [e0]
  have ad2 : lift2 addD (.val (.lst [.non, .int 1, .str "", .lst [sD g0.nm]])) (vO (b.ls.map fun x => sD x.nm)) = some (.val (.lst ([.non, .int 1, .str "", .lst [sD g0.nm]] ++ b.ls.map fun x => sD x.nm))) := by
    have s2 : (vO (b.ls.map fun x => sD x.nm)).sh = some (.lst (b.ls.map fun x => sD x.nm)) := vO_sh _
    unfold lift2
    rw [s2]
    show ((addD (.lst [.non, .int 1, .str "", .lst [sD g0.nm]]) (.lst (b.ls.map fun x => sD x.nm))).map O.val) = _
    rw [addD_lst _ _ (by simp; omega)]; rfl
  have an := all_nog b h (nms_ok h g0.nm (nms_g hin))
  obtain ⟨z7, lp4, _⟩ := forL_rel (a := aN 7) (b := b4__law_right) (fun d : D => d) (fun c : Option O => E__law_right (some (.val (bD b))) (some (mO (b.gs.map Gd.nm) (iV (rst b)))) (some (.val (mD (b.gs.map Gd.nm) (iV (rst b))))) (some (.val (.lst ((awL b).map sD)))) (some (vO ((awL b).map sD ++ [.str "a"]))) (some (mO (b.gs.map Gd.nm) (updN (iV (rst b)) g0.nm (.int (-1))))) z6 c x8 x9 x10 x11 x12 z13 z14) (fun _ => True) (fun _ _ _ => True) (xs := [.non, .int 1, .str "", .lst [sD g0.nm]] ++ b.ls.map fun x => sD x.nm) none trivial (by
    rintro t ht c _
    have e := no_guard b h (rst b) (an t ht)
    refine ⟨some (.val t), ?_, trivial, trivial⟩
    generalize mD (b.gs.map Gd.nm) (iV (rst b)) = M1 at *
    simp [-List.map_map, b4__law_right, e])
  rw [List.map_id'] at lp4
  generalize hT : ([.non, .int 1, .str "", .lst [sD g0.nm]] ++ b.ls.map fun x => sD x.nm : List D) = TT at *
  generalize vO (b.ls.map fun x => sD x.nm) = V4 at *
  generalize (O.lst (b.gs.map fun g => O.val (.tup [sD g.nm, .int 0]))) = Q1 at *
  generalize mO (b.gs.map Gd.nm) (updN (iV (rst b)) g0.nm (.int (-1))) = M3 at *
  generalize mO (b.gs.map Gd.nm) (iV (rst b)) = M1 at *
  generalize mD (b.gs.map Gd.nm) (iV (rst b)) = M2 at *
  generalize uD (awL b).head? = U at *
  generalize sO (awL b) = SA at *
  generalize vO ((awL b).map sD ++ [.str "a"]) = SB at *
  generalize (awL b).map sD = AL at *
  generalize b.gs.map gD = GG at *
  generalize b.ls.map lD = LL at *
  unfold F__law_right
  rw [runF_eq]
  simp [-List.map_map, b__law_right, q1, tl, pr, dc2, b1, lp, re, td, isd, ne1, q2, tdA, aw, isl, ne2, lo, ad1, hu, nu, apA1, apC1, b0, i0, i1, st, lp3, q4, ad2, lp4, eq2, eq1]
  rfl

theorem bOk_ls {b : Bd} (h : BOk b) (ls : List Ld) (hl : LsOk b.gs ls) (l2 : ls.length ≤ 24) (nd : (b.gs.map Gd.nm ++ ls.map Ld.nm).Nodup) : BOk ⟨b.gs, ls⟩ := ⟨h.deep, hl, h.g1, h.g2, l2, nd⟩
def turnL (x : Ld) : Ld := { x with on := !x.on }
theorem turned {b : Bd} (h : BOk b) : BOk ⟨b.gs, b.ls.map turnL⟩ := by
  have e : (b.ls.map turnL).map Ld.nm = b.ls.map Ld.nm := by rw [List.map_map]; rfl
  refine bOk_ls h _ ⟨fun l hl => ?_, fun l hl => ?_, fun l hl => ?_⟩ (by rw [List.length_map]; exact h.l2) (by rw [e]; exact h.nd)
  · obtain ⟨x, hx, rfl⟩ := List.mem_map.mp hl; exact h.ls.names x hx
  · obtain ⟨x, hx, rfl⟩ := List.mem_map.mp hl; exact h.ls.pl x hx
  · obtain ⟨x, hx, rfl⟩ := List.mem_map.mp hl; exact h.ls.rest x hx
theorem bare {b : Bd} (h : BOk b) : BOk ⟨b.gs, []⟩ := by
  refine bOk_ls h _ ⟨fun l hl => ?_, fun l hl => ?_, fun l hl => ?_⟩ (by simp) ?_
  · simp at hl
  · simp at hl
  · simp at hl
  · simpa using gsnd h
theorem addT (xs ys : List D) (h : xs.length + ys.length ≤ 1000000) : addD (.tup xs) (.tup ys) = some (.tup (xs ++ ys)) := if_pos h
theorem law_true (ns : List Int) (hl : ns.length ≤ 63) : ∃ r, F_law [.val (.scr ns)] = some (.val (.bl true), r) := by
  have e0 := stream ns hl
  have s0 : Sok (sm ns 0 20011) := ⟨ns, 0, 20011, rfl, by decide, by decide, by decide, hl⟩
  obtain ⟨r1, o1, e1, s1, u1, v1⟩ := take (sm ns 0 20011) 3 s0 (by decide) (by decide)
  have p59 : powD (.int 10) (.int 59) = some (.int 100000000000000000000000000000000000000000000000000000000000) := by rw [e_pow (by decide) (by decide) (by decide)]; rfl
  obtain ⟨far, im, hf⟩ : ∃ far : Int, atI [O.val (.int 5), O.val (.int 30), O.val (.int 100000000000000000000000000000000000000000000000000000000000)] r1 = some (.val (.int far)) ∧ farOk far := by
    have : r1 = 0 ∨ r1 = 1 ∨ r1 = 2 := by omega
    rcases this with e | e | e <;> subst e
    · exact ⟨5, by simp, by decide, by decide⟩
    · exact ⟨30, by simp, by decide, by decide⟩
    · exact ⟨100000000000000000000000000000000000000000000000000000000000, by simp, by decide, by decide⟩
  obtain ⟨r2, o2, e2, s2, u2, v2⟩ := take o1 11 s1 (by decide) (by decide)
  have f9 : farOk 9 := ⟨by decide, by decide⟩
  obtain ⟨o3, b, eb, s3, h⟩ := board o2 s2 12 r2 far 9 hf f9 (by decide) (by decide) u2 (by omega)
  have b0 := bD_0 b
  have b1 := bD_1 b
  have l2 := h.l2
  have ri1 := right b h
  have ri2 := right _ (turned h)
  have ri3 := right _ (bare h)
  have q : ∀ x0 x1 x2 x4, q1_law (E_law x0 x1 x2 (some (.val (bD b))) x4) = .ok (vO ((b.ls.map turnL).map lD)) (E_law x0 x1 x2 (some (.val (bD b))) x4) := by
    intro x0 x1 x2 x4
    rw [show vO ((b.ls.map turnL).map lD) = .lst (b.ls.map fun x => O.val (lD (turnL x))) from by unfold vO; rw [List.map_map, List.map_map]; rfl]
    refine comp_map lD _ (by simp [b1]) (by omega) (by decide) fun x hx => ?_
    have e4 := lD_4 x
    have s4 : slO (.val (lD x)) none (some 4) = some (.val (.tup [sD x.nm, sD x.pl, cv x.cs, .int x.la])) := rfl
    have ad : addD (.tup [sD x.nm, sD x.pl, cv x.cs, .int x.la]) (.tup [.bl !x.on]) = some (lD (turnL x)) := by
      show addD (.tup [sD x.nm, sD x.pl, cv x.cs, .int x.la]) (.tup [.bl !x.on]) = some (.tup ([sD x.nm, sD x.pl, cv x.cs, .int x.la] ++ [.bl !x.on]))
      exact addT _ _ (by simp)
    generalize lD (turnL x) = T1 at *
    generalize lD x = T0 at *
    simp [e4, s4, ad]
  have tt : tupO (vO ((b.ls.map turnL).map lD)) = some (.val (.tup ((b.ls.map turnL).map lD))) := vO_tup _
  have bt : bD ⟨b.gs, b.ls.map turnL⟩ = .tup [.tup (b.gs.map gD), .tup ((b.ls.map turnL).map lD)] := rfl
  have bb : bD ⟨b.gs, []⟩ = .tup [.tup (b.gs.map gD), .tup []] := rfl
  rw [bt] at ri2
  rw [bb] at ri3
  refine ⟨[none], ?_⟩
  generalize vO ((b.ls.map turnL).map lD) = V1 at *
  generalize (b.ls.map turnL).map lD = L1 at *
  generalize b.gs.map gD = G1 at *
  generalize bD b = BD at *
  generalize sm ns 0 20011 = S0 at *
  unfold F_law
  rw [runF_eq]
  simp [b_law, e0, e1, p59, im, e2, eb, q, tt, b0, ri1, ri2, ri3]
  rfl

end Lw

open PySem PySem.W PySem.Calls PyProof.Rows in
set_option maxRecDepth 100000 in
set_option maxHeartbeats 0 in
theorem PySem.Challenge.cw_fuseboard_k20_rest_awake_held_holds : PySem.Challenge.rw_fuseboard_k20_rest_awake_held.Holds := by
  w_on; o_law
  refine HandSHeadRun.head_any (r := OpenLaw.row PySem.Challenge.rw_fuseboard_k20_rest_awake_held) (q := view (OpenLaw.row PySem.Challenge.rw_fuseboard_k20_rest_awake_held).prog [28]) (H := Wk.hk) (ob := Wk.ob) (M := 4000) (loose := Wk.loose) (d := HandSHeadRun.topDef (OpenLaw.row PySem.Challenge.rw_fuseboard_k20_rest_awake_held).prog 28) (kwd := []) Wk.ob_eq
    (by kernel_rfl) (fun s => by kernel_rfl) Wk.run (by kernel_rfl) (by kernel_rfl) (by kernel_rfl) (by rfl) (by first | assumption | decide +kernel) (by decide +kernel) ⟨rfl, rfl, rfl, rfl, rfl, by decide +kernel⟩ ?hw ?hc
  case hw => w_witness2
  case hc =>
    refine L2.walk_ofE (l := PySem.Challenge.rw_fuseboard_k20_rest_awake_held) (n := 63) (k := 9) (x := "_law_script") (CX := C8.CX0) rfl (by decide) (by kernel_rfl) ⟨rfl, by decide, by decide⟩ ?F (fun _ _ _ _ z => z)
    intro w mg fa h Y G hmg0
    obtain ⟨K, KX, c⟩ := Y
    have hmg : mg ("law" : PySem.Str) = some (.ref fa) := by
      have e : (HandSHeadRun.topDef (OpenLaw.row PySem.Challenge.rw_fuseboard_k20_rest_awake_held).prog 28).name = ("law" : PySem.Str) := by kernel_rfl
      rw [← e]
      exact hmg0
    obtain ⟨fd, hb, hF⟩ := Wk.facts (P := (PySem.Challenge.rw_fuseboard_k20_rest_awake_held).prog) (w := w) KX G hmg c
    exact ⟨K, fd, _, KX, hb, fun H a ns hl _ hS => FB.law_end (Lw.law_true ns hl) hS, hF⟩
#print axioms PySem.Challenge.cw_fuseboard_k20_rest_awake_held_holds

