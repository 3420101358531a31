import PyProof.Rows.All
import Wide.All
import OpenK.AllK
import Wide.FinOn
import HandS.ForMost
import HandS.Walk
import HandS.Evl
import KE.KeyNested
import PyProof.DictRoadsH
import HandS.Zip
import HandS.TupAny
import HandS.TupMul
import HandS.Style
import HandS.Deep
import HandS.Flow
import PyProof.ReprRoads
import HandS.RevTup
import KE.KRevSl
import HandS.SetFor
import HandS.SetTxt0
import HandS.Strs
import PyProof.Rows.SortShellAny
import PyProof.FitsInt
import PyProof.StrLawsRepr
import HandS.IsInst
import HandS.RaiseMore
import HandS.Text
import HandS.Conv
import PyProof.Rows.TupTab
import HandS.SortOrd
import KE.KDictSum
import KE.KSortTup
import PySem.Challenge.RW_eyeskip_k09_evidence_of_partings
/-! the value layer, first part: owned and shared data, states, readings -/
set_option Elab.async false
set_option linter.all false
set_option maxRecDepth 100000
namespace VL
open PySem PySem.Spec PyProof.Rows L2
open Evl (Ex ex_l ex_t)

/-! ### keys of dicts -/
/-- the program and the world in which it runs -/
class Wd where
  P : Program
  w : World
mutual
def keyOf : PyData → Option NestedKey
  | .none => some .none
  | .bool b => some (.num (if b = true then 1 else 0))
  | .int i => some (.num i)
  | .str x => some (.text x)
  | .tuple ds => (keysOf ds).map .tup
  | .list _ => none
  | .dict _ => none
def keysOf : List PyData → Option (List NestedKey)
  | [] => some []
  | d :: ds => (keyOf d).bind fun k => (keysOf ds).map (k :: ·)
end
/-- a dict whose keys are tuples, its entries in order -/
def DXo [Wd] (a : Addr) (xs : List (NestedKey × Addr × V)) : HO := .ext fun h => xs.length ≤ sizeLine ∧ (a == sysModules) = false ∧ ∃ ys : List (NestedKey × Addr × Value), Paired (fun p q => p.1 = q.1 ∧ p.2.1 = q.2.1 ∧ RelV p.2.2 q.2.2) xs ys ∧
  ∃ o es ep, h.get? a = some o ∧ o.ExactDict ∧ o.data = .dict es ep ∧ es.toList = ys.map (entryOfKey (nestedKind Wd.P Wd.w)) ∧ (ys.map (·.1)).Nodup
def keyV : Key → PyData
  | .inl i => .int i
  | .inr x => .str x
/-- the class of that name -/
def clsAt (K : PySem.W.Frag) (c : Str) (C : Addr) : Prop := PySem.W.nsIn K mainGlobals c = some (some (.ref C))
/-! ### data in a frozen part of the heap -/
section
variable [Wd]
mutual
inductive Dq (K : PySem.W.Frag) (G : Hp) : V → PyData → Prop
  | non : Dq K G .non .none
  | bl (b : Bool) : Dq K G (.bl b) (.bool b)
  | int (i : Int) : Dq K G (.int i) (.int i)
  | str (x : Str) : Dq K G (.str x) (.str x)
  | lst {a : Addr} {vs : List V} {ds : List PyData} (h : G a = some (.lst vs)) (r : DqA K G vs ds) : Dq K G (.ref a) (.list ds)
  | tup {a : Addr} {vs : List V} {ds : List PyData} (h : SqT K G a vs) (r : DqA K G vs ds) : Dq K G (.ref a) (.tuple ds)
  | scr {a : Addr} {vs : List V} {ds : List PyData} (h : SqL K G a vs) (r : DqA K G vs ds) : Dq K G (.ref a) (.dict [(.none, .list ds)])
  | dk {a : Addr} {ks : List (Key × V)} {kvs : List (PyData × PyData)} (h : G a = some (.dK ks)) (r : DqK K G ks kvs) : Dq K G (.ref a) (.dict kvs)
  | dx {a : Addr} {xs : List (NestedKey × Addr × V)} {kvs : List (PyData × PyData)} (h : G a = some (DXo a xs)) (r : DqX K G xs kvs) : Dq K G (.ref a) (.dict ((.bool false, .none) :: kvs))
  | ins {a C dx : Addr} {c : Str} {fs : List (Str × V)} {kvs : List (PyData × PyData)} (h : G a = some (.ins C dx fs)) (h2 : G dx = some (.own a)) (hc : clsAt K c C) (r : DqF K G fs kvs) : Dq K G (.ref a) (.dict ((.bool true, .str c) :: kvs))
inductive DqA (K : PySem.W.Frag) (G : Hp) : List V → List PyData → Prop
  | nil : DqA K G [] []
  | cons {v : V} {vs : List V} {d : PyData} {ds : List PyData} (h : Dq K G v d) (r : DqA K G vs ds) : DqA K G (v :: vs) (d :: ds)
inductive DqK (K : PySem.W.Frag) (G : Hp) : List (Key × V) → List (PyData × PyData) → Prop
  | knil : DqK K G [] []
  | kcons {k : Key} {v : V} {ks : List (Key × V)} {d : PyData} {kvs : List (PyData × PyData)} (h : Dq K G v d) (r : DqK K G ks kvs) : DqK K G ((k, v) :: ks) ((keyV k, d) :: kvs)
inductive DqX (K : PySem.W.Frag) (G : Hp) : List (NestedKey × Addr × V) → List (PyData × PyData) → Prop
  | xnil : DqX K G [] []
  | xcons {k : NestedKey} {b : Addr} {v : V} {xs : List (NestedKey × Addr × V)} {e d : PyData} {kvs : List (PyData × PyData)} (hk : keyOf e = some k) (hd : k.depth ≤ 8) (he : Dq K G (.ref b) e) (h : Dq K G v d) (r : DqX K G xs kvs) : DqX K G ((k, b, v) :: xs) ((e, d) :: kvs)
inductive DqF (K : PySem.W.Frag) (G : Hp) : List (Str × V) → List (PyData × PyData) → Prop
  | fnil : DqF K G [] []
  | fcons {x : Str} {v : V} {fs : List (Str × V)} {d : PyData} {kvs : List (PyData × PyData)} (h : Dq K G v d) (r : DqF K G fs kvs) : DqF K G ((x, v) :: fs) ((.str x, d) :: kvs)
end
mutual
theorem Dq.dp {K : PySem.W.Frag} {G : Hp} : ∀ {d : PyData} {v : V}, d.canLay0 = true → Dq K G v d → Dp K G v d
  | .none, _, _, h => by cases h; exact .non
  | .bool _, _, _, h => by cases h; exact .bl _
  | .int _, _, _, h => by cases h; exact .int _
  | .str _, _, _, h => by cases h; exact .str _
  | .list _, _, l, h => by
    cases h with
    | lst a b => exact .lst (SqL.of a) (DqA.dpa (by simpa [PyData.canLay0] using l) b)
  | .tuple _, _, l, h => by
    cases h with
    | tup a b => exact .tup a (DqA.dpa (by simpa [PyData.canLay0] using l) b)
  | .dict _, _, l, h => by simp [PyData.canLay0] at l
theorem DqA.dpa {K : PySem.W.Frag} {G : Hp} : ∀ {ds : List PyData} {vs : List V}, PyData.canLayAll0 ds = true → DqA K G vs ds → DpAll K G vs ds
  | [], _, _, h => by cases h; exact .nil
  | _ :: _, _, l, h => by
    cases h with
    | cons a b =>
      simp only [PyData.canLayAll0, Bool.and_eq_true] at l
      exact .cons (Dq.dp l.1 a) (DqA.dpa l.2 b)
end
section
variable {K : PySem.W.Frag} {G H : Hp} (e : Ex G H)
include e
theorem dp_mono {d : PyData} {v : V} (h : Dq K G v d) : Dq K H v d := by
  induction h using Dq.rec (motive_2 := fun vs ds _ => DqA K H vs ds) (motive_3 := fun ks kvs _ => DqK K H ks kvs) (motive_4 := fun xs kvs _ => DqX K H xs kvs) (motive_5 := fun fs kvs _ => DqF K H fs kvs) with
  | non => exact .non
  | bl b => exact .bl b
  | int i => exact .int i
  | str x => exact .str x
  | lst h _ ih => exact .lst (e _ _ h) ih
  | tup h _ ih => exact .tup (ex_t e h) ih
  | scr h _ ih => exact .scr (ex_l e h) ih
  | dk h _ ih => exact .dk (e _ _ h) ih
  | dx h _ ih => exact .dx (e _ _ h) ih
  | ins h h2 hc _ ih => exact .ins (e _ _ h) (e _ _ h2) hc ih
  | nil => exact .nil
  | cons _ _ a b => exact .cons a b
  | knil => exact .knil
  | kcons _ _ a b => exact .kcons a b
  | xnil => exact .xnil
  | xcons hk hd _ _ _ a b c => exact .xcons hk hd a b c
  | fnil => exact .fnil
  | fcons _ _ a b => exact .fcons a b
theorem dpa_mono : ∀ {ds : List PyData} {vs : List V}, DqA K G vs ds → DqA K H vs ds
  | [], _, h => by cases h; exact .nil
  | _ :: _, _, h => by
    cases h with
    | cons a b => exact .cons (dp_mono e a) (dpa_mono b)
theorem dqk_mono : ∀ {kvs : List (PyData × PyData)} {ks : List (Key × V)}, DqK K G ks kvs → DqK K H ks kvs
  | [], _, h => by cases h; exact .knil
  | _ :: _, _, h => by
    cases h with
    | kcons a b => exact .kcons (dp_mono e a) (dqk_mono b)
theorem dqx_mono : ∀ {kvs : List (PyData × PyData)} {xs : List (NestedKey × Addr × V)}, DqX K G xs kvs → DqX K H xs kvs
  | [], _, h => by cases h; exact .xnil
  | _ :: _, _, h => by
    cases h with
    | xcons hk hd a b c => exact .xcons hk hd (dp_mono e a) (dp_mono e b) (dqx_mono c)
theorem dqf_mono : ∀ {kvs : List (PyData × PyData)} {xs : List (Str × V)}, DqF K G xs kvs → DqF K H xs kvs
  | [], _, h => by cases h; exact .fnil
  | _ :: _, _, h => by
    cases h with
    | fcons a b => exact .fcons (dp_mono e a) (dqf_mono b)
end

theorem dpa_len {K : PySem.W.Frag} {G : Hp} : ∀ {ds : List PyData} {vs : List V}, DqA K G vs ds → vs.length = ds.length
  | [], _, h => by cases h; rfl
  | _ :: _, _, h => by
    cases h with
    | cons a b => rw [List.length_cons, List.length_cons, dpa_len b]
theorem dpa_get {K : PySem.W.Frag} {G : Hp} : ∀ {ds : List PyData} {vs : List V} {i : Nat} {v : V}, DqA K G vs ds → vs[i]? = some v → ∃ d, ds[i]? = some d ∧ Dq K G v d
  | [], _, _, _, h, q => by cases h; simp at q
  | d :: _, _, 0, _, h, q => by
    cases h with
    | cons a b => simp at q; subst q; exact ⟨d, rfl, a⟩
  | _ :: _, _, i + 1, v, h, q => by
    cases h with
    | cons a b =>
      obtain ⟨d, e, p⟩ := dpa_get (i := i) (v := v) b (by simpa using q)
      exact ⟨d, by simpa using e, p⟩
theorem dpa_get' {K : PySem.W.Frag} {G : Hp} : ∀ {ds : List PyData} {vs : List V} {i : Nat} {d : PyData}, DqA K G vs ds → ds[i]? = some d → ∃ v, vs[i]? = some v ∧ Dq K G v d
  | [], _, _, _, h, q => by simp at q
  | d :: _, _, 0, _, h, q => by
    cases h with
    | cons a b => simp at q; subst q; exact ⟨_, rfl, a⟩
  | _ :: _, _, i + 1, v, h, q => by
    cases h with
    | cons a b =>
      obtain ⟨d, e, p⟩ := dpa_get' (i := i) (d := v) b (by simpa using q)
      exact ⟨d, by simpa using e, p⟩
theorem dpa_app {K : PySem.W.Frag} {G : Hp} : ∀ {ds es : List PyData} {vs us : List V}, DqA K G vs ds → DqA K G us es → DqA K G (vs ++ us) (ds ++ es)
  | [], _, _, _, h, q => by cases h; exact q
  | _ :: _, _, _, _, h, q => by
    cases h with
    | cons a b => exact .cons a (dpa_app b q)
theorem dpa_take {K : PySem.W.Frag} {G : Hp} : ∀ {ds : List PyData} {vs : List V} (n : Nat), DqA K G vs ds → DqA K G (vs.take n) (ds.take n)
  | _, _, 0, _ => .nil
  | [], _, n + 1, h => by cases h; exact .nil
  | _ :: _, _, n + 1, h => by
    cases h with
    | cons a b => exact .cons a (dpa_take n b)
theorem dpa_drop {K : PySem.W.Frag} {G : Hp} : ∀ {ds : List PyData} {vs : List V} (n : Nat), DqA K G vs ds → DqA K G (vs.drop n) (ds.drop n)
  | _, _, 0, h => h
  | [], _, n + 1, h => by cases h; exact .nil
  | _ :: _, _, n + 1, h => by
    cases h with
    | cons a b => exact dpa_drop n b
theorem dpa_set {K : PySem.W.Frag} {G : Hp} {v : V} {d : PyData} (q : Dq K G v d) : ∀ {ds : List PyData} {vs : List V} (n : Nat), DqA K G vs ds → DqA K G (vs.set n v) (ds.set n d)
  | [], _, n, h => by cases h; exact .nil
  | _ :: _, _, 0, h => by
    cases h with
    | cons a b => exact .cons q b
  | _ :: _, _, n + 1, h => by
    cases h with
    | cons a b => exact .cons a (dpa_set q n b)
theorem dpa_rev {K : PySem.W.Frag} {G : Hp} : ∀ {ds : List PyData} {vs : List V}, DqA K G vs ds → DqA K G vs.reverse ds.reverse
  | [], _, h => by cases h; exact .nil
  | _ :: _, _, h => by
    cases h with
    | cons a b =>
      rw [List.reverse_cons, List.reverse_cons]
      exact dpa_app (dpa_rev b) (.cons a .nil)

/-! ### owned things -/
/-- a value: shared data, or a thing of one's own: a list (its items shared), a dict (keys and values shared; x: its keys are tuples), a list of things of one's own, an instance -/
inductive O where
  | sh (d : PyData)
  | lst (ds : List PyData)
  | dct (x : Bool) (kvs : List (PyData × PyData))
  | los (os : List O)
  | ins (c : Str) (fs : List (Str × O))
mutual
def O.dat : O → PyData
  | .sh d => d
  | .lst ds => .list ds
  | .dct false kvs => .dict kvs
  | .dct true kvs => .dict ((.bool false, .none) :: kvs)
  | .los os => .list (datL os)
  | .ins c fs => .dict ((.bool true, .str c) :: datF fs)
def datL : List O → List PyData
  | [] => []
  | o :: os => o.dat :: datL os
def datF : List (Str × O) → List (PyData × PyData)
  | [] => []
  | (x, o) :: fs => (.str x, o.dat) :: datF fs
end
theorem dat_int {o : O} {i : Int} (h : o.dat = .int i) : o = .sh (.int i) := by
  cases o with
  | sh d => rw [show d = .int i from h]
  | lst _ => cases h
  | dct b _ => cases b <;> cases h
  | los _ => cases h
  | ins _ _ => cases h
/-- what is to be read as data while it is one's own -/
def O.rd : O → Option PyData
  | .sh d => some d
  | .lst ds => some (.list ds)
  | .dct false kvs => some (.dict kvs)
  | .dct true kvs => some (.dict ((.bool false, .none) :: kvs))
  | .los _ => none
  | .ins _ _ => none
/-- a dict as data -/
def dicD : Bool → List (PyData × PyData) → PyData
  | false, kvs => .dict kvs
  | true, kvs => .dict ((.bool false, .none) :: kvs)
theorem dct_dat (x : Bool) (kvs : List (PyData × PyData)) : (O.dct x kvs).dat = dicD x kvs := by cases x <;> rfl
theorem dct_rd (x : Bool) (kvs : List (PyData × PyData)) : (O.dct x kvs).rd = some (dicD x kvs) := by cases x <;> rfl
/-- a dict's cell -/
def DctC (K : PySem.W.Frag) (G : Hp) (a : Addr) (x : Bool) (u : HO) (kvs : List (PyData × PyData)) : Prop := (x = false ∧ ∃ ks, u = .dK ks ∧ DqK K G ks kvs) ∨ (x = true ∧ ∃ xs, u = DXo a xs ∧ DqX K G xs kvs)
mutual
def Own (K : PySem.W.Frag) (G H : Hp) : V → O → List Addr → Prop
  | v, .sh d, f => f = [] ∧ Dq K G v d
  | v, .lst ds, f => ∃ a vs, v = .ref a ∧ f = [a] ∧ G a = none ∧ H a = some (.lst vs) ∧ DqA K G vs ds
  | v, .dct x kvs, f => ∃ a u, v = .ref a ∧ f = [a] ∧ G a = none ∧ H a = some u ∧ DctC K G a x u kvs
  | v, .los os, f => ∃ a vs g, v = .ref a ∧ f = a :: g ∧ a ∉ g ∧ G a = none ∧ H a = some (.lst vs) ∧ OwnL K G H vs os g
  | v, .ins c fs, f => ∃ a C dx vs g, v = .ref a ∧ f = a :: dx :: g ∧ a ≠ dx ∧ a ∉ g ∧ dx ∉ g ∧ G a = none ∧ G dx = none ∧ H a = some (.ins C dx vs) ∧ H dx = some (.own a) ∧ clsAt K c C ∧ OwnF K G H vs fs g
def OwnL (K : PySem.W.Frag) (G H : Hp) : List V → List O → List Addr → Prop
  | vs, [], f => vs = [] ∧ f = []
  | vs, o :: os, f => ∃ v us g1 g2, vs = v :: us ∧ f = g1 ++ g2 ∧ (∀ a ∈ g1, a ∉ g2) ∧ Own K G H v o g1 ∧ OwnL K G H us os g2
def OwnF (K : PySem.W.Frag) (G H : Hp) : List (Str × V) → List (Str × O) → List Addr → Prop
  | vs, [], f => vs = [] ∧ f = []
  | vs, (x, o) :: fs, f => ∃ v us g1 g2, vs = (x, v) :: us ∧ f = g1 ++ g2 ∧ (∀ a ∈ g1, a ∉ g2) ∧ Own K G H v o g1 ∧ OwnF K G H us fs g2
end
section
variable {K : PySem.W.Frag} {G H : Hp}
mutual
theorem Own.tracked : ∀ {o : O} {v : V} {f : List Addr}, Own K G H v o f → ∀ a ∈ f, G a = none ∧ ∃ u, H a = some u
  | .sh d, v, f, h => by
    obtain ⟨rfl, _⟩ := h
    exact fun _ z => nomatch z
  | .lst ds, v, f, h => by
    obtain ⟨b, vs, rfl, rfl, g, hb, _⟩ := h
    intro a ha
    rw [List.mem_singleton.mp ha]
    exact ⟨g, _, hb⟩
  | .dct x kvs, v, f, h => by
    obtain ⟨b, u, rfl, rfl, g, hb, _⟩ := h
    intro a ha
    rw [List.mem_singleton.mp ha]
    exact ⟨g, _, hb⟩
  | .los os, v, f, h => by
    obtain ⟨b, vs, g, rfl, rfl, _, gb, hb, r⟩ := h
    intro a ha
    rcases List.mem_cons.mp ha with rfl | ha
    · exact ⟨gb, _, hb⟩
    · exact OwnL.tracked r a ha
  | .ins c fs, v, f, h => by
    obtain ⟨b, C, dx, vs, g, rfl, rfl, _, _, _, gb, gd, hb, hd, _, r⟩ := h
    intro a ha
    rcases List.mem_cons.mp ha with rfl | ha
    · exact ⟨gb, _, hb⟩
    · rcases List.mem_cons.mp ha with rfl | ha
      · exact ⟨gd, _, hd⟩
      · exact OwnF.tracked r a ha
theorem OwnL.tracked : ∀ {os : List O} {vs : List V} {f : List Addr}, OwnL K G H vs os f → ∀ a ∈ f, G a = none ∧ ∃ u, H a = some u
  | [], vs, f, h => by
    obtain ⟨rfl, rfl⟩ := h
    exact fun _ z => nomatch z
  | o :: os, vs, f, h => by
    obtain ⟨v, us, g1, g2, rfl, rfl, _, h1, h2⟩ := h
    intro a ha
    rcases List.mem_append.mp ha with z | z
    · exact Own.tracked h1 a z
    · exact OwnL.tracked h2 a z
theorem OwnF.tracked : ∀ {fs : List (Str × O)} {vs : List (Str × V)} {f : List Addr}, OwnF K G H vs fs f → ∀ a ∈ f, G a = none ∧ ∃ u, H a = some u
  | [], vs, f, h => by
    obtain ⟨rfl, rfl⟩ := h
    exact fun _ z => nomatch z
  | (x, o) :: fs, vs, f, h => by
    obtain ⟨v, us, g1, g2, rfl, rfl, _, h1, h2⟩ := h
    intro a ha
    rcases List.mem_append.mp ha with z | z
    · exact Own.tracked h1 a z
    · exact OwnF.tracked h2 a z
end
theorem DctC.mono {G' : Hp} {a : Addr} {x : Bool} {u : HO} {kvs : List (PyData × PyData)} (h : DctC K G a x u kvs) (e : Ex G G') : DctC K G' a x u kvs := by
  rcases h with ⟨h0, ks, h1, h2⟩ | ⟨h0, xs, h1, h2⟩
  · exact .inl ⟨h0, ks, h1, dqk_mono e h2⟩
  · exact .inr ⟨h0, xs, h1, dqx_mono e h2⟩
theorem DctC.dq {a : Addr} {x : Bool} {u : HO} {kvs : List (PyData × PyData)} (h : DctC K G a x u kvs) (g : G a = some u) : Dq K G (.ref a) (dicD x kvs) := by
  rcases h with ⟨rfl, ks, rfl, h2⟩ | ⟨rfl, xs, rfl, h2⟩
  · exact .dk g h2
  · exact .dx g h2
mutual
theorem Own.mono {G' H' : Hp} (e : Ex G G') : ∀ {o : O} {v : V} {f : List Addr}, Own K G H v o f → (∀ a ∈ f, G' a = none) → (∀ a ∈ f, ∀ u, H a = some u → H' a = some u) → Own K G' H' v o f
  | .sh d, v, f, h, n, k => ⟨h.1, dp_mono e h.2⟩
  | .lst ds, v, f, h, n, k => by
    obtain ⟨b, vs, rfl, rfl, g, hb, c⟩ := h
    exact ⟨b, vs, rfl, rfl, n b (by simp), k b (by simp) _ hb, dpa_mono e c⟩
  | .dct x kvs, v, f, h, n, k => by
    obtain ⟨b, u, rfl, rfl, g, hb, c⟩ := h
    exact ⟨b, u, rfl, rfl, n b (by simp), k b (by simp) _ hb, c.mono e⟩
  | .los os, v, f, h, n, k => by
    obtain ⟨b, vs, g, rfl, rfl, nb, gb, hb, r⟩ := h
    exact ⟨b, vs, g, rfl, rfl, nb, n b List.mem_cons_self, k b List.mem_cons_self _ hb, OwnL.mono e r (fun a ha => n a (List.mem_cons_of_mem _ ha)) fun a ha => k a (List.mem_cons_of_mem _ ha)⟩
  | .ins c fs, v, f, h, n, k => by
    obtain ⟨b, C, dx, vs, g, rfl, rfl, n0, n1, n2, gb, gd, hb, hd, hc, r⟩ := h
    have md : dx ∈ b :: dx :: g := List.mem_cons_of_mem _ List.mem_cons_self
    exact ⟨b, C, dx, vs, g, rfl, rfl, n0, n1, n2, n b List.mem_cons_self, n dx md, k b List.mem_cons_self _ hb, k dx md _ hd, hc, OwnF.mono e r (fun a ha => n a (List.mem_cons_of_mem _ (List.mem_cons_of_mem _ ha))) fun a ha => k a (List.mem_cons_of_mem _ (List.mem_cons_of_mem _ ha))⟩
theorem OwnL.mono {G' H' : Hp} (e : Ex G G') : ∀ {os : List O} {vs : List V} {f : List Addr}, OwnL K G H vs os f → (∀ a ∈ f, G' a = none) → (∀ a ∈ f, ∀ u, H a = some u → H' a = some u) → OwnL K G' H' vs os f
  | [], vs, f, h, n, k => h
  | o :: os, vs, f, h, n, k => by
    obtain ⟨v, us, g1, g2, rfl, rfl, dj, h1, h2⟩ := h
    exact ⟨v, us, g1, g2, rfl, rfl, dj, Own.mono e h1 (fun a ha => n a (List.mem_append_left _ ha)) (fun a ha => k a (List.mem_append_left _ ha)), OwnL.mono e h2 (fun a ha => n a (List.mem_append_right _ ha)) fun a ha => k a (List.mem_append_right _ ha)⟩
theorem OwnF.mono {G' H' : Hp} (e : Ex G G') : ∀ {fs : List (Str × O)} {vs : List (Str × V)} {f : List Addr}, OwnF K G H vs fs f → (∀ a ∈ f, G' a = none) → (∀ a ∈ f, ∀ u, H a = some u → H' a = some u) → OwnF K G' H' vs fs f
  | [], vs, f, h, n, k => h
  | (x, o) :: fs, vs, f, h, n, k => by
    obtain ⟨v, us, g1, g2, rfl, rfl, dj, h1, h2⟩ := h
    exact ⟨v, us, g1, g2, rfl, rfl, dj, Own.mono e h1 (fun a ha => n a (List.mem_append_left _ ha)) (fun a ha => k a (List.mem_append_left _ ha)), OwnF.mono e h2 (fun a ha => n a (List.mem_append_right _ ha)) fun a ha => k a (List.mem_append_right _ ha)⟩
end
theorem none_of {G G' : Hp} {f : List Addr} {a : Addr} (g3 : ∀ a u, G' a = some u → G a = some u ∨ a ∈ f) (n : G a = none) (nf : a ∉ f) : G' a = none := by
  cases q : G' a with
  | none => rfl
  | some u =>
    rcases g3 a u q with z | z
    · rw [n] at z; cases z
    · exact absurd z nf
/-- one more object is given up -/
theorem freeze_one {G1 : Hp} {f : List Addr} {a : Addr} {o : HO} (g1 : Ex G G1) (g2 : Ex G1 H) (g3 : ∀ a u, G1 a = some u → G a = some u ∨ a ∈ f) (n : G1 a = none) (h : H a = some o) :
    Ex G (upd G1 a o) ∧ Ex (upd G1 a o) H ∧ (∀ b u, (upd G1 a o) b = some u → G b = some u ∨ b ∈ a :: f) ∧ Ex G1 (upd G1 a o) := by
  have eg : Ex G1 (upd G1 a o) := Evl.Ex.new n
  refine ⟨g1.trans eg, fun b u q => ?_, fun b u q => ?_, eg⟩
  · by_cases z : b = a
    · subst z; rw [upd_same] at q; cases q; exact h
    · rw [upd_ne z] at q; exact g2 b u q
  · by_cases z : b = a
    · exact .inr (by rw [z]; exact List.mem_cons_self)
    · rw [upd_ne z] at q; exact (g3 b u q).imp id (List.mem_cons_of_mem _)
end
section
variable {K : PySem.W.Frag} {H : Hp}
mutual
/-- what is one's own is given up -/
theorem Own.freeze : ∀ {o : O} {G : Hp} {v : V} {f : List Addr}, Own K G H v o f → Ex G H → ∃ G', Ex G G' ∧ Ex G' H ∧ (∀ a u, G' a = some u → G a = some u ∨ a ∈ f) ∧ Dq K G' v o.dat
  | .sh d, G, v, f, h, le => ⟨G, Ex.refl G, le, fun _ _ q => .inl q, h.2⟩
  | .lst ds, G, v, f, h, le => by
    obtain ⟨b, vs, rfl, rfl, g, hb, c⟩ := h
    obtain ⟨x1, x2, x3, x4⟩ := freeze_one (Ex.refl G) le (f := []) (fun _ _ q => .inl q) g hb
    exact ⟨_, x1, x2, x3, .lst upd_same (dpa_mono x4 c)⟩
  | .dct x kvs, G, v, f, h, le => by
    obtain ⟨b, u, rfl, rfl, g, hb, c⟩ := h
    obtain ⟨x1, x2, x3, x4⟩ := freeze_one (Ex.refl G) le (f := []) (fun _ _ q => .inl q) g hb
    exact ⟨_, x1, x2, x3, by rw [dct_dat]; exact (c.mono x4).dq upd_same⟩
  | .los os, G, v, f, h, le => by
    obtain ⟨b, vs, g, rfl, rfl, nb, gb, hb, r⟩ := h
    obtain ⟨G1, y1, y2, y3, y4⟩ := OwnL.freeze r le
    obtain ⟨x1, x2, x3, x4⟩ := freeze_one y1 y2 y3 (none_of y3 gb nb) hb
    exact ⟨_, x1, x2, x3, .lst upd_same (dpa_mono x4 y4)⟩
  | .ins c fs, G, v, f, h, le => by
    obtain ⟨b, C, dx, vs, g, rfl, rfl, n0, n1, n2, gb, gd, hb, hd, hc, r⟩ := h
    obtain ⟨G1, y1, y2, y3, y4⟩ := OwnF.freeze r le
    obtain ⟨z1, z2, z3, z4⟩ := freeze_one y1 y2 y3 (none_of y3 gd n2) hd
    obtain ⟨x1, x2, x3, x4⟩ := freeze_one z1 z2 z3 (none_of z3 gb (fun q => (List.mem_cons.mp q).elim n0 n1)) hb
    exact ⟨_, x1, x2, x3, .ins upd_same (by rw [upd_ne n0.symm]; exact upd_same) hc (dqf_mono (z4.trans x4) y4)⟩
theorem OwnL.freeze : ∀ {os : List O} {G : Hp} {vs : List V} {f : List Addr}, OwnL K G H vs os f → Ex G H → ∃ G', Ex G G' ∧ Ex G' H ∧ (∀ a u, G' a = some u → G a = some u ∨ a ∈ f) ∧ DqA K G' vs (datL os)
  | [], G, vs, f, h, le => by
    obtain ⟨rfl, rfl⟩ := h
    exact ⟨G, Ex.refl G, le, fun _ _ q => .inl q, .nil⟩
  | o :: os, G, vs, f, h, le => by
    obtain ⟨v, us, g1, g2, rfl, rfl, dj, h1, h2⟩ := h
    obtain ⟨G1, x1, x2, x3, x4⟩ := Own.freeze h1 le
    have h2' : OwnL K G1 H us os g2 := h2.mono x1 (fun a ha => none_of x3 (h2.tracked a ha).1 fun z => dj a z ha) fun _ _ _ q => q
    obtain ⟨G2, y1, y2, y3, y4⟩ := OwnL.freeze h2' x2
    refine ⟨G2, x1.trans y1, y2, fun a u q => ?_, .cons (dp_mono y1 x4) y4⟩
    rcases y3 a u q with z | z
    · exact (x3 a u z).imp id (List.mem_append_left _)
    · exact .inr (List.mem_append_right _ z)
theorem OwnF.freeze : ∀ {fs : List (Str × O)} {G : Hp} {vs : List (Str × V)} {f : List Addr}, OwnF K G H vs fs f → Ex G H → ∃ G', Ex G G' ∧ Ex G' H ∧ (∀ a u, G' a = some u → G a = some u ∨ a ∈ f) ∧ DqF K G' vs (datF fs)
  | [], G, vs, f, h, le => by
    obtain ⟨rfl, rfl⟩ := h
    exact ⟨G, Ex.refl G, le, fun _ _ q => .inl q, .fnil⟩
  | (x, o) :: fs, G, vs, f, h, le => by
    obtain ⟨v, us, g1, g2, rfl, rfl, dj, h1, h2⟩ := h
    obtain ⟨G1, x1, x2, x3, x4⟩ := Own.freeze h1 le
    have h2' : OwnF K G1 H us fs g2 := h2.mono x1 (fun a ha => none_of x3 (h2.tracked a ha).1 fun z => dj a z ha) fun _ _ _ q => q
    obtain ⟨G2, y1, y2, y3, y4⟩ := OwnF.freeze h2' x2
    refine ⟨G2, x1.trans y1, y2, fun a u q => ?_, .fcons (dp_mono y1 x4) y4⟩
    rcases y3 a u q with z | z
    · exact (x3 a u z).imp id (List.mem_append_left _)
    · exact .inr (List.mem_append_right _ z)
end
end
/-- the top in the whole heap, the items frozen -/
def Top (K : PySem.W.Frag) (G H : Hp) (v : V) : PyData → Prop
  | .list ds => ∃ a vs, v = .ref a ∧ H a = some (.lst vs) ∧ DqA K G vs ds
  | .dict kvs => Dq K G v (.dict kvs) ∨ ∃ a x u ps, v = .ref a ∧ PyData.dict kvs = dicD x ps ∧ H a = some u ∧ DctC K G a x u ps
  | d => Dq K G v d
theorem Top.of {K : PySem.W.Frag} {G H : Hp} {v : V} {d : PyData} (e : Ex G H) (h : Dq K G v d) : Top K G H v d := by
  cases d with
  | list ds =>
    cases h with
    | lst a b => exact ⟨_, _, rfl, e _ _ a, b⟩
  | dict kvs => exact .inl h
  | _ => exact h
theorem Top.dq {K : PySem.W.Frag} {G H : Hp} {v : V} {d : PyData} (e : Ex G H) (h : Top K G H v d) : Dq K H v d := by
  cases d with
  | list ds =>
    obtain ⟨a, vs, rfl, q, c⟩ := h
    exact .lst q (dpa_mono e c)
  | dict kvs =>
    rcases h with h | ⟨a, x, u, ps, rfl, eq, q, c⟩
    · exact dp_mono e h
    · rw [eq]; exact (c.mono e).dq q
  | _ => exact dp_mono e h
theorem Own.top {K : PySem.W.Frag} {G H : Hp} {v : V} {o : O} {f : List Addr} {d : PyData} (e : Ex G H) (h : Own K G H v o f) (r : o.rd = some d) : Top K G H v d := by
  cases o with
  | sh d => cases r; exact Top.of e h.2
  | lst ds =>
    cases r
    obtain ⟨b, vs, rfl, rfl, g, hb, c⟩ := h
    exact ⟨b, vs, rfl, hb, c⟩
  | dct x kvs =>
    obtain ⟨b, u, rfl, rfl, g, hb, c⟩ := h
    cases x with
    | false => cases r; exact .inr ⟨b, false, u, kvs, rfl, rfl, hb, c⟩
    | true => cases r; exact .inr ⟨b, true, u, kvs, rfl, rfl, hb, c⟩
  | los _ => cases r
  | ins _ _ => cases r

theorem no_knone {K : PySem.W.Frag} {G : Hp} {ks : List (Key × V)} {d : PyData} {kvs : List (PyData × PyData)} (h : DqK K G ks ((.none, d) :: kvs)) : False := by
  generalize e : ((PyData.none, d) :: kvs : List (PyData × PyData)) = l at h
  cases h with
  | knil => cases e
  | @kcons k v ks d' kvs' a b =>
    have q := (List.cons.inj e).1
    cases k with
    | inl i => cases q
    | inr x => cases q
theorem top_scr {K : PySem.W.Frag} {G H : Hp} {v : V} {ds : List PyData} (e : Ex G H) (h : Top K G H v (.dict [(.none, .list ds)])) : ∃ a vs, v = .ref a ∧ SqL K H a vs ∧ DqA K G vs ds := by
  rcases h with h | ⟨a, x, u, ps, rfl, eq, q, c⟩
  · cases h with
    | scr h1 r1 => exact ⟨_, _, rfl, ex_l e h1, r1⟩
    | dk _ r => exact (no_knone r).elim
  · cases x with
    | true => cases eq
    | false =>
      cases eq
      rcases c with ⟨_, ks, _, r⟩ | ⟨z, _⟩
      · exact (no_knone r).elim
      · cases z
theorem no_kbool {K : PySem.W.Frag} {G : Hp} {ks : List (Key × V)} {b : Bool} {d : PyData} {kvs : List (PyData × PyData)} (h : DqK K G ks ((.bool b, d) :: kvs)) : False := by
  generalize e : ((PyData.bool b, d) :: kvs : List (PyData × PyData)) = l at h
  cases h with
  | knil => cases e
  | @kcons k v ks d' kvs' a b =>
    have q := (List.cons.inj e).1
    cases k with
    | inl i => cases q
    | inr x => cases q
/-- a dict whose keys are tuples, to be read -/
theorem top_dx {K : PySem.W.Frag} {G H : Hp} {v : V} {kvs : List (PyData × PyData)} (e : Ex G H) (h : Top K G H v (dicD true kvs)) : ∃ a xs, v = .ref a ∧ H a = some (DXo a xs) ∧ DqX K G xs kvs := by
  have h : Top K G H v (.dict ((.bool false, .none) :: kvs)) := h
  rcases h with h | ⟨a, x, u, ps, rfl, eq, q, c⟩
  · cases h with
    | dk _ r => exact (no_kbool r).elim
    | dx h1 r => exact ⟨_, _, rfl, e _ _ h1, r⟩
  · cases x with
    | true =>
      cases eq
      rcases c with ⟨z, _⟩ | ⟨_, xs, rfl, r⟩
      · cases z
      · exact ⟨a, xs, rfl, q, r⟩
    | false =>
      cases eq
      rcases c with ⟨_, ks, _, r⟩ | ⟨z, _⟩
      · exact (no_kbool r).elim
      · cases z
/-- keys that are ints and texts -/
def plainK (kvs : List (PyData × PyData)) : Bool := kvs.all fun p => match p.1 with
  | .int _ => true
  | .str _ => true
  | _ => false
theorem top_dk {K : PySem.W.Frag} {G H : Hp} {v : V} {kvs : List (PyData × PyData)} (e : Ex G H) (h : Top K G H v (.dict kvs)) (p : plainK kvs = true) : ∃ a ks, v = .ref a ∧ H a = some (.dK ks) ∧ DqK K G ks kvs := by
  rcases h with h | ⟨a, x, u, ps, rfl, eq, q, c⟩
  · cases h with
    | scr h1 r1 => cases p
    | dk h1 r => exact ⟨_, _, rfl, e _ _ h1, r⟩
    | dx h1 r => cases p
    | ins _ _ _ _ => cases p
  · cases x with
    | true => cases eq; cases p
    | false =>
      cases eq
      rcases c with ⟨_, ks, rfl, r⟩ | ⟨z, _⟩
      · exact ⟨a, ks, rfl, q, r⟩
      · cases z

/-! ### states -/
inductive Sl where
  | em
  | ow (o : O)
  | io (v : V) (o : O)
def Sl.con : Sl → Option O
  | .em => none
  | .ow o => some o
  | .io _ o => some o
def Sl.put : Sl → O → Sl
  | .io v _, o => .io v o
  | _, o => .ow o
abbrev Ss := List Sl
def SlOk (K : PySem.W.Frag) (G H : Hp) : Option V → Sl → List Addr → Prop
  | _, .em, f => f = []
  | some v, .ow o, f => Own K G H v o f
  | some v, .io u o, f => u = v ∧ Own K G H v o f
  | none, _, _ => False
def Mu (S : Ss) (F : Nat → List Addr) (a : Addr) : Prop := ∃ i, i < S.length ∧ a ∈ F i
structure Md (K : PySem.W.Frag) (G H : Hp) (σ : L2.St) (S : Ss) (F : Nat → List Addr) : Prop where
  le : Ex G H
  len : σ.length = S.length
  sl : ∀ i s, S[i]? = some s → ∃ x, σ[i]? = some x ∧ SlOk K G H x s (F i)
  dj : ∀ i j a, i < S.length → j < S.length → a ∈ F i → a ∈ F j → i = j
structure Evo (G H : Hp) (M : Addr → Prop) (G' H' : Hp) (M' : Addr → Prop) : Prop where
  gle : Ex G G'
  keep : ∀ a u, H a = some u → ¬ M a → H' a = some u
  gnew : ∀ a u, G' a = some u → G a = some u ∨ H a = none ∨ M a
  fnew : ∀ a, M' a → H a = none ∨ M a
section
variable {G H G1 H1 G2 H2 : Hp} {M M1 M2 : Addr → Prop}
theorem Evo.refl (G H : Hp) (M : Addr → Prop) : Evo G H M G H M := ⟨Ex.refl G, fun _ _ q _ => q, fun _ _ q => .inl q, fun _ q => .inr q⟩
theorem Evo.back (e : Evo G H M G1 H1 M1) {a : Addr} (h : H1 a = none ∨ M1 a) : H a = none ∨ M a := by
  rcases h with h | h
  · cases q : H a with
    | none => exact .inl rfl
    | some u =>
      refine .inr (Classical.byContradiction fun n => ?_)
      rw [e.keep a u q n] at h
      cases h
  · exact e.fnew a h
theorem Evo.trans (e : Evo G H M G1 H1 M1) (f : Evo G1 H1 M1 G2 H2 M2) : Evo G H M G2 H2 M2 where
  gle := e.gle.trans f.gle
  keep := fun a u q n => f.keep a u (e.keep a u q n) fun z => by
    rcases e.fnew a z with z | z
    · rw [q] at z; cases z
    · exact n z
  gnew := fun a u q => by
    rcases f.gnew a u q with q | q
    · exact e.gnew a u q
    · exact .inr (e.back q)
  fnew := fun a q => e.back (f.fnew a q)
end
/-- what is owned aside stays through a change -/
theorem Own.stay {K : PySem.W.Frag} {G H G1 H1 : Hp} {M M1 : Addr → Prop} {v : V} {o : O} {f : List Addr} (h : Own K G H v o f) (e : Evo G H M G1 H1 M1) (n : ∀ a ∈ f, ¬ M a) : Own K G1 H1 v o f ∧ ∀ a ∈ f, ¬ M1 a := by
  refine ⟨h.mono e.gle (fun a ha => ?_) fun a ha u q => e.keep a u q (n a ha), fun a ha z => ?_⟩
  · cases q : G1 a with
    | none => rfl
    | some u =>
      obtain ⟨g, w, hw⟩ := h.tracked a ha
      rcases e.gnew a u q with z | z | z
      · rw [g] at z; cases z
      · rw [hw] at z; cases z
      · exact absurd z (n a ha)
  · obtain ⟨g, w, hw⟩ := h.tracked a ha
    rcases e.fnew a z with z | z
    · rw [hw] at z; cases z
    · exact n a ha z

/-! ### readings -/
abbrev VT := Ss → (O → Ss → Prop) → Prop
abbrev VTT := Ss → (Bool → Ss → Prop) → Prop
inductive Bo where
  | val (d : PyData)
  | slot (i : Nat)
abbrev VBT := Ss → (Bo → Ss → Prop) → Prop
abbrev VAT := Ss → (List Bo → Ss → Prop) → Prop
def Bo.get (S : Ss) : Bo → Option PyData
  | .val d => some d
  | .slot i => (S[i]?.bind Sl.con).bind O.rd
def Bo.Ok (K : PySem.W.Frag) (G : Hp) (σ : L2.St) : Bo → V → Prop
  | .val d, v => Dq K G v d
  | .slot i, v => σ[i]? = some (some v)
structure VEnds where
  nx : Ss → Prop
  rt : O → Ss → Prop
  bk : Ss → Prop := fun _ => False
  ct : Ss → Prop := fun _ => False
abbrev VS := VEnds → Ss → Prop
structure VEnds.Le (D D' : VEnds) : Prop where
  nx : ∀ S, D.nx S → D'.nx S
  rt : ∀ o S, D.rt o S → D'.rt o S
  bk : ∀ S, D.bk S → D'.bk S
  ct : ∀ S, D.ct S → D'.ct S
def Mono {α : Type} (t : Ss → (α → Ss → Prop) → Prop) : Prop := ∀ S (P P' : α → Ss → Prop), (∀ o S', P o S' → P' o S') → t S P → t S P'
def MonoS (t : VS) : Prop := ∀ D D' S, VEnds.Le D D' → t D S → t D' S

section
variable (K : PySem.W.Frag)
def lift (t : VT) : TE := fun σ H Q => ∃ G S F, Md K G H σ S F ∧ t S fun o S' => ∀ G' H' v f F', Evo G H (Mu S F) G' H' (Mu S' F') → Md K G' H' σ S' F' → Own K G' H' v o f → (∀ a ∈ f, ¬ Mu S' F' a) → (∀ a ∈ f, H a = none ∨ Mu S F a) → Q v H'
def liftT (t : VTT) : TT := fun σ H Q => ∃ G S F, Md K G H σ S F ∧ t S fun b S' => ∀ G' H' F', Evo G H (Mu S F) G' H' (Mu S' F') → Md K G' H' σ S' F' → Q b H'
def liftB (t : VBT) : TE := fun σ H Q => ∃ G S F, Md K G H σ S F ∧ t S fun b S' => ∀ G' H' v F', Evo G H (Mu S F) G' H' (Mu S' F') → Md K G' H' σ S' F' → b.Ok K G' σ v → Q v H'
inductive BoAll (G : Hp) (σ : L2.St) : List Bo → List V → Prop
  | nil : BoAll G σ [] []
  | cons {b : Bo} {v : V} {bs : List Bo} {vs : List V} : b.Ok K G σ v → BoAll G σ bs vs → BoAll G σ (b :: bs) (v :: vs)
def liftA (t : VAT) : TA := fun σ H Q => ∃ G S F, Md K G H σ S F ∧ t S fun bs S' => ∀ G' H' vs F', Evo G H (Mu S F) G' H' (Mu S' F') → Md K G' H' σ S' F' → BoAll K G' σ bs vs → Q vs H'
def endsOf (G H : Hp) (S : Ss) (F : Nat → List Addr) (D : Ends) : VEnds where
  nx := fun S' => ∀ G' H' σ' F', Evo G H (Mu S F) G' H' (Mu S' F') → Md K G' H' σ' S' F' → D.nx σ' H'
  rt := fun o S' => ∀ G' H' σ' v f F', Evo G H (Mu S F) G' H' (Mu S' F') → Md K G' H' σ' S' F' → Own K G' H' v o f → (∀ a ∈ f, ¬ Mu S' F' a) → (∀ a ∈ f, H a = none ∨ Mu S F a) → D.rt v H'
  bk := fun S' => ∀ G' H' σ' F', Evo G H (Mu S F) G' H' (Mu S' F') → Md K G' H' σ' S' F' → D.bk σ' H'
  ct := fun S' => ∀ G' H' σ' F', Evo G H (Mu S F) G' H' (Mu S' F') → Md K G' H' σ' S' F' → D.ct σ' H'
def liftS (t : VS) : TS := fun D σ H => ∃ G S F, Md K G H σ S F ∧ t (endsOf K G H S F D) S
end
structure VE (X : Cx) (e : Expr) (t : VT) : Prop where
  mono : Mono t
  pe : PE X e (lift X.K t)
structure VB (X : Cx) (e : Expr) (t : VBT) : Prop where
  mono : Mono t
  pe : PE X e (liftB X.K t)
structure VTe (X : Cx) (e : Expr) (t : VTT) : Prop where
  mono : Mono t
  pt : PT X e (liftT X.K t)
structure VA (X : Cx) (es : List Expr) (t : VAT) : Prop where
  mono : Mono t
  pa : PA X es (liftA X.K t)
structure VSt (X : Cx) (st : Stmt) (t : VS) : Prop where
  mono : MonoS t
  ps : PS X st (liftS X.K t)
structure VSs (X : Cx) (st : List Stmt) (t : VS) : Prop where
  mono : MonoS t
  pss : PSs X st (liftS X.K t)

/-! ### another reading of the same syntax -/
section
variable {X : Cx}
theorem PE.imp {e : Expr} {t u : TE} (h : PE X e t) (i : ∀ σ H Q, u σ H Q → t σ H Q) : PE X e u := ⟨fun pins s σ H Q I q => h.run pins s σ H Q I (i _ _ _ q)⟩
theorem PT.imp {e : Expr} {t u : TT} (h : PT X e t) (i : ∀ σ H Q, u σ H Q → t σ H Q) : PT X e u := ⟨fun pins s σ H Q I q => h.run pins s σ H Q I (i _ _ _ q)⟩
theorem PA.imp {e : List Expr} {t u : TA} (h : PA X e t) (i : ∀ σ H Q, u σ H Q → t σ H Q) : PA X e u := ⟨fun pos pins s σ H Q I q => h.run pos pins s σ H Q I (i _ _ _ q)⟩
theorem PS.imp {e : Stmt} {t u : TS} (h : PS X e t) (i : ∀ D σ H, u D σ H → t D σ H) : PS X e u := ⟨fun pins s σ H D I q => h.run pins s σ H D I (i _ _ _ q)⟩
theorem PSs.imp {e : List Stmt} {t u : TS} (h : PSs X e t) (i : ∀ D σ H, u D σ H → t D σ H) : PSs X e u := ⟨fun pins s σ H D I q => h.run pins s σ H D I (i _ _ _ q)⟩
end
end
end VL

/-! the value layer, second part: the heap grows, freezing, expressions -/
set_option Elab.async false
set_option linter.all false
set_option maxRecDepth 100000
namespace VL
open PySem PySem.Spec PyProof.Rows L2
open Evl (Ex ex_l ex_t)
variable [Wd]

/-- what was of one's own aside is given up behind a change -/
theorem Evo.given {G H G1 H1 G2 : Hp} {M M1 : Addr → Prop} {f : List Addr} (ev : Evo G H M G1 H1 M1) (g1 : Ex G1 G2) (g3 : ∀ a u, G2 a = some u → G1 a = some u ∨ a ∈ f) (nw : ∀ a ∈ f, H a = none ∨ M a) : Evo G H M G2 H1 M1 :=
  ⟨ev.gle.trans g1, ev.keep, fun a u y => (g3 a u y).elim (ev.gnew a u) fun z => .inr (nw a z), ev.fnew⟩
structure Grow (G H G' H' : Hp) : Prop where
  ge : Ex G G'
  he : Ex H H'
  le : Ex G' H'
  gn : ∀ a u, G' a = some u → G a = some u ∨ H a = none
theorem Grow.refl {G H : Hp} (e : Ex G H) : Grow G H G H := ⟨Ex.refl G, Ex.refl H, e, fun _ _ q => .inl q⟩
theorem Grow.evo {G H G' H' : Hp} (g : Grow G H G' H') (M : Addr → Prop) : Evo G H M G' H' M :=
  ⟨g.ge, fun a u q _ => g.he a u q, fun a u q => (g.gn a u q).imp id .inl, fun _ q => .inr q⟩
/-- a new frozen object -/
theorem Grow.new {G H : Hp} {p : Addr} {o : HO} (e : Ex G H) (h : H p = none) : Grow G H (upd G p o) (upd H p o) := by
  have hg : G p = none := by
    cases q : G p with
    | none => rfl
    | some u => rw [e p u q] at h; cases h
  refine ⟨Evl.Ex.new hg, Evl.Ex.new h, fun a u q => ?_, fun a u q => ?_⟩
  · by_cases z : a = p
    · subst z; rw [upd_same] at q ⊢; exact q
    · rw [upd_ne z] at q ⊢; exact e a u q
  · by_cases z : a = p
    · subst z; exact .inr h
    · rw [upd_ne z] at q; exact .inl q
/-- a new object of one's own -/
theorem Grow.newO {G H : Hp} {p : Addr} {o : HO} (e : Ex G H) (h : H p = none) : Grow G H G (upd H p o) :=
  ⟨Ex.refl G, Evl.Ex.new h, fun a u q => by rw [upd_ne (ne_of_none (e a u q) h)]; exact e a u q, fun _ _ q => .inl q⟩
theorem Grow.none {G H G' H' : Hp} (g : Grow G H G' H') {a : Addr} {u : HO} (h : G a = .none) (q : H a = some u) : G' a = .none := by
  cases z : G' a with
  | none => rfl
  | some w =>
    rcases g.gn a w z with y | y
    · rw [h] at y; cases y
    · rw [q] at y; cases y

def fset (F : Nat → List Addr) (i : Nat) (f : List Addr) : Nat → List Addr := fun j => if j = i then f else F j
theorem fset_same {F : Nat → List Addr} {i : Nat} {f : List Addr} : fset F i f i = f := by unfold fset; rw [if_pos rfl]
theorem fset_ne {F : Nat → List Addr} {i j : Nat} {f : List Addr} (h : j ≠ i) : fset F i f j = F j := by unfold fset; rw [if_neg h]

theorem SlOk.mono {K : PySem.W.Frag} {G H G' H' : Hp} {x : Option V} {s : Sl} {f : List Addr} (h : SlOk K G H x s f) (e : Ex G G') (n : ∀ a ∈ f, G' a = none) (k : ∀ a ∈ f, ∀ u, H a = some u → H' a = some u) : SlOk K G' H' x s f := by
  cases x with
  | none =>
    cases s with
    | em => exact h
    | ow o => exact h.elim
    | io v o => exact h.elim
  | some v =>
    cases s with
    | em => exact h
    | ow o => exact Own.mono e h n k
    | io u o => exact ⟨h.1, Own.mono e h.2 n k⟩
theorem SlOk.tracked {K : PySem.W.Frag} {G H : Hp} {x : Option V} {s : Sl} {f : List Addr} (h : SlOk K G H x s f) : ∀ a ∈ f, G a = none ∧ ∃ u, H a = some u := by
  cases x with
  | none =>
    cases s with
    | em => intro a ha; have h' : f = [] := h; rw [h'] at ha; cases ha
    | ow o => exact h.elim
    | io v o => exact h.elim
  | some v =>
    cases s with
    | em => intro a ha; have h' : f = [] := h; rw [h'] at ha; cases ha
    | ow o => exact Own.tracked h
    | io u o => exact Own.tracked h.2
section
variable {K : PySem.W.Frag} {G H G' H' : Hp} {σ : L2.St} {S : Ss} {F : Nat → List Addr}
theorem Md.at (m : Md K G H σ S F) {i : Nat} {s : Sl} {o : O} (h : S[i]? = some s) (ho : s.con = some o) : ∃ v, σ[i]? = some (some v) ∧ Own K G H v o (F i) := by
  obtain ⟨x, e, q⟩ := m.sl i s h
  cases s with
  | em => cases ho
  | ow p =>
    cases ho
    cases x with
    | none => exact q.elim
    | some v => exact ⟨v, e, q⟩
  | io u p =>
    cases ho
    cases x with
    | none => exact q.elim
    | some v => exact ⟨v, e, q.2⟩
theorem Md.lt (m : Md K G H σ S F) {i : Nat} {s : Sl} (h : S[i]? = some s) : i < S.length := (List.getElem?_eq_some_iff.mp h).1
theorem Md.free (m : Md K G H σ S F) {i : Nat} (h : i < S.length) : ∀ a ∈ F i, G a = none ∧ ∃ u, H a = some u := by
  obtain ⟨x, e, q⟩ := m.sl i S[i] (List.getElem?_eq_getElem h)
  exact q.tracked
theorem Md.mu (m : Md K G H σ S F) {a : Addr} (h : Mu S F a) : G a = none ∧ ∃ u, H a = some u := by
  obtain ⟨i, hi, ha⟩ := h
  exact m.free hi a ha
/-- both heaps change, the owned parts stand -/
theorem Md.mono (m : Md K G H σ S F) (e : Ex G G') (le : Ex G' H') (n : ∀ a, Mu S F a → G' a = none) (k : ∀ a, Mu S F a → ∀ u, H a = some u → H' a = some u) : Md K G' H' σ S F where
  le := le
  len := m.len
  sl := fun i s h => by
    obtain ⟨x, e1, q⟩ := m.sl i s h
    exact ⟨x, e1, q.mono e (fun a ha => n a ⟨i, m.lt h, ha⟩) fun a ha => k a ⟨i, m.lt h, ha⟩⟩
  dj := m.dj
theorem Md.grow (m : Md K G H σ S F) (g : Grow G H G' H') : Md K G' H' σ S F :=
  m.mono g.ge g.le (fun a ha => let ⟨h1, u, h2⟩ := m.mu ha; g.none h1 h2) fun a _ u q => g.he a u q
/-- a slot gets another thing -/
theorem Md.put (m : Md K G H σ S F) {i : Nat} (hi : i < S.length) {s : Sl} {x : Option V} {f : List Addr} (ok : SlOk K G H x s f) (ap : ∀ a ∈ f, ∀ j, j < S.length → j ≠ i → a ∉ F j) : Md K G H (σ.set i x) (S.set i s) (fset F i f) where
  le := m.le
  len := by rw [List.length_set, List.length_set, m.len]
  sl := fun j t h => by
    by_cases e : j = i
    · subst e
      rw [List.getElem?_set_self hi] at h
      cases h
      exact ⟨x, List.getElem?_set_self (by rw [m.len]; exact hi), by rw [fset_same]; exact ok⟩
    · rw [List.getElem?_set_ne (Ne.symm e)] at h
      obtain ⟨y, e1, q⟩ := m.sl j t h
      exact ⟨y, by rw [List.getElem?_set_ne (Ne.symm e)]; exact e1, by rw [fset_ne e]; exact q⟩
  dj := fun j k a hj hk h1 h2 => by
    rw [List.length_set] at hj hk
    by_cases e : j = i
    · by_cases e' : k = i
      · rw [e, e']
      · rw [e, fset_same] at h1
        rw [fset_ne e'] at h2
        exact absurd h2 (ap a h1 k hk e')
    · by_cases e' : k = i
      · rw [e', fset_same] at h2
        rw [fset_ne e] at h1
        exact absurd h1 (ap a h2 j hj e)
      · rw [fset_ne e] at h1
        rw [fset_ne e'] at h2
        exact m.dj j k a hj hk h1 h2
theorem mu_set {i : Nat} {s : Sl} {f : List Addr} {a : Addr} (h : Mu (S.set i s) (fset F i f) a) : a ∈ f ∨ Mu S F a := by
  obtain ⟨j, hj, ha⟩ := h
  rw [List.length_set] at hj
  by_cases e : j = i
  · rw [e, fset_same] at ha; exact .inl ha
  · rw [fset_ne e] at ha; exact .inr ⟨j, hj, ha⟩
theorem set_id {α : Type} {l : List α} {i : Nat} {x : α} (h : l[i]? = some x) : l.set i x = l := by
  apply List.ext_getElem?
  intro j
  by_cases e : j = i
  · subst e
    rw [List.getElem?_set_self (List.getElem?_eq_some_iff.mp h).1, h]
  · rw [List.getElem?_set_ne (Ne.symm e)]
/-- a slot's own thing is given up -/
theorem Md.freeze (m : Md K G H σ S F) {i : Nat} {o : O} (h : S[i]? = some (.ow o)) : ∃ G' v, σ[i]? = some (some v) ∧ Dq K G' v o.dat ∧
    Md K G' H σ (S.set i (.ow (.sh o.dat))) (fset F i []) ∧ Evo G H (Mu S F) G' H (Mu (S.set i (.ow (.sh o.dat))) (fset F i [])) := by
  obtain ⟨v, e, q⟩ := m.at h rfl
  obtain ⟨G', g1, g2, g3, d⟩ := q.freeze m.le
  have hi := m.lt h
  have nn : ∀ a, (∃ j, j < S.length ∧ j ≠ i ∧ a ∈ F j) → G' a = none := fun a ⟨j, hj, ne, ha⟩ => by
    cases z : G' a with
    | none => rfl
    | some u =>
      obtain ⟨y1, _⟩ := m.free hj a ha
      rcases g3 a u z with y | y
      · rw [y1] at y; cases y
      · exact absurd (m.dj j i a hj hi ha y) ne
  have m1 : Md K G' H σ (S.set i (.ow (.sh o.dat))) (fset F i []) := by
    refine ⟨g2, by rw [List.length_set]; exact m.len, fun j t hj => ?_, fun j k a hj hk h1 h2 => ?_⟩
    · by_cases ej : j = i
      · subst ej
        rw [List.getElem?_set_self hi] at hj
        cases hj
        exact ⟨some v, e, by rw [fset_same]; exact ⟨rfl, d⟩⟩
      · rw [List.getElem?_set_ne (Ne.symm ej)] at hj
        obtain ⟨x, e1, q1⟩ := m.sl j t hj
        exact ⟨x, e1, by rw [fset_ne ej]; exact q1.mono g1 (fun a ha => nn a ⟨j, m.lt hj, ej, ha⟩) fun _ _ _ z => z⟩
    · rw [List.length_set] at hj hk
      by_cases ej : j = i
      · rw [ej, fset_same] at h1; cases h1
      · by_cases ek : k = i
        · rw [ek, fset_same] at h2; cases h2
        · rw [fset_ne ej] at h1
          rw [fset_ne ek] at h2
          exact m.dj j k a hj hk h1 h2
  refine ⟨G', v, e, d, m1, g1, fun _ _ z _ => z, fun a u z => ?_, fun a z => ?_⟩
  · rcases g3 a u z with y | y
    · exact .inl y
    · exact .inr (.inr ⟨i, hi, y⟩)
  · rcases mu_set z with y | y
    · cases y
    · exact .inr y
/-- a thing of one's own aside is given up -/
theorem Md.freezeT (m : Md K G H σ S F) {v : V} {o : O} {f : List Addr} (q : Own K G H v o f) (ap : ∀ a ∈ f, ¬ Mu S F a) : ∃ G', Ex G G' ∧ Dq K G' v o.dat ∧ Md K G' H σ S F ∧ (∀ a u, G' a = some u → G a = some u ∨ a ∈ f) := by
  obtain ⟨G', g1, g2, g3, d⟩ := q.freeze m.le
  refine ⟨G', g1, d, m.mono g1 g2 (fun a ha => ?_) fun _ _ _ z => z, g3⟩
  cases z : G' a with
  | none => rfl
  | some u =>
    rcases g3 a u z with y | y
    · rw [(m.mu ha).1] at y; cases y
    · exact absurd ha (ap a y)
end

/-! ### expressions -/
section
variable {X : Cx} {e a b c : Expr} {pos : Pos}
def vC (d : PyData) : VT := fun S Q => Q (.sh d) S
theorem ve_c {v : V} {d : PyData} (h : PE X e (tC v)) (hd : ∀ G, Dq X.K G v d) : VE X e (vC d) :=
  ⟨fun _ _ _ i q => i _ _ q, PE.imp h fun σ H Q ⟨G, S, F, m, q⟩ => q G H v [] F (Evo.refl G H _) m ⟨rfl, hd G⟩ (fun _ z => nomatch z) fun _ z => nomatch z⟩
theorem ve_int {i : Int} {j} : VE X (.Constant (.int i) j pos) (vC (.int i)) := ve_c pe_int fun _ => .int i
theorem ve_str {x : Str} {j} : VE X (.Constant (.str x) j pos) (vC (.str x)) := ve_c pe_str fun _ => .str x
theorem ve_bool {x : Bool} {j} : VE X (.Constant (.bool x) j pos) (vC (.bool x)) := ve_c pe_bl fun _ => .bl x
theorem ve_none {j} : VE X (.Constant .none j pos) (vC .none) := ve_c pe_non fun _ => .non
/-- a name read; what was one's own is shared from then on -/
def vVar (i : Nat) : VT := fun S Q => ∃ o, S[i]? = some (.ow o) ∧ Q (.sh o.dat) (S.set i (.ow (.sh o.dat)))
theorem ve_var {i : Nat} (h : PE X e (tVar i)) : VE X e (vVar i) := by
  refine ⟨fun S P P' k ⟨o, h1, h2⟩ => ⟨o, h1, k _ _ h2⟩, PE.imp h fun σ H Q ⟨G, S, F, m, o, h1, q⟩ => ?_⟩
  obtain ⟨G', v, ev, d, m1, ee⟩ := m.freeze h1
  exact ⟨v, ev, q G' H v [] _ ee m1 ⟨rfl, d⟩ (fun _ z => nomatch z) fun _ z => nomatch z⟩
/-- a name read for the last time: what is one's own goes on -/
def vMove (i : Nat) : VT := fun S Q => ∃ o, S[i]? = some (.ow o) ∧ Q o (S.set i .em)
theorem ve_move {i : Nat} (h : PE X e (tVar i)) : VE X e (vMove i) := by
  refine ⟨fun S P P' k ⟨o, h1, h2⟩ => ⟨o, h1, k _ _ h2⟩, PE.imp h fun σ H Q ⟨G, S, F, m, o, h1, q⟩ => ?_⟩
  obtain ⟨v, ev, w⟩ := m.at h1 rfl
  have hi := m.lt h1
  have m1 := m.put (s := .em) (x := some v) (f := []) hi rfl fun _ z => nomatch z
  rw [set_id ev] at m1
  refine ⟨v, ev, q G H v (F i) _ ⟨Ex.refl G, fun _ _ z _ => z, fun _ _ z => .inl z, fun a z => ?_⟩ m1 w (fun a ha z => ?_) fun a ha => .inr ⟨i, hi, ha⟩⟩
  · rcases mu_set z with y | y
    · cases y
    · exact .inr y
  · obtain ⟨j, hj, hb⟩ := z
    rw [List.length_set] at hj
    by_cases ej : j = i
    · rw [ej, fset_same] at hb; cases hb
    · rw [fset_ne ej] at hb
      exact ej (m.dj j i a hj hi hb ha)
/-- a name that is looked at only -/
def vSlot (i : Nat) : VBT := fun S Q => (∃ o, S[i]?.bind Sl.con = some o) ∧ Q (.slot i) S
theorem vb_slot {i : Nat} (h : PE X e (tVar i)) : VB X e (vSlot i) := by
  refine ⟨fun S P P' k ⟨o, q⟩ => ⟨o, k _ _ q⟩, PE.imp h fun σ H Q ⟨G, S, F, m, ⟨o, h1⟩, q⟩ => ?_⟩
  cases hs : S[i]? with
  | none => rw [hs] at h1; cases h1
  | some s =>
    rw [hs] at h1
    obtain ⟨v, ev, w⟩ := m.at hs h1
    exact ⟨v, ev, q G H v F (Evo.refl G H _) m ev⟩
/-- a value that is looked at only -/
def vSh (t : VT) : VBT := fun S Q => t S fun o S' => Q (.val o.dat) S'
theorem vb_of {t : VT} (h : VE X e t) : VB X e (vSh t) := by
  refine ⟨fun S P P' k q => h.mono _ _ _ (fun o S' z => k _ _ z) q, PE.imp h.pe fun σ H Q ⟨G, S, F, m, q⟩ => ?_⟩
  refine ⟨G, S, F, m, h.mono _ _ _ (fun o S1 z G1 H1 v f F1 ev m1 ow ap nw => ?_) q⟩
  obtain ⟨G2, g1, d, m2, g3⟩ := m1.freezeT ow ap
  exact z G2 H1 v F1 (ev.given g1 g3 nw) m2 d

/-! ### operations by data -/
theorem bo_top {K : PySem.W.Frag} {G1 G2 H2 : Hp} {σ : L2.St} {S : Ss} {F : Nat → List Addr} {b : Bo} {v : V} {d : PyData} (h : b.Ok K G1 σ v) (e : Ex G1 G2) (m : Md K G2 H2 σ S F) (g : b.get S = some d) : Top K G2 H2 v d := by
  cases b with
  | val d' =>
    cases g
    exact Top.of m.le (dp_mono e h)
  | slot i =>
    have h' : σ[i]? = some (some v) := h
    have g : (S[i]?.bind Sl.con).bind O.rd = some d := g
    cases hs : S[i]? with
    | none => rw [hs] at g; cases g
    | some s =>
      rw [hs] at g
      cases hc : s.con with
      | none =>
        have g' : (s.con).bind O.rd = some d := g
        rw [hc] at g'; cases g'
      | some o =>
        have g' : (s.con).bind O.rd = some d := g
        rw [hc] at g'
        have g' : o.rd = some d := g'
        obtain ⟨v', e', w⟩ := m.at hs hc
        rw [h'] at e'
        cases e'
        exact w.top m.le g'
theorem Bo.dq {K : PySem.W.Frag} {G1 G2 : Hp} {σ : L2.St} {v : V} {d : PyData} (h : (Bo.val d).Ok K G1 σ v) (e : Ex G1 G2) : Dq K G2 v d := dp_mono e h
theorem Bo.Ok.mono {K : PySem.W.Frag} {G1 G2 : Hp} {σ : L2.St} {b : Bo} {v : V} (h : b.Ok K G1 σ v) (e : Ex G1 G2) : b.Ok K G2 σ v := by
  cases b with
  | val d => exact dp_mono e h
  | slot i => exact h
/-- what an operation asks of data, told of values -/
abbrev Pd2 := PyData → PyData → (O → Prop) → Prop
def ROk (K : PySem.W.Frag) (r : R2) (p : Pd2) : Prop := ∀ (G H : Hp) (x y : V) (d e : PyData) (P : O → Prop) (Q : VK), Ex G H → Top K G H x d → Top K G H y e → p d e P →
  (∀ o G' H' v f, P o → Grow G H G' H' → Own K G' H' v o f → (∀ a ∈ f, H a = none) → Q v H') → r x y H Q
def vOp (p : Pd2) (ta tb : VBT) : VT := fun S Q => ta S fun b1 S1 => tb S1 fun b2 S2 => ∃ d e, b1.get S2 = some d ∧ b2.get S2 = some e ∧ p d e fun o => Q o S2
def PMono (p : Pd2) : Prop := ∀ d e P P', (∀ o, P o → P' o) → p d e P → p d e P'
section
variable {ta tb : VBT} {r : R2} {p : Pd2}
theorem vOp_mono (pm : PMono p) (ma : Mono ta) (mb : Mono tb) : Mono (vOp p ta tb) := fun S P P' i q =>
  ma _ _ _ (fun b1 S1 q1 => mb _ _ _ (fun b2 S2 ⟨d, e, h1, h2, q2⟩ => ⟨d, e, h1, h2, pm _ _ _ _ (fun o z => i o S2 z) q2⟩) q1) q
theorem ve_op {op : Operator} (ho : OpR X (binaryOp op) r) (ok : ROk X.K r p) (pm : PMono p) (ha : VB X a ta) (hb : VB X b tb) : VE X (.BinOp a op b pos) (vOp p ta tb) := by
  refine ⟨vOp_mono pm ha.mono hb.mono, PE.imp (pe_op ho ha.pe hb.pe) fun σ H Q ⟨G, S, F, m, q⟩ => ?_⟩
  refine ⟨G, S, F, m, ha.mono _ _ _ (fun b1 S1 q1 G1 H1 v1 F1 ev1 m1 k1 => ?_) q⟩
  refine ⟨G1, S1, F1, m1, hb.mono _ _ _ (fun b2 S2 ⟨d, e, g1, g2, q2⟩ G2 H2 v2 F2 ev2 m2 k2 => ?_) q1⟩
  refine ok G2 H2 v1 v2 d e _ Q m2.le (bo_top k1 ev2.gle m2 g1) (bo_top k2 (Ex.refl _) m2 g2) q2 fun o G3 H3 v f q3 gr ow fr => ?_
  exact q3 G3 H3 v f F2 ((ev1.trans ev2).trans (gr.evo _)) (m2.grow gr) ow (fun x hx z => by
    have w := (m2.mu z).2
    rw [fr x hx] at w
    obtain ⟨u, w⟩ := w
    cases w) fun x hx => (ev1.trans ev2).back (.inl (fr x hx))
theorem ve_cmp {op : CmpOp} (ho : OpR X (compareOp op) r) (ok : ROk X.K r p) (pm : PMono p) (ha : VB X a ta) (hb : VB X b tb) (hm : behindInMarks op b = false) : VE X (.Compare a [op] [b] pos) (vOp p ta tb) := by
  refine ⟨vOp_mono pm ha.mono hb.mono, PE.imp (pe_cmpR ho ha.pe hb.pe hm) fun σ H Q ⟨G, S, F, m, q⟩ => ?_⟩
  refine ⟨G, S, F, m, ha.mono _ _ _ (fun b1 S1 q1 G1 H1 v1 F1 ev1 m1 k1 => ?_) q⟩
  refine ⟨G1, S1, F1, m1, hb.mono _ _ _ (fun b2 S2 ⟨d, e, g1, g2, q2⟩ G2 H2 v2 F2 ev2 m2 k2 => ?_) q1⟩
  refine ok G2 H2 v1 v2 d e _ Q m2.le (bo_top k1 ev2.gle m2 g1) (bo_top k2 (Ex.refl _) m2 g2) q2 fun o G3 H3 v f q3 gr ow fr => ?_
  exact q3 G3 H3 v f F2 ((ev1.trans ev2).trans (gr.evo _)) (m2.grow gr) ow (fun x hx z => by
    have w := (m2.mu z).2
    rw [fr x hx] at w
    obtain ⟨u, w⟩ := w
    cases w) fun x hx => (ev1.trans ev2).back (.inl (fr x hx))
/-- a comparison as a test -/
def vTest (t : VT) : VTT := fun S Q => t S fun o S' => ∃ k, o = .sh (.bool k) ∧ Q k S'
theorem vTest_mono {t : VT} (m : Mono t) : Mono (vTest t) := fun S P P' i q => m _ _ _ (fun o S1 ⟨k, e, z⟩ => ⟨k, e, i _ _ z⟩) q
theorem vt_cmp {op : CmpOp} (ho : OpR X (compareOp op) r) (ok : ROk X.K r p) (pm : PMono p) (ha : VB X a ta) (hb : VB X b tb) (hm : behindInMarks op b = false) : VTe X (.Compare a [op] [b] pos) (vTest (vOp p ta tb)) := by
  refine ⟨vTest_mono (vOp_mono pm ha.mono hb.mono), PT.imp (pt_cmpR ho ha.pe hb.pe hm) fun σ H Q ⟨G, S, F, m, q⟩ => ?_⟩
  refine ⟨G, S, F, m, ha.mono _ _ _ (fun b1 S1 q1 G1 H1 v1 F1 ev1 m1 k1 => ?_) q⟩
  refine ⟨G1, S1, F1, m1, hb.mono _ _ _ (fun b2 S2 ⟨d, e, g1, g2, q2⟩ G2 H2 v2 F2 ev2 m2 k2 => ?_) q1⟩
  refine ok G2 H2 v1 v2 d e _ _ m2.le (bo_top k1 ev2.gle m2 g1) (bo_top k2 (Ex.refl _) m2 g2) q2 fun o G3 H3 v f q3 gr ow fr => ?_
  obtain ⟨k, rfl, q3⟩ := q3
  obtain ⟨_, w⟩ := ow
  cases w
  exact ⟨k, rfl, q3 G3 H3 F2 ((ev1.trans ev2).trans (gr.evo _)) (m2.grow gr)⟩
theorem vt_of {t : VT} (h : VE X e t) (he : ∀ whole, isTrue e X.env whole = (do let v ← whole; standAt e.pos; holding [v] (truthy v))) : VTe X e (vTest t) := by
  refine ⟨vTest_mono h.mono, PT.imp (pt_val h.pe he) fun σ H Q ⟨G, S, F, m, q⟩ => ?_⟩
  refine ⟨G, S, F, m, h.mono _ _ _ (fun o S1 z G1 H1 v f F1 ev m1 ow ap nw => ?_) q⟩
  obtain ⟨k, rfl, z⟩ := z
  obtain ⟨_, w⟩ := ow
  cases w
  exact ⟨k, rfl, z G1 H1 F1 ev m1⟩
end
/-! ### tests -/
section
variable {ta tb : VTT}
def vAnd (ta tb : VTT) : VTT := fun S Q => ta S fun k S1 => if k = true then tb S1 Q else Q false S1
def vOr (ta tb : VTT) : VTT := fun S Q => ta S fun k S1 => if k = true then Q true S1 else tb S1 Q
def vNot (ta : VTT) : VTT := fun S Q => ta S fun k S1 => Q (!k) S1
theorem evo_all {K : PySem.W.Frag} {G H G1 H1 : Hp} {σ : L2.St} {S S1 : Ss} {F F1 : Nat → List Addr} {Q : Bool → Hp → Prop} {b : Bool} {S' : Ss} (ev : Evo G H (Mu S F) G1 H1 (Mu S1 F1))
    (z : ∀ G' H' F', Evo G H (Mu S F) G' H' (Mu S' F') → Md K G' H' σ S' F' → Q b H') : ∀ G' H' F', Evo G1 H1 (Mu S1 F1) G' H' (Mu S' F') → Md K G' H' σ S' F' → Q b H' :=
  fun G' H' F' e m => z G' H' F' (ev.trans e) m
/-- a test's second part, behind the first -/
structure PWv (X : Cx) (e : Expr) (t : VTT) : Prop where
  mono : Mono t
  pw : PW X e (liftT X.K t)
theorem PWv.vt {t : VTT} (h : PWv X e t) : VTe X e t := ⟨h.mono, h.pw.pt⟩
theorem vw_and1 {op : VTT} (ha : VTe X a op) : PWv X (.BoolOp .And [a] pos) op := ⟨ha.mono, pw_and1 ha.pt⟩
theorem vw_or1 {op : VTT} (ha : VTe X a op) : PWv X (.BoolOp .Or [a] pos) op := ⟨ha.mono, pw_or1 ha.pt⟩
theorem PW.imp {e : Expr} {t u : TT} (h : PW X e t) (i : ∀ σ H Q, u σ H Q → t σ H Q) : PW X e u := ⟨fun wh pins s σ H Q I q => h.run wh pins s σ H Q I (i _ _ _ q)⟩
theorem vw_and {rest : List Expr} (ha : VTe X a ta) (hb : PWv X (.BoolOp .And (b :: rest) pos) tb) : PWv X (.BoolOp .And (a :: b :: rest) pos) (vAnd ta tb) := by
  refine ⟨fun S P P' i q => ha.mono _ _ _ (fun k S1 z => ?_) q, PW.imp (pw_and ha.pt hb.pw) fun σ H Q ⟨G, S, F, m, q⟩ => ?_⟩
  · cases k with
    | true => exact hb.mono _ _ _ i z
    | false => exact i _ _ z
  · refine ⟨G, S, F, m, ha.mono _ _ _ (fun k S1 z G1 H1 F1 ev m1 => ?_) q⟩
    cases k with
    | true => exact ⟨G1, S1, F1, m1, hb.mono _ _ _ (fun b S2 y => evo_all ev y) z⟩
    | false => exact z G1 H1 F1 ev m1
theorem vw_or {rest : List Expr} (ha : VTe X a ta) (hb : PWv X (.BoolOp .Or (b :: rest) pos) tb) : PWv X (.BoolOp .Or (a :: b :: rest) pos) (vOr ta tb) := by
  refine ⟨fun S P P' i q => ha.mono _ _ _ (fun k S1 z => ?_) q, PW.imp (pw_or ha.pt hb.pw) fun σ H Q ⟨G, S, F, m, q⟩ => ?_⟩
  · cases k with
    | true => exact i _ _ z
    | false => exact hb.mono _ _ _ i z
  · refine ⟨G, S, F, m, ha.mono _ _ _ (fun k S1 z G1 H1 F1 ev m1 => ?_) q⟩
    cases k with
    | true => exact z G1 H1 F1 ev m1
    | false => exact ⟨G1, S1, F1, m1, hb.mono _ _ _ (fun b S2 y => evo_all ev y) z⟩
theorem vt_not (ha : VTe X a ta) : VTe X (.UnaryOp .Not a pos) (vNot ta) :=
  ⟨fun S P P' i q => ha.mono _ _ _ (fun k S1 z => i _ _ z) q, PT.imp (pt_not ha.pt) fun σ H Q ⟨G, S, F, m, q⟩ => ⟨G, S, F, m, ha.mono _ _ _ (fun k S1 z => z) q⟩⟩
end
/-! ### and, or, not as values of truth, a if t else b -/
section
variable {ta tb : VT} {tt : VTT}
theorem evo_ve {K : PySem.W.Frag} {G H G1 H1 : Hp} {σ : L2.St} {S S1 : Ss} {F F1 : Nat → List Addr} {Q : VK} {o : O} {S' : Ss} (ev : Evo G H (Mu S F) G1 H1 (Mu S1 F1))
    (z : ∀ G' H' v f F', Evo G H (Mu S F) G' H' (Mu S' F') → Md K G' H' σ S' F' → Own K G' H' v o f → (∀ a ∈ f, ¬ Mu S' F' a) → (∀ a ∈ f, H a = none ∨ Mu S F a) → Q v H') :
    ∀ G' H' v f F', Evo G1 H1 (Mu S1 F1) G' H' (Mu S' F') → Md K G' H' σ S' F' → Own K G' H' v o f → (∀ a ∈ f, ¬ Mu S' F' a) → (∀ a ∈ f, H1 a = none ∨ Mu S1 F1 a) → Q v H' :=
  fun G' H' v f F' e m ow ap nw => z G' H' v f F' (ev.trans e) m ow ap fun a ha => ev.back (nw a ha)
def vAndV (ta tb : VT) : VT := fun S Q => ta S fun o S1 => ∃ k, o = .sh (.bool k) ∧ if k = true then tb S1 Q else Q (.sh (.bool false)) S1
def vOrV (ta tb : VT) : VT := fun S Q => ta S fun o S1 => ∃ k, o = .sh (.bool k) ∧ if k = true then Q (.sh (.bool true)) S1 else tb S1 Q
def vNotV (ta : VT) : VT := fun S Q => ta S fun o S1 => ∃ k, o = .sh (.bool k) ∧ Q (.sh (.bool (!k))) S1
def vIf (tt : VTT) (ta tb : VT) : VT := fun S Q => tt S fun k S1 => if k = true then ta S1 Q else tb S1 Q
theorem vAndV_mono (ma : Mono ta) (mb : Mono tb) : Mono (vAndV ta tb) := fun S P P' i q => ma _ _ _ (fun o S1 z => by
  obtain ⟨k, e, z⟩ := z
  refine ⟨k, e, ?_⟩
  cases k with
  | true => exact mb _ _ _ i z
  | false => exact i _ _ z) q
theorem vOrV_mono (ma : Mono ta) (mb : Mono tb) : Mono (vOrV ta tb) := fun S P P' i q => ma _ _ _ (fun o S1 z => by
  obtain ⟨k, e, z⟩ := z
  refine ⟨k, e, ?_⟩
  cases k with
  | true => exact i _ _ z
  | false => exact mb _ _ _ i z) q
theorem ve_one {op} (ha : VE X a ta) : VE X (.BoolOp op [a] pos) ta := ⟨ha.mono, pe_one ha.pe⟩
theorem ve_and {rest : List Expr} (ha : VE X a ta) (hb : VE X (.BoolOp .And (b :: rest) pos) tb) : VE X (.BoolOp .And (a :: b :: rest) pos) (vAndV ta tb) := by
  refine ⟨vAndV_mono ha.mono hb.mono, PE.imp (pe_and ha.pe hb.pe) fun σ H Q hq => ?_⟩
  obtain ⟨G, S, F, m, q⟩ := hq
  refine ⟨G, S, F, m, ha.mono _ _ _ (fun o S1 z G1 H1 v f F1 ev m1 ow ap nw => ?_) q⟩
  obtain ⟨k, e, z⟩ := z
  subst e
  obtain ⟨_, w⟩ := ow
  cases w
  refine ⟨k, rfl, ?_⟩
  cases k with
  | true => exact ⟨G1, S1, F1, m1, hb.mono _ _ _ (fun b S2 y => evo_ve ev y) z⟩
  | false => exact z G1 H1 _ [] F1 ev m1 ⟨rfl, .bl false⟩ (fun _ z => nomatch z) fun _ z => nomatch z
theorem ve_or {rest : List Expr} (ha : VE X a ta) (hb : VE X (.BoolOp .Or (b :: rest) pos) tb) : VE X (.BoolOp .Or (a :: b :: rest) pos) (vOrV ta tb) := by
  refine ⟨vOrV_mono ha.mono hb.mono, PE.imp (pe_or ha.pe hb.pe) fun σ H Q hq => ?_⟩
  obtain ⟨G, S, F, m, q⟩ := hq
  refine ⟨G, S, F, m, ha.mono _ _ _ (fun o S1 z G1 H1 v f F1 ev m1 ow ap nw => ?_) q⟩
  obtain ⟨k, e, z⟩ := z
  subst e
  obtain ⟨_, w⟩ := ow
  cases w
  refine ⟨k, rfl, ?_⟩
  cases k with
  | true => exact z G1 H1 _ [] F1 ev m1 ⟨rfl, .bl true⟩ (fun _ z => nomatch z) fun _ z => nomatch z
  | false => exact ⟨G1, S1, F1, m1, hb.mono _ _ _ (fun b S2 y => evo_ve ev y) z⟩
theorem ve_not (ha : VE X a ta) : VE X (.UnaryOp .Not a pos) (vNotV ta) := by
  refine ⟨fun S P P' i q => ha.mono _ _ _ (fun o S1 ⟨k, e, z⟩ => ⟨k, e, i _ _ z⟩) q, PE.imp (pe_not ha.pe) fun σ H Q ⟨G, S, F, m, q⟩ => ?_⟩
  refine ⟨G, S, F, m, ha.mono _ _ _ (fun o S1 ⟨k, e, z⟩ G1 H1 v f F1 ev m1 ow ap nw => ?_) q⟩
  subst e
  obtain ⟨_, w⟩ := ow
  cases w
  exact ⟨k, rfl, z G1 H1 _ [] F1 ev m1 ⟨rfl, .bl _⟩ (fun _ z => nomatch z) fun _ z => nomatch z⟩
theorem ve_if (hc : VTe X c tt) (ha : VE X a ta) (hb : VE X b tb) : VE X (.IfExp c a b pos) (vIf tt ta tb) := by
  refine ⟨fun S P P' i q => hc.mono _ _ _ (fun k S1 z => ?_) q, PE.imp (pe_ifExp hc.pt ha.pe hb.pe) fun σ H Q ⟨G, S, F, m, q⟩ => ?_⟩
  · cases k with
    | true => exact ha.mono _ _ _ i z
    | false => exact hb.mono _ _ _ i z
  · refine ⟨G, S, F, m, hc.mono _ _ _ (fun k S1 z G1 H1 F1 ev m1 => ?_) q⟩
    cases k with
    | true => exact ⟨G1, S1, F1, m1, ha.mono _ _ _ (fun b S2 y => evo_ve ev y) z⟩
    | false => exact ⟨G1, S1, F1, m1, hb.mono _ _ _ (fun b S2 y => evo_ve ev y) z⟩
end
end
end VL

/-! the value layer, third part: arguments, displays, subscripts, statements, loops -/
set_option Elab.async false
set_option linter.all false
set_option maxRecDepth 100000
namespace VL
open PySem PySem.Spec PyProof.Rows L2
open Evl (Ex ex_l ex_t)
variable [Wd]

section
variable {X : Cx} {e a b c : Expr} {es : List Expr} {pos : Pos}
/-! ### arguments -/
theorem boall_mono {K : PySem.W.Frag} {G1 G2 : Hp} {σ : L2.St} (e : Ex G1 G2) : ∀ {bs : List Bo} {vs : List V}, BoAll K G1 σ bs vs → BoAll K G2 σ bs vs
  | _, _, .nil => .nil
  | _, _, .cons h t => .cons (Bo.Ok.mono h e) (boall_mono e t)
def vNilA : VAT := fun S Q => Q [] S
def vConsA (ta : VBT) (tr : VAT) : VAT := fun S Q => ta S fun b S1 => tr S1 fun bs S2 => Q (b :: bs) S2
theorem va_nil : VA X [] vNilA := ⟨fun _ _ _ i q => i _ _ q, PA.imp pa_nil fun σ H Q ⟨G, S, F, m, q⟩ => q G H [] F (Evo.refl G H _) m .nil⟩
theorem va_cons {ta : VBT} {tr : VAT} (ha : VB X e ta) (hr : VA X es tr) (hs : starEach (e :: es) X.env = (false, eval e X.env) :: starEach es X.env) : VA X (e :: es) (vConsA ta tr) := by
  refine ⟨fun S P P' i q => ha.mono _ _ _ (fun b S1 z => hr.mono _ _ _ (fun bs S2 y => i _ _ y) z) q, PA.imp (pa_cons ha.pe hr.pa hs) fun σ H Q hq => ?_⟩
  obtain ⟨G, S, F, m, q⟩ := hq
  refine ⟨G, S, F, m, ha.mono _ _ _ (fun b1 S1 q1 G1 H1 v1 F1 ev1 m1 k1 => ?_) q⟩
  refine ⟨G1, S1, F1, m1, hr.mono _ _ _ (fun bs S2 q2 G2 H2 vs F2 ev2 m2 k2 => ?_) q1⟩
  exact q2 G2 H2 (v1 :: vs) F2 (ev1.trans ev2) m2 (.cons (Bo.Ok.mono k1 ev2.gle) k2)
/-- the arguments' data at the call -/
def getA (S : Ss) : List Bo → Option (List PyData)
  | [] => some []
  | b :: bs => (b.get S).bind fun d => (getA S bs).map fun ds => d :: ds
inductive TopA (K : PySem.W.Frag) (G H : Hp) : List V → List PyData → Prop
  | nil : TopA K G H [] []
  | cons {v : V} {vs : List V} {d : PyData} {ds : List PyData} : Top K G H v d → TopA K G H vs ds → TopA K G H (v :: vs) (d :: ds)
theorem boall_top {K : PySem.W.Frag} {G1 G2 H2 : Hp} {σ : L2.St} {S : Ss} {F : Nat → List Addr} (e : Ex G1 G2) (m : Md K G2 H2 σ S F) : ∀ {bs : List Bo} {vs : List V} {ds : List PyData}, BoAll K G1 σ bs vs → getA S bs = some ds → TopA K G2 H2 vs ds
  | _, _, ds, .nil, g => by cases g; exact .nil
  | b :: bs, _, ds, .cons h t, g => by
    have g : (b.get S).bind (fun d => (getA S bs).map fun ds => d :: ds) = some ds := g
    cases h1 : b.get S with
    | none => rw [h1] at g; cases g
    | some d =>
      rw [h1] at g
      have g : (getA S bs).map (fun ds => d :: ds) = some ds := g
      cases h2 : getA S bs with
      | none => rw [h2] at g; cases g
      | some r =>
        rw [h2] at g
        cases g
        exact .cons (bo_top h e m h1) (boall_top e m t h2)
/-- written values only -/
def valsA : List Bo → Option (List PyData)
  | [] => some []
  | .val d :: bs => (valsA bs).map fun ds => d :: ds
  | _ => none
theorem boall_vals {K : PySem.W.Frag} {G : Hp} {σ : L2.St} : ∀ {bs : List Bo} {vs : List V} {ds : List PyData}, BoAll K G σ bs vs → valsA bs = some ds → DqA K G vs ds
  | _, _, ds, .nil, g => by cases g; exact .nil
  | .val d :: bs, _, ds, .cons h t, g => by
    have g : (valsA bs).map (fun ds => d :: ds) = some ds := g
    cases h2 : valsA bs with
    | none => rw [h2] at g; cases g
    | some r =>
      rw [h2] at g
      cases g
      exact .cons h (boall_vals t h2)
  | .slot i :: bs, _, ds, .cons h t, g => by cases g

/-! ### displays -/
def vTup (t : VAT) : VT := fun S Q => t S fun bs S1 => ∃ ds, valsA bs = some ds ∧ ds.length ≤ sizeLine ∧ Q (.sh (.tuple ds)) S1
def vLst (t : VAT) : VT := fun S Q => t S fun bs S1 => ∃ ds, valsA bs = some ds ∧ ds.length ≤ sizeLine ∧ Q (.lst ds) S1
theorem fresh_mu {K : PySem.W.Frag} {G H : Hp} {σ : L2.St} {S : Ss} {F : Nat → List Addr} (m : Md K G H σ S F) {a : Addr} (h : H a = none) : ¬ Mu S F a := fun z => by
  obtain ⟨_, u, w⟩ := m.mu z
  rw [h] at w; cases w
theorem fresh_g {G H : Hp} (e : Ex G H) {a : Addr} (h : H a = none) : G a = none := by
  cases q : G a with
  | none => rfl
  | some u => rw [e a u q] at h; cases h
theorem ve_tup {t : VAT} {x1} (h : VA X es t) : VE X (.Tuple es x1 pos) (vTup t) := by
  refine ⟨fun S P P' i q => h.mono _ _ _ (fun bs S1 z => let ⟨ds, h1, h2, h3⟩ := z; ⟨ds, h1, h2, i _ _ h3⟩) q, PE.imp (pe_tup h.pa) fun σ H Q hq => ?_⟩
  obtain ⟨G, S, F, m, q⟩ := hq
  refine ⟨G, S, F, m, h.mono _ _ _ (fun bs S1 z G1 H1 vs F1 ev1 m1 k1 => ?_) q⟩
  obtain ⟨ds, h1, h2, h3⟩ := z
  have r := boall_vals k1 h1
  refine ⟨by rw [dpa_len r]; exact h2, fun p hp => ?_⟩
  have gr := Grow.new (o := .tup vs) m1.le hp
  exact h3 _ _ _ [] F1 (ev1.trans (gr.evo _)) (m1.grow gr) ⟨rfl, .tup (SqT.of upd_same) (dpa_mono gr.ge r)⟩ (fun _ z => nomatch z) fun _ z => nomatch z
theorem ve_lst {t : VAT} (h : VA X es t) : VE X (.List es pos) (vLst t) := by
  refine ⟨fun S P P' i q => h.mono _ _ _ (fun bs S1 z => let ⟨ds, h1, h2, h3⟩ := z; ⟨ds, h1, h2, i _ _ h3⟩) q, PE.imp (pe_lst h.pa) fun σ H Q hq => ?_⟩
  obtain ⟨G, S, F, m, q⟩ := hq
  refine ⟨G, S, F, m, h.mono _ _ _ (fun bs S1 z G1 H1 vs F1 ev1 m1 k1 => ?_) q⟩
  obtain ⟨ds, h1, h2, h3⟩ := z
  have r := boall_vals k1 h1
  refine ⟨by rw [dpa_len r]; exact h2, fun p hp => ?_⟩
  have gr := Grow.newO (o := .lst vs) m1.le hp
  refine h3 _ _ _ [p] F1 (ev1.trans (gr.evo _)) (m1.grow gr) ⟨p, vs, rfl, rfl, fresh_g m1.le hp, upd_same, r⟩ (fun x hx => ?_) fun x hx => ?_
  · have e : x = p := by simpa using hx
    rw [e]; exact fresh_mu m1 hp
  · have e : x = p := by simpa using hx
    rw [e]; exact ev1.back (.inl hp)

/-! ### subscripts -/
section
variable {ta tb : VBT} {r : R2} {p : Pd2}
theorem ve_ix (ho : IxR X r) (ok : ROk X.K r p) (pm : PMono p) (ha : VB X a ta) (hb : VB X b tb) (hs : PlainIx b) : VE X (.Subscript a b pos) (vOp p ta tb) := by
  refine ⟨vOp_mono pm ha.mono hb.mono, PE.imp (pe_ix ho ha.pe hb.pe hs) fun σ H Q hq => ?_⟩
  obtain ⟨G, S, F, m, q⟩ := hq
  refine ⟨G, S, F, m, ha.mono _ _ _ (fun b1 S1 q1 G1 H1 v1 F1 ev1 m1 k1 => ?_) q⟩
  refine ⟨G1, S1, F1, m1, hb.mono _ _ _ (fun b2 S2 z G2 H2 v2 F2 ev2 m2 k2 => ?_) q1⟩
  obtain ⟨d, e, g1, g2, q2⟩ := z
  refine ok G2 H2 v1 v2 d e _ Q m2.le (bo_top k1 ev2.gle m2 g1) (bo_top k2 (Ex.refl _) m2 g2) q2 fun o G3 H3 v f q3 gr ow fr => ?_
  exact q3 G3 H3 v f F2 ((ev1.trans ev2).trans (gr.evo _)) (m2.grow gr) ow (fun x hx z => by
    have w := (m2.mu z).2
    rw [fr x hx] at w
    obtain ⟨u, w⟩ := w
    cases w) fun x hx => (ev1.trans ev2).back (.inl (fr x hx))
end
/-- a slice's part -/
abbrev VO := Ss → (Option Int → Ss → Prop) → Prop
def liftO (K : PySem.W.Frag) (t : VO) : TO := fun σ H Q => ∃ G S F, Md K G H σ S F ∧ t S fun o S' => ∀ G' H' F', Evo G H (Mu S F) G' H' (Mu S' F') → Md K G' H' σ S' F' → Q o H'
structure VPo (X : Cx) (e : Option Expr) (t : VO) : Prop where
  mono : Mono t
  po : PO X e (liftO X.K t)
theorem PO.imp {e : Option Expr} {t u : TO} (h : PO X e t) (i : ∀ σ H Q, u σ H Q → t σ H Q) : PO X e u := ⟨fun pins s σ H Q I q => h.run pins s σ H Q I (i _ _ _ q)⟩
def vNoPart : VO := fun S Q => Q none S
def vPart (t : VT) : VO := fun S Q => t S fun o S1 => ∃ i, o = .sh (.int i) ∧ Q (some i) S1
theorem vo_none : VPo X none vNoPart := ⟨fun _ _ _ i q => i _ _ q, PO.imp po_none fun σ H Q ⟨G, S, F, m, q⟩ => q G H F (Evo.refl G H _) m⟩
theorem vo_some {t : VT} (h : VE X e t) : VPo X (some e) (vPart t) := by
  refine ⟨fun S P P' i q => h.mono _ _ _ (fun o S1 z => let ⟨k, h1, h2⟩ := z; ⟨k, h1, i _ _ h2⟩) q, PO.imp (po_some h.pe) fun σ H Q hq => ?_⟩
  obtain ⟨G, S, F, m, q⟩ := hq
  refine ⟨G, S, F, m, h.mono _ _ _ (fun o S1 z G1 H1 v f F1 ev m1 ow ap nw => ?_) q⟩
  obtain ⟨k, rfl, z⟩ := z
  obtain ⟨_, w⟩ := ow
  cases w
  exact ⟨k, rfl, z G1 H1 F1 ev m1⟩
abbrev PdS := PyData → Option Int → Option Int → (O → Prop) → Prop
def SOk (K : PySem.W.Frag) (r : V → Option Int → Option Int → Hp → VK → Prop) (p : PdS) : Prop := ∀ (G H : Hp) (x : V) (d : PyData) (lo hi : Option Int) (P : O → Prop) (Q : VK), Ex G H → Top K G H x d → p d lo hi P →
  (∀ o G' H' v f, P o → Grow G H G' H' → Own K G' H' v o f → (∀ a ∈ f, H a = none) → Q v H') → r x lo hi H Q
def vSl (p : PdS) (ta : VBT) (tl th : VO) : VT := fun S Q => ta S fun b S1 => tl S1 fun lo S2 => th S2 fun hi S3 => ∃ d, b.get S3 = some d ∧ p d lo hi fun o => Q o S3
theorem ve_slice {r : V → Option Int → Option Int → Hp → VK → Prop} {p : PdS} {ta : VBT} {tl th : VO} {lo hi : Option Expr} {p2 : Pos} (hr : SlR X r) (ok : SOk X.K r p) (pm : ∀ d l h P P', (∀ o, P o → P' o) → p d l h P → p d l h P')
    (ha : VB X a ta) (hl : VPo X lo tl) (hh : VPo X hi th) : VE X (.Subscript a (.Slice lo hi none p2) pos) (vSl p ta tl th) := by
  refine ⟨fun S P P' i q => ha.mono _ _ _ (fun b1 S1 q1 => hl.mono _ _ _ (fun l S2 q2 => hh.mono _ _ _ (fun h S3 z => let ⟨d, g, q3⟩ := z; ⟨d, g, pm _ _ _ _ _ (fun o z => i _ _ z) q3⟩) q2) q1) q, PE.imp (pe_slice hr ha.pe hl.po hh.po) fun σ H Q hq => ?_⟩
  obtain ⟨G, S, F, m, q⟩ := hq
  refine ⟨G, S, F, m, ha.mono _ _ _ (fun b1 S1 q1 G1 H1 v1 F1 ev1 m1 k1 => ?_) q⟩
  refine ⟨G1, S1, F1, m1, hl.mono _ _ _ (fun l S2 q2 G2 H2 F2 ev2 m2 => ?_) q1⟩
  refine ⟨G2, S2, F2, m2, hh.mono _ _ _ (fun h S3 z G3 H3 F3 ev3 m3 => ?_) q2⟩
  obtain ⟨d, g, q3⟩ := z
  refine ok G3 H3 v1 d l h _ Q m3.le (bo_top k1 (ev2.trans ev3).gle m3 g) q3 fun o G4 H4 v f q4 gr ow fr => ?_
  have ee := (ev1.trans ev2).trans ev3
  exact q4 G4 H4 v f F3 (ee.trans (gr.evo _)) (m3.grow gr) ow (fun x hx => fresh_mu m3 (fr x hx)) fun x hx => ee.back (.inl (fr x hx))

/-! ### one-place operations, calls of built-ins -/
abbrev Pd1 := PyData → (O → Prop) → Prop
def UOk (K : PySem.W.Frag) (r : V → Hp → VK → Prop) (p : Pd1) : Prop := ∀ (G H : Hp) (x : V) (d : PyData) (P : O → Prop) (Q : VK), Ex G H → Top K G H x d → p d P →
  (∀ o G' H' v f, P o → Grow G H G' H' → Own K G' H' v o f → (∀ a ∈ f, H a = none) → Q v H') → r x H Q
def vUn (p : Pd1) (ta : VBT) : VT := fun S Q => ta S fun b S1 => ∃ d, b.get S1 = some d ∧ p d fun o => Q o S1
theorem ve_un {op : UnaryOp} {r : V → Hp → VK → Prop} {p : Pd1} {ta : VBT} (ho : UnR X (unaryOp op) r) (ok : UOk X.K r p) (pm : ∀ d P P', (∀ o, P o → P' o) → p d P → p d P') (ha : VB X a ta) : VE X (.UnaryOp op a pos) (vUn p ta) := by
  refine ⟨fun S P P' i q => ha.mono _ _ _ (fun b1 S1 z => let ⟨d, g, q3⟩ := z; ⟨d, g, pm _ _ _ (fun o z => i _ _ z) q3⟩) q, PE.imp (pe_un ho ha.pe) fun σ H Q hq => ?_⟩
  obtain ⟨G, S, F, m, q⟩ := hq
  refine ⟨G, S, F, m, ha.mono _ _ _ (fun b1 S1 z G1 H1 v1 F1 ev1 m1 k1 => ?_) q⟩
  obtain ⟨d, g, q3⟩ := z
  refine ok G1 H1 v1 d _ Q m1.le (bo_top k1 (Ex.refl _) m1 g) q3 fun o G4 H4 v f q4 gr ow fr => ?_
  exact q4 G4 H4 v f F1 (ev1.trans (gr.evo _)) (m1.grow gr) ow (fun x hx => fresh_mu m1 (fr x hx)) fun x hx => ev1.back (.inl (fr x hx))
abbrev PdL := List PyData → (O → Prop) → Prop
def COk (K : PySem.W.Frag) (r : List V → Hp → VK → Prop) (p : PdL) : Prop := ∀ (G H : Hp) (xs : List V) (ds : List PyData) (P : O → Prop) (Q : VK), Ex G H → TopA K G H xs ds → p ds P →
  (∀ o G' H' v f, P o → Grow G H G' H' → Own K G' H' v o f → (∀ a ∈ f, H a = none) → Q v H') → r xs H Q
def LMono (p : PdL) : Prop := ∀ d P P', (∀ o, P o → P' o) → p d P → p d P'
def vCB (p : PdL) (t : VAT) : VT := fun S Q => t S fun bs S1 => ∃ ds, getA S1 bs = some ds ∧ p ds fun o => Q o S1
theorem vCB_mono {p : PdL} {t : VAT} (pm : LMono p) (h : Mono t) : Mono (vCB p t) := fun S P P' i q => h _ _ _ (fun b1 S1 z => let ⟨d, g, q3⟩ := z; ⟨d, g, pm _ _ _ (fun o z => i _ _ z) q3⟩) q
theorem vcb_use {r : List V → Hp → VK → Prop} {p : PdL} {t : VAT} (ok : COk X.K r p) (ha : VA X es t) {σ : L2.St} {H : Hp} {Q : VK} (hq : lift X.K (vCB p t) σ H Q) : tCB r (liftA X.K t) σ H Q := by
  obtain ⟨G, S, F, m, q⟩ := hq
  refine ⟨G, S, F, m, ha.mono _ _ _ (fun bs S1 z G1 H1 vs F1 ev1 m1 k1 => ?_) q⟩
  obtain ⟨ds, g, q3⟩ := z
  refine ok G1 H1 vs ds _ Q m1.le (boall_top (Ex.refl _) m1 k1 g) q3 fun o G4 H4 v f q4 gr ow fr => ?_
  exact q4 G4 H4 v f F1 (ev1.trans (gr.evo _)) (m1.grow gr) ow (fun x hx => fresh_mu m1 (fr x hx)) fun x hx => ev1.back (.inl (fr x hx))
/-- f(e, ..), its rule by h -/
theorem ve_cb {r : List V → Hp → VK → Prop} {p : PdL} {t : VAT} (ok : COk X.K r p) (pm : LMono p) (ha : VA X es t) (h : ∀ t, PA X es t → PE X e (tCB r t)) : VE X e (vCB p t) :=
  ⟨vCB_mono pm ha.mono, PE.imp (h _ ha.pa) fun σ H Q hq => vcb_use ok ha hq⟩
end
end VL

/-! the value layer, fourth part: statements, loops, comprehensions -/
set_option Elab.async false
set_option linter.all false
set_option maxRecDepth 100000
namespace VL
open PySem PySem.Spec PyProof.Rows L2
open Evl (Ex ex_l ex_t)
variable [Wd]

theorem ends_trans {K : PySem.W.Frag} {G H G1 H1 : Hp} {S S1 : Ss} {F F1 : Nat → List Addr} {D : Ends} (ev : Evo G H (Mu S F) G1 H1 (Mu S1 F1)) : VEnds.Le (endsOf K G H S F D) (endsOf K G1 H1 S1 F1 D) where
  nx := fun _ z G' H' σ' F' e m => z G' H' σ' F' (ev.trans e) m
  rt := fun _ _ z G' H' σ' v f F' e m ow ap nw => z G' H' σ' v f F' (ev.trans e) m ow ap fun a ha => ev.back (nw a ha)
  bk := fun _ z G' H' σ' F' e m => z G' H' σ' F' (ev.trans e) m
  ct := fun _ z G' H' σ' F' e m => z G' H' σ' F' (ev.trans e) m
theorem VEnds.Le.refl (D : VEnds) : VEnds.Le D D := ⟨fun _ z => z, fun _ _ z => z, fun _ z => z, fun _ z => z⟩

section
variable {X : Cx} {e a b c tg : Expr} {es : List Expr} {st : Stmt} {rest : List Stmt} {pos : Pos}
/-! ### blocks -/
def vNext : VS := fun D S => D.nx S
def vSeq (t u : VS) : VS := fun D S => t { D with nx := u D } S
def vBreak : VS := fun D S => D.bk S
def vCont : VS := fun D S => D.ct S
theorem nx_here {K : PySem.W.Frag} {G H : Hp} {σ : L2.St} {S : Ss} {F : Nat → List Addr} (m : Md K G H σ S F) {R : L2.St → Hp → Prop} (z : ∀ G' H' σ' F', Evo G H (Mu S F) G' H' (Mu S F') → Md K G' H' σ' S F' → R σ' H') : R σ H := z G H σ F (Evo.refl G H _) m
theorem vs_nil : VSs X [] vNext := ⟨fun _ _ _ i q => i.nx _ q, PSs.imp pss_nil fun D σ H ⟨G, S, F, m, q⟩ => nx_here m q⟩
theorem vs_pass : VSt X (.Pass pos) vNext := ⟨fun _ _ _ i q => i.nx _ q, PS.imp ps_pass fun D σ H ⟨G, S, F, m, q⟩ => nx_here m q⟩
theorem vs_break : VSt X (.Break pos) vBreak := ⟨fun _ _ _ i q => i.bk _ q, PS.imp ps_break fun D σ H ⟨G, S, F, m, q⟩ => nx_here m q⟩
theorem vs_continue : VSt X (.Continue pos) vCont := ⟨fun _ _ _ i q => i.ct _ q, PS.imp ps_continue fun D σ H ⟨G, S, F, m, q⟩ => nx_here m q⟩
theorem vs_one {t : VS} (h : VSt X st t) : VSs X [st] t := ⟨h.mono, pss_one h.ps⟩
theorem vs_cons {t u : VS} (h1 : VSt X st t) (h2 : VSs X rest u) : VSs X (st :: rest) (vSeq t u) := by
  refine ⟨fun D D' S i q => h1.mono { D with nx := u D } { D' with nx := u D' } S ⟨fun _ z => h2.mono _ _ _ i z, i.rt, i.bk, i.ct⟩ q, PSs.imp (pss_cons h1.ps h2.pss) fun D σ H hq => ?_⟩
  obtain ⟨G, S, F, m, q⟩ := hq
  exact ⟨G, S, F, m, h1.mono { endsOf X.K G H S F D with nx := u (endsOf X.K G H S F D) } _ _ ⟨fun S1 z G1 H1 σ1 F1 ev m1 => ⟨G1, S1, F1, m1, h2.mono _ _ _ (ends_trans ev) z⟩, fun _ _ z => z, fun _ z => z, fun _ z => z⟩ q⟩
/-! ### if, return, an expression alone, raise that is never met -/
def vIfS (tt : VTT) (t u : VS) : VS := fun D S => tt S fun k S1 => if k = true then t D S1 else u D S1
theorem vs_if {tt : VTT} {t u : VS} {p q : List Stmt} (hc : VTe X c tt) (ha : VSs X p t) (hb : VSs X q u) : VSt X (.If c p q pos) (vIfS tt t u) := by
  refine ⟨fun D D' S i q => hc.mono _ _ _ (fun k S1 z => ?_) q, PS.imp (ps_if hc.pt ha.pss hb.pss) fun D σ H hq => ?_⟩
  · cases k with
    | true => exact ha.mono _ _ _ i z
    | false => exact hb.mono _ _ _ i z
  · obtain ⟨G, S, F, m, q⟩ := hq
    refine ⟨G, S, F, m, hc.mono _ _ _ (fun k S1 z G1 H1 F1 ev m1 => ?_) q⟩
    cases k with
    | true => exact ⟨G1, S1, F1, m1, ha.mono _ _ _ (ends_trans ev) z⟩
    | false => exact ⟨G1, S1, F1, m1, hb.mono _ _ _ (ends_trans ev) z⟩
def vRet (t : VT) : VS := fun D S => t S D.rt
theorem vs_ret {t : VT} (h : VE X e t) : VSt X (.Return (some e) pos) (vRet t) := by
  refine ⟨fun D D' S i q => h.mono _ _ _ (fun o S1 z => i.rt _ _ z) q, PS.imp (ps_ret h.pe) fun D σ H hq => ?_⟩
  obtain ⟨G, S, F, m, q⟩ := hq
  exact ⟨G, S, F, m, h.mono _ _ _ (fun o S1 z G1 H1 v f F1 ev m1 ow ap nw => z G1 H1 σ v f F1 ev m1 ow ap nw) q⟩
def vRetN : VS := fun D S => D.rt (.sh .none) S
theorem vs_retN : VSt X (.Return none pos) vRetN := ⟨fun _ _ _ i q => i.rt _ _ q, PS.imp ps_retN fun D σ H ⟨G, S, F, m, q⟩ => q G H σ .non [] F (Evo.refl G H _) m ⟨rfl, .non⟩ (fun _ z => nomatch z) fun _ z => nomatch z⟩
def vDrop (t : VT) : VS := fun D S => t S fun _ S1 => D.nx S1
theorem vs_expr {t : VT} (h : VE X e t) (hs : swapsWith e none pos.line X.env = pure false) : VSt X (.Expr e pos) (vDrop t) := by
  refine ⟨fun D D' S i q => h.mono _ _ _ (fun o S1 z => i.nx _ z) q, PS.imp (ps_expr h.pe hs) fun D σ H hq => ?_⟩
  obtain ⟨G, S, F, m, q⟩ := hq
  exact ⟨G, S, F, m, h.mono _ _ _ (fun o S1 z G1 H1 v f F1 ev m1 ow ap nw => z G1 H1 σ F1 ev m1) q⟩
def vNever : VS := fun _ _ => False
theorem vs_never : VSt X st vNever := ⟨fun _ _ _ _ q => q, PS.imp ps_never fun _ _ _ ⟨_, _, _, _, q⟩ => q⟩
/-! ### stores into names -/
def canSet (S : Ss) (i : Nat) : Bool := match S[i]? with
  | some .em => true
  | some (.ow _) => true
  | _ => false
theorem canSet_lt {S : Ss} {i : Nat} (h : canSet S i = true) : i < S.length := by
  unfold canSet at h
  cases q : S[i]? with
  | none => rw [q] at h; cases h
  | some s => exact (List.getElem?_eq_some_iff.mp q).1
/-- a slot takes what was aside -/
theorem Md.take {K : PySem.W.Frag} {G H G1 H1 : Hp} {σ : L2.St} {M : Addr → Prop} {S : Ss} {F : Nat → List Addr} (m : Md K G1 H1 σ S F) {i : Nat} (hi : i < S.length) {v : V} {o : O} {f : List Addr} (ow : Own K G1 H1 v o f) (ap : ∀ a ∈ f, ¬ Mu S F a)
    (ev : Evo G H M G1 H1 (Mu S F)) (nw : ∀ a ∈ f, H a = none ∨ M a) : Md K G1 H1 (σ.set i (some v)) (S.set i (.ow o)) (fset F i f) ∧ Evo G H M G1 H1 (Mu (S.set i (.ow o)) (fset F i f)) :=
  ⟨m.put hi ow fun a ha j hj _ hm => ap a ha ⟨j, hj, hm⟩, ev.gle, ev.keep, ev.gnew, fun a z => (mu_set z).elim (nw a) (ev.fnew a)⟩
def vAsg (t : VT) (i : Nat) : VS := fun D S => t S fun o S1 => canSet S1 i = true ∧ D.nx (S1.set i (.ow o))
theorem vAsg_mono {t : VT} {i : Nat} (h : Mono t) : MonoS (vAsg t i) := fun D D' S k q => h _ _ _ (fun o S1 z => ⟨z.1, k.nx _ z.2⟩) q
theorem asg_use {t : VT} {i : Nat} (hm : Mono t) {D : Ends} {σ : L2.St} {H : Hp} (hq : liftS X.K (vAsg t i) D σ H) : tAsg (lift X.K t) (gName i) D σ H := by
  obtain ⟨G, S, F, m, q⟩ := hq
  refine ⟨G, S, F, m, hm _ _ _ (fun o S1 z G1 H1 v f F1 ev m1 ow ap nw => ?_) q⟩
  obtain ⟨m2, ev2⟩ := m1.take (canSet_lt z.1) ow ap ev nw
  exact z.2 _ _ _ _ ev2 m2
theorem vs_set {t : VT} {i : Nat} (h : VE X e t) (hp : ∀ te, PE X e te → PS X st (tAsg te (gName i))) : VSt X st (vAsg t i) :=
  ⟨vAsg_mono h.mono, PS.imp (hp _ h.pe) fun D σ H hq => asg_use h.mono hq⟩
/-- a, b = x, y -/
def vPar (i j : Nat) (t u : VT) : VS := fun D S => t S fun o S1 => u S1 fun o' S2 => i ≠ j ∧ canSet S2 i = true ∧ canSet S2 j = true ∧ D.nx ((S2.set i (.ow o)).set j (.ow o'))
theorem vs_par {t u : VT} {i j : Nat} (ha : VE X a t) (hb : VE X b u) (hp : ∀ ta tb, PE X a ta → PE X b tb → PS X st (tPar i j (tCons ta (tCons tb tNil)))) : VSt X st (vPar i j t u) := by
  refine ⟨fun D D' S k q => ha.mono _ _ _ (fun o S1 z => hb.mono _ _ _ (fun o' S2 y => ⟨y.1, y.2.1, y.2.2.1, k.nx _ y.2.2.2⟩) z) q, PS.imp (hp _ _ ha.pe hb.pe) fun D σ H hq => ?_⟩
  obtain ⟨G, S, F, m, q⟩ := hq
  refine ⟨G, S, F, m, ha.mono _ _ _ (fun o S1 z G1 H1 v f F1 ev m1 ow ap nw => ?_) q⟩
  refine ⟨G1, S1, F1, m1, hb.mono _ _ _ (fun o' S2 z2 G2 H2 v' f' F2 ev2 m2 ow2 ap2 nw2 => ?_) z⟩
  obtain ⟨ne, ci, cj, z2⟩ := z2
  obtain ⟨ow1, ap1⟩ := ow.stay ev2 ap
  obtain ⟨m3, ev3⟩ := m2.take (canSet_lt ci) ow1 ap1 (ev.trans ev2) nw
  have ap3 : ∀ a ∈ f', ¬ Mu (S2.set i (.ow o)) (fset F2 i f) a := fun x hx y => by
    rcases mu_set y with y | y
    · rcases nw2 x hx with w | w
      · obtain ⟨_, u, q⟩ := ow.tracked x y
        rw [w] at q; cases q
      · exact ap x y w
    · exact ap2 x hx y
  have hj : j < (S2.set i (.ow o)).length := by rw [List.length_set]; exact canSet_lt cj
  obtain ⟨m4, ev4⟩ := m3.take hj ow2 ap3 ev3 fun x hx => ev.back (nw2 x hx)
  exact ⟨v, v', rfl, z2 _ _ _ _ ev4 m4⟩

/-! ### targets -/
abbrev VG := PyData → Ss → (Ss → Prop) → Prop
abbrev VGs := List PyData → Ss → (Ss → Prop) → Prop
def liftG (K : PySem.W.Frag) (is : List Nat) (g : VG) : TG := fun v σ H Q => ∃ G S F d, Md K G H σ S F ∧ Dq K G v d ∧ g d S fun S' => ∀ σ' F', L2.wipe σ' is = L2.wipe σ is → Evo G H (Mu S F) G H (Mu S' F') → Md K G H σ' S' F' → Q σ' H
def liftGs (K : PySem.W.Frag) (is : List Nat) (g : VGs) : TGs := fun vs σ H Q => ∃ G S F ds, Md K G H σ S F ∧ DqA K G vs ds ∧ g ds S fun S' => ∀ σ' F', L2.wipe σ' is = L2.wipe σ is → Evo G H (Mu S F) G H (Mu S' F') → Md K G H σ' S' F' → Q σ' H
structure VGt (X : Cx) (is : List Nat) (tg : Expr) (g : VG) : Prop where
  mono : ∀ d S P P', (∀ S', P S' → P' S') → g d S P → g d S P'
  pg : PG X tg (liftG X.K is g)
structure VGts (X : Cx) (is : List Nat) (tg : List Expr) (g : VGs) : Prop where
  mono : ∀ d S P P', (∀ S', P S' → P' S') → g d S P → g d S P'
  pg : PGs X tg (liftGs X.K is g)
theorem PG.imp {t u : TG} (h : PG X tg t) (i : ∀ v σ H Q, u v σ H Q → t v σ H Q) : PG X tg u := ⟨fun pins s σ H v w Q I r q => h.run pins s σ H v w Q I r (i _ _ _ _ q)⟩
theorem PGs.imp {t u : TGs} (h : PGs X es t) (i : ∀ v σ H Q, u v σ H Q → t v σ H Q) : PGs X es u := ⟨fun pins s σ H v w Q I r q => h.run pins s σ H v w Q I r (i _ _ _ _ q)⟩
theorem wipe_set {σ : L2.St} {x : Option V} : ∀ {is : List Nat} {i : Nat}, i ∈ is → L2.wipe (σ.set i x) is = L2.wipe σ is
  | j :: js, i, h => by
    show (L2.wipe (σ.set i x) js).set j none = (L2.wipe σ js).set j none
    by_cases hj : i ∈ js
    · rw [wipe_set hj]
    · have e : i = j := (List.mem_cons.mp h).resolve_right hj
      subst e
      have q : ∀ {ks : List Nat}, i ∉ ks → L2.wipe (σ.set i x) ks = (L2.wipe σ ks).set i x := by
        intro ks
        induction ks with
        | nil => intro _; rfl
        | cons k ks ih =>
          intro hk
          show (L2.wipe (σ.set i x) ks).set k none = ((L2.wipe σ ks).set k none).set i x
          rw [ih (fun z => hk (List.mem_cons_of_mem _ z)), List.set_comm]
          exact fun z => hk (by rw [z]; exact List.mem_cons_self)
      rw [q hj, List.set_set]
def gvName (i : Nat) : VG := fun d S Q => canSet S i = true ∧ Q (S.set i (.ow (.sh d)))
def gvNil : VGs := fun ds S Q => ds = [] ∧ Q S
def gvCons (g : VG) (r : VGs) : VGs := fun ds S Q => ∃ d rs, ds = d :: rs ∧ g d S fun S' => r rs S' Q
def gvTup (n : Nat) (g : VGs) : VG := fun d S Q => ∃ ds, d = .tuple ds ∧ ds.length = n ∧ g ds S Q
variable {is : List Nat}
theorem gv_name {i : Nat} (h : PG X tg (gName i)) (hi : i ∈ is) : VGt X is tg (gvName i) := by
  refine ⟨fun d S P P' k q => ⟨q.1, k _ q.2⟩, PG.imp h fun v σ H Q hq => ?_⟩
  obtain ⟨G, S, F, d, m, dd, c, q⟩ := hq
  obtain ⟨m2, ev2⟩ := m.take (v := v) (o := .sh d) (f := []) (canSet_lt c) ⟨rfl, dd⟩ (fun _ z => nomatch z) (Evo.refl G H _) fun _ z => nomatch z
  exact q _ _ (wipe_set hi) ev2 m2
theorem gv_nil : VGts X is [] gvNil := ⟨fun d S P P' k q => ⟨q.1, k _ q.2⟩, PGs.imp pgs_nil fun vs σ H Q hq => by
  obtain ⟨G, S, F, ds, m, dd, e, q⟩ := hq
  subst e
  cases dd
  exact ⟨rfl, q σ F rfl (Evo.refl G H _) m⟩⟩
theorem gv_cons {g : VG} {r : VGs} (h1 : VGt X is e g) (h2 : VGts X is es r) (hs : (assignEach (e :: es) X.env).map (·.2) = assign e X.env :: (assignEach es X.env).map (·.2)) : VGts X is (e :: es) (gvCons g r) := by
  refine ⟨fun d S P P' k q => ?_, PGs.imp (pgs_cons h1.pg h2.pg hs) fun vs σ H Q hq => ?_⟩
  · obtain ⟨d, rs, e1, q⟩ := q
    exact ⟨d, rs, e1, h1.mono _ _ _ _ (fun S' z => h2.mono _ _ _ _ k z) q⟩
  · obtain ⟨G, S, F, ds, m, dd, d, rs, e1, q⟩ := hq
    subst e1
    cases dd with
    | cons hv hr =>
      refine ⟨_, _, rfl, G, S, F, d, m, hv, h1.mono _ _ _ _ (fun S1 z σ1 F1 w1 ev m1 => ?_) q⟩
      exact ⟨G, S1, F1, rs, m1, hr, h2.mono _ _ _ _ (fun S2 y σ2 F2 w2 ev2 m2 => y σ2 F2 (w2.trans w1) (ev.trans ev2) m2) z⟩
theorem gv_tup {g : VGs} {k n : Nat} (hc : X.calm = true) (h : VGts X is es g) (hn : (assignEach es X.env).length = n) (hst : (assignEach es X.env).findIdx? (·.1) = none) : VGt X is (.Tuple es k pos) (gvTup n g) := by
  refine ⟨fun d S P P' i q => ?_, PG.imp (pg_tup hc h.pg hn hst) fun v σ H Q hq => ?_⟩
  · obtain ⟨ds, e1, e2, q⟩ := q
    exact ⟨ds, e1, e2, h.mono _ _ _ _ i q⟩
  · obtain ⟨G, S, F, d, m, dd, ds, e1, e2, q⟩ := hq
    subst e1
    cases dd with
    | tup h1 h2 => exact ⟨_, _, rfl, ex_t m.le h1, by rw [dpa_len h2]; exact e2, G, S, F, ds, m, h2, q⟩
/-- target = e, the value shared -/
def vAsgG (t : VT) (g : VG) : VS := fun D S => t S fun o S1 => g o.dat S1 D.nx
theorem vs_asg {t : VT} {g : VG} (he : VE X e t) (hg : VGt X is tg g) (hp : ∀ te gg, PE X e te → PG X tg gg → PS X st (tAsg te gg)) : VSt X st (vAsgG t g) := by
  refine ⟨fun D D' S k q => he.mono _ _ _ (fun o S1 z => hg.mono _ _ _ _ (fun S2 y => k.nx _ y) z) q, PS.imp (hp _ _ he.pe hg.pg) fun D σ H hq => ?_⟩
  obtain ⟨G, S, F, m, q⟩ := hq
  refine ⟨G, S, F, m, he.mono _ _ _ (fun o S1 z G1 H1 v f F1 ev m1 ow ap nw => ?_) q⟩
  obtain ⟨G2, g1, d, m2, g3⟩ := m1.freezeT ow ap
  refine ⟨G2, S1, F1, _, m2, d, hg.mono _ _ _ _ (fun S2 y σ2 F2 w2 ev2 m3 => ?_) z⟩
  exact y _ _ _ _ ((ev.given g1 g3 nw).trans ev2) m3

/-! ### walks -/
/-- at each turn the item's data -/
def YD (K : PySem.W.Frag) (G1 : Hp) (ds : List PyData) : Nat → Hp → V → Hp → Prop := fun i H x H' => ∃ d, ds[i]? = some d ∧ ∀ G, Ex G1 G → Ex G H → ∃ G2, Grow G H G2 H' ∧ Dq K G2 x d
abbrev VI := Ss → (List PyData → Ss → Prop) → Prop
def liftI (K : PySem.W.Frag) (t : VI) : TI := fun σ H R => ∃ G S F, Md K G H σ S F ∧ t S fun ds S' => ∀ J G' H' F', Evo G H (Mu S F) G' H' (Mu S' F') → Md K G' H' σ S' F' → Walk J ds.length (fun h => Ex G' h) (YD K G' ds) → R J H'
structure VIt (X : Cx) (tg iter : Expr) (t : VI) : Prop where
  mono : Mono t
  pi : PI X tg iter (liftI X.K t)
theorem PI.imp {iter : Expr} {t u : TI} (h : PI X tg iter t) (i : ∀ σ H R, u σ H R → t σ H R) : PI X tg iter u := ⟨fun pins s σ H R I q => h.run pins s σ H R I (i _ _ _ q)⟩

/-! ### for -/
def forW (g : VG) (tb : VS) (D : VEnds) : List PyData → Ss → Prop
  | [], S => D.nx S
  | d :: ds, S => g d S fun S1 => tb { D with nx := forW g tb D ds, ct := forW g tb D ds, bk := D.nx } S1
theorem forW_mono {g : VG} {tb : VS} (hg : ∀ d S P P', (∀ S', P S' → P' S') → g d S P → g d S P') (hb : MonoS tb) {D D' : VEnds} (i : VEnds.Le D D') : ∀ ds S, forW g tb D ds S → forW g tb D' ds S
  | [], S, q => i.nx _ q
  | d :: ds, S, q => hg _ _ _ _ (fun S1 z => hb { D with nx := forW g tb D ds, ct := forW g tb D ds, bk := D.nx } _ _ ⟨forW_mono hg hb i ds, i.rt, i.nx, forW_mono hg hb i ds⟩ z) q
def vFor (ti : VI) (g : VG) (tb : VS) : VS := fun D S => ti S fun ds S1 => forW g tb D ds S1
theorem vs_for {iter : Expr} {body : List Stmt} {ti : VI} {g : VG} {tb : VS} (hp : PassesOwn (model X.prog X.w) X.A X.env X.xe) (hc : X.calm = true) (hi : VIt X tg iter ti) (hg : VGt X is tg g) (hb : VSs X body tb)
    (hs : ∀ x, foldedSetIterable iter X.env x = pure x) : VSt X (.For tg iter body [] pos) (vFor ti g tb) := by
  refine ⟨fun D D' S i q => hi.mono _ _ _ (fun ds S1 z => forW_mono hg.mono hb.mono i ds S1 z) q, PS.imp (ps_for hp hc hi.pi hg.pg hb.pss hs) fun D σ H hq => ?_⟩
  obtain ⟨G, S, F, m, q⟩ := hq
  refine ⟨G, S, F, m, hi.mono _ _ _ (fun ds S1 q1 J G1 H1 F1 ev1 m1 w => ?_) q⟩
  refine for_it w (fun i σ2 H2 => ∃ G2 S2 F2, Md X.K G2 H2 σ2 S2 F2 ∧ Evo G H (Mu S F) G2 H2 (Mu S2 F2) ∧ Ex G1 G2 ∧ forW g tb (endsOf X.K G H S F D) (ds.drop i) S2) ⟨G1, S1, F1, m1, ev1, Ex.refl _, by rw [List.drop_zero]; exact q1⟩
    (fun i σ2 H2 _ h => let ⟨G2, S2, F2, m2, _, e2, _⟩ := h; e2.trans m2.le) ?_ ?_
  · rintro i x σ2 H2 H3 hi' ⟨G2, S2, F2, m2, ev2, e2, q2⟩ ⟨d, hd, y⟩
    obtain ⟨G3, gr, dd⟩ := y G2 e2 m2.le
    have ed : ds.drop i = d :: ds.drop (i + 1) := by
      obtain ⟨h1, h2⟩ := List.getElem?_eq_some_iff.mp hd
      rw [← h2, List.drop_eq_getElem_cons h1]
    rw [ed] at q2
    have m3 := m2.grow gr
    have ev3 := ev2.trans (gr.evo (Mu S2 F2))
    refine ⟨G3, S2, F2, d, m3, dd, hg.mono _ _ _ _ (fun S4 z σ4 F4 w4 ev4 m4 => ?_) q2⟩
    refine ⟨G3, S4, F4, m4, hb.mono _ _ _ ?_ z⟩
    have ev5 := ev3.trans ev4
    exact ⟨fun S5 y5 G5 H5 σ5 F5 ev6 m5 => ⟨G5, S5, F5, m5, ev5.trans ev6, e2.trans (gr.ge.trans ev6.gle), y5⟩, (ends_trans ev5).rt, (ends_trans ev5).nx, fun S5 y5 G5 H5 σ5 F5 ev6 m5 => ⟨G5, S5, F5, m5, ev5.trans ev6, e2.trans (gr.ge.trans ev6.gle), y5⟩⟩
  · rintro σ2 H2 ⟨G2, S2, F2, m2, ev2, e2, q2⟩
    rw [List.drop_eq_nil_of_le (Nat.le_refl _)] at q2
    exact q2 G2 H2 σ2 F2 ev2 m2
/-! ### while -/
def whileW (tt : VTT) (tb : VS) (D : VEnds) : Nat → Ss → Prop
  | 0, _ => False
  | n + 1, S => tt S fun k S1 => if k = true then tb { D with nx := whileW tt tb D n, ct := whileW tt tb D n, bk := D.nx } S1 else D.nx S1
theorem whileW_mono {tt : VTT} {tb : VS} (ht : Mono tt) (hb : MonoS tb) {D D' : VEnds} (i : VEnds.Le D D') : ∀ n S, whileW tt tb D n S → whileW tt tb D' n S
  | 0, _, q => q
  | n + 1, S, q => ht _ _ _ (fun k S1 z => by
    cases k with
    | true => exact hb { D with nx := whileW tt tb D n, ct := whileW tt tb D n, bk := D.nx } _ _ ⟨whileW_mono ht hb i n, i.rt, i.nx, whileW_mono ht hb i n⟩ z
    | false => exact i.nx _ z) q
def vWhile (tt : VTT) (tb : VS) : VS := fun D S => ∃ n, whileW tt tb D n S
theorem vs_while {body : List Stmt} {tt : VTT} {tb : VS} (hp : PassesOwn (model X.prog X.w) X.A X.env X.xe) (hc : VTe X c tt) (hb : VSs X body tb) : VSt X (.While c body [] pos) (vWhile tt tb) := by
  refine ⟨fun D D' S i q => let ⟨n, z⟩ := q; ⟨n, whileW_mono hc.mono hb.mono i n S z⟩, PS.imp (ps_while hp hc.pt hb.pss) fun D σ H hq => ?_⟩
  obtain ⟨G, S, F, m, n, q⟩ := hq
  refine ⟨fun k σ2 H2 => ∃ G2 S2 F2, Md X.K G2 H2 σ2 S2 F2 ∧ Evo G H (Mu S F) G2 H2 (Mu S2 F2) ∧ whileW tt tb (endsOf X.K G H S F D) k S2, ⟨n, G, S, F, m, Evo.refl G H _, q⟩, ?_⟩
  rintro k σ2 H2 ⟨G2, S2, F2, m2, ev2, q2⟩
  cases k with
  | zero => exact q2.elim
  | succ k =>
    refine ⟨G2, S2, F2, m2, hc.mono _ _ _ (fun b S3 z G3 H3 F3 ev3 m3 => ?_) q2⟩
    have ev := ev2.trans ev3
    cases b with
    | false => exact z G3 H3 σ2 F3 ev m3
    | true =>
      refine ⟨fun σ' H' => ∃ G2 S2 F2, Md X.K G2 H' σ' S2 F2 ∧ Evo G H (Mu S F) G2 H' (Mu S2 F2) ∧ whileW tt tb (endsOf X.K G H S F D) k S2, fun σ' H' h => ⟨k, Nat.lt_succ_self k, h⟩, G3, S3, F3, m3, hb.mono _ _ _ ?_ z⟩
      exact ⟨fun S5 y5 G5 H5 σ5 F5 ev6 m5 => ⟨G5, S5, F5, m5, ev.trans ev6, y5⟩, (ends_trans ev).rt, (ends_trans ev).nx, fun S5 y5 G5 H5 σ5 F5 ev6 m5 => ⟨G5, S5, F5, m5, ev.trans ev6, y5⟩⟩

/-! ### comprehensions -/
def wipeS (S : Ss) : List Nat → Ss
  | [] => S
  | i :: is => (wipeS S is).set i .em
theorem wipeS_length (S : Ss) : ∀ is, (wipeS S is).length = S.length
  | [] => rfl
  | i :: is => by
    show ((wipeS S is).set i .em).length = S.length
    rw [List.length_set, wipeS_length S is]
/-- slots forgotten, in the state's values too or not -/
theorem Md.wipe {K : PySem.W.Frag} {G H : Hp} {σ : L2.St} {S : Ss} {F : Nat → List Addr} (m : Md K G H σ S F) : ∀ is : List Nat, ∃ F', Md K G H (L2.wipe σ is) (wipeS S is) F' ∧ (∀ a, Mu (wipeS S is) F' a → Mu S F a)
  | [] => ⟨F, m, fun _ z => z⟩
  | i :: is => by
    obtain ⟨F', m', sub⟩ := Md.wipe m is
    by_cases hi : i < (wipeS S is).length
    · refine ⟨fset F' i [], m'.put hi (s := .em) (x := none) (f := []) rfl fun _ z => (nomatch z), fun a z => ?_⟩
      rcases mu_set z with y | y
      · cases y
      · exact sub a y
    · refine ⟨F', ?_, fun a z => ?_⟩
      · show Md K G H ((L2.wipe σ is).set i none) ((wipeS S is).set i .em) F'
        rw [List.set_eq_of_length_le (by rw [m'.len]; omega), List.set_eq_of_length_le (by omega)]
        exact m'
      · have z' : Mu ((wipeS S is).set i .em) F' a := z
        rw [List.set_eq_of_length_le (by omega)] at z'
        exact sub a z'
theorem wipeS_em {S : Ss} : ∀ {is : List Nat} {i : Nat}, i ∈ is → i < S.length → (wipeS S is)[i]? = some .em
  | j :: js, i, h, hl => by
    show ((wipeS S js).set j .em)[i]? = some .em
    by_cases e : i = j
    · subst e
      exact List.getElem?_set_self (by rw [wipeS_length]; exact hl)
    · rw [List.getElem?_set_ne (Ne.symm e)]
      rcases List.mem_cons.mp h with h | h
      · exact absurd h e
      · exact wipeS_em h hl
theorem wipe_at {σ : L2.St} : ∀ {is : List Nat} {i : Nat}, i ∉ is → (L2.wipe σ is)[i]? = σ[i]?
  | [], _, _ => rfl
  | j :: js, i, h => by
    show ((L2.wipe σ js).set j none)[i]? = σ[i]?
    rw [List.getElem?_set_ne (fun e => h (by rw [e]; exact List.mem_cons_self))]
    exact wipe_at fun z => h (List.mem_cons_of_mem _ z)
/-- behind a block the state has its own values again -/
theorem Md.unwipe {K : PySem.W.Frag} {G H : Hp} {σ : L2.St} {S : Ss} {F : Nat → List Addr} {is : List Nat} (m : Md K G H (L2.wipe σ is) S F) (he : ∀ i ∈ is, i < S.length → S[i]? = some .em) : Md K G H σ S F where
  le := m.le
  len := by rw [← m.len, L2.wipe_length]
  sl := fun i s h => by
    by_cases hi : i ∈ is
    · have q := he i hi (m.lt h)
      rw [h] at q
      cases q
      obtain ⟨x, _, q⟩ := m.sl i .em h
      have hl : i < σ.length := by rw [← L2.wipe_length σ is, m.len]; exact m.lt h
      exact ⟨σ[i], List.getElem?_eq_getElem hl, by cases σ[i] <;> exact q⟩
    · obtain ⟨x, e, q⟩ := m.sl i s h
      rw [wipe_at hi] at e
      exact ⟨x, e, q⟩
  dj := m.dj
def lcW (g : VG) (tt : VTT) (te : VT) (is : List Nat) (R : List PyData → Ss → Prop) : List PyData → List PyData → Ss → Prop
  | [], acc, S => R acc S
  | d :: ds, acc, S => g d S fun S1 => tt S1 fun k S2 => if k = true then te S2 fun o S3 => acc.length < sizeLine ∧ lcW g tt te is R ds (acc ++ [o.dat]) (wipeS S3 is) else lcW g tt te is R ds acc (wipeS S2 is)
def vLc (ti : VI) (g : VG) (tt : VTT) (te : VT) (is : List Nat) : VT := fun S Q => ti S fun ds S1 => lcW g tt te is (fun acc S2 => Q (.lst acc) S2) ds [] (wipeS S1 is)
theorem lcW_mono {g : VG} {tt : VTT} {te : VT} {is : List Nat} (hg : ∀ d S P P', (∀ S', P S' → P' S') → g d S P → g d S P') (ht : Mono tt) (he : Mono te) {R R' : List PyData → Ss → Prop} (i : ∀ a S, R a S → R' a S) :
    ∀ ds acc S, lcW g tt te is R ds acc S → lcW g tt te is R' ds acc S
  | [], acc, S, q => i acc S q
  | d :: ds, acc, S, q => hg _ _ _ _ (fun S1 z => ht _ _ _ (fun k S2 y => by
    cases k with
    | true => exact he _ _ _ (fun o S3 w => ⟨w.1, lcW_mono hg ht he i ds _ _ w.2⟩) y
    | false => exact lcW_mono hg ht he i ds _ _ y) z) q
theorem wipeS_at {S : Ss} : ∀ {is : List Nat} {i : Nat}, i ∉ is → (wipeS S is)[i]? = S[i]?
  | [], _, _ => rfl
  | j :: js, i, h => by
    show ((wipeS S js).set j .em)[i]? = S[i]?
    rw [List.getElem?_set_ne (fun e => h (by rw [e]; exact List.mem_cons_self))]
    exact wipeS_at fun z => h (List.mem_cons_of_mem _ z)
theorem wipe_wipe {σ : L2.St} (is : List Nat) : L2.wipe (L2.wipe σ is) is = L2.wipe σ is := by
  apply List.ext_getElem?
  intro j
  by_cases h : j ∈ is
  · have em : ∀ {τ : L2.St} {ks : List Nat}, j ∈ ks → (L2.wipe τ ks)[j]? = if j < τ.length then some none else none := by
      intro τ ks
      induction ks with
      | nil => intro z; cases z
      | cons k ks ih =>
        intro z
        show ((L2.wipe τ ks).set k none)[j]? = _
        by_cases e : j = k
        · subst e
          by_cases hl : j < τ.length
          · rw [List.getElem?_set_self (by rw [L2.wipe_length]; exact hl), if_pos hl]
          · rw [List.getElem?_eq_none (by rw [List.length_set, L2.wipe_length]; omega), if_neg hl]
        · rw [List.getElem?_set_ne (Ne.symm e)]
          exact ih ((List.mem_cons.mp z).resolve_left e)
    rw [em h, em h, L2.wipe_length]
  · rw [wipe_at h, wipe_at h]
theorem pts_lift {X : Cx} {t : TT} {u : TT} {ifs : List Expr} (h : PTs X ifs t) (i : ∀ σ H Q, u σ H Q → t σ H Q) : PTs X ifs u := ⟨fun pins s σ H Q I q => h.run pins s σ H Q I (i _ _ _ q)⟩
/-- the tests of a comprehension -/
structure VTs (X : Cx) (ifs : List Expr) (t : VTT) : Prop where
  mono : Mono t
  pts : PTs X ifs (liftT X.K t)
def vYes : VTT := fun S Q => Q true S
theorem vts_nil : VTs X [] vYes := ⟨fun _ _ _ i q => i _ _ q, pts_lift pts_nil fun σ H Q ⟨G, S, F, m, q⟩ => q G H F (Evo.refl G H _) m⟩
theorem vts_one {t : VTT} (h : VTe X c t) : VTs X [c] t := ⟨h.mono, pts_one h.pt⟩
theorem lc_use {K : PySem.W.Frag} {ti : VI} {g : VG} {tt : VTT} {te : VT} (hti : Mono ti) (hg : ∀ d S P P', (∀ S', P S' → P' S') → g d S P → g d S P') (ht : Mono tt) (he : Mono te) {σ : L2.St} {H : Hp} {Q : VK} (hq : lift K (vLc ti g tt te is) σ H Q) :
    tLc (liftI K ti) (liftG K is g) (liftT K tt) (lift K te) is σ H Q := by
  obtain ⟨G, S, F, m, q⟩ := hq
  refine ⟨G, S, F, m, hti _ _ _ (fun ds S1 q1 J G1 H1 F1 ev1 m1 w => ?_) q⟩
  intro D hD
  obtain ⟨F1w, m1w, sub⟩ := m1.wipe is
  let Rr : List PyData → Ss → Prop := fun acc S2 => ∀ G' H' v f F', Evo G H (Mu S F) G' H' (Mu S2 F') → Md K G' H' σ S2 F' → Own K G' H' v (.lst acc) f → (∀ a ∈ f, ¬ Mu S2 F' a) → (∀ a ∈ f, H a = none ∨ Mu S F a) → Q v H'
  -- the state between two turns
  let Pv : Nat → Hp → Prop := fun i H2 => ∃ G2 S2 F2 acc vacc, Md K G2 H2 (L2.wipe σ is) S2 F2 ∧ (∀ i ∈ is, i < S2.length → S2[i]? = some .em) ∧ Evo G H (Mu S F) G2 H2 (Mu S2 F2) ∧ Ex G1 G2 ∧
    G2 D = none ∧ H2 D = some (.lst vacc) ∧ DqA K G2 vacc acc ∧ ¬ Mu S2 F2 D ∧ lcW g tt te is Rr (ds.drop i) acc S2
  have grD : Grow G1 H1 G1 (upd H1 D (.lst [])) := Grow.newO m1.le hD
  have hGD : G1 D = none := fresh_g m1.le hD
  have evw : Evo G H (Mu S F) G1 (upd H1 D (.lst [])) (Mu (wipeS S1 is) F1w) := by
    refine ev1.trans ⟨Ex.refl _, fun a u z _ => grD.he a u z, fun _ _ z => .inl z, fun a z => .inr (sub a z)⟩
  refine lc_it w Pv ⟨G1, wipeS S1 is, F1w, [], [], m1w.grow grD, fun i h1 h2 => wipeS_em h1 (by rw [wipeS_length] at h2; exact h2), evw, Ex.refl _, hGD, upd_same, .nil, fun z => fresh_mu m1 hD (sub D z), by rw [List.drop_zero]; exact q1⟩
    (fun i H2 _ h => let ⟨G2, S2, F2, _, _, m2, _, _, e2, _⟩ := h; e2.trans m2.le) ?_ ?_
  · rintro i x H2 H3 hi' ⟨G2, S2, F2, acc, vacc, m2, em2, ev2, e2, gD, hD2, da, nD, q2⟩ ⟨d, hd, y⟩
    obtain ⟨G3, gr, dd⟩ := y G2 e2 m2.le
    have ed : ds.drop i = d :: ds.drop (i + 1) := by
      obtain ⟨h1, h2⟩ := List.getElem?_eq_some_iff.mp hd
      rw [← h2, List.drop_eq_getElem_cons h1]
    rw [ed] at q2
    have m3 := m2.grow gr
    have ev3 := ev2.trans (gr.evo (Mu S2 F2))
    have gD3 : G3 D = none := gr.none gD hD2
    have hD3 : H3 D = some (.lst vacc) := gr.he _ _ hD2
    refine ⟨G3, S2, F2, d, m3, dd, hg _ _ _ _ (fun S4 z σ4 F4 w4 ev4 m4 => ?_) q2⟩
    rw [wipe_wipe] at w4
    refine ⟨w4, G3, S4, F4, m4, ht _ _ _ (fun k S5 z5 G5 H5 F5 ev5 m5 => ?_) z⟩
    have nD4 : ¬ Mu S4 F4 D := fun z => by
      rcases ev4.fnew D z with y | y
      · rw [hD3] at y; cases y
      · exact nD y
    -- what stands aside: the list that is made
    have stayD : ∀ {G6 H6 : Hp} {S6 : Ss} {F6 : Nat → List Addr}, Evo G3 H3 (Mu S4 F4) G6 H6 (Mu S6 F6) → G6 D = none ∧ H6 D = some (.lst vacc) ∧ DqA K G6 vacc acc ∧ ¬ Mu S6 F6 D := fun {G6 H6 S6 F6} ev6 => by
      have ow : Own K G3 H3 (.ref D) (.lst acc) [D] := ⟨D, vacc, rfl, rfl, gD3, hD3, dpa_mono gr.ge da⟩
      obtain ⟨h1, h2⟩ := ow.stay ev6 fun a ha => by
        have e : a = D := by simpa using ha
        rw [e]; exact nD4
      have n6 : ¬ Mu S6 F6 D := h2 D (by simp)
      obtain ⟨b, vs, e1, e2, g1, g2, g3⟩ := h1
      cases e1
      have e3 := ev6.keep D _ hD3 nD4
      rw [e3] at g2
      cases g2
      exact ⟨g1, e3, g3, n6⟩
    cases k with
    | false =>
      obtain ⟨gD6, hD6, da6, nD6⟩ := stayD ev5
      obtain ⟨F6, m6, sub6⟩ := m5.wipe is
      rw [w4] at m6
      refine ⟨G5, wipeS S5 is, F6, acc, vacc, m6, fun i h1 h2 => wipeS_em h1 (by rw [wipeS_length] at h2; exact h2), ?_, e2.trans (gr.ge.trans ev5.gle), gD6, hD6, da6, fun z => nD6 (sub6 D z), z5⟩
      have e7 := (ev3.trans ev4).trans ev5
      exact ⟨e7.gle, e7.keep, e7.gnew, fun a z => e7.fnew a (sub6 a z)⟩
    | true =>
      refine ⟨G5, S5, F5, m5, he _ _ _ (fun o S7 z7 G7 H7 v f F7 ev7 m7 ow ap nw => ?_) z5⟩
      obtain ⟨gD6, hD6, da6, nD6⟩ := stayD (ev5.trans ev7)
      obtain ⟨G8, g81, d8, m8, g83⟩ := m7.freezeT ow ap
      have fD : D ∉ f := fun hm => by
        rcases nw D hm with y | y
        · have := (stayD ev5).2.1
          rw [this] at y; cases y
        · exact (stayD ev5).2.2.2 y
      have gD8 : G8 D = none := by
        cases z : G8 D with
        | none => rfl
        | some u =>
          rcases g83 D u z with y | y
          · rw [gD6] at y; cases y
          · exact absurd y fD
      have m9 : Md K G8 (upd H7 D (.lst (vacc ++ [v]))) σ4 S7 F7 := by
        refine m8.mono (Ex.refl _) (fun a u z => ?_) (fun a z => (m8.mu z).1) fun a z u y => ?_
        · have ne : a ≠ D := fun e => by rw [e, gD8] at z; cases z
          rw [upd_ne ne]
          exact m8.le a u z
        · have ne : a ≠ D := fun e => nD6 (by rw [← e]; exact z)
          rw [upd_ne ne]
          exact y
      obtain ⟨F9, m10, sub9⟩ := m9.wipe is
      rw [w4] at m10
      refine ⟨vacc, hD6, by rw [dpa_len da6]; exact z7.1, G8, wipeS S7 is, F9, acc ++ [o.dat], vacc ++ [v], m10, fun i h1 h2 => wipeS_em h1 (by rw [wipeS_length] at h2; exact h2), ?_, e2.trans (gr.ge.trans (ev5.gle.trans (ev7.gle.trans g81))), gD8, upd_same, dpa_app (dpa_mono g81 da6) (.cons d8 .nil), fun z => nD6 (sub9 D z), z7.2⟩
      have e7 := (((ev3.trans ev4).trans ev5).trans ev7).given g81 g83 fun a ha => ((ev3.trans ev4).trans ev5).back (nw a ha)
      refine ⟨e7.gle, fun a u z n => ?_, e7.gnew, fun a z => e7.fnew a (sub9 a z)⟩
      have ne : a ≠ D := fun e => by
        have q8 := ev1.keep a u z n
        rw [e, hD] at q8
        cases q8
      rw [upd_ne ne]
      exact e7.keep a u z n
  · rintro H2 ⟨G2, S2, F2, acc, vacc, m2, em2, ev2, e2, gD, hD2, da, nD, q2⟩
    rw [List.drop_eq_nil_of_le (Nat.le_refl _)] at q2
    have q3 : Rr acc S2 := q2
    refine q3 G2 H2 (.ref D) [D] F2 ev2 (m2.unwipe em2) ⟨D, vacc, rfl, rfl, gD, hD2, da⟩ (fun a ha => ?_) fun a ha => ?_
    · have e : a = D := by simpa using ha
      rw [e]; exact nD
    · have e : a = D := by simpa using ha
      rw [e]; exact ev1.back (.inl hD)
theorem vLc_mono {ti : VI} {g : VG} {tt : VTT} {te : VT} (hti : Mono ti) (hg : ∀ d S P P', (∀ S', P S' → P' S') → g d S P → g d S P') (ht : Mono tt) (he : Mono te) : Mono (vLc ti g tt te is) := fun S P P' i q =>
  hti _ _ _ (fun ds S1 z => lcW_mono hg ht he (fun acc S2 y => i _ _ y) ds [] _ z) q
theorem ve_lc {elt iter : Expr} {ifs : List Expr} {scope : Scope} {own : List (Str × Nat)} {ti : VI} {g : VG} {tt : VTT} {te : VT} (hc : X.calm = true) (hN : X.N.Nodup) (hi : VIt X tg iter ti) (ok : BlkOk X.N X.env.scope scope own)
    (hg : ∀ (s : Shared) (H : Hp) (C : Addr) (cl : List (Str × Addr)) (fp : List Addr), VGt (X.blk s H scope (compEnvC scope cl C X.env) fp) (own.map (·.2)) tg g)
    (ht : ∀ (s : Shared) (H : Hp) (C : Addr) (cl : List (Str × Addr)) (fp : List Addr), VTs (X.blk s H scope (compEnvC scope cl C X.env) fp) ifs tt)
    (he : ∀ (s : Shared) (H : Hp) (C : Addr) (cl : List (Str × Addr)) (fp : List Addr), VE (X.blk s H scope (compEnvC scope cl C X.env) fp) elt te) (hs : ∀ x, foldedSetIterable iter X.env x = pure x) (s0 : Shared) :
    VE X (.ListComp elt [⟨tg, iter, ifs, 0⟩] scope pos) (vLc ti g tt te (own.map (·.2))) := by
  have mg := (hg s0 (fun _ => none) 0 [] []).mono
  have mt := (ht s0 (fun _ => none) 0 [] []).mono
  have me := (he s0 (fun _ => none) 0 [] []).mono
  exact ⟨vLc_mono hi.mono mg mt me, PE.imp (pe_lc hc hN hi.pi ok (fun s H C cl fp => (hg s H C cl fp).pg) (fun s H C cl fp => (ht s H C cl fp).pts) (fun s H C cl fp => (he s H C cl fp).pe) hs) fun σ H Q hq => lc_use hi.mono mg mt me hq⟩
end
end VL

/-! the value layer, fifth part: defs and their calls -/
set_option Elab.async false
set_option linter.all false
set_option maxRecDepth 100000
namespace VL
open PySem PySem.Spec PyProof.Rows L2
open Evl (Ex ex_l ex_t)
variable [Wd]

/-! ### a def that is called where no repr is under way -/
structure FnG (P : Program) (w : World) (K : PySem.W.Frag) (mg : Str → Option Value) (base : Heap) (CX : CXT) (k : Nat) (f : Addr) (fd : FuncData) (ps : List Str) (sp : Sp) : Prop where
  len : ∀ vs H Q E, sp vs H Q E → vs.length = ps.length
  run : ∀ (A : Around) (outer : List Env) (s : Shared) (H : Hp) (args : Args) (us : List Value) (vs : List V) (Q : VK) (E : XK), Room k A → A.guards = some [] → Env0 P w K mg base A outer s H →
    BindsTo s fd args (ps.zip us) → Vals vs us → sp vs H Q E → codeAny (model P w) A (.call (.ref f) args) (CR CX outer P w H s Q E) s
theorem FnG.mono {P : Program} {w : World} {K : PySem.W.Frag} {mg : Str → Option Value} {base : Heap} {CX : CXT} {j k : Nat} {f : Addr} {fd : FuncData} {ps : List Str} {sp : Sp} (F : FnG P w K mg base CX j f fd ps sp) (h : j ≤ k) : FnG P w K mg base CX k f fd ps sp :=
  ⟨F.len, fun A outer s H args us vs Q E hr hg => F.run A outer s H args us vs Q E (hr.mono h) hg⟩

section
variable {X : Cx} {CX : CXT} {k : Nat} {f C : Addr} {fd : FuncData} {ps ks : List Str} {sp : Sp} {E : XK} {x m : Str} {p pos apos : Pos} {e o : Expr} {es : List Expr} {ta : TE} {t tk : TA} {kws : List Keyword}
theorem rung {pins : List (Addr × Obj)} {σ : L2.St} {H : Hp} {s : Shared} {Q : VK} {us : List Value} {vs : List V} (F : FnG X.prog X.w X.K X.mg X.base CX k f fd ps sp) (hr : Room k X.A) (hgd : X.A.guards = some []) (hb : Binds X.K fd ps []) (hx : Passes CX X E)
    (I : Inv X pins σ H s) (r : Vals vs us) (h : sp vs H Q E) : wpAny (model X.prog X.w) X.A (call (.ref f) us) (EP X pins σ Q) X.xe s := by
  have hl : (us ++ ([] : List Value)).length = ps.length := by rw [List.append_nil, ← r.length]; exact F.len _ _ _ _ h
  have bd := hb s us I.kIn hl
  rw [List.append_nil] at bd
  refine wpAny_call (codeAny_mono (F.run X.A X.stack s H _ us vs Q E hr hgd I.env0 bd r h) fun rr s' hq => ?_)
  match rr, hq with
  | .error e, hq => exact hx pins σ H s e s' I hq
  | .ok (.ret u), hq => exact I.after hq
  | .ok .next, hq => exact False.elim hq
  | .ok .brk, hq => exact False.elim hq
  | .ok .cont, hq => exact False.elim hq
/-- f(e, ..) -/
theorem peg_call (F : FnG X.prog X.w X.K X.mg X.base CX k f fd ps sp) (hr : Room k X.A) (hgd : X.A.guards = some []) (hg : Gl X x) (hm : X.mg x = some (.ref f)) (hk : PySem.W.keepIn X.K (.ref f) = true) (hb : Binds X.K fd ps []) (hx : Passes CX X E)
    (ha : PA X (e :: es) t) (hdb : (x == ("__debug__" : Str)) = false) (he : starEach (e :: es) X.env = (false, eval e X.env) :: starEach es X.env) (hpl : (backTo pos (starEach es X.env)).any (·.1) = false) :
    PE X (.Call (.Name x p) (e :: es) [] pos) (fun σ H Q => t σ H fun vs H1 => sp vs H1 Q E) := by
  constructor
  intro pins s σ H Q I h
  refine wpAny_Call_Name_kw (ld_glob I hg hm ?_ hdb)
  refine PySem.W.callWith_K (h₀ := X.base) I.ok.mod.kin hk (thn (ha.run pos pins s σ H _ I h) fun us s1 hq => ?_) he hpl
  obtain ⟨vs, H1, I1, r, q⟩ := hq
  exact ⟨I1.kIn, rung F hr hgd hb hx I1 r q⟩
theorem rungk {pins : List (Addr × Obj)} {σ : L2.St} {H : Hp} {s : Shared} {Q : VK} {us ws : List Value} {vs zs : List V} {g : List Value → List Value → List Value} {gV : List V → List V → List V} (F : FnG X.prog X.w X.K X.mg X.base CX k f fd ps sp) (hr : Room k X.A) (hgd : X.A.guards = some [])
    (hb : KBinds X.K fd ps ks g gV) (hx : Passes CX X E) (I : Inv X pins σ H s) (r : Vals vs us) (rz : Vals zs ws) (h : sp (gV vs zs) H Q E) : wpAny (model X.prog X.w) X.A (call (.ref f) us (ks.zip ws)) (EP X pins σ Q) X.xe s := by
  have r2 := hb.rel r rz
  have hl : (g us ws).length = ps.length := by rw [← r2.length]; exact F.len _ _ _ _ h
  refine wpAny_call (codeAny_mono (F.run X.A X.stack s H _ _ _ Q E hr hgd I.env0 (hb.to s us ws I.kIn hl) r2 h) fun rr s' hq => ?_)
  match rr, hq with
  | .error e, hq => exact hx pins σ H s e s' I hq
  | .ok (.ret u), hq => exact I.after hq
  | .ok .next, hq => exact False.elim hq
  | .ok .brk, hq => exact False.elim hq
  | .ok .cont, hq => exact False.elim hq
end
/-- THE RULE: a def of the text, by its body -/
theorem fng {P : Program} {w : World} {K : PySem.W.Frag} {mg : Str → Option Value} {base : Heap} {CX : CXT} {x qual : Str} {st : Stmt} {f : Addr} {fd : FuncData} {N ps : List Str} {k : Nat} {sp : Sp} (F : Fun K x qual st f fd) (S : FnScope N ps (defScope st)) (len : ∀ vs H Q E, sp vs H Q E → vs.length = ps.length)
    (hbody : ∀ (cdv : Value) (A : Around) (outer : List Env) (s : Shared) (H : Hp) (vs : List V) (Q : VK) (E : XK), Room k (A.deeper (envOfC qual (defScope st) s.heap.objs.size f cdv)) → A.guards = some [] → sp vs H Q E →
      ∃ t, PSs (cxOf CX P w K mg base N qual (defScope st) f cdv A outer s H E) (defBody st) t ∧ t { nx := fun _ H' => Q .non H', rt := Q } (start N vs) H) : FnG P w K mg base CX (k + 1) f fd ps sp := by
  obtain ⟨oc, od, kV, doc, pm, an, cdv, ct, osl, rfl, lk, hcd⟩ := F.ex
  refine ⟨len, fun A outer s H args us vs Q E hr hgd e0 hb r hsp => ?_⟩
  -- the general rule at a promise that tells where it is called
  have hl := len _ _ _ _ hsp
  have KX : K.In s.heap := e0.mod.kin.keeps fun b o e => (e0.bs b o e).1
  have lim : s.heap.NoLimit := e0.mod.nolimit.keeps fun b o e => (e0.bs b o e).1
  have hkind : ∀ y ∈ ps.zip us, (defScope st).names.lookup y.1 = some .local ∨ ((defScope st).names.lookup y.1 = some .cell ∧ ((cellsFrom (s.heap.objs.size + 1) (defScope st).names []).lookup y.1).isSome = true) := by
    rintro ⟨n, v⟩ hy
    exact (S.par n (List.of_mem_zip hy).1).imp id fun q => ⟨q, PySem.W.cellsFrom_some _ _ _ (.inl q)⟩
  refine codeAny_call_function hr.depth (KX _ _ lk) rfl S.co S.gen rfl (PySem.W.codeRec_of KX hcd) (hb _ _ _ _ ?_)
  refine wpAny_newFunctionEnv_cells S.kind hkind fun env he s1 x1 => ?_
  subst he
  refine ⟨lim.keeps x1.toInCall.keep, codeAny_func ?_⟩
  obtain ⟨t, ht, hq⟩ := hbody cdv A outer s H vs Q E (hr.deeper _) hgd hsp
  have I : Inv (cxOf CX P w K mg base N qual (defScope st) f cdv A outer s H E) [] (start N vs) H s1 := inv_start S hr.hd e0 hl r x1
  refine wpAny_mono (ht.run [] s1 (start N vs) H _ I hq) (fun fl s' hs => ?_) fun e s' hs => hs
  match fl, hs with
  | .ret u, hs =>
    obtain ⟨v, σ', H', J, rv, q⟩ := hs
    exact ⟨v, H', J.os, J.bare, J.base, J.hok, rv, q⟩
  | .next, hs =>
    obtain ⟨σ', H', J, q⟩ := hs
    exact ⟨V.non, H', J.os, J.bare, J.base, J.hok, rfl, q⟩
  | .brk, hs =>
    obtain ⟨_, _, _, q⟩ := hs
    exact False.elim q
  | .cont, hs =>
    obtain ⟨_, _, _, q⟩ := hs
    exact False.elim q

/-! ### promises over data -/
/-- a promise: the arguments, the wanted end (the answer, the arguments as they stand behind) -/
abbrev VSp := List O → (O → List O → Prop) → Prop
inductive OwnA (K : PySem.W.Frag) (G H : Hp) : List V → List O → List (List Addr) → Prop
  | nil : OwnA K G H [] [] []
  | cons {v : V} {o : O} {f : List Addr} {vs : List V} {os : List O} {fs : List (List Addr)} : Own K G H v o f → OwnA K G H vs os fs → OwnA K G H (v :: vs) (o :: os) (f :: fs)
/-- the owned parts stand apart -/
def Apart (fs : List (List Addr)) : Prop := ∀ (i j : Nat) (f g : List Addr) (a : Addr), fs[i]? = some f → fs[j]? = some g → a ∈ f → a ∈ g → i = j
def In (fs : List (List Addr)) (a : Addr) : Prop := ∃ f ∈ fs, a ∈ f
/-- an argument that is not changed for the caller is shared data -/
def ShOk : List Bool → List O → Prop
  | [], [] => True
  | true :: ms, _ :: os => ShOk ms os
  | false :: ms, .sh _ :: os => ShOk ms os
  | _, _ => False
def spV (K : PySem.W.Frag) (ms : List Bool) (spec : VSp) : Sp := fun vs H Q _ => vs.length = ms.length ∧ ∃ G os fs, Ex G H ∧ OwnA K G H vs os fs ∧ Apart fs ∧ ShOk ms os ∧ spec os fun r os' => ∀ G' H' v f fs', Evo G H (In fs) G' H' (In fs') → Ex G' H' → Own K G' H' v r f →
  OwnA K G' H' vs os' fs' → Apart fs' → (∀ a ∈ f, ¬ In fs' a) → (∀ a ∈ f, H a = none ∨ In fs a) → Q v H'
/-- the slots at the entry: a shared argument, one that the def changes for its caller -/
def slotsOf : List Bool → List V → List O → List Sl
  | true :: ms, v :: vs, o :: os => .io v o :: slotsOf ms vs os
  | false :: ms, _ :: vs, o :: os => .ow o :: slotsOf ms vs os
  | _, _, _ => []
/-- the arguments behind the body -/
inductive Outs : List Bool → List V → List O → Ss → List O → Prop
  | nil {S : Ss} : Outs [] [] [] S []
  | io {ms : List Bool} {v : V} {vs : List V} {o o' : O} {os os' : List O} {S : Ss} : Outs ms vs os S os' → Outs (true :: ms) (v :: vs) (o :: os) (.io v o' :: S) (o' :: os')
  | sh {ms : List Bool} {v : V} {vs : List V} {d : PyData} {s : Sl} {os os' : List O} {S : Ss} : Outs ms vs os S os' → Outs (false :: ms) (v :: vs) (.sh d :: os) (s :: S) (.sh d :: os')

section
variable {K : PySem.W.Frag} {G H G' H' : Hp}
theorem OwnA.len : ∀ {vs : List V} {os : List O} {fs : List (List Addr)}, OwnA K G H vs os fs → vs.length = os.length ∧ fs.length = os.length
  | _, _, _, .nil => ⟨rfl, rfl⟩
  | _, _, _, .cons _ t => by
    have q := OwnA.len t
    exact ⟨by rw [List.length_cons, List.length_cons, q.1], by rw [List.length_cons, List.length_cons, q.2]⟩
/-- slot by slot at the entry -/
theorem entry_at : ∀ {ms : List Bool} {vs : List V} {os : List O} {fs : List (List Addr)}, vs.length = ms.length → OwnA K G H vs os fs → ∀ (i : Nat) (s : Sl), (slotsOf ms vs os)[i]? = some s → ∃ v, vs[i]? = some v ∧ SlOk K G H (some v) s (fs.getD i [])
  | [], _, _, _, hl, .nil, i, s, h => by simp [slotsOf] at h
  | [], _, _, _, hl, .cons _ _, i, s, h => by simp at hl
  | m :: ms, _, _, _, hl, .nil, i, s, h => by simp at hl
  | true :: ms, v :: vs, o :: os, f :: fs, hl, .cons w t, 0, s, h => by
    have h : some (Sl.io v o) = some s := h
    cases h
    exact ⟨v, rfl, rfl, w⟩
  | false :: ms, v :: vs, o :: os, f :: fs, hl, .cons w t, 0, s, h => by
    have h : some (Sl.ow o) = some s := h
    cases h
    exact ⟨v, rfl, w⟩
  | true :: ms, v :: vs, o :: os, f :: fs, hl, .cons w t, i + 1, s, h => by
    have h : (slotsOf ms vs os)[i]? = some s := h
    obtain ⟨u, e, q⟩ := entry_at (ms := ms) (by simpa using hl) t i s h
    exact ⟨u, e, q⟩
  | false :: ms, v :: vs, o :: os, f :: fs, hl, .cons w t, i + 1, s, h => by
    have h : (slotsOf ms vs os)[i]? = some s := h
    obtain ⟨u, e, q⟩ := entry_at (ms := ms) (by simpa using hl) t i s h
    exact ⟨u, e, q⟩
theorem slotsOf_len : ∀ {ms : List Bool} {vs : List V} {os : List O}, vs.length = ms.length → os.length = ms.length → (slotsOf ms vs os).length = ms.length
  | [], [], [], _, _ => rfl
  | true :: ms, v :: vs, o :: os, h1, h2 => by
    show (slotsOf ms vs os).length + 1 = ms.length + 1
    rw [slotsOf_len (by simpa using h1) (by simpa using h2)]
  | false :: ms, v :: vs, o :: os, h1, h2 => by
    show (slotsOf ms vs os).length + 1 = ms.length + 1
    rw [slotsOf_len (by simpa using h1) (by simpa using h2)]
theorem getD_mem {fs : List (List Addr)} {i : Nat} {a : Addr} (h : a ∈ fs.getD i []) : ∃ f, fs[i]? = some f ∧ a ∈ f := by
  rw [List.getD_eq_getElem?_getD] at h
  cases e : fs[i]? with
  | none => rw [e] at h; cases h
  | some f => rw [e] at h; exact ⟨f, rfl, h⟩
theorem md_entry {N : List Str} {ms : List Bool} {vs : List V} {os : List O} {fs : List (List Addr)} (le : Ex G H) (hl : vs.length = ms.length) (hn : ms.length ≤ N.length) (w : OwnA K G H vs os fs) (ap : Apart fs) :
    Md K G H (start N vs) (slotsOf ms vs os ++ List.replicate (N.length - ms.length) .em) (fun i => fs.getD i []) ∧ ∀ a, Mu (slotsOf ms vs os ++ List.replicate (N.length - ms.length) .em) (fun i => fs.getD i []) a ↔ In fs a := by
  have ol := w.len
  have sl := slotsOf_len (ms := ms) hl (by omega : os.length = ms.length)
  refine ⟨⟨le, ?_, fun i s h => ?_, fun i j a _ _ h1 h2 => ?_⟩, fun a => ⟨fun ⟨i, _, h⟩ => ?_, fun ⟨f, hf, ha⟩ => ?_⟩⟩
  · unfold L2.start
    rw [List.length_append, List.length_append, List.length_map, List.length_replicate, List.length_replicate, sl]
    omega
  · by_cases hi : i < ms.length
    · rw [List.getElem?_append_left (by omega)] at h
      obtain ⟨v, e, q⟩ := entry_at hl w i s h
      refine ⟨some v, ?_, q⟩
      unfold L2.start
      rw [List.getElem?_append_left (by rw [List.length_map]; omega), List.getElem?_map, e]
      rfl
    · rw [List.getElem?_append_right (by omega), List.getElem?_replicate] at h
      split at h
      · cases h
        refine ⟨none, ?_, ?_⟩
        · unfold L2.start
          rw [List.getElem?_append_right (by rw [List.length_map]; omega), List.getElem?_replicate, List.length_map, if_pos (by omega)]
        · show fs.getD i [] = []
          rw [List.getD_eq_getElem?_getD, List.getElem?_eq_none (by omega)]
          rfl
      · cases h
  · obtain ⟨f, e1, m1⟩ := getD_mem h1
    obtain ⟨g, e2, m2⟩ := getD_mem h2
    exact ap i j f g a e1 e2 m1 m2
  · obtain ⟨f, e1, m1⟩ := getD_mem h
    exact ⟨f, List.mem_of_getElem? e1, m1⟩
  · obtain ⟨i, hi, e⟩ := List.getElem_of_mem hf
    refine ⟨i, ?_, ?_⟩
    · rw [List.length_append, sl]
      omega
    · show a ∈ fs.getD i []
      rw [List.getD_eq_getElem?_getD, List.getElem?_eq_getElem hi]
      show a ∈ fs[i]
      rw [e]
      exact ha
/-- what the arguments own behind the body -/
theorem outs_own : ∀ {ms : List Bool} {vs : List V} {os os' : List O} {fs : List (List Addr)} {S : Ss} {σ : L2.St} {F : Nat → List Addr} {n : Nat}, Outs ms vs os S os' → OwnA K G H vs os fs → Ex G G' →
    (∀ i s, S[i]? = some s → ∃ x, σ[i]? = some x ∧ SlOk K G' H' x s (F (n + i))) →
    ∃ fs', OwnA K G' H' vs os' fs' ∧ ∀ i f, fs'[i]? = some f → ∀ a ∈ f, a ∈ F (n + i) ∧ i < S.length
  | _, _, _, _, _, S, σ, F, n, .nil, .nil, _, _ => ⟨[], .nil, fun i f h => by simp at h⟩
  | _, _, _, _, _, _, σ, F, n, .io (o' := o') (S := S) h, .cons w t, e, m => by
    obtain ⟨x, e1, q⟩ := m 0 _ rfl
    obtain ⟨fs', w', sub⟩ := outs_own (σ := σ.drop 1) (F := F) (n := n + 1) h t e fun i s hs => by
      obtain ⟨y, e2, q2⟩ := m (i + 1) s hs
      refine ⟨y, by rw [List.getElem?_drop, Nat.add_comm]; exact e2, ?_⟩
      rw [show n + 1 + i = n + (i + 1) by omega]
      exact q2
    cases x with
    | none => exact q.elim
    | some u =>
      obtain ⟨eu, qo⟩ := q
      subst eu
      refine ⟨F (n + 0) :: fs', .cons qo w', fun i f hf a ha => ?_⟩
      cases i with
      | zero => cases hf; exact ⟨ha, Nat.succ_pos _⟩
      | succ i =>
        obtain ⟨h1, h2⟩ := sub i f hf a ha
        exact ⟨by rw [show n + (i + 1) = n + 1 + i by omega]; exact h1, Nat.succ_lt_succ h2⟩
  | _, _, _, _, _, _, σ, F, n, .sh (s := s0) (S := S) h, .cons w t, e, m => by
    obtain ⟨fs', w', sub⟩ := outs_own (σ := σ.drop 1) (F := F) (n := n + 1) h t e fun i s hs => by
      obtain ⟨y, e2, q2⟩ := m (i + 1) s hs
      refine ⟨y, by rw [List.getElem?_drop, Nat.add_comm]; exact e2, ?_⟩
      rw [show n + 1 + i = n + (i + 1) by omega]
      exact q2
    refine ⟨[] :: fs', .cons ⟨rfl, dp_mono e w.2⟩ w', fun i f hf a ha => ?_⟩
    cases i with
    | zero => cases hf; cases ha
    | succ i =>
      obtain ⟨h1, h2⟩ := sub i f hf a ha
      exact ⟨by rw [show n + (i + 1) = n + 1 + i by omega]; exact h1, Nat.succ_lt_succ h2⟩
end
/-- what is wanted behind a body -/
def endsP (ms : List Bool) (vs : List V) (os : List O) (P : O → List O → Prop) : VEnds where
  nx := fun S => ∃ os', Outs ms vs os S os' ∧ P (.sh .none) os'
  rt := fun o S => ∃ os', Outs ms vs os S os' ∧ P o os'
/-- THE RULE over data -/
theorem fnv {P : Program} {w : World} {K : PySem.W.Frag} {mg : Str → Option Value} {base : Heap} {CX : CXT} {x qual : Str} {st : Stmt} {f : Addr} {fd : FuncData} {N ps : List Str} {k : Nat} {ms : List Bool} {spec : VSp} (F : Fun K x qual st f fd) (S : FnScope N ps (defScope st)) (hm : ms.length = ps.length)
    (hbody : ∀ (cdv : Value) (A : Around) (outer : List Env) (s : Shared) (H : Hp) (E : XK), Room k (A.deeper (envOfC qual (defScope st) s.heap.objs.size f cdv)) → A.guards = some [] →
      ∃ t, VSs (cxOf CX P w K mg base N qual (defScope st) f cdv A outer s H E).nox (defBody st) t ∧ ∀ (vs : List V) (os : List O) (R : O → List O → Prop), vs.length = ms.length → os.length = ms.length → ShOk ms os → spec os R →
        t (endsP ms vs os R) (slotsOf ms vs os ++ List.replicate (N.length - ms.length) .em)) : FnG P w K mg base CX (k + 1) f fd ps (spV K ms spec) := by
  refine fng F S (fun vs H Q E h => h.1.trans hm) fun cdv A outer s H vs Q E hr hg h => ?_
  obtain ⟨t, ht, run⟩ := hbody cdv A outer s H E hr hg
  refine ⟨liftS K t, PSs.nox ht.pss, ?_⟩
  obtain ⟨hl, G, os, fs, le, w1, ap, sh, hs⟩ := h
  have hp : ps.length ≤ N.length := by
    have q := congrArg List.length S.pre
    rw [List.length_take] at q
    omega
  obtain ⟨m, mi⟩ := md_entry (N := N) (ms := ms) le hl (by omega) w1 ap
  refine ⟨G, _, _, m, ht.mono _ _ _ ?_ (run vs os _ hl (by have := w1.len; omega) sh hs)⟩
  have fin : ∀ (o : O) (S' : Ss), (∃ os', Outs ms vs os S' os' ∧ ∀ G' H' v f fs', Evo G H (In fs) G' H' (In fs') → Ex G' H' → Own K G' H' v o f → OwnA K G' H' vs os' fs' → Apart fs' → (∀ a ∈ f, ¬ In fs' a) → (∀ a ∈ f, H a = none ∨ In fs a) → Q v H') →
      ∀ G' H' σ' v f F', Evo G H (Mu (slotsOf ms vs os ++ List.replicate (N.length - ms.length) .em) fun i => fs.getD i []) G' H' (Mu S' F') → Md K G' H' σ' S' F' → Own K G' H' v o f → (∀ a ∈ f, ¬ Mu S' F' a) → (∀ a ∈ f, H a = none ∨ In fs a) → Q v H' := by
    rintro o S' ⟨os', ho, hq⟩ G' H' σ' v f F' ev m' ow ap' nw
    obtain ⟨fs', w', sub⟩ := outs_own (G := G) (H := H) (σ := σ') (F := F') (n := 0) ho w1 ev.gle fun i s h => by
      rw [Nat.zero_add]
      exact m'.sl i s h
    have inm : ∀ a, In fs' a → Mu S' F' a := fun a ⟨g, hg, ha⟩ => by
      obtain ⟨i, hi, e⟩ := List.getElem_of_mem hg
      obtain ⟨h1, h2⟩ := sub i g (by rw [List.getElem?_eq_getElem hi, e]) a ha
      rw [Nat.zero_add] at h1
      exact ⟨i, h2, h1⟩
    refine hq G' H' v f fs' ⟨ev.gle, fun a u z n => ev.keep a u z fun y => n ((mi a).mp y), fun a u z => (ev.gnew a u z).imp id fun y => y.imp id (mi a).mp, fun a z => (ev.fnew a (inm a z)).imp id (mi a).mp⟩ m'.le ow w' (fun i j g g' a h1 h2 h3 h4 => ?_) (fun a ha z => ap' a ha (inm a z)) nw
    obtain ⟨p1, p2⟩ := sub i g h1 a h3
    obtain ⟨p3, p4⟩ := sub j g' h2 a h4
    rw [Nat.zero_add] at p1 p3
    exact m'.dj i j a p2 p4 p1 p3
  refine VEnds.Le.mk (fun S' hS G' H' σ' F' ev m' => ?_) (fun o S' hS G' H' σ' v f F' ev m' ow ap' nw => ?_) (fun _ hS => False.elim hS) fun _ hS => False.elim hS
  · exact fin _ S' hS G' H' σ' .non [] F' ev m' ⟨rfl, .non⟩ (fun _ z => nomatch z) fun _ z => nomatch z
  · exact fin o S' hS G' H' σ' v f F' ev m' ow ap' fun a ha => (nw a ha).imp id (mi a).mp
end VL

/-! the value layer, sixth part: calls of defs over data -/
set_option Elab.async false
set_option linter.all false
set_option maxRecDepth 100000
namespace VL
open PySem PySem.Spec PyProof.Rows L2
open Evl (Ex ex_l ex_t)
variable [Wd]

def ioIdx : List Bool → List Bo → List Nat
  | true :: ms, .slot i :: bs => i :: ioIdx ms bs
  | false :: ms, _ :: bs => ioIdx ms bs
  | _, _ => []
def resolve (S : Ss) : List Bool → List Bo → Option (List O)
  | [], [] => some []
  | false :: ms, .val d :: bs => (resolve S ms bs).map fun os => .sh d :: os
  | true :: ms, .slot i :: bs => (S[i]?.bind Sl.con).bind fun o => (resolve S ms bs).map fun os => o :: os
  | _, _ => none
def pb (S : Ss) : List Bool → List Bo → List O → Ss → Ss
  | true :: ms, .slot i :: bs, o :: os, T => pb S ms bs os (T.set i ((S.getD i .em).put o))
  | false :: ms, _ :: bs, _ :: os, T => pb S ms bs os T
  | _, _, _, T => T
def wipeF (F : Nat → List Addr) (is : List Nat) : Nat → List Addr := fun i => if i ∈ is then [] else F i
section
variable {K : PySem.W.Frag} {G H G1 H1 : Hp} {σ : L2.St} {S : Ss} {F : Nat → List Addr}
theorem Md.out (m : Md K G H σ S F) (is : List Nat) : Md K G H σ (wipeS S is) (wipeF F is) where
  le := m.le
  len := by rw [wipeS_length]; exact m.len
  sl := fun i s h => by
    by_cases hi : i ∈ is
    · have hl : i < S.length := by rw [← wipeS_length S is]; exact (List.getElem?_eq_some_iff.mp h).1
      rw [wipeS_em hi hl] at h
      cases h
      have hl' : i < σ.length := by rw [m.len]; exact hl
      refine ⟨σ[i], List.getElem?_eq_getElem hl', ?_⟩
      have e : wipeF F is i = [] := if_pos hi
      rw [e]
      cases σ[i] <;> rfl
    · rw [wipeS_at hi] at h
      obtain ⟨x, e, q⟩ := m.sl i s h
      have e2 : wipeF F is i = F i := if_neg hi
      exact ⟨x, e, by rw [e2]; exact q⟩
  dj := fun i j a hi hj h1 h2 => by
    rw [wipeS_length] at hi hj
    unfold wipeF at h1 h2
    split at h1
    · cases h1
    · split at h2
      · cases h2
      · exact m.dj i j a hi hj h1 h2
theorem mu_out {is : List Nat} {a : Addr} (h : Mu (wipeS S is) (wipeF F is) a) : ∃ i, i < S.length ∧ i ∉ is ∧ a ∈ F i := by
  obtain ⟨i, hi, ha⟩ := h
  rw [wipeS_length] at hi
  unfold wipeF at ha
  split at ha
  · cases ha
  · rename_i n
    exact ⟨i, hi, n, ha⟩
/-- what the arguments own at the call -/
theorem args_own (m : Md K G H σ S F) : ∀ {ms : List Bool} {bs : List Bo} {vs : List V} {os : List O}, BoAll K G σ bs vs → resolve S ms bs = some os →
    ∃ fs, OwnA K G H vs os fs ∧ ShOk ms os ∧ vs.length = ms.length ∧ (∀ (j : Nat) (f : List Addr), fs[j]? = some f → f = [] ∨ ∃ i : Nat, bs[j]? = some (.slot i) ∧ i ∈ ioIdx ms bs ∧ i < S.length ∧ f = F i)
  | [], [], _, os, .nil, h => by cases h; exact ⟨[], .nil, trivial, rfl, fun j f h => by simp at h⟩
  | false :: ms, .val d :: bs, _, os, .cons hb t, h => by
    have h : (resolve S ms bs).map (fun os => O.sh d :: os) = some os := h
    cases q : resolve S ms bs with
    | none => rw [q] at h; cases h
    | some r =>
      rw [q] at h
      cases h
      obtain ⟨fs, w, sh, l, sub⟩ := args_own m t q
      refine ⟨[] :: fs, .cons ⟨rfl, hb⟩ w, sh, by simp [l], fun j f hf => ?_⟩
      cases j with
      | zero => cases hf; exact .inl rfl
      | succ j =>
        rcases sub j f hf with z | ⟨i, z1, z2, z3⟩
        · exact .inl z
        · exact .inr ⟨i, z1, z2, z3⟩
  | true :: ms, .slot i :: bs, _, os, .cons hb t, h => by
    have h : (S[i]?.bind Sl.con).bind (fun o => (resolve S ms bs).map fun os => o :: os) = some os := h
    cases q0 : S[i]? with
    | none => rw [q0] at h; cases h
    | some s =>
      rw [q0] at h
      have h : (s.con).bind (fun o => (resolve S ms bs).map fun os => o :: os) = some os := h
      cases q1 : s.con with
      | none => rw [q1] at h; cases h
      | some o =>
        rw [q1] at h
        have h : (resolve S ms bs).map (fun os => o :: os) = some os := h
        cases q : resolve S ms bs with
        | none => rw [q] at h; cases h
        | some r =>
          rw [q] at h
          cases h
          obtain ⟨fs, w, sh, l, sub⟩ := args_own m t q
          obtain ⟨v, e, ow⟩ := m.at q0 q1
          have hb : σ[i]? = some (some _) := hb
          rw [hb] at e
          cases e
          refine ⟨F i :: fs, .cons ow w, sh, by simp [l], fun j f hf => ?_⟩
          cases j with
          | zero => cases hf; exact .inr ⟨i, rfl, List.mem_cons_self, m.lt q0, rfl⟩
          | succ j =>
            rcases sub j f hf with z | ⟨i', z1, z2, z3⟩
            · exact .inl z
            · exact .inr ⟨i', z1, List.mem_cons_of_mem _ z2, z3⟩
  | [], _ :: _, _, _, _, h => by cases h
  | true :: _, [], _, _, .nil, h => by cases h
  | false :: _, [], _, _, .nil, h => by cases h
  | false :: ms, .slot i :: bs, _, _, _, h => by cases h
  | true :: ms, .val d :: bs, _, _, _, h => by cases h
theorem idx_io : ∀ {ms : List Bool} {bs : List Bo} {j i : Nat}, bs[j]? = some (.slot i) → i ∈ ioIdx ms bs → True := fun _ _ => trivial
/-- two places of the arguments with one slot are one place -/
theorem slot_one : ∀ {ms : List Bool} {bs : List Bo} {os : List O}, resolve S ms bs = some os → (ioIdx ms bs).Nodup → ∀ {j k i : Nat}, bs[j]? = some (.slot i) → bs[k]? = some (.slot i) → j = k
  | [], [], _, _, _, j, k, i, h1, _ => by simp at h1
  | false :: ms, .val d :: bs, os, h, nd, j, k, i, h1, h2 => by
    have h : (resolve S ms bs).map (fun os => O.sh d :: os) = some os := h
    cases q : resolve S ms bs with
    | none => rw [q] at h; cases h
    | some r =>
      cases j with
      | zero => cases h1
      | succ j =>
        cases k with
        | zero => cases h2
        | succ k => rw [slot_one q nd (j := j) (k := k) (by simpa using h1) (by simpa using h2)]
  | true :: ms, .slot i0 :: bs, os, h, nd, j, k, i, h1, h2 => by
    have h : (S[i0]?.bind Sl.con).bind (fun o => (resolve S ms bs).map fun os => o :: os) = some os := h
    cases q0 : S[i0]?.bind Sl.con with
    | none => rw [q0] at h; cases h
    | some o =>
      rw [q0] at h
      have h : (resolve S ms bs).map (fun os => o :: os) = some os := h
      cases q : resolve S ms bs with
      | none => rw [q] at h; cases h
      | some r =>
        have nd' : i0 ∉ ioIdx ms bs ∧ (ioIdx ms bs).Nodup := List.nodup_cons.mp nd
        have mem : ∀ {ms : List Bool} {bs : List Bo} {r : List O} {j : Nat} {i : Nat}, resolve S ms bs = some r → bs[j]? = some (.slot i) → i ∈ ioIdx ms bs := by
          intro ms
          induction ms with
          | nil =>
            intro bs r j i e h
            cases bs with
            | nil => simp at h
            | cons b bs => cases e
          | cons b ms ih =>
            intro bs r j i e h
            cases bs with
            | nil => simp at h
            | cons c bs =>
              cases b with
              | false =>
                cases c with
                | slot _ => cases e
                | val d =>
                  have e : (resolve S ms bs).map (fun os => O.sh d :: os) = some r := e
                  cases q : resolve S ms bs with
                  | none => rw [q] at e; cases e
                  | some r' =>
                    cases j with
                    | zero => cases h
                    | succ j => exact ih (j := j) q (by simpa using h)
              | true =>
                cases c with
                | val _ => cases e
                | slot i1 =>
                  have e : (S[i1]?.bind Sl.con).bind (fun o => (resolve S ms bs).map fun os => o :: os) = some r := e
                  cases q1 : S[i1]?.bind Sl.con with
                  | none => rw [q1] at e; cases e
                  | some o =>
                    rw [q1] at e
                    have e : (resolve S ms bs).map (fun os => o :: os) = some r := e
                    cases q : resolve S ms bs with
                    | none => rw [q] at e; cases e
                    | some r' =>
                      cases j with
                      | zero => cases h; exact List.mem_cons_self
                      | succ j => exact List.mem_cons_of_mem _ (ih (j := j) q (by simpa using h))
        cases j with
        | zero =>
          cases k with
          | zero => rfl
          | succ k =>
            cases h1
            exact absurd (mem (j := k) q (by simpa using h2)) nd'.1
        | succ j =>
          cases k with
          | zero =>
            cases h2
            exact absurd (mem (j := j) q (by simpa using h1)) nd'.1
          | succ k => rw [slot_one q nd'.2 (j := j) (k := k) (by simpa using h1) (by simpa using h2)]
  | [], _ :: _, _, h, _, _, _, _, _, _ => by cases h
  | _ :: _, [], _, _, _, j, _, _, h1, _ => by simp at h1
  | false :: ms, .slot i :: bs, _, h, _, _, _, _, _, _ => by cases h
  | true :: ms, .val d :: bs, _, h, _, _, _, _, _, _ => by cases h
/-- behind the call the slots get what the arguments have become -/
theorem pb_md {S0 : Ss} {F0 : Nat → List Addr} {G0 H0 : Hp} (m0 : Md K G0 H0 σ S0 F0) : ∀ {ms : List Bool} {bs : List Bo} {vs : List V} {os0 os : List O} {fs : List (List Addr)} {T : Ss} {FT : Nat → List Addr}, Md K G H σ T FT → T.length = S0.length → BoAll K G0 σ bs vs → resolve S0 ms bs = some os0 → OwnA K G H vs os fs → Apart fs →
    (∀ a, In fs a → ¬ Mu T FT a) → ∃ F', Md K G H σ (pb S0 ms bs os T) F' ∧ ∀ a, Mu (pb S0 ms bs os T) F' a → In fs a ∨ Mu T FT a
  | [], [], _, _, _, _, T, FT, m, _, .nil, _, _, _, _ => ⟨FT, by unfold pb; exact m, fun a z => .inr (by unfold pb at z; exact z)⟩
  | false :: ms, .val d :: bs, v :: vs, os0, o :: os, f :: fs, T, FT, m, hl, .cons _ t, h, .cons ow w, ap, nm => by
    have h : (resolve S0 ms bs).map (fun os => O.sh d :: os) = some os0 := h
    cases q : resolve S0 ms bs with
    | none => rw [q] at h; cases h
    | some r =>
      obtain ⟨F', m', sub⟩ := pb_md m0 (ms := ms) m hl t q w (fun i j f g a h1 h2 h3 h4 => by
        have e := ap (i + 1) (j + 1) f g a h1 h2 h3 h4
        omega) fun a ⟨g, hg, ha⟩ => nm a ⟨g, List.mem_cons_of_mem _ hg, ha⟩
      refine ⟨F', m', fun a z => ?_⟩
      rcases sub a z with ⟨g, hg, ha⟩ | y
      · exact .inl ⟨g, List.mem_cons_of_mem _ hg, ha⟩
      · exact .inr y
  | true :: ms, .slot i :: bs, v :: vs, os0, o :: os, f :: fs, T, FT, m, hl, .cons hb t, h, .cons ow w, ap, nm => by
    have h : (S0[i]?.bind Sl.con).bind (fun o => (resolve S0 ms bs).map fun os => o :: os) = some os0 := h
    have hb : σ[i]? = some (some v) := hb
    cases q0 : S0[i]? with
    | none => rw [q0] at h; cases h
    | some s =>
      rw [q0] at h
      have h : (s.con).bind (fun o => (resolve S0 ms bs).map fun os => o :: os) = some os0 := h
      cases q1 : s.con with
      | none => rw [q1] at h; cases h
      | some o1 =>
        rw [q1] at h
        have h : (resolve S0 ms bs).map (fun os => o1 :: os) = some os0 := h
        cases q : resolve S0 ms bs with
        | none => rw [q] at h; cases h
        | some r =>
          have hi : i < T.length := by rw [hl]; exact m0.lt q0
          have eg : S0.getD i .em = s := by rw [List.getD_eq_getElem?_getD, q0]; rfl
          have ok : SlOk K G H (some v) (s.put o) f := by
            cases s with
            | em => cases q1
            | ow o' => exact ow
            | io u o' =>
              obtain ⟨x, e, z⟩ := m0.sl i _ q0
              rw [hb] at e
              cases e
              exact ⟨z.1, ow⟩
          have m1 := m.put hi ok fun a ha j hj _ hm => nm a ⟨f, List.mem_cons_self, ha⟩ ⟨j, hj, hm⟩
          rw [set_id hb] at m1
          obtain ⟨F', m', sub⟩ := pb_md m0 (ms := ms) m1 (by rw [List.length_set]; exact hl) t q w (fun i j f g a h1 h2 h3 h4 => by
            have e := ap (i + 1) (j + 1) f g a h1 h2 h3 h4
            omega) fun a ⟨g, hg, ha⟩ z => by
              rcases mu_set z with y | y
              · obtain ⟨k, hk, e⟩ := List.getElem_of_mem hg
                have e2 := ap 0 (k + 1) f g a rfl (by simp [hk, e]) y ha
                omega
              · exact nm a ⟨g, List.mem_cons_of_mem _ hg, ha⟩ y
          refine ⟨F', ?_, fun a z => ?_⟩
          · show Md K G H σ (pb S0 ms bs _ (T.set i ((S0.getD i .em).put o))) F'
            rw [eg]
            exact m'
          · have z : Mu (pb S0 ms bs _ (T.set i ((S0.getD i .em).put o))) F' a := z
            rw [eg] at z
            rcases sub a z with ⟨g, hg, ha⟩ | y
            · exact .inl ⟨g, List.mem_cons_of_mem _ hg, ha⟩
            · rcases mu_set y with y | y
              · exact .inl ⟨f, List.mem_cons_self, y⟩
              · exact .inr y
  | [], _ :: _, _, _, _, _, _, _, _, _, _, h, _, _, _ => by cases h
  | true :: _, [], _, _, _, _, _, _, _, _, .nil, h, _, _, _ => by cases h
  | false :: _, [], _, _, _, _, _, _, _, _, .nil, h, _, _, _ => by cases h
  | false :: ms, .slot i :: bs, _, _, _, _, _, _, _, _, _, h, _, _, _ => by cases h
  | true :: ms, .val d :: bs, _, _, _, _, _, _, _, _, _, h, _, _, _ => by cases h
end
def SMono (spec : VSp) : Prop := ∀ os P P', (∀ r os', P r os' → P' r os') → spec os P → spec os P'
def callB (ms : List Bool) (spec : VSp) (bs : List Bo) (S1 : Ss) (Q : O → Ss → Prop) : Prop := ∃ os, resolve S1 ms bs = some os ∧ (ioIdx ms bs).Nodup ∧ spec os fun r os' => Q r (pb S1 ms bs os' (wipeS S1 (ioIdx ms bs)))
theorem callB_mono {ms : List Bool} {spec : VSp} (sm : SMono spec) {bs : List Bo} {S1 : Ss} {Q Q' : O → Ss → Prop} (i : ∀ o S, Q o S → Q' o S) (h : callB ms spec bs S1 Q) : callB ms spec bs S1 Q' :=
  let ⟨os, h1, h2, h3⟩ := h; ⟨os, h1, h2, sm _ _ _ (fun r os' z => i _ _ z) h3⟩
/-- the promise from the state at the call -/
theorem callB_use {K : PySem.W.Frag} {G H G1 H1 : Hp} {σ : L2.St} {S S1 : Ss} {F F1 : Nat → List Addr} {ms : List Bool} {spec : VSp} (sm : SMono spec) {bs : List Bo} {vs : List V} {Q : VK} {E : XK} (ev : Evo G H (Mu S F) G1 H1 (Mu S1 F1)) (m1 : Md K G1 H1 σ S1 F1) (kb : BoAll K G1 σ bs vs)
    (h : callB ms spec bs S1 fun o S' => ∀ G' H' v f F', Evo G H (Mu S F) G' H' (Mu S' F') → Md K G' H' σ S' F' → Own K G' H' v o f → (∀ a ∈ f, ¬ Mu S' F' a) → (∀ a ∈ f, H a = none ∨ Mu S F a) → Q v H') : spV K ms spec vs H1 Q E := by
  obtain ⟨os, h1, nd, h3⟩ := h
  obtain ⟨fs, w, sh, hl, sub⟩ := args_own m1 kb h1
  have inm : ∀ a, In fs a → ∃ i, i ∈ ioIdx ms bs ∧ i < S1.length ∧ a ∈ F1 i := fun a ⟨g, hg, ha⟩ => by
    obtain ⟨j, hj, e⟩ := List.getElem_of_mem hg
    rcases sub j g (by rw [List.getElem?_eq_getElem hj, e]) with z | ⟨i, _, z2, z3, z4⟩
    · rw [z] at ha; cases ha
    · exact ⟨i, z2, z3, by rw [← z4]; exact ha⟩
  refine ⟨hl, G1, os, fs, m1.le, w, fun j k f g a e1 e2 a1 a2 => ?_, sh, sm _ _ _ (fun r os' z => ?_) h3⟩
  · rcases sub j f e1 with z | ⟨i, z1, z2, z3, z4⟩
    · rw [z] at a1; cases a1
    · rcases sub k g e2 with y | ⟨i', y1, y2, y3, y4⟩
      · rw [y] at a2; cases a2
      · rw [z4] at a1
        rw [y4] at a2
        have e : i = i' := m1.dj i i' a z3 y3 a1 a2
        rw [← e] at y1
        exact slot_one h1 nd z1 y1
  · intro G2 H2 v f fs' ev2 le2 ow w2 ap2 nf nw
    have mo := m1.out (ioIdx ms bs)
    have nin : ∀ a, Mu (wipeS S1 (ioIdx ms bs)) (wipeF F1 (ioIdx ms bs)) a → ¬ In fs a := fun a z y => by
      obtain ⟨i, i1, i2, i3⟩ := mu_out z
      obtain ⟨i', j1, j2, j3⟩ := inm a y
      have e := m1.dj i i' a i1 j2 i3 j3
      rw [e] at i2
      exact i2 j1
    have mo2 : Md K G2 H2 σ (wipeS S1 (ioIdx ms bs)) (wipeF F1 (ioIdx ms bs)) := mo.mono ev2.gle le2 (fun a z => by
      obtain ⟨y1, u, y2⟩ := mo.mu z
      cases q : G2 a with
      | none => rfl
      | some x =>
        rcases ev2.gnew a x q with y | y | y
        · rw [y1] at y; cases y
        · rw [y2] at y; cases y
        · exact absurd y (nin a z)) fun a z u q => ev2.keep a u q (nin a z)
    have apt : ∀ a, In fs' a → ¬ Mu (wipeS S1 (ioIdx ms bs)) (wipeF F1 (ioIdx ms bs)) a := fun a y z => by
      rcases ev2.fnew a y with q | q
      · obtain ⟨_, u, y2⟩ := mo.mu z
        rw [q] at y2; cases y2
      · exact nin a z q
    obtain ⟨F', m', sub'⟩ := pb_md m1 mo2 (wipeS_length _ _) kb h1 w2 ap2 apt
    have inMu : ∀ a, In fs a → Mu S1 F1 a := fun a y => by
      obtain ⟨i, _, j2, j3⟩ := inm a y
      exact ⟨i, j2, j3⟩
    refine z G2 H2 v f F' (ev.trans ⟨ev2.gle, fun a u q n => ev2.keep a u q fun y => n (inMu a y), fun a u q => (ev2.gnew a u q).imp id fun y => y.imp id (inMu a), fun a q => ?_⟩) m' ow (fun a ha q => ?_) fun a ha => ev.back ((nw a ha).imp id (inMu a))
    · rcases sub' a q with y | y
      · exact (ev2.fnew a y).imp id (inMu a)
      · obtain ⟨i, i1, _, i3⟩ := mu_out y
        exact .inr ⟨i, i1, i3⟩
    · rcases sub' a q with y | y
      · exact nf a ha y
      · rcases nw a ha with q1 | q1
        · obtain ⟨_, u, y2⟩ := mo.mu y
          rw [q1] at y2; cases y2
        · exact nin a y q1
section
variable {X : Cx} {k : Nat} {f : Addr} {fd : FuncData} {ps ks : List Str} {x : Str} {p pos : Pos} {e : Expr} {es : List Expr} {ms : List Bool} {spec : VSp} {t : VAT} {kws : List Keyword}
def vCall (ms : List Bool) (spec : VSp) (t : VAT) : VT := fun S Q => t S fun bs S1 => callB ms spec bs S1 Q
theorem vCall_mono (sm : SMono spec) (h : Mono t) : Mono (vCall ms spec t) := fun S P P' i q => h _ _ _ (fun bs S1 z => callB_mono sm i z) q
theorem ve_call (F : FnG X.prog X.w X.K X.mg X.base CX0 k f fd ps (spV X.K ms spec)) (sm : SMono spec) (hr : Room k X.A) (hgd : X.A.guards = some []) (hm : X.mg x = some (.ref f)) (hk : PySem.W.keepIn X.K (.ref f) = true) (hb : Binds X.K fd ps [])
    (ha : VA X (e :: es) t) (hg : Gl X x) (hdb : (x == ("__debug__" : Str)) = false) (he : starEach (e :: es) X.env = (false, eval e X.env) :: starEach es X.env) (hpl : (backTo pos (starEach es X.env)).any (·.1) = false) :
    VE X (.Call (.Name x p) (e :: es) [] pos) (vCall ms spec t) := by
  refine ⟨vCall_mono sm ha.mono, PE.imp (peg_call F hr hgd hg hm hk hb (E := E0) pass0 ha.pa hdb he hpl) fun σ H Q hq => ?_⟩
  obtain ⟨G, S, F', m, q⟩ := hq
  exact ⟨G, S, F', m, ha.mono _ _ _ (fun bs S1 z G1 H1 vs F1 ev m1 kb => callB_use sm ev m1 kb z) q⟩
/-! ### by keywords alone -/
def permute {α : Type} (pm : List Nat) (l : List α) : List α := pm.filterMap fun i => l[i]?
theorem vals_permute {vs : List V} {us : List Value} (r : Vals vs us) : ∀ pm : List Nat, Vals (permute pm vs) (permute pm us)
  | [] => .nil
  | i :: pm => by
    have ih := vals_permute r pm
    cases h : vs[i]? with
    | none =>
      have h2 := r.none_of h
      have e1 : permute (i :: pm) vs = permute pm vs := by unfold permute; rw [List.filterMap_cons, h]
      have e2 : permute (i :: pm) us = permute pm us := by unfold permute; rw [List.filterMap_cons, h2]
      rw [e1, e2]
      exact ih
    | some v =>
      obtain ⟨u, h2, rv⟩ := r.get h
      have e1 : permute (i :: pm) vs = v :: permute pm vs := by unfold permute; rw [List.filterMap_cons, h]
      have e2 : permute (i :: pm) us = u :: permute pm us := by unfold permute; rw [List.filterMap_cons, h2]
      rw [e1, e2]
      exact .cons rv ih
theorem boall_get {K : PySem.W.Frag} {G : Hp} {σ : L2.St} : ∀ {bs : List Bo} {vs : List V} {i : Nat}, BoAll K G σ bs vs → (bs[i]? = none ∧ vs[i]? = none) ∨ ∃ b v, bs[i]? = some b ∧ vs[i]? = some v ∧ b.Ok K G σ v
  | _, _, _, .nil => .inl ⟨rfl, rfl⟩
  | _, _, 0, .cons h _ => .inr ⟨_, _, rfl, rfl, h⟩
  | _, _, i + 1, .cons _ t => boall_get (i := i) t
theorem boall_permute {K : PySem.W.Frag} {G : Hp} {σ : L2.St} {bs : List Bo} {vs : List V} (h : BoAll K G σ bs vs) : ∀ pm : List Nat, BoAll K G σ (permute pm bs) (permute pm vs)
  | [] => .nil
  | i :: pm => by
    have ih := boall_permute h pm
    rcases boall_get (i := i) h with ⟨h1, h2⟩ | ⟨b, v, h1, h2, h3⟩
    · have e1 : permute (i :: pm) vs = permute pm vs := by unfold permute; rw [List.filterMap_cons, h2]
      have e2 : permute (i :: pm) bs = permute pm bs := by unfold permute; rw [List.filterMap_cons, h1]
      rw [e1, e2]
      exact ih
    · have e1 : permute (i :: pm) vs = v :: permute pm vs := by unfold permute; rw [List.filterMap_cons, h2]
      have e2 : permute (i :: pm) bs = b :: permute pm bs := by unfold permute; rw [List.filterMap_cons, h1]
      rw [e1, e2]
      exact .cons h3 ih
/-- how a call by keywords alone binds -/
def KB (K : PySem.W.Frag) (fd : FuncData) (ps ks : List Str) (pm : List Nat) : Prop := ∀ (s : Shared) (ws : List Value), K.In s.heap → ws.length = ks.length → BindsTo s fd ⟨[], ks.zip ws⟩ (ps.zip (permute pm ws))
structure VKw (X : Cx) (kws : List Keyword) (t : VAT) : Prop where
  mono : Mono t
  pk : PK X kws (liftA X.K t)
theorem PK.imp {t u : TA} (h : PK X kws t) (i : ∀ σ H Q, u σ H Q → t σ H Q) : PK X kws u := ⟨fun pos pins s σ H Q I q => h.run pos pins s σ H Q I (i _ _ _ q)⟩
theorem vk_nil : VKw X [] vNilA := ⟨fun _ _ _ i q => i _ _ q, PK.imp pk_nil fun σ H Q ⟨G, S, F, m, q⟩ => q G H [] F (Evo.refl G H _) m .nil⟩
theorem vk_cons {ta : VBT} {tr : VAT} {nm : Option Str} {kpos : Pos} (ha : VB X e ta) (hr : VKw X kws tr) : VKw X (⟨nm, e, kpos⟩ :: kws) (vConsA ta tr) := by
  refine ⟨fun S P P' i q => ha.mono _ _ _ (fun b S1 z => hr.mono _ _ _ (fun bs S2 y => i _ _ y) z) q, PK.imp (pk_cons ha.pe hr.pk) fun σ H Q hq => ?_⟩
  obtain ⟨G, S, F, m, q⟩ := hq
  refine ⟨G, S, F, m, ha.mono _ _ _ (fun b1 S1 q1 G1 H1 v1 F1 ev1 m1 k1 => ?_) q⟩
  refine ⟨G1, S1, F1, m1, hr.mono _ _ _ (fun bs S2 q2 G2 H2 vs F2 ev2 m2 k2 => ?_) q1⟩
  exact q2 G2 H2 (v1 :: vs) F2 (ev1.trans ev2) m2 (.cons (Bo.Ok.mono k1 ev2.gle) k2)
def vCallK (ms : List Bool) (spec : VSp) (pm : List Nat) (n : Nat) (t : VAT) : VT := fun S Q => t S fun bs S1 => bs.length = n ∧ callB ms spec (permute pm bs) S1 Q
theorem boall_len {K : PySem.W.Frag} {G : Hp} {σ : L2.St} : ∀ {bs : List Bo} {vs : List V}, BoAll K G σ bs vs → bs.length = vs.length
  | _, _, .nil => rfl
  | _, _, .cons _ t => by rw [List.length_cons, List.length_cons, boall_len t]
theorem ve_callK {pm : List Nat} (F : FnG X.prog X.w X.K X.mg X.base CX0 k f fd ps (spV X.K ms spec)) (sm : SMono spec) (hr : Room k X.A) (hgd : X.A.guards = some []) (hm : X.mg x = some (.ref f)) (hk : PySem.W.keepIn X.K (.ref f) = true) (hb : KB X.K fd ps ks pm)
    (ha : VKw X kws t) (hg : Gl X x) (hdb : (x == ("__debug__" : Str)) = false) (hall : (backToKw pos (keywordEach kws X.env)).all (·.1.isSome) = true) (hks : (backToKw pos (keywordEach kws X.env)).filterMap (·.1) = ks)
    (hpl : ((backTo pos (starEach [] X.env)).any (·.1) || (backToKw pos (keywordEach kws X.env)).any (·.1.isNone)) = false) :
    VE X (.Call (.Name x p) [] kws pos) (vCallK ms spec pm ks.length t) := by
  refine ⟨fun S P P' i q => ha.mono _ _ _ (fun bs S1 z => ⟨z.1, callB_mono sm i z.2⟩) q, ⟨fun pins s σ H Q I hq => ?_⟩⟩
  refine wpAny_Call_Name_kw (ld_glob I hg hm ?_ hdb)
  refine PySem.W.callWith_KW0 (first := []) (h₀ := X.base) I.ok.mod.kin hk hall (thn (ha.pk.run pos pins s σ H (fun zs H2 => zs.length = ks.length ∧ spV X.K ms spec (permute pm zs) H2 Q E0) I ?_) fun ws s2 hw => ?_) hpl
  · obtain ⟨G, S, F', m, q⟩ := hq
    exact ⟨G, S, F', m, ha.mono _ _ _ (fun bs S1 z G1 H1 vs F1 ev m1 kb => ⟨by rw [← boall_len kb]; exact z.1, callB_use sm ev m1 (boall_permute kb pm) z.2⟩) q⟩
  · obtain ⟨zs, H2, I2, rz, hl, q2⟩ := hw
    refine ⟨I2.kIn, ?_⟩
    rw [hks]
    have hl2 : ws.length = ks.length := by rw [← rz.length]; exact hl
    refine wpAny_call (codeAny_mono (F.run X.A X.stack s2 H2 _ _ _ Q E0 hr hgd I2.env0 (hb s2 ws I2.kIn hl2) (vals_permute rz pm) q2) fun rr s' hq => ?_)
    match rr, hq with
    | .error e, hq => exact False.elim hq
    | .ok (.ret u), hq => exact I2.after hq
    | .ok .next, hq => exact False.elim hq
    | .ok .brk, hq => exact False.elim hq
    | .ok .cont, hq => exact False.elim hq
end
end VL

/-! the value layer, seventh part: operations -/
set_option Elab.async false
set_option linter.all false
set_option maxRecDepth 100000
namespace VL
open PySem PySem.Spec PyProof.Rows L2
open Evl (Ex ex_l ex_t)
variable [Wd]

section
variable {X : Cx}
theorem OpR.or {f : Value → Value → Sem Value} {r r' : R2} (h : OpR X f r) (h' : OpR X f r') : OpR X f fun x y H Q => r x y H Q ∨ r' x y H Q := fun pins s σ H x y v u Q I rx ry q =>
  q.elim (h pins s σ H x y v u Q I rx ry) (h' pins s σ H x y v u Q I rx ry)
end
section
variable {K : PySem.W.Frag} {G H : Hp} {x : V} {d : PyData}
theorem top_int {i : Int} (h : Top K G H x (.int i)) : x = .int i := by
  have h' : Dq K G x (.int i) := h
  cases h'
  rfl
theorem top_str {i : Str} (h : Top K G H x (.str i)) : x = .str i := by
  have h' : Dq K G x (.str i) := h
  cases h'
  rfl
theorem top_bool {i : Bool} (h : Top K G H x (.bool i)) : x = .bl i := by
  have h' : Dq K G x (.bool i) := h
  cases h'
  rfl
theorem top_none (h : Top K G H x .none) : x = .non := by
  have h' : Dq K G x .none := h
  cases h'
  rfl
theorem top_tup {ds : List PyData} (e : Ex G H) (h : Top K G H x (.tuple ds)) : ∃ a vs, x = .ref a ∧ SqT K H a vs ∧ DqA K G vs ds := by
  have h' : Dq K G x (.tuple ds) := h
  cases h' with
  | tup a b => exact ⟨_, _, rfl, ex_t e a, b⟩
/-- an answer that is no new object -/
theorem ans {P : O → Prop} {Q : VK} (le : Ex G H) (k : ∀ o G' H' v f, P o → Grow G H G' H' → Own K G' H' v o f → (∀ a ∈ f, H a = none) → Q v H') {v : V} (p : P (.sh d)) (q : Dq K G v d) : Q v H :=
  k _ G H v [] p (Grow.refl le) ⟨rfl, q⟩ fun _ z => nomatch z
/-- a new tuple -/
theorem ans_tup {P : O → Prop} {Q : VK} (le : Ex G H) (k : ∀ o G' H' v f, P o → Grow G H G' H' → Own K G' H' v o f → (∀ a ∈ f, H a = none) → Q v H') {vs : List V} {ds : List PyData} (p : P (.sh (.tuple ds))) (q : DqA K G vs ds) : ∀ a, H a = none → Q (.ref a) (upd H a (.tup vs)) := fun a ha => by
  have gr := Grow.new (o := .tup vs) le ha
  exact k _ _ _ _ [] p gr ⟨rfl, .tup (SqT.of upd_same) (dpa_mono gr.ge q)⟩ fun _ z => nomatch z
/-- a new list -/
theorem ans_lst {P : O → Prop} {Q : VK} (le : Ex G H) (k : ∀ o G' H' v f, P o → Grow G H G' H' → Own K G' H' v o f → (∀ a ∈ f, H a = none) → Q v H') {vs : List V} {ds : List PyData} (p : P (.lst ds)) (q : DqA K G vs ds) : ∀ a, H a = none → Q (.ref a) (upd H a (.lst vs)) := fun a ha => by
  have gr := Grow.newO (o := .lst vs) le ha
  exact k _ _ _ _ [a] p gr ⟨a, vs, rfl, rfl, fresh_g le ha, upd_same, q⟩ fun b hb => by
    have e : b = a := by simpa using hb
    rw [e]; exact ha
end

/-! ### + - * // % ** -/
def pdAdd : Pd2 := fun d e P => match d, e with
  | .int i, .int j => P (.sh (.int (i + j)))
  | .str i, .str j => i.length + j.length ≤ sizeLine ∧ P (.sh (.str (i ++ j)))
  | .list a, .list b => a.length + b.length ≤ sizeLine ∧ P (.lst (a ++ b))
  | .tuple a, .tuple b => a.length + b.length ≤ sizeLine ∧ P (.sh (.tuple (a ++ b)))
  | _, _ => False
def rAddA (K : PySem.W.Frag) : R2 := fun x y H Q => (rI0 (fun i j => V.int (i + j))) x y H Q ∨ (∃ i j, x = .str i ∧ y = .str j ∧ i.length + j.length ≤ sizeLine ∧ Q (.str (i ++ j)) H) ∨ rCat x y H Q ∨ rCatA K x y H Q
theorem op_addA {X : Cx} : OpR X (binaryOp .Add) (rAddA X.K) := OpR.or op_add (OpR.or op_add_str (OpR.or op_cat op_catA))
theorem pm_add : PMono pdAdd := by
  intro d e P P' i h
  unfold pdAdd at h ⊢
  split at h
  · exact i _ h
  · exact ⟨h.1, i _ h.2⟩
  · exact ⟨h.1, i _ h.2⟩
  · exact ⟨h.1, i _ h.2⟩
  · exact h
theorem ok_add {K : PySem.W.Frag} : ROk K (rAddA K) pdAdd := by
  intro G H x y d e P Q le tx ty h k
  unfold pdAdd at h
  split at h
  · rw [top_int tx, top_int ty]
    exact .inl ⟨_, _, rfl, rfl, ans le k h (.int _)⟩
  · rw [top_str tx, top_str ty]
    exact .inr (.inl ⟨_, _, rfl, rfl, h.1, ans le k h.2 (.str _)⟩)
  · obtain ⟨a, vs, rfl, h1, r1⟩ := tx
    obtain ⟨b, us, rfl, h2, r2⟩ := ty
    exact .inr (.inr (.inl ⟨a, b, vs, us, rfl, rfl, h1, h2, by rw [dpa_len r1, dpa_len r2]; exact h.1, ans_lst le k h.2 (dpa_app r1 r2)⟩))
  · obtain ⟨a, vs, rfl, h1, r1⟩ := top_tup le tx
    obtain ⟨b, us, rfl, h2, r2⟩ := top_tup le ty
    refine .inr (.inr (.inr ⟨a, b, vs, us, rfl, rfl, h1, h2, by rw [dpa_len r1, dpa_len r2]; exact h.1, fun z => ?_, fun _ z => ?_, fun _ _ => ans_tup le k h.2 (dpa_app r1 r2)⟩))
    · subst z
      cases r1
      exact ans le k h.2 ty
    · subst z
      cases r2
      have q : P (.sh (.tuple _)) := h.2
      rw [List.append_nil] at q
      exact ans le k q tx
  · exact h.elim
def pdInt (C : Int → Int → Prop) (g : Int → Int → PyData) : Pd2 := fun d e P => match d, e with
  | .int i, .int j => C i j ∧ P (.sh (g i j))
  | _, _ => False
theorem pm_int {C : Int → Int → Prop} {g : Int → Int → PyData} : PMono (pdInt C g) := by
  intro d e P P' i h
  unfold pdInt at h ⊢
  split at h
  · exact ⟨h.1, i _ h.2⟩
  · exact h
theorem ok_int {K : PySem.W.Frag} {C : Int → Int → Prop} {g : Int → Int → PyData} {gv : Int → Int → V} (hg : ∀ G i j, Dq K G (gv i j) (g i j)) : ROk K (rI C gv) (pdInt C g) := by
  intro G H x y d e P Q le tx ty h k
  unfold pdInt at h
  split at h
  · rw [top_int tx, top_int ty]
    exact ⟨_, _, rfl, rfl, h.1, ans le k h.2 (hg G _ _)⟩
  · exact h.elim
def pdSub : Pd2 := pdInt (fun _ _ => True) fun i j => .int (i - j)
theorem op_subT {X : Cx} : OpR X (binaryOp .Sub) (rI (fun _ _ => True) fun i j => .int (i - j)) := opI fun _ _ _ _ _ _ _ _ q => sub_int q
theorem ok_sub {K : PySem.W.Frag} : ROk K (rI (fun _ _ => True) fun i j => .int (i - j)) pdSub := ok_int fun _ _ _ => .int _
def pdFdiv : Pd2 := pdInt CDivN fun i j => .int (i.fdiv j)
theorem ok_fdiv {K : PySem.W.Frag} : ROk K (rI CDivN fun i j => .int (i.fdiv j)) pdFdiv := ok_int fun _ _ _ => .int _
def pdMod : Pd2 := pdInt (fun _ j => j ≠ 0) fun i j => .int (i.fmod j)
theorem ok_mod {K : PySem.W.Frag} : ROk K (rI (fun _ j => j ≠ 0) fun i j => .int (i.fmod j)) pdMod := ok_int fun _ _ _ => .int _
def pdPow : Pd2 := pdInt CPow fun i j => .int (i ^ j.toNat)
theorem ok_pow {K : PySem.W.Frag} : ROk K (rI CPow fun i j => .int (i ^ j.toNat)) pdPow := ok_int fun _ _ _ => .int _
def repL {α : Type} (n : Nat) (l : List α) : List α := (List.replicate n l).flatten
theorem dpa_rep {K : PySem.W.Frag} {G : Hp} {ds : List PyData} {vs : List V} (h : DqA K G vs ds) : ∀ n, DqA K G (repL n vs) (repL n ds)
  | 0 => .nil
  | n + 1 => by
    show DqA K G (List.replicate (n + 1) vs).flatten (List.replicate (n + 1) ds).flatten
    rw [List.replicate_succ, List.replicate_succ, List.flatten_cons, List.flatten_cons]
    exact dpa_app h (dpa_rep h n)
def pdMul : Pd2 := fun d e P => match d, e with
  | .int i, .int j => CMul i j ∧ P (.sh (.int (i * j)))
  | .list a, .int k => (-(2 ^ 63) ≤ k ∧ k < 2 ^ 63 ∧ a.length * k.toNat ≤ sizeLine) ∧ P (.lst (repL k.toNat a))
  | .tuple a, .int k => (a ≠ [] ∧ 2 ≤ k ∧ k ≤ 1000 ∧ a.length ≤ 1000) ∧ P (.sh (.tuple (repL k.toNat a)))
  | _, _ => False
def rMulA (K : PySem.W.Frag) : R2 := fun x y H Q => (rI CMul (fun i j => V.int (i * j))) x y H Q ∨ rRep x y H Q ∨ rRepT K x y H Q
theorem op_mulA {X : Cx} : OpR X (binaryOp .Mult) (rMulA X.K) := OpR.or op_mul (OpR.or op_rep op_repT)
theorem pm_mul : PMono pdMul := by
  intro d e P P' i h
  unfold pdMul at h ⊢
  split at h
  · exact ⟨h.1, i _ h.2⟩
  · exact ⟨h.1, i _ h.2⟩
  · exact ⟨h.1, i _ h.2⟩
  · exact h
theorem ok_mul {K : PySem.W.Frag} : ROk K (rMulA K) pdMul := by
  intro G H x y d e P Q le tx ty h k
  unfold pdMul at h
  split at h
  · rw [top_int tx, top_int ty]
    exact .inl ⟨_, _, rfl, rfl, h.1, ans le k h.2 (.int _)⟩
  · obtain ⟨a, vs, rfl, h1, r1⟩ := tx
    rw [top_int ty]
    exact .inr (.inl ⟨a, _, vs, rfl, rfl, h1, h.1.1, h.1.2.1, by rw [dpa_len r1]; exact h.1.2.2, ans_lst le k h.2 (dpa_rep r1 _)⟩)
  · obtain ⟨a, vs, rfl, h1, r1⟩ := top_tup le tx
    rw [top_int ty]
    refine .inr (.inr ⟨a, _, vs, rfl, rfl, h1, fun z => h.1.1 ?_, h.1.2.1, h.1.2.2.1, by rw [dpa_len r1]; exact h.1.2.2.2, ans_tup le k h.2 (dpa_rep r1 _)⟩)
    subst z
    cases r1
    rfl
  · exact h.elim

/-! ### comparisons -/
def bothStr : PyData → PyData → Bool
  | .str _, .str _ => true
  | _, _ => false
def pdEq : Pd2 := fun d e P => (bothStr d e = true ∨ SeqAt.shaped d = true ∧ SeqAt.shaped e = true) ∧ P (.sh (.bool (PyData.eqv d e)))
def pdNe : Pd2 := fun d e P => (bothStr d e = true ∨ SeqAt.shaped d = true ∧ SeqAt.shaped e = true) ∧ P (.sh (.bool (!PyData.eqv d e)))
theorem pm_eq : PMono pdEq := fun d e P P' i h => ⟨h.1, i _ h.2⟩
theorem pm_ne : PMono pdNe := fun d e P P' i h => ⟨h.1, i _ h.2⟩
def rEqZ (K : PySem.W.Frag) : R2 := fun x y H Q => rEq x y H Q ∨ rEqD K x y H Q
def rNeZ (K : PySem.W.Frag) : R2 := fun x y H Q => rNe x y H Q ∨ rNeD K x y H Q
theorem op_eqZ {X : Cx} (hu : X.A.units + 64 < cLine) : OpR X (compareOp .Eq) (rEqZ X.K) := OpR.or op_eq (op_eqD hu)
theorem op_neZ {X : Cx} (hu : X.A.units + 64 < cLine) : OpR X (compareOp .NotEq) (rNeZ X.K) := OpR.or op_ne (op_neD hu)
theorem bothStr_of {d e : PyData} (h : bothStr d e = true) : ∃ a b, d = .str a ∧ e = .str b := by
  unfold bothStr at h
  split at h
  · exact ⟨_, _, rfl, rfl⟩
  · cases h
theorem eqv_strs {a b : Str} : decide (V.str a = V.str b) = PyData.eqv (.str a) (.str b) := dec_str
theorem ok_eq {K : PySem.W.Frag} : ROk K (rEqZ K) pdEq := fun G H x y d e P Q le tx ty h k => by
  obtain ⟨h | h, q⟩ := h
  · obtain ⟨a, b, rfl, rfl⟩ := bothStr_of h
    rw [top_str tx, top_str ty]
    refine .inl ⟨rfl, ?_⟩
    rw [eqv_strs]
    exact ans le k q (.bl _)
  · exact .inr ⟨d, e, (tx.dq le).dp (SeqAt.canLay_of_shaped h.1), (ty.dq le).dp (SeqAt.canLay_of_shaped h.2), h.1, h.2, ans le k q (.bl _)⟩
theorem ok_ne {K : PySem.W.Frag} : ROk K (rNeZ K) pdNe := fun G H x y d e P Q le tx ty h k => by
  obtain ⟨h | h, q⟩ := h
  · obtain ⟨a, b, rfl, rfl⟩ := bothStr_of h
    rw [top_str tx, top_str ty]
    refine .inl ⟨rfl, ?_⟩
    rw [eqv_strs]
    exact ans le k q (.bl _)
  · exact .inr ⟨d, e, (tx.dq le).dp (SeqAt.canLay_of_shaped h.1), (ty.dq le).dp (SeqAt.canLay_of_shaped h.2), h.1, h.2, ans le k q (.bl _)⟩
/-- an order by ints and by texts -/
def pdOrd (p : Int → Int → Bool) (q : Str → Str → Bool) : Pd2 := fun d e P => match d, e with
  | .int i, .int j => P (.sh (.bool (p i j)))
  | .str i, .str j => P (.sh (.bool (q i j)))
  | _, _ => False
theorem pm_ord {p : Int → Int → Bool} {q : Str → Str → Bool} : PMono (pdOrd p q) := by
  intro d e P P' i h
  unfold pdOrd at h ⊢
  split at h
  · exact i _ h
  · exact i _ h
  · exact h
def rOrd (p : Int → Int → Bool) (q : Str → Str → Bool) : R2 := fun x y H Q => rI0 (fun i j => .bl (p i j)) x y H Q ∨ ∃ i j, x = .str i ∧ y = .str j ∧ Q (.bl (q i j)) H
theorem ok_ord {K : PySem.W.Frag} {p : Int → Int → Bool} {q : Str → Str → Bool} : ROk K (rOrd p q) (pdOrd p q) := by
  intro G H x y d e P Q le tx ty h k
  unfold pdOrd at h
  split at h
  · rw [top_int tx, top_int ty]
    exact .inl ⟨_, _, rfl, rfl, ans le k h (.bl _)⟩
  · rw [top_str tx, top_str ty]
    exact .inr ⟨_, _, rfl, rfl, ans le k h (.bl _)⟩
  · exact h.elim
def sLt (i j : Str) : Bool := decide (i.cps.toList < j.cps.toList)
def pdLt : Pd2 := pdOrd (fun i j => decide (i < j)) sLt
def pdGt : Pd2 := pdOrd (fun i j => decide (j < i)) fun i j => sLt j i
def pdLe : Pd2 := pdOrd (fun i j => decide (i ≤ j)) fun i j => !sLt j i
def pdGe : Pd2 := pdOrd (fun i j => decide (j ≤ i)) fun i j => !sLt i j
theorem op_ltA {X : Cx} : OpR X (compareOp .Lt) (rOrd (fun i j => decide (i < j)) sLt) := OpR.or op_lt op_lt_str
theorem op_gtA {X : Cx} : OpR X (compareOp .Gt) (rOrd (fun i j => decide (j < i)) fun i j => sLt j i) := OpR.or op_gt op_gt_str
theorem op_leA {X : Cx} : OpR X (compareOp .LtE) (rOrd (fun i j => decide (i ≤ j)) fun i j => !sLt j i) := OpR.or op_le op_le_str
theorem op_geA {X : Cx} : OpR X (compareOp .GtE) (rOrd (fun i j => decide (j ≤ i)) fun i j => !sLt i j) := OpR.or op_ge op_ge_str
/-- is, is not: None, truth values -/
def isNn : PyData → Bool
  | .none => true
  | _ => false
def pdIs (neg : Bool) : Pd2 := fun d e P => match e with
  | .none => P (.sh (.bool (if neg then !isNn d else isNn d)))
  | .bool b => ∃ c, d = .bool c ∧ P (.sh (.bool (if neg then !decide (c = b) else decide (c = b))))
  | _ => False
theorem pm_is {neg : Bool} : PMono (pdIs neg) := by
  intro d e P P' i h
  unfold pdIs at h ⊢
  split at h
  · exact i _ h
  · obtain ⟨c, h1, h2⟩ := h
    exact ⟨c, h1, i _ h2⟩
  · exact h
def rIsA : R2 := fun x y H Q => (y = .non ∧ Q (.bl (decide (x = .non))) H) ∨ rIsB x y H Q
def rIsNA : R2 := fun x y H Q => (y = .non ∧ Q (.bl (!decide (x = .non))) H) ∨ rNotB x y H Q
theorem op_isA {X : Cx} : OpR X (compareOp .Is) rIsA := OpR.or op_isN op_isBl
theorem op_isNA {X : Cx} : OpR X (compareOp .IsNot) rIsNA := OpR.or op_notN op_notBl
theorem top_isNn {K : PySem.W.Frag} {G H : Hp} {x : V} {d : PyData} (h : Top K G H x d) : decide (x = .non) = isNn d := by
  cases d with
  | none => rw [top_none h]; rfl
  | list ds => obtain ⟨a, vs, rfl, _⟩ := h; rfl
  | bool b => rw [top_bool h]; rfl
  | int i => rw [top_int h]; rfl
  | str i => rw [top_str h]; rfl
  | tuple ds =>
    have h' : Dq K G x (.tuple ds) := h
    cases h'
    rfl
  | dict kvs =>
    rcases h with h' | ⟨a, y, u, ps, rfl, _⟩
    · cases h' <;> rfl
    · rfl
theorem ok_is {K : PySem.W.Frag} : ROk K rIsA (pdIs false) := by
  intro G H x y d e P Q le tx ty h k
  unfold pdIs at h
  split at h
  · rw [top_none ty]
    refine .inl ⟨rfl, ?_⟩
    rw [top_isNn tx]
    exact ans le k h (.bl _)
  · obtain ⟨c, rfl, h⟩ := h
    rw [top_bool tx, top_bool ty]
    exact .inr ⟨_, _, rfl, rfl, ans le k h (.bl _)⟩
  · exact h.elim
theorem ok_isN {K : PySem.W.Frag} : ROk K rIsNA (pdIs true) := by
  intro G H x y d e P Q le tx ty h k
  unfold pdIs at h
  split at h
  · rw [top_none ty]
    refine .inl ⟨rfl, ?_⟩
    rw [top_isNn tx]
    exact ans le k h (.bl _)
  · obtain ⟨c, rfl, h⟩ := h
    rw [top_bool tx, top_bool ty]
    exact .inr ⟨_, _, rfl, rfl, ans le k h (.bl _)⟩
  · exact h.elim
/-- in, not in: data of any depth in a list -/
def pdIn (neg : Bool) : Pd2 := fun d e P => match e with
  | .list ds => SeqAt.shaped d = true ∧ SeqAt.shaped (.list ds) = true ∧ P (.sh (.bool (if neg then !(ds.any fun z => PyData.eqv z d) else ds.any fun z => PyData.eqv z d)))
  | .str z => ∃ c : Nat, d = .str ⟨#[c]⟩ ∧ P (.sh (.bool (if neg then !decide (c ∈ z.cps.toList) else decide (c ∈ z.cps.toList))))
  | _ => False
theorem pm_in {neg : Bool} : PMono (pdIn neg) := by
  intro d e P P' i h
  unfold pdIn at h ⊢
  split at h
  · exact ⟨h.1, h.2.1, i _ h.2.2⟩
  · obtain ⟨c, h1, h2⟩ := h
    exact ⟨c, h1, i _ h2⟩
  · exact h
def rInA (K : PySem.W.Frag) : R2 := fun x y H Q => rInD K x y H Q ∨ ∃ (c : Nat) (z : Str), x = .str ⟨#[c]⟩ ∧ y = .str z ∧ Q (.bl (decide (c ∈ z.cps.toList))) H
def rNotInA (K : PySem.W.Frag) : R2 := fun x y H Q => rNotInD K x y H Q ∨ ∃ (c : Nat) (z : Str), x = .str ⟨#[c]⟩ ∧ y = .str z ∧ Q (.bl (!decide (c ∈ z.cps.toList))) H
theorem op_inA {X : Cx} (hu : X.A.units + 65 < cLine) : OpR X (compareOp .In) (rInA X.K) := OpR.or (op_inD hu) op_in_sign
theorem op_notInA {X : Cx} (hu : X.A.units + 65 < cLine) : OpR X (compareOp .NotIn) (rNotInA X.K) := OpR.or (op_notInD hu) op_notIn_sign
theorem ok_in {K : PySem.W.Frag} : ROk K (rInA K) (pdIn false) := by
  intro G H x y d e P Q le tx ty h k
  unfold pdIn at h
  split at h
  · exact .inl ⟨d, _, (tx.dq le).dp (SeqAt.canLay_of_shaped h.1), (ty.dq le).dp (SeqAt.canLay_of_shaped h.2.1), h.1, h.2.1, ans le k h.2.2 (.bl _)⟩
  · obtain ⟨c, rfl, h⟩ := h
    rw [top_str tx, top_str ty]
    exact .inr ⟨c, _, rfl, rfl, ans le k h (.bl _)⟩
  · exact h.elim
theorem ok_notIn {K : PySem.W.Frag} : ROk K (rNotInA K) (pdIn true) := by
  intro G H x y d e P Q le tx ty h k
  unfold pdIn at h
  split at h
  · exact .inl ⟨d, _, (tx.dq le).dp (SeqAt.canLay_of_shaped h.1), (ty.dq le).dp (SeqAt.canLay_of_shaped h.2.1), h.1, h.2.1, ans le k h.2.2 (.bl _)⟩
  · obtain ⟨c, rfl, h⟩ := h
    rw [top_str tx, top_str ty]
    exact .inr ⟨c, _, rfl, rfl, ans le k h (.bl _)⟩
  · exact h.elim
/-! ### subscripts and slices -/
def pdIx : Pd2 := fun d e P => match d, e with
  | .list ds, .int i => ∃ z, atI ds i = some z ∧ P (.sh z)
  | .tuple ds, .int i => ∃ z, atI ds i = some z ∧ P (.sh z)
  | .str x, .int i => x.length ≤ sizeLine ∧ ∃ c, atI x.cps.toList i = some c ∧ P (.sh (.str ⟨#[c]⟩))
  | _, _ => False
theorem pm_ix : PMono pdIx := by
  intro d e P P' i h
  unfold pdIx at h ⊢
  split at h
  · obtain ⟨z, h1, h2⟩ := h; exact ⟨z, h1, i _ h2⟩
  · obtain ⟨z, h1, h2⟩ := h; exact ⟨z, h1, i _ h2⟩
  · obtain ⟨z0, z, h1, h2⟩ := h; exact ⟨z0, z, h1, i _ h2⟩
  · exact h
theorem dpa_at {K : PySem.W.Frag} {G : Hp} {ds : List PyData} {vs : List V} (r : DqA K G vs ds) {i : Int} {z : PyData} (h : atI ds i = some z) : ∃ v, atI vs i = some v ∧ Dq K G v z := by
  unfold atI at h ⊢
  rw [dpa_len r]
  cases e : ixN ds.length i with
  | none => rw [e] at h; cases h
  | some j =>
    rw [e] at h
    have h : ds[j]? = some z := h
    exact dpa_get' r h
theorem ok_ix {K : PySem.W.Frag} : ROk K (rIx K) pdIx := by
  intro G H x y d e P Q le tx ty h k
  unfold pdIx at h
  split at h
  · obtain ⟨a, vs, rfl, h1, r1⟩ := tx
    rw [top_int ty]
    obtain ⟨z, hz, p⟩ := h
    obtain ⟨v, hv, q⟩ := dpa_at r1 hz
    exact .inl ⟨a, vs, _, v, rfl, rfl, SqL.of h1, hv, ans le k p q⟩
  · obtain ⟨a, vs, rfl, h1, r1⟩ := top_tup le tx
    rw [top_int ty]
    obtain ⟨z, hz, p⟩ := h
    obtain ⟨v, hv, q⟩ := dpa_at r1 hz
    exact .inr (.inl ⟨a, vs, _, v, rfl, rfl, h1, hv, ans le k p q⟩)
  · rw [top_str tx, top_int ty]
    obtain ⟨hl, z, hz, p⟩ := h
    exact .inr (.inr ⟨_, _, z, rfl, rfl, hl, hz, ans le k p (.str _)⟩)
  · exact h.elim
def cutD (xs : List PyData) (lo hi : Option Int) : List PyData := (xs.drop (HT.sIx xs.length 0 lo)).take (HT.sIx xs.length xs.length hi - HT.sIx xs.length 0 lo)
theorem dpa_cut {K : PySem.W.Frag} {G : Hp} {ds : List PyData} {vs : List V} (r : DqA K G vs ds) (lo hi : Option Int) : DqA K G (cutV vs lo hi) (cutD ds lo hi) := by
  unfold cutV cutD
  rw [dpa_len r]
  exact dpa_take _ (dpa_drop _ r)
def pdSl : PdS := fun d lo hi P => match d with
  | .list ds => P (.lst (cutD ds lo hi))
  | .tuple ds => P (.sh (.tuple (cutD ds lo hi)))
  | .str x => x.length ≤ sizeLine ∧ P (.sh (.str (cutS x lo hi)))
  | .dict [(.none, .list ds)] => P (.lst (cutD ds lo hi))
  | _ => False
theorem pm_sl : ∀ d l h P P', (∀ o, P o → P' o) → pdSl d l h P → pdSl d l h P' := by
  intro d lo hi P P' i h
  unfold pdSl at h ⊢
  split at h
  · exact i _ h
  · exact i _ h
  · exact ⟨h.1, i _ h.2⟩
  · exact i _ h
  · exact h
def rSlZ (K : PySem.W.Frag) : V → Option Int → Option Int → Hp → VK → Prop := fun x lo hi H Q => rSlL K x lo hi H Q ∨ rSlA K x lo hi H Q ∨ rSlS x lo hi H Q
theorem sl_any {X : Cx} : SlR X (rSlZ X.K) := SlR.or sl_list (SlR.or sl_tupA sl_str)
theorem ok_sl {K : PySem.W.Frag} : SOk K (rSlZ K) pdSl := by
  intro G H x d lo hi P Q le tx h k
  unfold pdSl at h
  split at h
  · obtain ⟨a, vs, rfl, h1, r1⟩ := tx
    exact .inl ⟨a, vs, rfl, SqL.of h1, ans_lst le k h (dpa_cut r1 lo hi)⟩
  · rename_i ds
    obtain ⟨a, vs, rfl, h1, r1⟩ := top_tup le tx
    refine .inr (.inl ⟨a, vs, rfl, h1, fun z => ?_, fun _ => ans_tup le k h (dpa_cut r1 lo hi)⟩)
    have e : cutD ds lo hi = ds := by
      unfold cutD
      rw [dpa_len r1] at z
      rw [z.1, z.2, List.drop_zero, Nat.sub_zero, List.take_length]
    rw [e] at h
    exact ans le k h tx
  · rw [top_str tx]
    exact .inr (.inr ⟨_, rfl, h.1, ans le k h.2 (.str _)⟩)
  · rename_i ds
    obtain ⟨a, vs, rfl, h1, r1⟩ := top_scr le tx
    exact .inl ⟨_, _, rfl, h1, ans_lst le k h (dpa_cut r1 lo hi)⟩
  · exact h.elim
/-! ### -x -/
def pdNeg : Pd1 := fun d P => match d with
  | .int i => P (.sh (.int (-i)))
  | _ => False
theorem pm_neg : ∀ d P P', (∀ o, P o → P' o) → pdNeg d P → pdNeg d P' := by
  intro d P P' i h
  unfold pdNeg at h ⊢
  split at h
  · exact i _ h
  · exact h
theorem ok_neg {K : PySem.W.Frag} : UOk K (rU fun i => .int (-i)) pdNeg := by
  intro G H x d P Q le tx h k
  unfold pdNeg at h
  split at h
  · rw [top_int tx]
    exact ⟨_, rfl, ans le k h (.int _)⟩
  · exact h.elim
end VL

/-! the value layer, eighth part: built-ins, walks, methods that change a list -/
set_option Elab.async false
set_option linter.all false
set_option maxRecDepth 100000
namespace VL
open PySem PySem.Spec PyProof.Rows L2
open Evl (Ex ex_l ex_t)
variable [Wd]

/-! ### built-ins -/
def pd1 (p : PyData → (O → Prop) → Prop) : PdL := fun ds P => match ds with
  | [d] => p d P
  | _ => False
theorem lm1 {p : PyData → (O → Prop) → Prop} (h : ∀ d P P', (∀ o, P o → P' o) → p d P → p d P') : LMono (pd1 p) := by
  intro ds P P' i q
  unfold pd1 at q ⊢
  split at q
  · exact h _ _ _ i q
  · exact q
theorem ok1 {K : PySem.W.Frag} {r : List V → Hp → L2.VK → Prop} {p : PyData → (O → Prop) → Prop} (h : ∀ (G H : Hp) (x : V) (d : PyData) (P : O → Prop) (Q : L2.VK), Ex G H → Top K G H x d → p d P →
    (∀ o G' H' v f, P o → Grow G H G' H' → Own K G' H' v o f → (∀ a ∈ f, H a = none) → Q v H') → r [x] H Q) : COk K r (pd1 p) := by
  intro G H xs ds P Q le t q k
  unfold pd1 at q
  split at q
  · cases t with
    | cons a b =>
      cases b
      exact h G H _ _ P Q le a q k
  · exact q.elim
def pLen : Pd1 := fun d P => match d with
  | .list ds => P (.sh (.int ds.length))
  | .tuple ds => P (.sh (.int ds.length))
  | .str x => x.length ≤ sizeLine ∧ P (.sh (.int x.length))
  | _ => False
def rLenA (K : PySem.W.Frag) : List V → Hp → L2.VK → Prop := fun xs H Q => ∃ x n, xs = [x] ∧ LenV K x H n ∧ Q (.int n) H
theorem lm_len : LMono (pd1 pLen) := lm1 (by
  intro d P P' i h
  unfold pLen at h ⊢
  split at h
  · exact i _ h
  · exact i _ h
  · exact ⟨h.1, i _ h.2⟩
  · exact h)
theorem ok_len {K : PySem.W.Frag} : COk K (rLenA K) (pd1 pLen) := ok1 (by
  intro G H x d P Q le tx h k
  unfold pLen at h
  split at h
  · obtain ⟨a, vs, rfl, h1, r1⟩ := tx
    exact ⟨_, _, rfl, .inl ⟨vs, SqL.of h1, (dpa_len r1).symm⟩, ans le k h (.int _)⟩
  · obtain ⟨a, vs, rfl, h1, r1⟩ := top_tup le tx
    exact ⟨_, _, rfl, .inr ⟨vs, h1, (dpa_len r1).symm⟩, ans le k h (.int _)⟩
  · rw [top_str tx]
    exact ⟨_, _, rfl, ⟨h.1, rfl⟩, ans le k h.2 (.int _)⟩
  · exact h.elim)
def pAbs : Pd1 := fun d P => match d with
  | .int i => P (.sh (.int (if i < 0 then -i else i)))
  | _ => False
theorem lm_abs : LMono (pd1 pAbs) := lm1 (by
  intro d P P' i h
  unfold pAbs at h ⊢
  split at h
  · exact i _ h
  · exact h)
theorem ok_abs {K : PySem.W.Frag} : COk K (fun xs H Q => ∃ i, xs = [.int i] ∧ Q (.int (if i < 0 then -i else i)) H) (pd1 pAbs) := ok1 (by
  intro G H x d P Q le tx h k
  unfold pAbs at h
  split at h
  · rw [top_int tx]
    exact ⟨_, rfl, ans le k h (.int _)⟩
  · exact h.elim)
def pInt1 : Pd1 := fun d P => match d with
  | .int i => P (.sh (.int i))
  | .bool b => P (.sh (.int (if b then 1 else 0)))
  | _ => False
theorem lm_int1 : LMono (pd1 pInt1) := lm1 (by
  intro d P P' i h
  unfold pInt1 at h ⊢
  split at h
  · exact i _ h
  · exact i _ h
  · exact h)
theorem ok_int1 {K : PySem.W.Frag} : COk K (fun xs H Q => (∃ i, xs = [.int i] ∧ Q (.int i) H) ∨ ∃ k, xs = [.bl k] ∧ Q (.int (if k then 1 else 0)) H) (pd1 pInt1) := ok1 (by
  intro G H x d P Q le tx h k
  unfold pInt1 at h
  split at h
  · rw [top_int tx]
    exact .inl ⟨_, rfl, ans le k h (.int _)⟩
  · rw [top_bool tx]
    exact .inr ⟨_, rfl, ans le k h (.int _)⟩
  · exact h.elim)
def pTuple : Pd1 := fun d P => match d with
  | .list ds => P (.sh (.tuple ds))
  | .tuple ds => P (.sh (.tuple ds))
  | _ => False
theorem lm_tuple : LMono (pd1 pTuple) := lm1 (by
  intro d P P' i h
  unfold pTuple at h ⊢
  split at h
  · exact i _ h
  · exact i _ h
  · exact h)
theorem ok_tuple {K : PySem.W.Frag} : COk K (fun xs H Q => ∃ p ys, xs = [.ref p] ∧ ((SqL K H p ys ∧ ∀ l, H l = none → Q (.ref l) (upd H l (.tup ys))) ∨ (SqT K H p ys ∧ Q (.ref p) H))) (pd1 pTuple) := ok1 (by
  intro G H x d P Q le tx h k
  unfold pTuple at h
  split at h
  · obtain ⟨a, vs, rfl, h1, r1⟩ := tx
    exact ⟨a, vs, rfl, .inl ⟨SqL.of h1, ans_tup le k h r1⟩⟩
  · obtain ⟨a, vs, rfl, h1, r1⟩ := top_tup le tx
    exact ⟨a, vs, rfl, .inr ⟨h1, ans le k h tx⟩⟩
  · exact h.elim)
def pList : Pd1 := fun d P => match d with
  | .list ds => P (.lst ds)
  | .tuple ds => P (.lst ds)
  | _ => False
theorem lm_list : LMono (pd1 pList) := lm1 (by
  intro d P P' i h
  unfold pList at h ⊢
  split at h
  · exact i _ h
  · exact i _ h
  · exact h)
theorem ok_list {K : PySem.W.Frag} : COk K (fun xs H Q => ∃ p ys, xs = [.ref p] ∧ (SqL K H p ys ∨ SqT K H p ys) ∧ ∀ l, H l = none → Q (.ref l) (upd H l (.lst ys))) (pd1 pList) := ok1 (by
  intro G H x d P Q le tx h k
  unfold pList at h
  split at h
  · obtain ⟨a, vs, rfl, h1, r1⟩ := tx
    exact ⟨a, vs, rfl, .inl (SqL.of h1), ans_lst le k h r1⟩
  · obtain ⟨a, vs, rfl, h1, r1⟩ := top_tup le tx
    exact ⟨a, vs, rfl, .inr h1, ans_lst le k h r1⟩
  · exact h.elim)
theorem dqa_bools {K : PySem.W.Frag} {G : Hp} : ∀ {bs : List Bool} {vs : List V}, DqA K G vs (bs.map .bool) → vs = bs.map .bl
  | [], _, h => by cases h; rfl
  | b :: bs, _, h => by
    cases h with
    | cons a r =>
      cases a
      rw [dqa_bools r]
      rfl
theorem dqa_ints {K : PySem.W.Frag} {G : Hp} : ∀ {bs : List Int} {vs : List V}, DqA K G vs (bs.map .int) → vs = bs.map .int
  | [], _, h => by cases h; rfl
  | b :: bs, _, h => by
    cases h with
    | cons a r =>
      cases a
      rw [dqa_ints r]
      rfl
theorem dqa_strs {K : PySem.W.Frag} {G : Hp} : ∀ {bs : List Str} {vs : List V}, DqA K G vs (bs.map .str) → vs = bs.map .str
  | [], _, h => by cases h; rfl
  | b :: bs, _, h => by
    cases h with
    | cons a r =>
      cases a
      rw [dqa_strs r]
      rfl
theorem dqa_of_ints {K : PySem.W.Frag} {G : Hp} : ∀ (ns : List Int), DqA K G (ns.map .int) (ns.map .int)
  | [] => .nil
  | n :: ns => .cons (.int n) (dqa_of_ints ns)
theorem dqa_of_strs {K : PySem.W.Frag} {G : Hp} : ∀ (ns : List Str), DqA K G (ns.map .str) (ns.map .str)
  | [] => .nil
  | n :: ns => .cons (.str n) (dqa_of_strs ns)
def pAll (neg : Bool) : Pd1 := fun d P => ∃ bs : List Bool, d = .list (bs.map .bool) ∧ P (.sh (.bool (if neg then bs.any id else bs.all id)))
theorem lm_all {neg : Bool} : LMono (pd1 (pAll neg)) := lm1 fun d P P' i h => let ⟨bs, h1, h2⟩ := h; ⟨bs, h1, i _ h2⟩
theorem ok_all {K : PySem.W.Frag} : COk K (rAll K) (pd1 (pAll false)) := ok1 (by
  intro G H x d P Q le tx h k
  obtain ⟨bs, rfl, h⟩ := h
  obtain ⟨a, vs, rfl, h1, r1⟩ := tx
  have e := dqa_bools r1
  subst e
  exact ⟨a, bs, rfl, SqL.of h1, ans le k h (.bl _)⟩)
theorem ok_any {K : PySem.W.Frag} : COk K (rAny K) (pd1 (pAll true)) := ok1 (by
  intro G H x d P Q le tx h k
  obtain ⟨bs, rfl, h⟩ := h
  obtain ⟨a, vs, rfl, h1, r1⟩ := tx
  have e := dqa_bools r1
  subst e
  exact ⟨a, bs, rfl, SqL.of h1, ans le k h (.bl _)⟩)
def pSum : Pd1 := fun d P => ∃ ns : List Int, d = .list (ns.map .int) ∧ P (.sh (.int ns.sum))
theorem lm_sum : LMono (pd1 pSum) := lm1 fun d P P' i h => let ⟨bs, h1, h2⟩ := h; ⟨bs, h1, i _ h2⟩
theorem ok_sum {K : PySem.W.Frag} : COk K (rSum K) (pd1 pSum) := ok1 (by
  intro G H x d P Q le tx h k
  obtain ⟨ns, rfl, h⟩ := h
  obtain ⟨a, vs, rfl, h1, r1⟩ := tx
  have e := dqa_ints r1
  subst e
  exact ⟨a, ns, rfl, SqL.of h1, ans le k h (.int _)⟩)
def pMin : Pd1 := fun d P => ∃ ns : List Int, d = .list (ns.map .int) ∧ 0 < ns.length ∧ ∀ m, m ∈ ns → (∀ y, y ∈ ns → m ≤ y) → P (.sh (.int m))
theorem lm_min : LMono (pd1 pMin) := lm1 fun d P P' i h => let ⟨bs, h1, h2, h3⟩ := h; ⟨bs, h1, h2, fun m a b => i _ (h3 m a b)⟩
theorem ok_min {K : PySem.W.Frag} : COk K (rMin K) (pd1 pMin) := ok1 (by
  intro G H x d P Q le tx h k
  obtain ⟨ns, rfl, h0, h⟩ := h
  obtain ⟨a, vs, rfl, h1, r1⟩ := tx
  have e := dqa_ints r1
  subst e
  exact ⟨a, ns, rfl, SqL.of h1, h0, fun m x y => ans le k (h m x y) (.int _)⟩)
/-- repr -/
def rRepr (K : PySem.W.Frag) : List V → Hp → L2.VK → Prop := fun xs H Q => ∃ x d, xs = [x] ∧ Dp K H x d ∧ d.showable = true ∧ SeqAt.shaped d = true ∧ d.shown.length ≤ sizeLine ∧ Q (.str d.shown) H
theorem call_repr {X : Cx} (hg : X.A.guards = some []) (hu : X.A.units + 70 < cLine) : CallR X (.builtin "repr") (rRepr X.K) := by
  intro pins s σ H xs us Q I r h
  obtain ⟨x, d, rfl, hd, hs, hsh, hz, q⟩ := h
  obtain ⟨u, rfl, rx⟩ := vals1 r
  obtain ⟨as, rd⟩ := Dp.reads I d x u hd rx
  have lay := SeqAt.canLay_of_shaped hsh
  have nd := PyData.hasDict_of_canLay d lay
  have dep : d.depth ≤ 64 := by
    unfold SeqAt.shaped at hsh
    rw [Bool.and_eq_true] at hsh
    exact of_decide_eq_true hsh.2
  have fin : ∀ h' u tk, (∀ b o, s.heap.get? b = some o → h'.get? b = some o) → EP X pins σ Q (.str d.shown u) { s with heap := h', toks := tk } := fun h' u tk hk => ⟨.str d.shown, H, I.kept hk, ⟨u, rfl⟩, q⟩
  cases rd with
  | none => exact P.repr_of_none (fin s.heap _ _ fun _ _ e => e)
  | bool b => exact P.repr_of_bool (fin s.heap _ _ fun _ _ e => e)
  | int i t => exact P.repr_of_int (by simpa [PyData.showable] using hs) (fin s.heap _ _ fun _ _ e => e)
  | str x t => exact P.repr_of_str (fin s.heap _ _ fun _ _ e => e) hz
  | list h1 h2 h3 h4 => exact repr_of_reads' (.list h1 h2 h3 h4) hs (PyData.noDict_hsm nd) hg (by omega) (fun _ _ e => e) (fun h' u tk hk => fin h' u tk hk) hz
  | tuple h1 h2 h3 h4 => exact repr_of_reads' (.tuple h1 h2 h3 h4) hs (PyData.noDict_hsm nd) hg (by omega) (fun _ _ e => e) (fun h' u tk hk => fin h' u tk hk) hz
  | dict h1 h2 h3 h4 h5 => simp [PyData.canLay0] at lay
def pRepr : Pd1 := fun d P => d.showable = true ∧ SeqAt.shaped d = true ∧ d.shown.length ≤ sizeLine ∧ P (.sh (.str d.shown))
theorem lm_repr : LMono (pd1 pRepr) := lm1 fun d P P' i h => ⟨h.1, h.2.1, h.2.2.1, i _ h.2.2.2⟩
theorem ok_repr {K : PySem.W.Frag} : COk K (rRepr K) (pd1 pRepr) := ok1 fun G H x d P Q le tx h k => ⟨x, d, rfl, (tx.dq le).dp (SeqAt.canLay_of_shaped h.2.1), h.1, h.2.1, h.2.2.1, ans le k h.2.2.2 (.str _)⟩

/-! ### what is walked -/
section
variable {X : Cx} {tg e a b : Expr} {p pos tpos : Pos}
/-- a list just read, walked -/
theorem iter_l {pins : List (Addr × Obj)} {σ : L2.St} {H : Hp} {s : Shared} {R : It → Hp → Prop} {l : Addr} {vs : List V} (I : Inv X pins σ H s) (h : SqL X.K H l vs) (q : R (Itl X.K l) H) : wpAny (model X.prog X.w) X.A (pyIter (.ref l)) (PIE X pins σ tg R) X.xe s := by
  obtain ⟨its, rv, pl, hz⟩ := I.list h
  have kp : ∀ (b : Addr) (o : Obj) (new : Obj), s.heap.get? b = some o → (s.heap.push new).get? b = some o := fun b o new e => Heap.get?_push_of_some _ e
  refine wpAny_pyIter_list pl.isList ⟨_, [s.heap.objs.size], _, _, H, rfl, I.kept (t' := s.toks) fun b o e => kp b o _ e, turn_list l _, ⟨_, Heap.get?_push_size _ rfl, rfl, rfl⟩, fun c hc => ?_, q⟩
  rw [show c = s.heap.objs.size by simpa using hc]
  exact I.fpOk (Nat.le_refl _) (I.hok.fresh (Nat.le_refl _))
theorem iter_t {pins : List (Addr × Obj)} {σ : L2.St} {H : Hp} {s : Shared} {R : It → Hp → Prop} {l : Addr} {vs : List V} (I : Inv X pins σ H s) (h : SqT X.K H l vs) (q : R (Itt X.K l) H) : wpAny (model X.prog X.w) X.A (pyIter (.ref l)) (PIE X pins σ tg R) X.xe s := by
  obtain ⟨its, rv, pl, hz⟩ := I.tuple h
  have kp : ∀ (b : Addr) (o : Obj) (new : Obj), s.heap.get? b = some o → (s.heap.push new).get? b = some o := fun b o new e => Heap.get?_push_of_some _ e
  refine wpAny_pyIter_tuple (show s.heap.IsTuple l its.toArray from pl) ⟨_, [s.heap.objs.size], _, _, H, rfl, I.kept (t' := s.toks) fun b o e => kp b o _ e, turn_tuple l _, ⟨_, Heap.get?_push_size _ rfl, rfl, rfl⟩, fun c hc => ?_, q⟩
  rw [show c = s.heap.objs.size by simpa using hc]
  exact I.fpOk (Nat.le_refl _) (I.hok.fresh (Nat.le_refl _))
theorem yd_at {K : PySem.W.Frag} {G : Hp} {vs : List V} {ds : List PyData} (r : DqA K G vs ds) {i : Nat} {H : Hp} {x : V} {H' : Hp} (y : YAt vs i H x H') : YD K G ds i H x H' := by
  obtain ⟨rfl, hx⟩ := y
  obtain ⟨d, hd, q⟩ := dpa_get r hx
  exact ⟨d, hd, fun G1 e1 e2 => ⟨G1, Grow.refl e2, dp_mono e1 q⟩⟩
theorem walk_l {K : PySem.W.Frag} {G : Hp} {l : Addr} {vs : List V} {ds : List PyData} (h : SqL K G l vs) (r : DqA K G vs ds) : Walk (Itl K l) ds.length (fun h => Ex G h) (YD K G ds) := by
  rw [← dpa_len r]
  exact walk_list.mono (fun H e => ex_l e h) fun i H x H' _ _ y => yd_at r y
theorem walk_t {K : PySem.W.Frag} {G : Hp} {l : Addr} {vs : List V} {ds : List PyData} (h : SqT K G l vs) (r : DqA K G vs ds) : Walk (Itt K l) ds.length (fun h => Ex G h) (YD K G ds) := by
  rw [← dpa_len r]
  exact walk_tup.mono (fun H e => ex_t e h) fun i H x H' _ _ y => yd_at r y
def signsOf (x : Str) : List PyData := x.cps.toList.map fun c => .str ⟨#[c]⟩
/-- a list, a tuple, a text -/
def vSeqI (t : VT) : VI := fun S Q => t S fun o S1 => match o.dat with
  | .list ds => Q ds S1
  | .tuple ds => Q ds S1
  | .str x => Q (signsOf x) S1
  | _ => False
theorem vi_seq {t : VT} (h : VE X e t) : VIt X tg e (vSeqI t) := by
  refine ⟨fun S P P' i q => h.mono _ _ _ (fun o S1 z => ?_) q, ⟨fun pins s σ H R I hq => ?_⟩⟩
  · show (match o.dat with | .list ds => P' ds S1 | .tuple ds => P' ds S1 | .str x => P' (signsOf x) S1 | _ => False)
    have z : (match o.dat with | .list ds => P ds S1 | .tuple ds => P ds S1 | .str x => P (signsOf x) S1 | _ => False) := z
    split at z
    · exact i _ _ z
    · exact i _ _ z
    · exact i _ _ z
    · exact z
  obtain ⟨G, S, F, m, q⟩ := hq
  refine thn (h.pe.run pins s σ H (fun v H1 => (∃ l vs, v = .ref l ∧ SqL X.K H1 l vs ∧ R (Itl X.K l) H1) ∨ (∃ l vs, v = .ref l ∧ SqT X.K H1 l vs ∧ R (Itt X.K l) H1) ∨ ∃ x, v = .str x ∧ R (Its x) H1) I ?_) fun u s1 hu => ?_
  · refine ⟨G, S, F, m, h.mono _ _ _ (fun o S1 z G1 H1 v f F1 ev m1 ow ap nw => ?_) q⟩
    obtain ⟨G2, g1, d, m2, g3⟩ := m1.freezeT ow ap
    have ev2 := ev.given g1 g3 nw
    have z : (match o.dat with | .list ds => _ | .tuple ds => _ | .str x => _ | _ => False) := z
    cases hd : o.dat with
    | list ds =>
      rw [hd] at z d
      cases d with
      | lst h1 h2 => exact .inl ⟨_, _, rfl, SqL.of (m2.le _ _ h1), z _ _ _ _ ev2 m2 (walk_l (SqL.of h1) h2)⟩
    | tuple ds =>
      rw [hd] at z d
      cases d with
      | tup h1 h2 => exact .inr (.inl ⟨_, _, rfl, ex_t m2.le h1, z _ _ _ _ ev2 m2 (walk_t h1 h2)⟩)
    | str x =>
      rw [hd] at z d
      cases d
      refine .inr (.inr ⟨x, rfl, z _ _ _ _ ev2 m2 ?_⟩)
      have w := walk_str (z := x)
      have el : (signsOf x).length = x.cps.size := by unfold signsOf; rw [List.length_map]; simp
      rw [el]
      refine w.mono (fun _ _ => trivial) fun i H x' H' hi _ y => ?_
      obtain ⟨rfl, c, hc, rfl⟩ := y
      refine ⟨.str ⟨#[c]⟩, ?_, fun G e1 e2 => ⟨G, Grow.refl e2, .str _⟩⟩
      unfold signsOf
      rw [List.getElem?_map, Array.getElem?_toList, hc]
      rfl
    | none => rw [hd] at z; exact z.elim
    | bool b => rw [hd] at z; exact z.elim
    | int b => rw [hd] at z; exact z.elim
    | dict b => rw [hd] at z; exact z.elim
  · obtain ⟨v, H1, I1, ru, hv⟩ := hu
    rcases hv with ⟨l, vs, rfl, h1, q1⟩ | ⟨l, vs, rfl, h1, q1⟩ | ⟨x, rfl, q1⟩
    · obtain rfl : u = Value.ref l := ru
      exact iter_l I1 h1 q1
    · obtain rfl : u = Value.ref l := ru
      exact iter_t I1 h1 q1
    · obtain ⟨t, rfl⟩ := ru
      cases ha : x.cps.all (· < 128)
      · exact wpAny_pyIter_wide ha (pi_one (tk := s1.toks) I1 _ (turn_str _ x t "str_iterator" (.inr rfl)) ⟨_, Heap.get?_push_size _ rfl, rfl, rfl⟩ q1)
      · exact wpAny_pyIter_ascii ha (pi_one (tk := s1.toks) I1 _ (turn_str _ x t "str_ascii_iterator" (.inl rfl)) ⟨_, Heap.get?_push_size _ rfl, rfl, rfl⟩ q1)
/-- range -/
def intsD (lo : Int) (n : Nat) : List PyData := (List.range n).map fun i => .int (lo + (i : Nat))
theorem walk_ints {K : PySem.W.Frag} {G : Hp} {lo : Int} {n : Nat} : Walk (Itr lo n) (intsD lo n).length (fun h => Ex G h) (YD K G (intsD lo n)) := by
  have el : (intsD lo n).length = n := by unfold intsD; rw [List.length_map, List.length_range]
  rw [el]
  refine walk_range.mono (fun _ _ => trivial) fun i H x H' hi _ y => ?_
  obtain ⟨rfl, rfl⟩ := y
  refine ⟨.int (lo + i), ?_, fun G e1 e2 => ⟨G, Grow.refl e2, .int _⟩⟩
  unfold intsD
  rw [List.getElem?_map, List.getElem?_range hi]
  rfl
def vRng1 (t : VAT) : VI := fun S Q => t S fun bs S1 => ∃ j : Int, getA S1 bs = some [.int j] ∧ (-(2 ^ 62) ≤ j ∧ j < 2 ^ 62) ∧ Q (intsD 0 j.toNat) S1
def vRng2 (t : VAT) : VI := fun S Q => t S fun bs S1 => ∃ i j : Int, getA S1 bs = some [.int i, .int j] ∧ (-(2 ^ 62) ≤ i ∧ i < 2 ^ 62 ∧ -(2 ^ 62) ≤ j ∧ j < 2 ^ 62) ∧ Q (intsD i (j - i).toNat) S1
theorem vi_range1 {es : List Expr} {t : VAT} (ha : VA X es t) (h : ∀ t, PA X es t → PI X tg e (iRng1 t)) : VIt X tg e (vRng1 t) := by
  refine ⟨fun S P P' i q => ha.mono _ _ _ (fun bs S1 z => let ⟨j, h1, h2, h3⟩ := z; ⟨j, h1, h2, i _ _ h3⟩) q, PI.imp (h _ ha.pa) fun σ H R hq => ?_⟩
  obtain ⟨G, S, F, m, q⟩ := hq
  refine ⟨G, S, F, m, ha.mono _ _ _ (fun bs S1 z G1 H1 vs F1 ev m1 kb => ?_) q⟩
  obtain ⟨j, hg, hb, z⟩ := z
  cases boall_top (Ex.refl _) m1 kb hg with
  | cons t1 t2 =>
    cases t2
    rw [top_int t1]
    exact ⟨j, rfl, hb.1, hb.2, z _ _ _ _ ev m1 walk_ints⟩
theorem vi_range2 {es : List Expr} {t : VAT} (ha : VA X es t) (h : ∀ t, PA X es t → PI X tg e (iRng2 t)) : VIt X tg e (vRng2 t) := by
  refine ⟨fun S P P' i q => ha.mono _ _ _ (fun bs S1 z => let ⟨j, k, h1, h2, h3⟩ := z; ⟨j, k, h1, h2, i _ _ h3⟩) q, PI.imp (h _ ha.pa) fun σ H R hq => ?_⟩
  obtain ⟨G, S, F, m, q⟩ := hq
  refine ⟨G, S, F, m, ha.mono _ _ _ (fun bs S1 z G1 H1 vs F1 ev m1 kb => ?_) q⟩
  obtain ⟨i, j, hg, hb, z⟩ := z
  cases boall_top (Ex.refl _) m1 kb hg with
  | cons t1 t2 =>
    cases t2 with
    | cons t2 t3 =>
      cases t3
      rw [top_int t1, top_int t2]
      exact ⟨i, j, rfl, hb, z _ _ _ _ ev m1 walk_ints⟩
/-- pairs made on the way -/
def zipD : List PyData → List PyData → List PyData
  | x :: xs, y :: ys => .tuple [x, y] :: zipD xs ys
  | _, _ => []
theorem zipD_get : ∀ {xs ys : List PyData} {i : Nat} {x y : PyData}, xs[i]? = some x → ys[i]? = some y → (zipD xs ys)[i]? = some (.tuple [x, y])
  | x :: xs, y :: ys, 0, a, b, h1, h2 => by
    have e1 : x = a := Option.some.inj h1
    have e2 : y = b := Option.some.inj h2
    rw [← e1, ← e2]
    rfl
  | x :: xs, y :: ys, i + 1, a, b, h1, h2 => by
    have h1 : xs[i]? = some a := by simpa using h1
    have h2 : ys[i]? = some b := by simpa using h2
    exact zipD_get (i := i) h1 h2
  | [], _, _, _, _, h, _ => by simp at h
  | _ :: _, [], _, _, _, _, h => by simp at h
theorem zipD_len : ∀ (xs ys : List PyData), (zipD xs ys).length = min xs.length ys.length
  | x :: xs, y :: ys => by
    show (zipD xs ys).length + 1 = _
    rw [zipD_len xs ys, List.length_cons, List.length_cons]
    omega
  | [], _ => by simp [zipD]
  | _ :: _, [] => by simp [zipD]
theorem yd_pair {K : PySem.W.Frag} {G : Hp} {i : Nat} {H : Hp} {v : V} {H' : Hp} {fx fy : Nat → Option V} {ds : List PyData} (y : YPair fx fy i H v H') (h : ∀ x z, fx i = some x → fy i = some z → ∃ d e, Dq K G x d ∧ Dq K G z e ∧ ds[i]? = some (.tuple [d, e])) : YD K G ds i H v H' := by
  obtain ⟨T, x, z, rfl, hT, rfl, hx, hz⟩ := y
  obtain ⟨d, e, q1, q2, hd⟩ := h x z hx hz
  refine ⟨_, hd, fun G1 e1 e2 => ?_⟩
  have gr := Grow.new (o := .tup [x, z]) e2 hT
  exact ⟨_, gr, .tup (SqT.of upd_same) (.cons (dp_mono (e1.trans gr.ge) q1) (.cons (dp_mono (e1.trans gr.ge) q2) .nil))⟩
def vZip (t : VAT) : VI := fun S Q => t S fun bs S1 => ∃ a b : List PyData, (valsA bs = some [.list a, .list b] ∨ valsA bs = some [.tuple a, .tuple b]) ∧ Q (zipD a b) S1
theorem vi_zip {es : List Expr} {t : VAT} (ha : VA X es t) (h : ∀ t, PA X es t → PI X tg e (RZ.iZipA X.K t)) : VIt X tg e (vZip t) := by
  refine ⟨fun S P P' i q => ha.mono _ _ _ (fun bs S1 z => let ⟨a, b, h1, h3⟩ := z; ⟨a, b, h1, i _ _ h3⟩) q, PI.imp (h _ ha.pa) fun σ H R hq => ?_⟩
  obtain ⟨G, S, F, m, q⟩ := hq
  refine ⟨G, S, F, m, ha.mono _ _ _ (fun bs S1 z G1 H1 vs F1 ev m1 kb => ?_) q⟩
  obtain ⟨a, b, hg, z⟩ := z
  rcases hg with hg | hg
  · cases boall_vals kb hg with
    | cons t1 t2 =>
      cases t2 with
      | cons t2 t3 =>
        cases t3
        cases t1 with
        | lst h1 r1 =>
          cases t2 with
          | lst h2 r2 =>
            refine ⟨_, _, _, _, rfl, .inl ⟨SqL.of (m1.le _ _ h1), SqL.of (m1.le _ _ h2), z _ _ _ _ ev m1 ?_⟩⟩
            refine (walk_zip (by rw [zipD_len, dpa_len r1, dpa_len r2])).mono (fun H e => ⟨ex_l e (SqL.of h1), ex_l e (SqL.of h2)⟩) fun i H v H' _ _ y => yd_pair y fun x w hx hw => ?_
            obtain ⟨d, hd, q1⟩ := dpa_get r1 hx
            obtain ⟨d', hd', q2⟩ := dpa_get r2 hw
            exact ⟨d, d', q1, q2, zipD_get hd hd'⟩
  · cases boall_vals kb hg with
    | cons t1 t2 =>
      cases t2 with
      | cons t2 t3 =>
        cases t3
        cases t1 with
        | tup h1 r1 =>
          cases t2 with
          | tup h2 r2 =>
            refine ⟨_, _, _, _, rfl, .inr ⟨ex_t m1.le h1, ex_t m1.le h2, z _ _ _ _ ev m1 ?_⟩⟩
            have w : ∀ (xs ys : List V) (l l' : Addr) (n : Nat), n = min xs.length ys.length → Walk (RZ.ItzT X.K l l') n (fun H => SqT X.K H l xs ∧ SqT X.K H l' ys) (YPair (fun i => xs[i]?) fun i => ys[i]?) := by
              intro xs ys l l' n hn
              subst hn
              refine ⟨fun i _ hi q => ?_, fun _ q => ⟨xs, ys, q.1, q.2, by omega⟩, fun i H v H' _ q y => ?_⟩
              · have i1 : i < xs.length := by omega
                have i2 : i < ys.length := by omega
                exact ⟨xs, ys, xs[i], ys[i], q.1, q.2, by simp [i1], by simp [i2]⟩
              · obtain ⟨T, x, z, y1, y2, y3, y4, y5⟩ := y
                exact ⟨T, x, z, y1, y2, y3, y4 xs q.1, y5 ys q.2⟩
            refine (w _ _ _ _ _ (by rw [zipD_len, dpa_len r1, dpa_len r2])).mono (fun H e => ⟨ex_t e h1, ex_t e h2⟩) fun i H v H' _ _ y => yd_pair y fun x w hx hw => ?_
            obtain ⟨d, hd, q1⟩ := dpa_get r1 hx
            obtain ⟨d', hd', q2⟩ := dpa_get r2 hw
            exact ⟨d, d', q1, q2, zipD_get hd hd'⟩
def enumD (n : Nat) : List PyData → List PyData
  | [] => []
  | x :: xs => .tuple [.int (n : Nat), x] :: enumD (n + 1) xs
theorem enumD_get : ∀ {xs : List PyData} {n i : Nat} {x : PyData}, xs[i]? = some x → (enumD n xs)[i]? = some (.tuple [.int ((n + i : Nat) : Int), x])
  | x :: xs, n, 0, a, h => by
    have e1 : x = a := Option.some.inj h
    rw [← e1]
    rfl
  | x :: xs, n, i + 1, a, h => by
    have h : xs[i]? = some a := by simpa using h
    have q := enumD_get (n := n + 1) h
    show (enumD (n + 1) xs)[i]? = _
    rw [q, show n + 1 + i = n + (i + 1) by omega]
  | [], _, _, _, h => by simp at h
theorem enumD_len : ∀ (xs : List PyData) (n : Nat), (enumD n xs).length = xs.length
  | [], _ => rfl
  | x :: xs, n => by
    show (enumD (n + 1) xs).length + 1 = _
    rw [enumD_len xs, List.length_cons]
def vEnum (t : VAT) : VI := fun S Q => t S fun bs S1 => ∃ a : List PyData, valsA bs = some [.list a] ∧ Q (enumD 0 a) S1
theorem vi_enum {es : List Expr} {t : VAT} (ha : VA X es t) (h : ∀ t, PA X es t → PI X tg e (iEnum X.K t)) : VIt X tg e (vEnum t) := by
  refine ⟨fun S P P' i q => ha.mono _ _ _ (fun bs S1 z => let ⟨a, h1, h3⟩ := z; ⟨a, h1, i _ _ h3⟩) q, PI.imp (h _ ha.pa) fun σ H R hq => ?_⟩
  obtain ⟨G, S, F, m, q⟩ := hq
  refine ⟨G, S, F, m, ha.mono _ _ _ (fun bs S1 z G1 H1 vs F1 ev m1 kb => ?_) q⟩
  obtain ⟨a, hg, z⟩ := z
  cases boall_vals kb hg with
  | cons t1 t2 =>
    cases t2
    cases t1 with
    | lst h1 r1 =>
      refine ⟨_, _, rfl, SqL.of (m1.le _ _ h1), z _ _ _ _ ev m1 ?_⟩
      have el : (enumD 0 a).length = _ := (enumD_len a 0).trans (dpa_len r1).symm
      rw [el]
      refine walk_enum.mono (fun H e => ex_l e (SqL.of h1)) fun i H v H' _ _ y => yd_pair y fun x w hx hw => ?_
      cases hx
      obtain ⟨d, hd, q1⟩ := dpa_get r1 hw
      refine ⟨_, d, .int _, q1, ?_⟩
      have q2 := enumD_get (n := 0) hd
      rw [Nat.zero_add] at q2
      exact q2

/-! ### methods that change a list of one's own -/
/-- what a method makes of the items and of its arguments' data -/
abbrev PdM := List PyData → List PyData → (O → List PyData → Prop) → Prop
def MOk (K : PySem.W.Frag) (r : V → List V → Hp → L2.VK → Prop) (pm : PdM) : Prop := ∀ (G H : Hp) (a : Addr) (vs : List V) (ds : List PyData) (xs : List V) (es : List PyData) (P : O → List PyData → Prop) (Q : L2.VK),
  Ex G H → H a = some (.lst vs) → DqA K G vs ds → DqA K G xs es → pm ds es P → (∀ d ds' v vs', P (.sh d) ds' → DqA K G vs' ds' → Dq K G v d → Q v (upd H a (.lst vs'))) → r (.ref a) xs H Q
def vMeth (pm : PdM) (i : Nat) (t : VAT) : VT := fun S Q => t S fun bs S1 => ∃ ds es, S1[i]?.bind Sl.con = some (.lst ds) ∧ valsA bs = some es ∧ pm ds es fun o ds' => (∃ d, o = .sh d) ∧ Q o (S1.set i ((S1.getD i .em).put (.lst ds')))
def MdMono (pm : PdM) : Prop := ∀ ds es P P', (∀ o ds', P o ds' → P' o ds') → pm ds es P → pm ds es P'
theorem meth_use {K : PySem.W.Frag} {r : V → List V → Hp → L2.VK → Prop} {pm : PdM} {i : Nat} {t : VAT} {es : List Expr} (ok : MOk K r pm) (pmo : MdMono pm) {T : Type} {G H G1 H1 : Hp} {σ : L2.St} {S S1 : Ss} {F F1 : Nat → List Addr} {bs : List Bo} {us : List V} {Q : L2.VK}
    (ev : Evo G H (Mu S F) G1 H1 (Mu S1 F1)) (m1 : Md K G1 H1 σ S1 F1) (kb : BoAll K G1 σ bs us) {v : V} (hv : σ[i]? = some (some v))
    (z : ∃ ds es, S1[i]?.bind Sl.con = some (.lst ds) ∧ valsA bs = some es ∧ pm ds es fun o ds' => (∃ d, o = .sh d) ∧ ∀ G' H' v f F', Evo G H (Mu S F) G' H' (Mu (S1.set i ((S1.getD i .em).put (.lst ds'))) F') → Md K G' H' σ (S1.set i ((S1.getD i .em).put (.lst ds'))) F' →
      Own K G' H' v o f → (∀ a ∈ f, ¬ Mu (S1.set i ((S1.getD i .em).put (.lst ds'))) F' a) → (∀ a ∈ f, H a = none ∨ Mu S F a) → Q v H') : r v us H1 Q := by
  obtain ⟨ds, es, h1, h2, h3⟩ := z
  cases hs : S1[i]? with
  | none => rw [hs] at h1; cases h1
  | some s =>
    rw [hs] at h1
    have h1 : s.con = some (.lst ds) := h1
    obtain ⟨v', e', w⟩ := m1.at hs h1
    rw [hv] at e'
    cases e'
    obtain ⟨a, vs, rfl, ef, g, hb, r1⟩ := w
    have hi := m1.lt hs
    have eg : S1.getD i .em = s := by rw [List.getD_eq_getElem?_getD, hs]; rfl
    refine ok G1 H1 a vs ds us es _ Q m1.le hb r1 (boall_vals kb h2) h3 fun d ds' v' vs' hp r2 dv => ?_
    obtain ⟨_, hp⟩ := hp
    have ha : a ∈ F1 i := by rw [ef]; exact List.mem_cons_self
    have ng : ∀ b u, G1 b = some u → b ≠ a := fun b u q z => by rw [z, g] at q; cases q
    have m2 : Md K G1 (upd H1 a (.lst vs')) σ (S1.set i (s.put (.lst ds'))) F1 := by
      refine ⟨fun b u q => by rw [upd_ne (ng b u q)]; exact m1.le b u q, by rw [List.length_set]; exact m1.len, fun j t hj => ?_, fun j k b hj hk => ?_⟩
      · by_cases ej : j = i
        · subst ej
          rw [List.getElem?_set_self hi] at hj
          cases hj
          refine ⟨some (.ref a), hv, ?_⟩
          have own : Own K G1 (upd H1 a (.lst vs')) (.ref a) (.lst ds') (F1 j) := ⟨a, vs', rfl, ef, g, upd_same, r2⟩
          cases s with
          | em => cases h1
          | ow o => exact own
          | io u o =>
            obtain ⟨x, e, z⟩ := m1.sl j _ hs
            rw [hv] at e
            cases e
            exact ⟨z.1, own⟩
        · rw [List.getElem?_set_ne (Ne.symm ej)] at hj
          obtain ⟨x, e, z⟩ := m1.sl j t hj
          refine ⟨x, e, z.mono (Ex.refl _) (fun b hb' => (m1.free (m1.lt hj) b hb').1) fun b hb' u q => ?_⟩
          have ne : b ≠ a := fun y => ej (m1.dj j i b (m1.lt hj) hi hb' (by rw [y]; exact ha))
          rw [upd_ne ne]
          exact q
      · rw [List.length_set] at hj hk
        exact m1.dj j k b hj hk
    rw [eg] at hp
    refine hp G1 (upd H1 a (.lst vs')) v' [] F1 (ev.trans ⟨Ex.refl _, fun b u q n => ?_, fun _ _ q => .inl q, fun b q => ?_⟩) m2 ⟨rfl, dv⟩ (fun _ z => nomatch z) fun _ z => nomatch z
    · have ne : b ≠ a := fun y => n ⟨i, hi, by rw [y]; exact ha⟩
      rw [upd_ne ne]
      exact q
    · obtain ⟨j, hj, hb'⟩ := q
      rw [List.length_set] at hj
      exact .inr ⟨j, hj, hb'⟩
end
end VL

/-! the value layer, ninth part: methods of lists, stores by place, name op= -/
set_option Elab.async false
set_option linter.all false
set_option maxRecDepth 100000
namespace VL
open PySem PySem.Spec PyProof.Rows L2
open Evl (Ex ex_l ex_t)
variable [Wd]

section
variable {X : Cx} {tg e a b : Expr} {es : List Expr} {p pos tpos : Pos} {st : Stmt}
def vMth (pm : PdM) (i : Nat) (t : VAT) : VT := fun S Q => (∃ ds0, S[i]?.bind Sl.con = some (.lst ds0)) ∧ vMeth pm i t S Q
theorem vMth_mono {pm : PdM} {i : Nat} {t : VAT} (pmo : MdMono pm) (h : Mono t) : Mono (vMth pm i t) := fun S P P' k q => ⟨q.1, h _ _ _ (fun bs S1 z => let ⟨ds, es, h1, h2, h3⟩ := z; ⟨ds, es, h1, h2, pmo _ _ _ _ (fun o ds' y => ⟨y.1, k _ _ y.2⟩) h3⟩) q.2⟩
theorem ve_mth {r : V → List V → Hp → L2.VK → Prop} {pm : PdM} {i : Nat} {t : VAT} (ok : MOk X.K r pm) (pmo : MdMono pm) (ha : VA X es t) (h : ∀ t, PA X es t → PE X e (tBM X.K "list" r (tVar i) t)) : VE X e (vMth pm i t) := by
  refine ⟨vMth_mono pmo ha.mono, PE.imp (h _ ha.pa) fun σ H Q hq => ?_⟩
  obtain ⟨G, S, F, m, ⟨ds0, h0⟩, q⟩ := hq
  cases hs : S[i]? with
  | none => rw [hs] at h0; cases h0
  | some s =>
    rw [hs] at h0
    obtain ⟨v, ev, w⟩ := m.at hs h0
    obtain ⟨l, vs, rfl, ef, g, hb, r1⟩ := w
    refine ⟨_, ev, .inl ⟨rfl, _, SqL.of hb⟩, G, S, F, m, ha.mono _ _ _ (fun bs S1 z G1 H1 us F1 ev1 m1 kb => ?_) q⟩
    exact meth_use (i := i) (t := t) (es := es) (T := Unit) ok pmo ev1 m1 kb ev z
theorem ve_mth0 {r : V → List V → Hp → L2.VK → Prop} {pm : PdM} {i : Nat} (ok : MOk X.K r pm) (pmo : MdMono pm) (h : PE X e (tBM0 X.K "list" r (tVar i))) : VE X e (vMth pm i vNilA) := by
  refine ⟨vMth_mono pmo (fun _ _ _ i q => i _ _ q), PE.imp h fun σ H Q hq => ?_⟩
  obtain ⟨G, S, F, m, ⟨ds0, h0⟩, q⟩ := hq
  cases hs : S[i]? with
  | none => rw [hs] at h0; cases h0
  | some s =>
    rw [hs] at h0
    obtain ⟨v, ev, w⟩ := m.at hs h0
    obtain ⟨l, vs, rfl, ef, g, hb, r1⟩ := w
    exact ⟨_, ev, .inl ⟨rfl, _, SqL.of hb⟩, meth_use (i := i) (t := vNilA) (es := []) (T := Unit) ok pmo (Evo.refl G H _) m .nil ev q⟩
def pmAppend : PdM := fun ds es P => match es with
  | [d] => ds.length < sizeLine ∧ P (.sh .none) (ds ++ [d])
  | _ => False
theorem mm_append : MdMono pmAppend := by
  intro ds es P P' i h
  unfold pmAppend at h ⊢
  split at h
  · exact ⟨h.1, i _ _ h.2⟩
  · exact h
theorem mk_append {K : PySem.W.Frag} : MOk K rAppend pmAppend := by
  intro G H l vs ds xs es P Q le hl r1 r2 h k
  unfold pmAppend at h
  split at h
  · cases r2 with
    | cons q1 q2 =>
      cases q2
      exact ⟨l, vs, _, rfl, rfl, hl, by rw [dpa_len r1]; exact h.1, k _ _ _ _ h.2 (dpa_app r1 (.cons q1 .nil)) .non⟩
  · exact h.elim
def pmExtend : PdM := fun ds es P => match es with
  | [.list zs] => ds.length + zs.length ≤ sizeLine ∧ P (.sh .none) (ds ++ zs)
  | _ => False
theorem mm_extend : MdMono pmExtend := by
  intro ds es P P' i h
  unfold pmExtend at h ⊢
  split at h
  · exact ⟨h.1, i _ _ h.2⟩
  · exact h
theorem mk_extend {K : PySem.W.Frag} : MOk K (fun x xs H Q => ∃ G, Ex G H ∧ (∀ l u, xs = [.ref l] → G l = some u → H l = some u) ∧ rExtend x xs H Q) pmExtend := by
  intro G H l vs ds xs es P Q le hl r1 r2 h k
  unfold pmExtend at h
  split at h
  · cases r2 with
    | cons q1 q2 =>
      cases q2
      cases q1 with
      | lst h1 h2 =>
        exact ⟨G, le, fun a u _ z => le a u z, l, _, vs, _, rfl, rfl, hl, le _ _ h1, by rw [dpa_len r1, dpa_len h2]; exact h.1, k _ _ _ _ h.2 (dpa_app r1 h2) .non⟩
  · exact h.elim
theorem mk_extend' {K : PySem.W.Frag} : MOk K rExtend pmExtend := fun G H l vs ds xs es P Q le hl r1 r2 h k => (mk_extend G H l vs ds xs es P Q le hl r1 r2 h k).elim fun _ z => z.2.2
def pmPop : PdM := fun ds es P => match es with
  | [] => ∃ d, ds[ds.length - 1]? = some d ∧ P (.sh d) ds.dropLast
  | [.int i] => (-(2 ^ 63) ≤ i ∧ i < 2 ^ 63) ∧ ∃ k d, seqIndex? i ds.length = some k ∧ ds[k]? = some d ∧ P (.sh d) (ds.eraseIdx k)
  | _ => False
theorem mm_pop : MdMono pmPop := by
  intro ds es P P' i h
  unfold pmPop at h ⊢
  split at h
  · obtain ⟨d, h1, h2⟩ := h
    exact ⟨d, h1, i _ _ h2⟩
  · obtain ⟨h0, k, d, h1, h2, h3⟩ := h
    exact ⟨h0, k, d, h1, h2, i _ _ h3⟩
  · exact h
theorem dpa_dropLast {K : PySem.W.Frag} {G : Hp} {ds : List PyData} {vs : List V} (r : DqA K G vs ds) : DqA K G vs.dropLast ds.dropLast := by
  rw [List.dropLast_eq_take, List.dropLast_eq_take, dpa_len r]
  exact dpa_take _ r
theorem dpa_erase {K : PySem.W.Frag} {G : Hp} : ∀ {ds : List PyData} {vs : List V} (k : Nat), DqA K G vs ds → DqA K G (vs.eraseIdx k) (ds.eraseIdx k)
  | [], _, _, h => by cases h; exact .nil
  | _ :: _, _, 0, h => by
    cases h with
    | cons a b => exact b
  | _ :: _, _, k + 1, h => by
    cases h with
    | cons a b => exact .cons a (dpa_erase k b)
theorem mk_pop0 {K : PySem.W.Frag} : MOk K (fun x xs H Q => rPop x xs H Q ∨ rPopAt x xs H Q) pmPop := by
  intro G H l vs ds xs es P Q le hl r1 r2 h k
  unfold pmPop at h
  split at h
  · cases r2
    obtain ⟨d, h1, h2⟩ := h
    obtain ⟨v, hv, q⟩ := dpa_get' r1 h1
    exact .inl ⟨l, vs, v, rfl, rfl, hl, by rw [dpa_len r1]; exact hv, k _ _ _ _ h2 (dpa_dropLast r1) q⟩
  · obtain ⟨h0, j, d, h1, h2, h3⟩ := h
    cases r2 with
    | cons q1 q2 =>
      cases q2
      cases q1
      obtain ⟨v, hv, q⟩ := dpa_get' r1 h2
      exact .inr ⟨l, vs, _, j, v, rfl, rfl, hl, h0.1, h0.2, by rw [dpa_len r1]; exact h1, hv, k _ _ _ _ h3 (dpa_erase j r1) q⟩
  · exact h.elim
theorem mt_popA : MtR X "list.pop" fun x xs H Q => rPop x xs H Q ∨ rPopAt x xs H Q := fun pins s σ H x xs v us Q I rx rv h =>
  h.elim (mt_pop pins s σ H x xs v us Q I rx rv) (mt_popAt pins s σ H x xs v us Q I rx rv)

/-! ### xs[k] = e, xs a name -/
theorem slot_upd {K : PySem.W.Frag} {G H : Hp} {σ : L2.St} {S : Ss} {F : Nat → List Addr} (m : Md K G H σ S F) {i : Nat} {ds : List PyData} (h : S[i]?.bind Sl.con = some (.lst ds)) :
    ∃ a vs, σ[i]? = some (some (.ref a)) ∧ H a = some (.lst vs) ∧ DqA K G vs ds ∧ ∀ vs' ds', DqA K G vs' ds' → Md K G (upd H a (.lst vs')) σ (S.set i ((S.getD i .em).put (.lst ds'))) F ∧ Evo G H (Mu S F) G (upd H a (.lst vs')) (Mu (S.set i ((S.getD i .em).put (.lst ds'))) F) := by
  cases hs : S[i]? with
  | none => rw [hs] at h; cases h
  | some s =>
    rw [hs] at h
    have h : s.con = some (.lst ds) := h
    obtain ⟨v, hv, w⟩ := m.at hs h
    obtain ⟨a, vs, rfl, ef, g, hb, r1⟩ := w
    have hi := m.lt hs
    have eg : S.getD i .em = s := by rw [List.getD_eq_getElem?_getD, hs]; rfl
    have ha : a ∈ F i := by rw [ef]; exact List.mem_cons_self
    have ng : ∀ b u, G b = some u → b ≠ a := fun b u q z => by rw [z, g] at q; cases q
    refine ⟨a, vs, hv, hb, r1, fun vs' ds' r2 => ?_⟩
    rw [eg]
    refine ⟨⟨fun b u q => by rw [upd_ne (ng b u q)]; exact m.le b u q, by rw [List.length_set]; exact m.len, fun j t hj => ?_, fun j k b hj hk => ?_⟩, Ex.refl _, fun b u q n => ?_, fun _ _ q => .inl q, fun b q => ?_⟩
    · by_cases ej : j = i
      · subst ej
        rw [List.getElem?_set_self hi] at hj
        cases hj
        refine ⟨some (.ref a), hv, ?_⟩
        have own : Own K G (upd H a (.lst vs')) (.ref a) (.lst ds') (F j) := ⟨a, vs', rfl, ef, g, upd_same, r2⟩
        cases s with
        | em => cases h
        | ow o => exact own
        | io u o =>
          obtain ⟨x, e, z⟩ := m.sl j _ hs
          rw [hv] at e
          cases e
          exact ⟨z.1, own⟩
      · rw [List.getElem?_set_ne (Ne.symm ej)] at hj
        obtain ⟨x, e, z⟩ := m.sl j t hj
        refine ⟨x, e, z.mono (Ex.refl _) (fun b hb' => (m.free (m.lt hj) b hb').1) fun b hb' u q => ?_⟩
        have ne : b ≠ a := fun y => ej (m.dj j i b (m.lt hj) hi hb' (by rw [y]; exact ha))
        rw [upd_ne ne]
        exact q
    · rw [List.length_set] at hj hk
      exact m.dj j k b hj hk
    · have ne : b ≠ a := fun y => n ⟨i, hi, by rw [y]; exact ha⟩
      rw [upd_ne ne]
      exact q
    · obtain ⟨j, hj, hb'⟩ := q
      rw [List.length_set] at hj
      exact .inr ⟨j, hj, hb'⟩
def vSetIx (j : Nat) (te ti : VT) : VS := fun D S => te S fun o S1 => (∃ ds0, S1[j]?.bind Sl.con = some (.lst ds0)) ∧ ti S1 fun oi S2 => ∃ k n ds, oi = .sh (.int k) ∧ S2[j]?.bind Sl.con = some (.lst ds) ∧ ixN ds.length k = some n ∧ D.nx (S2.set j ((S2.getD j .em).put (.lst (ds.set n o.dat))))
theorem vs_setIx {j : Nat} {te ti : VT} (he : VE X e te) (hi : VE X a ti) (h : ∀ te ti, PE X e te → PE X a ti → PS X st (tAsg te (gSub (tVar j) ti rSetL))) : VSt X st (vSetIx j te ti) := by
  refine ⟨fun D D' S k q => he.mono _ _ _ (fun o S1 z => ⟨z.1, hi.mono _ _ _ (fun oi S2 y => let ⟨k', n, ds, h1, h2, h3, h4⟩ := y; ⟨k', n, ds, h1, h2, h3, k.nx _ h4⟩) z.2⟩) q, PS.imp (h _ _ he.pe hi.pe) fun D σ H hq => ?_⟩
  obtain ⟨G, S, F, m, q⟩ := hq
  refine ⟨G, S, F, m, he.mono _ _ _ (fun o S1 z G1 H1 v f F1 ev m1 ow ap nw => ?_) q⟩
  obtain ⟨G2, g1, d, m2, g3⟩ := m1.freezeT ow ap
  have ev2 := ev.given g1 g3 nw
  obtain ⟨⟨ds0, h0⟩, z⟩ := z
  obtain ⟨l, vs, hv, _⟩ := slot_upd m2 h0
  refine ⟨_, hv, G2, S1, F1, m2, hi.mono _ _ _ (fun oi S2 y G3 H3 w f3 F3 ev3 m3 ow3 ap3 nw3 => ?_) z⟩
  obtain ⟨k, n, ds, rfl, h1, h2, h3⟩ := y
  obtain ⟨_, dk⟩ := ow3
  cases dk
  obtain ⟨l', vs', hv', hl, r1, fin⟩ := slot_upd m3 h1
  rw [hv] at hv'
  cases hv'
  obtain ⟨m4, ev4⟩ := fin (vs'.set n v) (ds.set n o.dat) (dpa_set (dp_mono ev3.gle d) n r1)
  exact ⟨l, vs', k, n, rfl, rfl, hl, by rw [dpa_len r1]; exact h2, h3 _ _ _ _ ((ev2.trans ev3).trans ev4) m4⟩
/-! ### name op= e -/
def vAug (p : Pd2) (i : Nat) (t : VT) : VS := fun D S => ∃ d, S[i]? = some (.ow (.sh d)) ∧ t S fun o S1 => p d o.dat fun r => canSet S1 i = true ∧ ∃ d', r = .sh d' ∧ D.nx (S1.set i (.ow r))
theorem vs_augI {g : Int → Int → Int} {i : Nat} {t : VT} (h : VE X e t) (hp : ∀ te, PE X e te → PS X st (tAug i te (ipI g))) : VSt X st (vAug (pdInt (fun _ _ => True) fun x y => .int (g x y)) i t) := by
  refine ⟨fun D D' S k q => ?_, PS.imp (hp _ h.pe) fun D σ H hq => ?_⟩
  · obtain ⟨d, h1, q⟩ := q
    exact ⟨d, h1, h.mono _ _ _ (fun o S1 z => pm_int _ _ _ _ (fun r y => let ⟨y1, d', y2, y3⟩ := y; ⟨y1, d', y2, k.nx _ y3⟩) z) q⟩
  · obtain ⟨G, S, F, m, d, h1, q⟩ := hq
    obtain ⟨v, hv, w⟩ := m.at h1 rfl
    refine ⟨v, hv, G, S, F, m, h.mono _ _ _ (fun o S1 z G1 H1 u f F1 ev m1 ow ap nw => ?_) q⟩
    obtain ⟨_, dv⟩ := w
    have dv1 := dp_mono ev.gle dv
    unfold pdInt at z
    split at z
    · rename_i x y hx hy
      cases dv1
      have tp := ow.top m1.le (by rw [dat_int hy]; rfl)
      rw [top_int tp]
      obtain ⟨_, c, d', e2, z⟩ := z
      obtain ⟨m2, ev2⟩ := m1.take (v := .int (g _ _)) (o := .sh (.int (g _ _))) (f := []) (canSet_lt c) ⟨rfl, .int _⟩ (fun _ z => nomatch z) ev fun _ z => nomatch z
      exact ⟨_, _, rfl, rfl, z _ _ _ _ ev2 m2⟩
    · exact z.elim
/-- name = [.. for ..] -/
theorem vs_setLc {i : Nat} {is : List Nat} {ti : VI} {g : VG} {tt : VTT} {te : VT} (hti : Mono ti) (hg : ∀ d S P P', (∀ S', P S' → P' S') → g d S P → g d S P') (ht : Mono tt) (he : Mono te) (h : PS X st (tAsg (tLc (liftI X.K ti) (liftG X.K is g) (liftT X.K tt) (lift X.K te) is) (gName i))) :
    VSt X st (vAsg (vLc ti g tt te is) i) := by
  have mo := vLc_mono (is := is) hti hg ht he
  refine ⟨vAsg_mono mo, PS.imp h fun D σ H hq => ?_⟩
  have q : lift X.K (vLc ti g tt te is) σ H fun x H1 => D.nx (σ.set i (some x)) H1 := asg_use mo hq
  exact lc_use hti hg ht he q
end
end VL

/-! the value layer, tenth part: the facts of a def in one, the law's end, x or y, unpacking -/
set_option Elab.async false
set_option linter.all false
set_option maxRecDepth 100000
namespace VL
open PySem PySem.Spec PyProof.Rows L2
open Evl (Ex ex_l ex_t)
variable [Wd]

/-! ### the facts of a def in one -/
structure Df (P : Program) (w : World) (K : PySem.W.Frag) (mg : Str → Option Value) (base : Heap) (k : Nat) (x : Str) (ps : List Str) (ms : List Bool) (kbs : List (List Str × List Nat)) (spec : VSp) : Prop where
  ex : ∃ (f : Addr) (fd : FuncData), FnG P w K mg base CX0 k f fd ps (spV K ms spec) ∧ mg x = some (.ref f) ∧ PySem.W.keepIn K (.ref f) = true ∧ Binds K fd ps [] ∧ ∀ q ∈ kbs, KB K fd ps q.1 q.2
  sm : SMono spec
theorem Df.up {P : Program} {w : World} {K : PySem.W.Frag} {mg : Str → Option Value} {base : Heap} {j k : Nat} {x : Str} {ps : List Str} {ms : List Bool} {kbs : List (List Str × List Nat)} {spec : VSp} (D : Df P w K mg base j x ps ms kbs spec) (h : j ≤ k) : Df P w K mg base k x ps ms kbs spec :=
  ⟨let ⟨f, fd, h1, h2⟩ := D.ex; ⟨f, fd, h1.mono h, h2⟩, D.sm⟩
section
variable {X : Cx} {k j : Nat} {ps ks : List Str} {x : Str} {p pos : Pos} {e : Expr} {es : List Expr} {ms : List Bool} {kbs : List (List Str × List Nat)} {spec : VSp} {t : VAT} {kws : List Keyword}
theorem ve_callD (D : Df X.prog X.w X.K X.mg X.base k x ps ms kbs spec) (hr : Room j X.A) (hk : k ≤ j) (hgd : X.A.guards = some []) (ha : VA X (e :: es) t) (hg : Gl X x) (hdb : (x == ("__debug__" : Str)) = false)
    (he : starEach (e :: es) X.env = (false, eval e X.env) :: starEach es X.env) (hpl : (backTo pos (starEach es X.env)).any (·.1) = false) : VE X (.Call (.Name x p) (e :: es) [] pos) (vCall ms spec t) := by
  obtain ⟨f, fd, h1, h2, h3, h4, _⟩ := D.ex
  exact ve_call h1 D.sm (hr.mono hk) hgd h2 h3 h4 ha hg hdb he hpl
theorem ve_callKD {pm : List Nat} (D : Df X.prog X.w X.K X.mg X.base k x ps ms kbs spec) (hq : (ks, pm) ∈ kbs) (hr : Room j X.A) (hk : k ≤ j) (hgd : X.A.guards = some []) (ha : VKw X kws t) (hg : Gl X x) (hdb : (x == ("__debug__" : Str)) = false)
    (hall : (backToKw pos (keywordEach kws X.env)).all (·.1.isSome) = true) (hks : (backToKw pos (keywordEach kws X.env)).filterMap (·.1) = ks)
    (hpl : ((backTo pos (starEach [] X.env)).any (·.1) || (backToKw pos (keywordEach kws X.env)).any (·.1.isNone)) = false) : VE X (.Call (.Name x p) [] kws pos) (vCallK ms spec pm ks.length t) := by
  obtain ⟨f, fd, h1, h2, h3, _, h5⟩ := D.ex
  exact ve_callK h1 D.sm (hr.mono hk) hgd h2 h3 (h5 _ hq) ha hg hdb hall hks hpl
end
/-! ### x or y, x and y by truth -/
def truD : PyData → Option Bool
  | .none => some false
  | .bool b => some b
  | .int i => some (i != 0)
  | .str x => some ((x.length : Int) != 0)
  | .list ds => some (!ds.isEmpty)
  | .tuple ds => some (!ds.isEmpty)
  | .dict _ => none
section
variable {X : Cx} {e a b : Expr} {es rest : List Expr} {pos : Pos} {st : Stmt}
def vOrT (ta tb : VT) : VT := fun S Q => ta S fun o S1 => ∃ d, o.rd = some d ∧ ∃ k, truD d = some k ∧ (∀ x, d = .str x → x.length ≤ sizeLine) ∧ if k = true then Q o S1 else tb S1 Q
theorem tru_top {K : PySem.W.Frag} {G H : Hp} {v : V} {d : PyData} {k : Bool} (le : Ex G H) (t : Top K G H v d) (h : truD d = some k) (hs : ∀ x, d = .str x → x.length ≤ sizeLine) : TruV K v H k := by
  cases d with
  | none => rw [top_none t]; cases h; rfl
  | bool b => rw [top_bool t]; cases h; rfl
  | int i => rw [top_int t]; cases h; rfl
  | str x => rw [top_str t]; cases h; exact ⟨hs x rfl, rfl⟩
  | list ds =>
    obtain ⟨l, vs, rfl, h1, r⟩ := t
    cases h
    refine .inl ⟨vs, SqL.of h1, ?_⟩
    cases r <;> rfl
  | tuple ds =>
    obtain ⟨l, vs, rfl, h1, r⟩ := top_tup le t
    cases h
    refine .inr (.inl ⟨vs, h1, ?_⟩)
    cases r <;> rfl
  | dict q => cases h
theorem ve_orT {ta tb : VT} (ha : VE X a ta) (hb : VE X (.BoolOp .Or (b :: rest) pos) tb) : VE X (.BoolOp .Or (a :: b :: rest) pos) (vOrT ta tb) := by
  refine ⟨fun S P P' i q => ha.mono _ _ _ (fun o S1 z => ?_) q, PE.imp (pe_orT ha.pe hb.pe) fun σ H Q hq => ?_⟩
  · obtain ⟨d, h0, k, h1, h2, z⟩ := z
    refine ⟨d, h0, k, h1, h2, ?_⟩
    cases k with
    | true => exact i _ _ z
    | false => exact hb.mono _ _ _ i z
  · obtain ⟨G, S, F, m, q⟩ := hq
    refine ⟨G, S, F, m, ha.mono _ _ _ (fun o S1 z G1 H1 v f F1 ev m1 ow ap nw => ?_) q⟩
    obtain ⟨d, h0, k, h1, h2, z⟩ := z
    refine ⟨k, tru_top m1.le (ow.top m1.le h0) h1 h2, ?_⟩
    cases k with
    | true => exact z G1 H1 v f F1 ev m1 ow ap nw
    | false => exact ⟨G1, S1, F1, m1, hb.mono _ _ _ (fun b S2 y => evo_ve ev y) z⟩
/-! ### a, b = x, y where a name is a cell -/
theorem vs_parC {t u : VT} {i j : Nat} {K' : PySem.W.Frag} (hK : K' = X.K) (ha : VE X a t) (hb : VE X b u) (hp : ∀ ta tb, PE X a ta → PE X b tb → PS X st (tAsg (tTup (tCons ta (tCons tb tNil))) (gTup K' 2 (gCons (gName i) (gCons (gName j) gNil))))) : VSt X st (vPar i j t u) := by
  subst hK
  refine ⟨fun D D' S k q => ha.mono _ _ _ (fun o S1 z => hb.mono _ _ _ (fun o' S2 y => ⟨y.1, y.2.1, y.2.2.1, k.nx _ y.2.2.2⟩) z) q, PS.imp (hp _ _ ha.pe hb.pe) fun D σ H hq => ?_⟩
  obtain ⟨G, S, F, m, q⟩ := hq
  refine ⟨G, S, F, m, ha.mono _ _ _ (fun o S1 z G1 H1 v f F1 ev m1 ow ap nw => ?_) q⟩
  refine ⟨G1, S1, F1, m1, hb.mono _ _ _ (fun o' S2 z2 G2 H2 v' f' F2 ev2 m2 ow2 ap2 nw2 => ?_) z⟩
  obtain ⟨ne, ci, cj, z2⟩ := z2
  refine ⟨by show 2 ≤ sizeLine; decide, fun T hT => ⟨T, [v, v'], rfl, SqT.of upd_same, rfl, v, [v'], rfl, v', [], rfl, rfl, ?_⟩⟩
  have gr : Grow G2 H2 G2 (upd H2 T (.tup [v, v'])) := Grow.newO m2.le hT
  have m2' := m2.grow gr
  obtain ⟨ow1, ap1⟩ := ow.stay ev2 ap
  have keepO : ∀ {v : V} {o : O} {f : List Addr}, Own X.K G2 H2 v o f → Own X.K G2 (upd H2 T (.tup [v, v'])) v o f := fun {v o f} w => w.mono (Ex.refl _) (fun a h => (w.tracked a h).1) fun a h u q => by
    rw [upd_ne (ne_of_none q hT)]; exact q
  have keepO' : ∀ {v1 : V} {o : O} {f : List Addr}, Own X.K G2 H2 v1 o f → Own X.K G2 (upd H2 T (.tup [v, v'])) v1 o f := fun {v1 o f} w => w.mono (Ex.refl _) (fun a h => (w.tracked a h).1) fun a h u q => by
    rw [upd_ne (ne_of_none q hT)]; exact q
  obtain ⟨m3, ev3⟩ := m2'.take (canSet_lt ci) (keepO' ow1) ap1 ((ev.trans ev2).trans (gr.evo _)) nw
  have ap3 : ∀ a ∈ f', ¬ Mu (S2.set i (.ow o)) (fset F2 i f) a := fun x hx y => by
    rcases mu_set y with y | y
    · rcases nw2 x hx with w | w
      · obtain ⟨_, u, q⟩ := ow.tracked x y
        rw [w] at q; cases q
      · exact ap x y w
    · exact ap2 x hx y
  have hj : j < (S2.set i (.ow o)).length := by rw [List.length_set]; exact canSet_lt cj
  obtain ⟨m4, ev4⟩ := m3.take hj (keepO' ow2) ap3 ev3 fun x hx => ev.back (nw2 x hx)
  exact z2 _ _ _ _ ev4 m4
end
/-! ### the law's end -/
def scrD (ns : List Int) : PyData := .dict [(.none, .list (ns.map .int))]
def specLaw : VSp := fun os P => ∃ ns : List Int, os = [.sh (scrD ns)] ∧ ns.length ≤ 63 ∧ P (.sh (.bool true)) os
theorem sm_law : SMono specLaw := fun os P P' i h => let ⟨ns, h1, h2, h3⟩ := h; ⟨ns, h1, h2, i _ _ h3⟩
/-- one abstract heap that knows the script alone -/
theorem script_heap {P : Program} {w : World} {K : PySem.W.Frag} {s : Shared} {a : Addr} {vs : List Value} {ns : List Int} (KX : K.In s.heap) (ha : s.heap.get? a = some { cls := .type "list", data := .seq vs.toArray }) (hi : IntsAre vs ns) (hl : ns.length ≤ sizeLine) :
    ∃ H : Hp, SqL K H a (ns.map V.int) ∧ HOk P w H s.heap ∧ ∀ b u, H b = some u → b = a ∧ K.lookup a = none ∧ ∃ o, u = .frz o (.lst (ns.map V.int)) := by
  have rv := vals_ints hi
  have lenV := hi.length
  cases hk : K.lookup a with
  | some o =>
    have e := KX a o hk
    rw [ha] at e
    cases e
    exact ⟨fun _ => none, .inr ⟨_, vs.toArray, _, hk, rfl, rfl, rfl, by rw [List.size_toArray, lenV]; exact hl, by simpa using rv⟩, fun b u (z : (none : Option HO) = some u) => (nomatch z), fun b u (z : (none : Option HO) = some u) => (nomatch z)⟩
  | none =>
    have only : ∀ b u, (if b = a then some (HO.frz { cls := .type "list", data := .seq vs.toArray } (.lst (ns.map V.int))) else none) = some u → b = a ∧ u = .frz { cls := .type "list", data := .seq vs.toArray } (.lst (ns.map V.int)) := fun b u z => by
      by_cases hb : b = a
      · rw [if_pos hb] at z
        exact ⟨hb, (Option.some.inj z).symm⟩
      · rw [if_neg hb] at z; cases z
    refine ⟨fun b => if b = a then some (.frz { cls := .type "list", data := .seq vs.toArray } (.lst (ns.map V.int))) else none, .inl (.inr ⟨_, if_pos rfl⟩), fun b u z => ?_, fun b u z => ?_⟩
    · obtain ⟨rfl, rfl⟩ := only b u z
      exact ⟨ha, by rw [List.length_map]; exact hl, vs, _, rv, ha⟩
    · obtain ⟨rfl, rfl⟩ := only b u z
      exact ⟨rfl, rfl, _, rfl⟩
theorem lawg {P : Program} {w : World} {K : PySem.W.Frag} {mg mb : Str → Option Value} {k : Nat} {fa a : Addr} {fd : FuncData} {x : Str} {s : Shared} {vs : List Value} {ns : List Int} (KX : K.In s.heap) (hns : s.heap.Ns mainGlobals mg) (hb : s.heap.Ns builtinsNs mb)
    (hbb : ∀ x : Str, x ≠ "__name__" → mb x = bootBuiltins x) (hlim : s.heap.NoLimit) (hg : s.gens = #[]) (ha : s.heap.get? a = some { cls := .type "list", data := .seq vs.toArray }) (hi : IntsAre vs ns) (hl : ns.length ≤ 63) (hr : Room k callerA)
    (F : ∀ base : Heap, K.In base → base.Ns mainGlobals mg → FnG P w K mg base CX0 k fa fd [x] (spV K [false] specLaw)) (hbind : ∀ (s : Shared) (u : Value), BindsTo s fd ⟨[u], []⟩ [(x, u)]) :
    codeAny (model P w) callerA (.call (.ref fa) ⟨[.ref a], []⟩) (fun r s' => r = .ok (.ret (.bool true)) ∧ OldK s.heap s'.heap ∧ s'.os = s.os ∧ AllBare s'.gens) s := by
  obtain ⟨H, hS, hok, one⟩ := script_heap (P := P) (w := w) KX ha hi (Nat.le_trans hl (by decide))
  -- dicts and written objects are not hidden
  have free : ∀ {b : Addr} {o : Obj}, s.heap.get? b = some o → (o.data = .seq vs.toArray 0 → K.lookup a ≠ none ∨ b ≠ a) → H b = none := fun {b o} e n => by
    cases q : H b with
    | none => rfl
    | some u =>
      obtain ⟨rfl, hn, _⟩ := one b u q
      rw [ha] at e
      cases e
      rcases n rfl with z | z
      · exact absurd hn z
      · exact absurd rfl z
  have ns' : ∀ {b : Addr} {m : Str → Option Value}, s.heap.Ns b m → (hidT s.heap H).Ns b m := fun {b m} h => by
    obtain ⟨o, es, ep, e, d, r⟩ := h
    refine ⟨o, es, ep, hidT_get e (free e fun z => ?_), d, r⟩
    rw [d] at z
    cases z
  have kin : K.In (hidT s.heap H) := fun b o e => by
    refine hidT_get (KX b o e) ?_
    cases q : H b with
    | none => rfl
    | some u =>
      obtain ⟨rfl, hn, _⟩ := one b u q
      rw [hn] at e
      cases e
  obtain ⟨mc, l1, l2⟩ := hlim
  have hM : Mod K mg (hidT s.heap H) := ⟨kin, ns' hns, ⟨mb, ns' hb, hbb⟩, ⟨mc, ns' l1, l2⟩⟩
  have e0 : Env0 P w K mg (hidT s.heap H) callerA [] s H := ⟨rfl, hM, fun b o e => of_hidT e, Nat.le_of_eq (hidT_size _ _), trivial, fun b z => (nomatch z), hok, .of_eq hg⟩
  have hsp : spV K [false] specLaw [.ref a] H (fun v _ => v = .bl true) fun _ _ _ => False := by
    refine ⟨rfl, H, [.sh (scrD ns)], [[]], Ex.refl H, .cons ⟨rfl, .scr hS (dqa_of_ints ns)⟩ .nil, fun i j f g b h1 h2 h3 _ => ?_, trivial, ns, rfl, hl, fun G' H' v f fs' _ _ ow _ _ _ _ => ?_⟩
    · cases i with
      | zero => cases h1; cases h3
      | succ i => simp at h1
    · obtain ⟨_, q⟩ := ow
      cases q
      rfl
  refine codeAny_mono ((F _ kin (ns' hns)).run callerA [] s H ⟨[.ref a], []⟩ [.ref a] [.ref a] _ _ hr rfl e0 (hbind s (.ref a)) (.cons rfl .nil) hsp) fun r s' h => ?_
  match r, h with
  | .error e, h => exact False.elim h
  | .ok .next, h => exact False.elim h
  | .ok .brk, h => exact False.elim h
  | .ok .cont, h => exact False.elim h
  | .ok (.ret u), h =>
    obtain ⟨v, H', os, bare, un, hok', r', q⟩ := h
    have q' : v = .bl true := q
    subst q'
    obtain rfl : u = Value.bool true := r'
    refine ⟨rfl, OldK.of_keep fun b o e => ?_, os, bare⟩
    cases q : H b with
    | none => exact un.keep b o e q (fun z => nomatch z) fun z => nomatch z
    | some u =>
      obtain ⟨_, _, ob, rfl⟩ := one b u q
      obtain ⟨e1, _⟩ := hok b _ q
      obtain ⟨e2, _⟩ := hok' b _ (un.frzs b ob _ q)
      rw [e] at e1; cases e1
      exact e2
omit [Wd] in
/-- the goal that k_head leaves -/
theorem walkG {l : PySem.W.OpenLaw} {k : Nat} {q : Program} {loose : List Str} {XP : (Str → Option Value) → Heap → Prop} {YP : World → Heap → Prop} {d : DefRec} {K : Params → PySem.W.Frag} {x : Str} (hn : l.most = some 63) (hdf : d.params.defaults = []) (hr : Room k callerA)
    (hY : ∀ (w : World) (h : Heap), YP w h → (K w.params).In h)
    (F : ∀ (w : World) (mg : Str → Option Value) (fa : Addr) (h : Heap), (K w.params).In h → h.Ns mainGlobals mg → mg d.name = some (.ref fa) → ∃ fd : FuncData, (∀ (s : Shared) (u : Value), BindsTo s fd ⟨[u], []⟩ [(x, u)]) ∧
      ∀ base : Heap, (K w.params).In base → base.Ns mainGlobals mg → FnG l.prog w (K w.params) mg base CX0 k fa fd [x] (@spV ⟨l.prog, w⟩ (K w.params) [false] specLaw)) :
    PySem.W.WalkO q loose XP YP l.row.toRowW d [] (fun f vs => PySem.call f vs) := by
  refine Att.attach_call hn hdf fun w s₀ s mg mb fa o pm cd doc a vs ns G Y ho hd hcd hmg hobj hints hlen hg => ?_
  obtain ⟨fd, hb, hF⟩ := F w mg fa _ (hY w _ Y) G.T.g hmg
  exact @lawg ⟨l.prog, w⟩ _ _ _ _ _ _ _ _ _ _ _ _ _ (hY w _ Y) G.T.g G.T.b G.T.builtins G.T.nolimit hg hobj hints hlen hr hF hb
end VL

/-! the value layer, eleventh part: what the printed derivations name -/
set_option Elab.async false
set_option linter.all false
set_option maxRecDepth 100000
namespace VL
open PySem PySem.Spec PyProof.Rows L2
open Evl (Ex ex_l ex_t)
variable [Wd]

/-! ### the built-in names -/
structure Bts (mg : Str → Option Value) : Prop where
  n_len : mg "len" = none
  n_abs : mg "abs" = none
  n_int : mg "int" = none
  n_tuple : mg "tuple" = none
  n_list : mg "list" = none
  n_all : mg "all" = none
  n_any : mg "any" = none
  n_sum : mg "sum" = none
  n_min : mg "min" = none
  n_max : mg "max" = none
  n_repr : mg "repr" = none
  n_range : mg "range" = none
  n_zip : mg "zip" = none
  n_enumerate : mg "enumerate" = none
  n_sorted : mg "sorted" = none
  n_set : mg "set" = none
  n_isinstance : mg "isinstance" = none
  n_str : mg "str" = none
  n_bool : mg "bool" = none
theorem units65 {k : Nat} {A : Around} (hr : Room k A) : A.units + 65 < cLine := by have := hr.un; omega
theorem units70 {k : Nat} {A : Around} (hr : Room k A) : A.units + 70 < cLine := by have := hr.un; omega

/-! ### y = [..] in one -/
theorem set_lc {X : Cx} {i : Nat} {is : List Nat} {y : Str} {py : Pos} {elt tg iter : Expr} {ifs : List Expr} {scope : Scope} {own : List (Str × Nat)} {pos spos : Pos} {ti : VI} {g : VG} {tt : VTT} {te : VT} (hc : X.calm = true) (hN : X.N.Nodup) (hy : X.N[i]? = some y) (hyl : X.env.scope.names.lookup y = some .local)
    (hsw : swapsWith (.ListComp elt [⟨tg, iter, ifs, 0⟩] scope pos) (some (.Name y py)) spos.line X.env = pure true) (hi : VIt X tg iter ti) (ok : BlkOk X.N X.env.scope scope own) (hown : own.map (·.2) = is)
    (hg : ∀ (s : Shared) (H : Hp) (C : Addr) (cl : List (Str × Addr)) (fp : List Addr), VGt (X.blk s H scope (compEnvC scope cl C X.env) fp) is tg g)
    (ht : ∀ (s : Shared) (H : Hp) (C : Addr) (cl : List (Str × Addr)) (fp : List Addr), VTs (X.blk s H scope (compEnvC scope cl C X.env) fp) ifs tt)
    (he : ∀ (s : Shared) (H : Hp) (C : Addr) (cl : List (Str × Addr)) (fp : List Addr), VE (X.blk s H scope (compEnvC scope cl C X.env) fp) elt te) (hs : ∀ x, foldedSetIterable iter X.env x = pure x) (s0 : Shared) :
    VSt X (.Assign [.Name y py] (.ListComp elt [⟨tg, iter, ifs, 0⟩] scope pos) spos) (vAsg (vLc ti g tt te is) i) := by
  subst hown
  exact vs_setLc hi.mono (hg s0 (fun _ => none) 0 [] []).mono (ht s0 (fun _ => none) 0 [] []).mono (he s0 (fun _ => none) 0 [] []).mono
    (ps_setLc hc hN hy hyl hsw hi.pi ok (fun s H C cl fp => (hg s H C cl fp).pg) (fun s H C cl fp => (ht s H C cl fp).pts) (fun s H C cl fp => (he s H C cl fp).pe) hs)

/-! ### x[::-1] -/
section
variable {prog : Program} {w : World} {A : Around} {E : Value → Shared → Prop} {s : Shared}
theorem places_back (n : Nat) : Builtin.Slice.slicePlaces ((n : Int) - 1) (-1) (-1) = n := by
  unfold Builtin.Slice.slicePlaces
  rw [if_neg (by decide : ¬ ((-1 : Int) > 0))]
  by_cases h : (n : Int) - 1 > -1
  · rw [if_pos h, show (-(-1) : Int) = 1 by decide, Int.ediv_one]
    omega
  · rw [if_neg h]
    omega
theorem fm_congr {α β : Type} {f g : α → Option β} : ∀ {l : List α}, (∀ k ∈ l, f k = g k) → l.filterMap f = l.filterMap g
  | [], _ => rfl
  | x :: l, h => by
    rw [List.filterMap_cons, List.filterMap_cons, h x List.mem_cons_self, fm_congr fun k hk => h k (List.mem_cons_of_mem _ hk)]
theorem pick_back (xs : Array Value) : (List.range xs.size).filterMap (fun (k : Nat) => xs[((xs.size : Int) - 1 + (k : Int) * -1).toNat]?) = xs.toList.reverse := by
  have e : ∀ k ∈ List.range xs.size, xs[((xs.size : Int) - 1 + (k : Int) * -1).toNat]? = xs[xs.size - 1 - k]? := fun k hk => by
    have := List.mem_range.mp hk
    rw [show ((xs.size : Int) - 1 + (k : Int) * -1).toNat = xs.size - 1 - k by omega]
  rw [fm_congr e]
  have q : ((List.range xs.size).map fun k => xs.size - 1 - k).filterMap (fun i => xs[i]?) = xs.toList.reverse := by
    rw [PySem.W.krv_range, List.filterMap_reverse, PySem.W.krv_all]
  rw [List.filterMap_map] at q
  exact q
theorem getItem_back {t sl : Addr} {items : Array Value} {tk : Tok} {Q : Value → Shared → Prop} (ht : IsTup s.heap t items) (hs : s.heap.IsSliceOf sl .none .none (.int (-1) tk)) (hz : items.size ≤ sizeLine)
    (h : Q (.ref s.heap.objs.size) { s with heap := s.heap.push { cls := .type "tuple", data := .seq items.toList.reverse.toArray } }) : wpAny (model prog w) A (getItem (.ref t) (.ref sl)) Q E s := by
  obtain ⟨os, h1, h2, h3⟩ := id hs
  have T : s.TypeIs (.ref sl) "slice" := ⟨os, h1, h2⟩
  unfold getItem
  try with_reducible refine wpAny_holding ?_
  first | refine wpAny_bind (wpAny_pure ?_) | skip
  refine wpAny_bind (wpAny_sequenceKey ht.typeIs (by decide) ?_)
  have road := @wpAny_call_entry
  refine wpAny_bind (wpAny_callSpecial?_slot (name := Str.ofString "__getitem__") ht.typeIs PyProof.Rows.slot_tuple_getitem (road PyProof.Rows.slot_tuple_getitem ht.typeIs entry_tuple_getitem ?_ (args_tuple_getitem _ _)))
  show wpAny _ _ (Builtin.Tuple.tupleItemsOf (.ref t) >>= _) _ _ _
  refine wpAny_bind (tupleItemsOf_ ht (wpAny_bind (wpAny_typeOf T ?_)))
  rw [if_pos (by decide)]
  have tail : sizeOk (.seq items.toList.reverse.toArray) := by
    show items.toList.reverse.toArray.size ≤ sizeLine
    rw [List.size_toArray, List.length_reverse, Array.length_toList]
    exact hz
  have ap : ∀ {Q' : Int × Int × Nat → Shared → Prop} {A' : Around} {E' : Value → Shared → Prop}, Q' ((items.size : Int) - 1, -1, items.size) s → wpAny (model prog w) A' (Builtin.Slice.sliceApplied (.ref sl) (pure (items.size : Int))) Q' E' s := by
    intro Q' A' E' q
    unfold Builtin.Slice.sliceApplied Builtin.Slice.sliceFields
    refine wpAny_bind (wpAny_bind (wpAny_field h1 h3 (x := .none) rfl (wpAny_bind (wpAny_field h1 h3 (x := .none) rfl (wpAny_bind (wpAny_field h1 h3 (x := .int (-1) tk) rfl (wpAny_pure ?_)))))))
    refine wpAny_bind (slicePart_int ?_)
    show wpAny _ _ (if ((-1 : Int) == 0) = true then _ else _) _ _ s
    rw [if_neg (by decide)]
    refine wpAny_bind (slicePart_none (wpAny_bind (slicePart_none (wpAny_bind (wpAny_pure ?_)))))
    show wpAny _ _ (pure ((items.size : Int) - 1, (-1 : Int), Builtin.Slice.slicePlaces ((items.size : Int) - 1) (-1) (-1))) _ _ s
    rw [places_back]
    exact wpAny_pure q
  refine wpAny_bind (ap ?_)
  have no : ¬ (((items.size : Int) - 1 == 0 && (-1 : Int) == 1 && items.size == items.size) = true) := by
    rw [show ((-1 : Int) == 1) = false from by decide, Bool.and_false, Bool.false_and]
    exact Bool.false_ne_true
  show wpAny _ _ (if ((items.size : Int) - 1 == 0 && (-1 : Int) == 1 && items.size == items.size) = true then _ else _) _ _ s
  rw [if_neg no, pick_back]
  first
    | exact wpAny_bind (m := Builtin.Tuple.tupleExact _) (wpAny_newObj_type (wpAny_pure ⟨_, rfl, wpAny_pure h⟩) tail)
    | exact wpAny_bind (m := Builtin.Tuple.tupleExact _) (wpAny_newObj_type (wpAny_bind (wpAny_pure (wpAny_pure ⟨_, rfl, wpAny_pure h⟩))) tail)
    | exact wpAny_bind (wpAny_bind (m := Builtin.Tuple.tupleExact _) (wpAny_newObj_type (wpAny_pure (wpAny_pure ⟨_, rfl, wpAny_pure h⟩)) tail))
    | exact wpAny_bind (wpAny_bind (m := Builtin.Tuple.tupleExact _) (wpAny_newObj_type (wpAny_pure ⟨_, rfl, wpAny_pure h⟩) tail))
end
section
variable {X : Cx}
def tRevA (K : PySem.W.Frag) (te : TE) : TE := fun σ H Q => te σ H fun x H1 => ∃ a xs, x = .ref a ∧ ((SqL K H1 a xs ∧ ∀ p, H1 p = none → Q (.ref p) (upd H1 p (.lst xs.reverse))) ∨ (SqT K H1 a xs ∧ ∀ p, H1 p = none → Q (.ref p) (upd H1 p (.tup xs.reverse))))
theorem pe_revA {e : Expr} {te : TE} {k : Nat} {p1 p2 p3 pos : Pos} (he : PE X e te) : PE X (.Subscript e (.Slice none none (some (.UnaryOp .USub (.Constant (.int 1) k p1) p2)) p3) pos) (tRevA X.K te) := by
  refine ⟨fun pins s σ H Q I h => Subscript_ (thn (he.run pins s σ H _ I h) fun v s1 q => ?_)⟩
  obtain ⟨x, H1, I1, r1, a, xs, ex, q⟩ := q
  subst ex
  cases r1
  have one : PO X (some (.UnaryOp .USub (.Constant (.int 1) k p1) p2)) (tPart (tUn (rU fun i => .int (-i)) (tC (.int 1)))) := po_some (pe_un un_neg pe_int)
  refine wpAny_Slice (thn (po_none.run pins s1 σ H1 (fun o H2 => o = none ∧ H2 = H1) I1 ⟨rfl, rfl⟩) fun vl s2 q2 => ?_)
  obtain ⟨_, H2, I2, pl, rfl, rfl⟩ := q2
  refine thn (po_none.run pins s2 σ _ (fun o H3 => o = none ∧ H3 = _) I2 ⟨rfl, rfl⟩) fun vu s3 q3 => ?_
  obtain ⟨_, H3, I3, pu, rfl, rfl⟩ := q3
  refine thn (one.run pins s3 σ _ (fun o H4 => o = some (-1) ∧ H4 = _) I3 ⟨1, rfl, -1, rfl, rfl, rfl⟩) fun vs s4 q4 => ?_
  obtain ⟨_, H4, I4, ps, rfl, rfl⟩ := q4
  have J : Inv X pins σ _ { s4 with heap := s4.heap.push { cls := .type "slice", data := .fields #[vl, vu, vs] } } := I4.kept (t' := s4.toks) fun b ob z => Heap.get?_push_of_some _ z
  show wpAny (model X.prog X.w) X.A (subscriptTail e (.Slice none none (some (.UnaryOp .USub (.Constant (.int 1) k p1) p2)) p3) (.ref a) (.ref s4.heap.objs.size)) _ X.xe { s4 with heap := s4.heap.push { cls := .type "slice", data := .fields #[vl, vu, vs] } }
  rcases q with ⟨hx, q⟩ | ⟨hx, q⟩
  · obtain ⟨its, r, ht, hz⟩ := J.list hx
    have len := r.length
    refine tail_any (ops := [.ref a, .ref s4.heap.objs.size]) ht.isList.typeIs PySem.slot_list_getitem.lookup ?_ (by with_unfolding_all rfl)
    refine wpAny_getItem_list_slice ht.isList (Heap.IsSliceOf.new _ vl vu vs) pl pu ps (by decide) ?_ (by rw [List.size_toArray]; omega)
    rw [PySem.W.krv_pick]
    exact ⟨.ref _, _, J.laid (t' := s4.toks) (o := .lst xs.reverse) (fun b ob z => Heap.get?_push_of_some _ z) (Nat.le_refl _) ⟨by rw [List.length_reverse]; exact hz, _, 0, r.reverse, Heap.get?_push_size _ rfl⟩, rfl, q _ (J.hok.fresh (Nat.le_refl _))⟩
  · obtain ⟨its, r, ht, hz⟩ := J.tuple hx
    have len := r.length
    cases pl
    cases pu
    cases ps
    refine tail_any (ops := [.ref a, .ref s4.heap.objs.size]) ht.typeIs PyProof.Rows.slot_tuple_getitem.lookup ?_ (by with_unfolding_all rfl)
    refine getItem_back ht (Heap.IsSliceOf.new _ _ _ _) (by rw [List.size_toArray]; omega) ?_
    exact ⟨.ref _, _, J.laid (t' := s4.toks) (o := .tup xs.reverse) (fun b ob z => Heap.get?_push_of_some _ z) (Nat.le_refl _) ⟨by rw [List.length_reverse]; exact hz, _, r.reverse, IsTup.new _ _⟩, rfl, q _ (J.hok.fresh (Nat.le_refl _))⟩
def pdRev : Pd1 := fun d P => match d with
  | .list ds => P (.lst ds.reverse)
  | .tuple ds => P (.sh (.tuple ds.reverse))
  | _ => False
theorem pm_rev : ∀ d P P', (∀ o, P o → P' o) → pdRev d P → pdRev d P' := by
  intro d P P' i h
  unfold pdRev at h ⊢
  split at h
  · exact i _ h
  · exact i _ h
  · exact h
theorem ve_revS {a : Expr} {ta : VBT} {k : Nat} {p1 p2 p3 pos : Pos} (ha : VB X a ta) : VE X (.Subscript a (.Slice none none (some (.UnaryOp .USub (.Constant (.int 1) k p1) p2)) p3) pos) (vUn pdRev ta) := by
  refine ⟨fun S P P' i q => ha.mono _ _ _ (fun b1 S1 z => let ⟨d, g, q3⟩ := z; ⟨d, g, pm_rev _ _ _ (fun o z => i _ _ z) q3⟩) q, PE.imp (pe_revA ha.pe) fun σ H Q hq => ?_⟩
  obtain ⟨G, S, F, m, q⟩ := hq
  refine ⟨G, S, F, m, ha.mono _ _ _ (fun b1 S1 z G1 H1 v1 F1 ev1 m1 k1 => ?_) q⟩
  obtain ⟨d, g, q3⟩ := z
  have tx := bo_top k1 (Ex.refl _) m1 g
  have k : ∀ o G' H' v f, (fun o => ∀ G' H' v f F', Evo G H (Mu S F) G' H' (Mu S1 F') → Md X.K G' H' σ S1 F' → Own X.K G' H' v o f → (∀ a ∈ f, ¬ Mu S1 F' a) → (∀ a ∈ f, H a = none ∨ Mu S F a) → Q v H') o → Grow G1 H1 G' H' → Own X.K G' H' v o f → (∀ a ∈ f, H1 a = none) → Q v H' :=
    fun o G4 H4 v f q4 gr ow fr => q4 G4 H4 v f F1 (ev1.trans (gr.evo _)) (m1.grow gr) ow (fun x hx => fresh_mu m1 (fr x hx)) fun x hx => ev1.back (.inl (fr x hx))
  unfold pdRev at q3
  split at q3
  · obtain ⟨a, vs, rfl, h1, r1⟩ := tx
    exact ⟨a, vs, rfl, .inl ⟨SqL.of h1, ans_lst m1.le k q3 (dpa_rev r1)⟩⟩
  · obtain ⟨a, vs, rfl, h1, r1⟩ := top_tup m1.le tx
    exact ⟨a, vs, rfl, .inr ⟨h1, ans_tup m1.le k q3 (dpa_rev r1)⟩⟩
  · exact q3.elim
end
end VL

/-! the value layer, twelfth part: sorted(set(texts)) -/
set_option Elab.async false
set_option linter.all false
set_option maxRecDepth 100000
namespace VL
open PySem PySem.Spec PyProof.Rows L2
open Evl (Ex ex_l ex_t)
open Froz (SD sObj TxOk addTx tailTx add_ok add_x)
variable [Wd]

/-! ### the table of a set of texts -/
structure TxR (P : Program) (w : World) (D : SD) (l : List Str) : Prop where
  ok : TxOk P w D l
  nd : l.Nodup
  ris : Ris D.2.2.place.toList
  led : w.params.followText "set-order" = true ∨ D.2.2.led = true
def SetX (P : Program) (w : World) (h : Heap) (a : Addr) (l : List Str) : Prop := ∃ D : SD, h.get? a = some (sObj "set" D) ∧ TxR P w D l
theorem addTx_ris {D : SD} {h : Int} {v : Value} (r : Ris D.2.2.place.toList) : Ris (addTx h v D).2.2.place.toList ∧ (addTx h v D).2.2.led = D.2.2.led := by
  have r1 := layNew_ris D.2.2 D.1 h v r
  have l1 := layNew_led D.2.2 D.1 h v
  unfold addTx
  generalize layNew D.2.2 D.1 h v = Z at r1 l1 ⊢
  obtain ⟨es1, t1, wd, gave⟩ := Z
  dsimp only at r1 l1 ⊢
  have r2 : Ris (if t1.plain = true then { t1 with plain := false } else t1).place.toList := by
    split
    · exact r1
    · exact r1
  have l2 : (if t1.plain = true then { t1 with plain := false } else t1).led = D.2.2.led := by
    split
    · exact l1
    · exact l1
  generalize (if t1.plain = true then { t1 with plain := false } else t1) = t2 at r2 l2 ⊢
  unfold tailTx
  split
  · exact ⟨relayAll_ris t2 es1 _, (relayAll_led t2 es1 _).trans l2⟩
  · exact ⟨r2, l2⟩
section
variable {P : Program} {w : World} {A : Around} {E : Value → Shared → Prop} {s : Shared} {a : Addr} {l : List Str}
/-- the texts met, the new one ahead -/
def metX (l : List Str) (k : Str) : List Str := if k ∈ l then l else k :: l
theorem metX_mem {k z : Str} : z ∈ metX l k ↔ z ∈ l ∨ z = k := by
  unfold metX
  split
  · rename_i h
    exact ⟨.inl, fun q => q.elim id fun e => e ▸ h⟩
  · rw [List.mem_cons]
    exact Or.comm
theorem metX_len {k : Str} : (metX l k).length ≤ l.length + 1 := by
  unfold metX
  split
  · omega
  · exact Nat.le_of_eq rfl
theorem addX {k : Str} {u : Tok} {Q : Bool → Shared → Prop} (R : SetX P w s.heap a l) (room : l.length + 1 < scanBound)
    (hQ : ∀ b h', (∀ c, c ≠ a → h'.get? c = s.heap.get? c) → SetX P w h' a (metX l k) → Q b { s with heap := h' }) : wpAny (model P w) A (setAddHashed a (.str k u) (hashStr w k)) Q E s := by
  obtain ⟨D, ho, T⟩ := R
  by_cases hk : k ∈ l
  · have q := hQ false s.heap (fun _ _ => rfl) (by unfold metX; rw [if_pos hk]; exact ⟨D, ho, T⟩)
    obtain ⟨es, ep, t⟩ := D
    have hd : (sObj "set" (es, ep, t)).data = .set es ep t := rfl
    have fit : t.fits es.size = true := T.ok.fit
    have el : ElemsOf (strKind P w) es.toList := T.ok.el
    have size : es.size = l.length := T.ok.sz
    have key : (strKind P w).is k (.str k u) = true := Froz.is_str k u
    unfold setAddHashed setAddHashedIn
    refine wpAny_holding (wpAny_bind (wpAny_setState_of ho hd fit ?_))
    dsimp only
    rw [byScan_of rfl (by omega) el]
    simp only [↓reduceIte]
    unfold setAddByScan
    refine wpAny_bind (wpAny_bind (wpAny_rule ?_))
    refine wpAny_bind (wpAny_setScan_of (knd := strKind P w) (k := k) key ho hd fit el ?_)
    cases hf : List.findIdx? (fun e => (strKind P w).is k e.2) es.toList with
    | none =>
      obtain ⟨e, he, z⟩ := (T.ok.mem k).mp hk
      have c := List.findIdx?_eq_none_iff.mp hf e he
      rw [z] at c
      cases c
    | some j =>
      dsimp only
      exact wpAny_pure (wpAny_pure q)
  · refine add_x ho T.ok hk room ?_
    refine hQ true _ (fun c hc => Heap.get?_update_other _ _ (Ne.symm hc)) ?_
    unfold metX
    rw [if_neg hk]
    obtain ⟨r1, l1⟩ := addTx_ris (h := hashStr w k) (v := .str k u) T.ris
    refine ⟨_, ?_, add_ok u T.ok, List.nodup_cons.mpr ⟨hk, T.nd⟩, r1, T.led.imp id fun z => l1.trans z⟩
    have e := Heap.get?_update_self (fun _ => sObj "set" (addTx (hashStr w k) (.str k u) D)) ho rfl
    exact e
/-- the first i of the texts are met -/
def Met (ks l : List Str) (i : Nat) : Prop := l.length ≤ i ∧ ∀ z, z ∈ l ↔ z ∈ ks.take i
theorem met_next {ks : List Str} {i : Nat} {k : Str} (m : Met ks l i) (h : ks[i]? = some k) : Met ks (metX l k) (i + 1) := by
  refine ⟨Nat.le_trans metX_len (Nat.succ_le_succ m.1), fun z => ?_⟩
  rw [metX_mem, m.2 z, List.take_add_one, h]
  simp [List.mem_append]
theorem update_txts {I : Addr} {fp wr : List Addr} {G : Array GenState → Array GenState → Prop} {n : Nat} {Pv : Nat → Value → Prop} {St : Nat → Shared → Prop} {R : Result → Shared → Prop}
    (W : WalksS P w A.in1 I fp wr G n Pv St) (S : Addr) (apart : S ∉ fp) (ks : List Str) (hn : n = ks.length) (room : ks.length + 1 < scanBound) (vals : ∀ i v, Pv i v → ∃ k t, ks[i]? = some k ∧ v = .str k t) :
    ∀ (m i : Nat) (l : List Str) (s : Shared), n - i = m → i ≤ n → St i s → Met ks l i → SetX P w s.heap S l →
      (∀ s' l', Moved (S :: wr) G s s' → Met ks l' n → SetX P w s'.heap S l' → R (.ok (.ret .none)) s') →
      codeAny (model P w) A (.builtin "set.update.loop" ⟨[.ref S, .ref I], []⟩) R s := by
  have out : S ∉ wr := fun h => apart (W.sub _ h)
  have more : ∀ b ∈ wr, b ∈ S :: wr := fun b hb => List.mem_cons_of_mem _ hb
  intro m
  induction m with
  | zero =>
    intro i l s h1 h2 st mt hS hR
    have e : i = n := by omega
    subst e
    refine codeAny_builtin PyProof.Rows.F.entry_set_update_loop ?_
    rw [Around.under_plainId PyProof.Rows.F.plain_set_update_loop _]
    show wpAny _ A.in1 (pyNext (.ref I) >>= _) _ _ _
    refine wpAny_bind (W.done s _ _ st fun s' mv => ?_)
    show wpAny _ A.in1 (ret .none) _ _ s'
    obtain ⟨D, ho, T⟩ := hS
    exact wpAny_pure (hR s' l (mv.mono more) mt ⟨D, mv.heap S _ out ho, T⟩)
  | succ m ih =>
    intro i l s h1 h2 st mt hS hR
    have lt : i < n := by omega
    refine codeAny_builtin PyProof.Rows.F.entry_set_update_loop ?_
    rw [Around.under_plainId PyProof.Rows.F.plain_set_update_loop _]
    show wpAny _ A.in1 (pyNext (.ref I) >>= _) _ _ _
    refine wpAny_bind (W.item i s _ _ lt st fun v s1 pv st1 mv => ?_)
    obtain ⟨z, t, hz, rfl⟩ := vals i v pv
    obtain ⟨D, ho, T⟩ := hS
    have hS1 : SetX P w s1.heap S l := ⟨D, mv.heap S _ out ho, T⟩
    show wpAny _ A.in1 (holding [Value.str z t] (setAdd S (.str z t)) >>= _) _ _ s1
    refine wpAny_bind (wpAny_holding ?_)
    unfold setAdd
    refine wpAny_holding (wpAny_bind ((strKind P w).pyHash (k := z) (Froz.is_str z t) ?_))
    refine addX (s := { s1 with toks := s1.toks + 1 }) hS1 (by have := mt.1; omega) fun b h' same hS2 => ?_
    refine wpAny_pure ⟨plainId_quiet PyProof.Rows.F.plain_set_update_loop _, ih (i + 1) (metX l z) _ (by omega) lt (W.frame _ s1 _ _ st1 (Nat.le_succ _) fun c hc o e => ?_) (met_next mt hz) hS2 fun s2 l2 mv2 mt2 hS3 => ?_⟩
    · exact (same c fun q => apart (q ▸ hc)).trans e
    · refine hR s2 l2 (Moved.trans W.gtrans ((mv.mono more).then_heap (Nat.le_succ _) fun c o hc e => ?_) mv2) mt2 hS3
      exact (same c fun q => hc (by rw [q]; exact List.mem_cons_self)).trans e
abbrev set0 (w : World) : Obj := { cls := .type "set", dict := none, data := .set #[] 0 (.fresh 0 0 (!w.params.followText "set-order")) }
theorem set0_at {h : Heap} (ho : h.get? a = some (set0 w)) : SetX P w h a [] := by
  refine ⟨(#[], 0, .fresh 0 0 (!w.params.followText "set-order")), ho, Froz.TxOk.nil (by rfl), List.nodup_nil, List.Pairwise.nil, ?_⟩
  show _ ∨ (!w.params.followText "set-order") = true
  cases w.params.followText "set-order"
  · exact .inr rfl
  · exact .inl rfl

set_option maxHeartbeats 3200000 in
theorem set_of_tuple {b : Addr} {items : Array Value} (ks : List Str) {Q : Value → Shared → Prop} (hh : A.handled = none) (hl : s.heap.IsTuple b items) (hit : StrsAre items.toList ks) (hb : ks.length + 1 < scanBound)
    (h : ∀ (h' : Heap) (tk : Nat) (l : List Str), SetX P w h' s.heap.objs.size l → l.length ≤ ks.length → (∀ z, z ∈ l ↔ z ∈ ks) → (∀ c o, s.heap.get? c = some o → h'.get? c = some o) → Q (.ref s.heap.objs.size) { s with heap := h', toks := tk }) :
    wpAny (model P w) A (call (.type "set") [.ref b]) Q E s := by
  have sz : items.size = ks.length := by rw [← StrsAre.len_eq hit, Array.length_toList]
  obtain ⟨c, tl, hmro⟩ := PySem.F.called_set.mro
  have made := PySem.F.called_set.made
  have subs := PySem.F.called_set.sub
  refine wpAny_call (codeAny_of_tree ?_)
  show wpAny _ _ (callAny (.type "set") _) _ _ s
  refine wpAny_pure ⟨Code.quiet_builtin _ (by decide +kernel), codeAny_builtin PySem.F.entry_type_call ?_⟩
  rw [Around.under_plain (weight_type_call_type "set" [.ref b] []) rfl]
  have notT := PySem.F.called_set.notType
  have can := PySem.F.called_set.canCreate
  have tc := PySem.F.typeCall_set_1 (.ref b)
  repeat (any_goals (first | assumption | wp_step))

  refine codeAny_mono (code_set_led1 (.ref b) (E := E) (Q₁ := fun obj s₁ => obj = .ref s.heap.objs.size ∧ s₁ = { s with heap := s.heap.push (set0 w) }) ⟨rfl, rfl⟩) fun r s₁ hr => ?_
  match r, hr with
  | .error e, hr => exact hr
  | .ok .next, hr => exact hr.elim
  | .ok .brk, hr => exact hr.elim
  | .ok .cont, hr => exact hr.elim
  | .ok (.ret obj), hr =>
    obtain ⟨rfl, rfl⟩ := hr
    have at0 : (s.heap.push (set0 w)).get? s.heap.objs.size = some (set0 w) := Heap.get?_push_size _ rfl
    have isT : Shared.TypeIs { s with heap := s.heap.push (set0 w) } (.ref s.heap.objs.size) "set" := ⟨_, at0, rfl⟩
    have li := PySem.F.called_set.init.lookup
    have bi := PySem.F.called_set.init.bind (.ref s.heap.objs.size)
    repeat (any_goals (first | assumption | wp_step))

    refine codeAny_mono (codeAny_call_builtin (R := wants (fun r s₂ => r = .none ∧ ∃ h' tk l, s₂ = { s with heap := h', toks := tk } ∧ SetX P w h' s.heap.objs.size l ∧ l.length ≤ ks.length ∧ (∀ z, z ∈ l ↔ z ∈ ks) ∧
        ∀ c o, s.heap.get? c = some o → h'.get? c = some o) E) PySem.F.called_set.init.plain PySem.F.entry_set_init (check_set_init_1 isT ?_)) fun r₂ s₂ hr₂ => ?_
    · obtain ⟨ol, at1, cl, nl, dl⟩ := hl
      obtain ⟨ocls, odict, odata, oslots⟩ := ol
      simp only at cl dl
      subst cl; subst dl
      have at2 : (s.heap.push (set0 w)).get? b = some { cls := .type "tuple", dict := odict, data := .seq items nl, slots := oslots } := Heap.get?_push_of_some _ at1
      have sub1 := PySem.F.sub_tuple_set
      have sub2 := PySem.F.sub_tuple_frozenset
      have nd : (Value.type "tuple" == Value.type "dict") = false := by decide
      have isL : (s.heap.push (set0 w)).IsTuple b items := ⟨_, at2, rfl, nl, rfl⟩
      unfold Builtin.«set.__init__» noKeywords Builtin.Frozenset.updateFrom
      generalize hPI : pyIter = PI
      wp_walk
      subst hPI

      refine wpAny_pyIter_tuple isL (wpAny_bind (wpAny_runValue ?_))
      have lt : b < s.heap.objs.size := Heap.lt_size at1
      have calm : A.in1.in1.in1.handled = none := by simp [hh]
      have ne : b ≠ (s.heap.push (set0 w)).objs.size := by
        rw [Heap.size_push]; exact Nat.ne_of_lt (Nat.lt_succ_of_lt lt)
      have apart : s.heap.objs.size ∉ [(s.heap.push (set0 w)).objs.size, b] := by
        rw [Heap.size_push]; simp only [List.mem_cons, List.mem_singleton, List.not_mem_nil, or_false, not_or]
        exact ⟨Nat.ne_of_lt (Nat.lt_succ_self _), Nat.ne_of_gt lt⟩
      have vals : ∀ (i : Nat) (v : Value), items[i]? = some v → ∃ k t, ks[i]? = some k ∧ v = .str k t := fun i v hv => by
        have hi : i < ks.length := by rw [← sz]; exact (Array.getElem?_eq_some_iff.mp hv).1
        obtain ⟨t, e⟩ := SS.strs_at hit i v (by rw [Array.getElem?_toList]; exact hv)
        refine ⟨ks[i], t, List.getElem?_eq_getElem hi, ?_⟩
        rw [e, List.getD_eq_getElem?_getD, List.getElem?_eq_getElem hi]
        rfl
      refine update_txts ((Walks.tuple calm _ b ne items).toS) s.heap.objs.size apart ks sz hb vals (items.size - 0) 0 [] _ (by omega) (Nat.zero_le _)
        ⟨⟨_, Heap.get?_push_size _ rfl, rfl, rfl⟩, isL.push _⟩ ⟨Nat.le_refl _, fun z => by simp⟩ (set0_at (Heap.get?_push_of_some _ at0)) fun s3 l mv mt hS => ?_
      obtain ⟨h3, g3, d3, tk3, os3⟩ := s3
      have eg : g3 = s.gens := mv.gens
      have ed : d3 = s.drawn := mv.drawn
      have eo : os3 = s.os := mv.os
      subst eg; subst ed; subst eo
      show wpAny _ _ _ _ _ _
      refine wpAny_pure ?_
      show wpAny _ _ (ret .none) _ _ _
      rw [sz] at mt
      refine wpAny_pure ⟨rfl, h3, tk3, l, rfl, hS, mt.1, fun z => by rw [mt.2 z, List.take_length], fun c o e => ?_⟩
      have c0 : c < s.heap.objs.size := Heap.lt_size e
      have c1 : c ≠ (s.heap.push (set0 w)).objs.size := by
        rw [Heap.size_push]; exact Nat.ne_of_lt (Nat.lt_succ_of_lt c0)
      exact mv.heap c o (by simp only [List.mem_cons, List.mem_singleton, List.not_mem_nil, or_false, not_or]; exact ⟨Nat.ne_of_lt c0, c1⟩) (Heap.get?_push_of_some _ (Heap.get?_push_of_some _ e))
    · match r₂, hr₂ with
      | .error e, hr₂ => exact hr₂
      | .ok .next, hr₂ => exact hr₂.elim
      | .ok .brk, hr₂ => exact hr₂.elim
      | .ok .cont, hr₂ => exact hr₂.elim
      | .ok (.ret r), hr₂ =>
        obtain ⟨rfl, h3, tk3, l, rfl, hS, q1, q2, q3⟩ := hr₂
        repeat (any_goals (first | assumption | wp_step))
        exact h _ _ _ hS q1 q2 q3

set_option maxHeartbeats 3200000 in
theorem set_of_list {b : Addr} {items : Array Value} (ks : List Str) {Q : Value → Shared → Prop} (hh : A.handled = none) (hl : s.heap.IsList b items) (hit : StrsAre items.toList ks) (hb : ks.length + 1 < scanBound)
    (h : ∀ (h' : Heap) (tk : Nat) (l : List Str), SetX P w h' s.heap.objs.size l → l.length ≤ ks.length → (∀ z, z ∈ l ↔ z ∈ ks) → (∀ c o, s.heap.get? c = some o → h'.get? c = some o) → Q (.ref s.heap.objs.size) { s with heap := h', toks := tk }) :
    wpAny (model P w) A (call (.type "set") [.ref b]) Q E s := by
  have sz : items.size = ks.length := by rw [← StrsAre.len_eq hit, Array.length_toList]
  obtain ⟨c, tl, hmro⟩ := PySem.F.called_set.mro
  have made := PySem.F.called_set.made
  have subs := PySem.F.called_set.sub
  refine wpAny_call (codeAny_of_tree ?_)
  show wpAny _ _ (callAny (.type "set") _) _ _ s
  refine wpAny_pure ⟨Code.quiet_builtin _ (by decide +kernel), codeAny_builtin PySem.F.entry_type_call ?_⟩
  rw [Around.under_plain (weight_type_call_type "set" [.ref b] []) rfl]
  have notT := PySem.F.called_set.notType
  have can := PySem.F.called_set.canCreate
  have tc := PySem.F.typeCall_set_1 (.ref b)
  repeat (any_goals (first | assumption | wp_step))

  refine codeAny_mono (code_set_led1 (.ref b) (E := E) (Q₁ := fun obj s₁ => obj = .ref s.heap.objs.size ∧ s₁ = { s with heap := s.heap.push (set0 w) }) ⟨rfl, rfl⟩) fun r s₁ hr => ?_
  match r, hr with
  | .error e, hr => exact hr
  | .ok .next, hr => exact hr.elim
  | .ok .brk, hr => exact hr.elim
  | .ok .cont, hr => exact hr.elim
  | .ok (.ret obj), hr =>
    obtain ⟨rfl, rfl⟩ := hr
    have at0 : (s.heap.push (set0 w)).get? s.heap.objs.size = some (set0 w) := Heap.get?_push_size _ rfl
    have isT : Shared.TypeIs { s with heap := s.heap.push (set0 w) } (.ref s.heap.objs.size) "set" := ⟨_, at0, rfl⟩
    have li := PySem.F.called_set.init.lookup
    have bi := PySem.F.called_set.init.bind (.ref s.heap.objs.size)
    repeat (any_goals (first | assumption | wp_step))

    refine codeAny_mono (codeAny_call_builtin (R := wants (fun r s₂ => r = .none ∧ ∃ h' tk l, s₂ = { s with heap := h', toks := tk } ∧ SetX P w h' s.heap.objs.size l ∧ l.length ≤ ks.length ∧ (∀ z, z ∈ l ↔ z ∈ ks) ∧
        ∀ c o, s.heap.get? c = some o → h'.get? c = some o) E) PySem.F.called_set.init.plain PySem.F.entry_set_init (check_set_init_1 isT ?_)) fun r₂ s₂ hr₂ => ?_
    · obtain ⟨ol, at1, cl, nl, dl⟩ := hl
      obtain ⟨ocls, odict, odata, oslots⟩ := ol
      simp only at cl dl
      subst cl; subst dl
      have at2 : (s.heap.push (set0 w)).get? b = some { cls := .type "list", dict := odict, data := .seq items nl, slots := oslots } := Heap.get?_push_of_some _ at1
      have sub1 := PySem.F.sub_list_set
      have sub2 := PySem.F.sub_list_frozenset
      have nd : (Value.type "list" == Value.type "dict") = false := by decide
      have isL : (s.heap.push (set0 w)).IsList b items := ⟨_, at2, rfl, nl, rfl⟩
      unfold Builtin.«set.__init__» noKeywords Builtin.Frozenset.updateFrom
      generalize hPI : pyIter = PI
      wp_walk
      subst hPI

      refine wpAny_pyIter_list isL (wpAny_bind (wpAny_runValue ?_))
      have lt : b < s.heap.objs.size := Heap.lt_size at1
      have calm : A.in1.in1.in1.handled = none := by simp [hh]
      have ne : b ≠ (s.heap.push (set0 w)).objs.size := by
        rw [Heap.size_push]; exact Nat.ne_of_lt (Nat.lt_succ_of_lt lt)
      have apart : s.heap.objs.size ∉ [(s.heap.push (set0 w)).objs.size, b] := by
        rw [Heap.size_push]; simp only [List.mem_cons, List.mem_singleton, List.not_mem_nil, or_false, not_or]
        exact ⟨Nat.ne_of_lt (Nat.lt_succ_self _), Nat.ne_of_gt lt⟩
      have vals : ∀ (i : Nat) (v : Value), items[i]? = some v → ∃ k t, ks[i]? = some k ∧ v = .str k t := fun i v hv => by
        have hi : i < ks.length := by rw [← sz]; exact (Array.getElem?_eq_some_iff.mp hv).1
        obtain ⟨t, e⟩ := SS.strs_at hit i v (by rw [Array.getElem?_toList]; exact hv)
        refine ⟨ks[i], t, List.getElem?_eq_getElem hi, ?_⟩
        rw [e, List.getD_eq_getElem?_getD, List.getElem?_eq_getElem hi]
        rfl
      refine update_txts ((Walks.list calm _ b ne items).toS) s.heap.objs.size apart ks sz hb vals (items.size - 0) 0 [] _ (by omega) (Nat.zero_le _)
        ⟨⟨_, Heap.get?_push_size _ rfl, rfl, rfl⟩, isL.push _⟩ ⟨Nat.le_refl _, fun z => by simp⟩ (set0_at (Heap.get?_push_of_some _ at0)) fun s3 l mv mt hS => ?_
      obtain ⟨h3, g3, d3, tk3, os3⟩ := s3
      have eg : g3 = s.gens := mv.gens
      have ed : d3 = s.drawn := mv.drawn
      have eo : os3 = s.os := mv.os
      subst eg; subst ed; subst eo
      show wpAny _ _ _ _ _ _
      refine wpAny_pure ?_
      show wpAny _ _ (ret .none) _ _ _
      rw [sz] at mt
      refine wpAny_pure ⟨rfl, h3, tk3, l, rfl, hS, mt.1, fun z => by rw [mt.2 z, List.take_length], fun c o e => ?_⟩
      have c0 : c < s.heap.objs.size := Heap.lt_size e
      have c1 : c ≠ (s.heap.push (set0 w)).objs.size := by
        rw [Heap.size_push]; exact Nat.ne_of_lt (Nat.lt_succ_of_lt c0)
      exact mv.heap c o (by simp only [List.mem_cons, List.mem_singleton, List.not_mem_nil, or_false, not_or]; exact ⟨Nat.ne_of_lt c0, c1⟩) (Heap.get?_push_of_some _ (Heap.get?_push_of_some _ e))
    · match r₂, hr₂ with
      | .error e, hr₂ => exact hr₂
      | .ok .next, hr₂ => exact hr₂.elim
      | .ok .brk, hr₂ => exact hr₂.elim
      | .ok .cont, hr₂ => exact hr₂.elim
      | .ok (.ret r), hr₂ =>
        obtain ⟨rfl, h3, tk3, l, rfl, hS, q1, q2, q3⟩ := hr₂
        repeat (any_goals (first | assumption | wp_step))
        exact h _ _ _ hS q1 q2 q3

theorem perm_cover {α : Type} [BEq α] [LawfulBEq α] : ∀ {l zs : List α}, l.Nodup → (∀ z ∈ l, z ∈ zs) → zs.length = l.length → zs.Perm l
  | [], zs, _, _, h => by
    cases zs with
    | nil => exact List.Perm.refl _
    | cons z zs => simp at h
  | x :: l, zs, nd, sub, h => by
    obtain ⟨n1, n2⟩ := List.nodup_cons.mp nd
    have hx : x ∈ zs := sub x List.mem_cons_self
    refine (List.perm_cons_erase hx).trans ((perm_cover (zs := zs.erase x) n2 (fun z hz => ?_) ?_).cons x)
    · exact (List.mem_erase_of_ne (fun e : z = x => n1 (by rw [← e]; exact hz))).mpr (sub z (List.mem_cons_of_mem _ hz))
    · rw [List.length_erase_of_mem hx, h, List.length_cons]
      omega
theorem strs_back : ∀ {us : List Value} {zs : List Str}, StrsAre us zs → us.map strOf = zs
  | _, _, .nil => rfl
  | _, _, .cons x t h => by
    rw [List.map_cons, strs_back h]
    rfl
theorem strs_ofX {D : SD} (T : TxR P w D l) : ∃ zs : List Str, StrsAre (D.1.toList.map (·.2)) zs ∧ zs.Perm l := by
  refine ⟨(D.1.toList.map (·.2)).map strOf, strsAre_map _ fun v hv => ?_, perm_cover T.nd (fun z hz => ?_) ?_⟩
  · obtain ⟨e, he, rfl⟩ := List.mem_map.mp hv
    obtain ⟨⟨k, q, _⟩, _⟩ := T.ok.el e he
    have q : Value.isStrOf k e.2 = true := q
    obtain ⟨t, z⟩ := Value.isStrOf_shape q
    exact ⟨k, t, z⟩
  · obtain ⟨e, he, q⟩ := (T.ok.mem z).mp hz
    have q : Value.isStrOf z e.2 = true := q
    obtain ⟨t, y⟩ := Value.isStrOf_shape q
    rw [List.map_map]
    exact List.mem_map.mpr ⟨e, he, by show strOf e.2 = z; rw [y]; rfl⟩
  · rw [List.length_map, List.length_map, Array.length_toList]
    exact T.ok.sz
theorem sortedX {Q : Value → Shared → Prop} (R : SetX P w s.heap a l) (hh : A.handled = none) (hb : l.length < scanBound)
    (hQ : ∀ s' p (out : Array Value) (c : Nat) (zs : List Str), (∀ b o, s.heap.get? b = some o → s'.heap.get? b = some o) → s'.gens = s.gens → s'.os = s.os → s.heap.objs.size ≤ p →
      s'.heap.get? p = some (seqObj "list" out c) → StrsAre out.toList zs → zs.Perm l → sortedS zs = true → Q (.ref p) s') :
    wpAny (model P w) A (call (.builtin "sorted") [.ref a]) Q E s := by
  obtain ⟨D, ho, T⟩ := R
  obtain ⟨zs, hz, pz⟩ := strs_ofX T
  have fit := T.ok.fit
  have ris := T.ris
  have led := T.led
  obtain ⟨es, ep, t⟩ := D
  have size : es.size = l.length := T.ok.sz
  dsimp only at fit hz ris led
  refine Calls.call_function_entry kind_sorted plain_sorted entry_sorted (args_sorted1 _) ?_
  unfold Builtin.«sorted»
  refine wpAny_bind (m := checkCount "sorted" 1 1 _) (wpAny_pure (wpAny_bind ?_))
  refine collect_set (A := A.in1) (es := es) hh ⟨_, ho, rfl, rfl⟩ fit (show es.size < scanBound by omega) ris led fun s1 vs k1 hs g1 o1 pm => ?_
  obtain ⟨ys, hy, py⟩ : ∃ ys : List Str, StrsAre vs ys ∧ ys.Perm l := by
    have hv : ∀ v, v ∈ vs → ∃ x t, v = .str x t := fun v q => by
      obtain ⟨x, u, e⟩ := hz.all v (pm.mem_iff.mp q)
      exact ⟨x, u, e⟩
    refine ⟨vs.map strOf, strsAre_map vs hv, (pm.map strOf).trans ?_⟩
    rw [show (es.toList.map (·.2)).map strOf = zs from ?_]
    · exact pz
    · exact strs_back hz
  have len : vs.length ≤ sizeLine := by
    rw [hy.len_eq, py.length_eq, sizeLine_eq]
    unfold scanBound at hb
    omega
  refine wpAny_bind (wpAny_newList ?_ len)
  have at1 : (s1.heap.push (seqObj "list" vs.toArray 0)).get? s1.heap.objs.size = some (seqObj "list" vs.toArray 0) := Heap.get?_push_size _ rfl
  refine wpAny_bind (wpAny_holding (wpAny_call_entry slot_list_sort ⟨_, at1, rfl⟩ entry_list_sort (list_sort_treeKAny strKind_oneLt at1 hy.keysOf (fun v1 v2 rest e => keyKind_strs (by rw [← e]; exact hy)) len fun st' a1 a2 => ⟨_, rfl, ?_⟩) (args_list_sort _)))
  obtain ⟨zs', h1, h2, h3⟩ := sorted_out_str hy a1 a2
  obtain ⟨c, hc⟩ := sortedHeap_at (vs := vs) (out := (arrOf st').map (·.2)) at1
  refine wpAny_pure ⟨_, rfl, hQ _ s1.heap.objs.size _ c zs' (fun b u e => ?_) g1 o1 hs hc h1 (h2.trans py) h3⟩
  have q := k1 b u e
  have lt := Heap.lt_size q
  show (sortedHeap (s1.heap.push (seqObj "list" vs.toArray 0)) s1.heap.objs.size vs _).get? b = some u
  rw [sortedHeap_old (Nat.ne_of_lt lt) (by rw [size_push']; exact Nat.lt_succ_of_lt lt)]
  exact Heap.get?_push_of_some _ q
end
def SetXO (P : Program) (w : World) (a : Addr) (l : List Str) : HO := .ext fun h => SetX P w h a l
theorem setX_new {P : Program} {w : World} {H : Hp} {h : Heap} {a : Addr} {l : List Str} (R : SetX P w h a l) : ObjOk P w H h a (SetXO P w a l) := by
  have ⟨D, ho, _⟩ := R
  exact ⟨R, ⟨_, ho⟩, fun h1 h2 p k => let ⟨D, ho, T⟩ := p; ⟨D, k _ ho, T⟩⟩
section
variable {X : Cx}
def rSetX (K : PySem.W.Frag) (P : Program) (w : World) : List V → Hp → VK → Prop := fun xs H Q => ∃ (b : Addr) (ks : List Str), xs = [V.ref b] ∧ (SqL K H b (ks.map V.str) ∨ SqT K H b (ks.map V.str)) ∧ ks.length ≤ 4000 ∧
  ∀ a l, H a = none → l.Nodup → l.length ≤ ks.length → (∀ z, z ∈ l ↔ z ∈ ks) → Q (.ref a) (upd H a (SetXO P w a l))
theorem cr_setX (hc : X.calm = true) : CallR X (.type "set") (rSetX X.K X.prog X.w) := by
  intro pins s σ H xs us Q I r h
  obtain ⟨b, ks, rfl, hl, hf, q⟩ := h
  rw [Vals.ref1 r]
  have fin : ∀ (h' : Heap) (tk : Nat) (l : List Str), SetX X.prog X.w h' s.heap.objs.size l → l.length ≤ ks.length → (∀ z, z ∈ l ↔ z ∈ ks) → (∀ c o, s.heap.get? c = some o → h'.get? c = some o) → EP X pins σ Q (.ref s.heap.objs.size) { s with heap := h', toks := tk } := fun h' tk l R q1 q2 k => by
    have nd : l.Nodup := let ⟨_, _, T⟩ := R; T.nd
    exact ⟨.ref s.heap.objs.size, upd H s.heap.objs.size (SetXO X.prog X.w s.heap.objs.size l), I.laid (t' := tk) k (Nat.le_refl _) (setX_new R), rfl, q _ l (I.hok.fresh (Nat.le_refl _)) nd q1 q2⟩
  have small : ks.length + 1 < scanBound := by unfold scanBound; omega
  rcases hl with hl | hl
  · obtain ⟨its, rv, pl, hz⟩ := I.list hl
    exact set_of_list (P := X.prog) (w := X.w) ks (I.ok.hd hc) pl.isList (by simpa using rv.strs) small fin
  · obtain ⟨its, rv, pl, hz⟩ := I.tuple hl
    exact set_of_tuple (P := X.prog) (w := X.w) ks (I.ok.hd hc) pl (by simpa using rv.strs) small fin
def rSortedX (P : Program) (w : World) : List V → Hp → VK → Prop := fun vs H Q => ∃ (a : Addr) (l : List Str), vs = [V.ref a] ∧ H a = some (SetXO P w a l) ∧ l.length ≤ 4000 ∧
  ∀ (zs : List Str) (p : Addr), zs.Perm l → sortedS zs = true → H p = none → Q (.ref p) (upd H p (.lst (zs.map V.str)))
theorem cr_sortedX (hc : X.calm = true) : CallR X (.builtin "sorted") (rSortedX X.prog X.w) := by
  intro pins s σ H vs us Q I r h
  obtain ⟨a, l, rfl, ha, hl, q⟩ := h
  have R : SetX X.prog X.w s.heap a l := (I.hok a _ ha).1
  rw [Vals.ref1 r]
  refine sortedX R (I.ok.hd hc) (by unfold scanBound; omega) fun s' p out c zs k g o hp hg hout pm sd => ?_
  have len : (zs.map V.str).length ≤ sizeLine := by rw [List.length_map, sizeLine_eq, pm.length_eq]; omega
  have hn : H p = none := I.hok.fresh hp
  have J : Inv X pins σ (upd H p (.lst (zs.map V.str))) s' := I.call' (ch := []) o (Un.laid k hp hn) (I.hok.laid k hp ⟨len, out.toList, c, vals_of_strs hout, hg⟩) (by rw [g]; exact I.bare) fun _ z => nomatch z
  exact ⟨.ref p, _, J, rfl, q zs p pm sd hn⟩
def itemsD : PyData → Option (List PyData)
  | .list ds => some ds
  | .tuple ds => some ds
  | _ => none
def pSortedSet : PdL := fun ds P => match ds with
  | [d] => ∃ xs : List Str, itemsD d = some (xs.map .str) ∧ xs.length ≤ 4000 ∧ ∀ zs : List Str, zs.Nodup → (∀ z, z ∈ zs ↔ z ∈ xs) → sortedS zs = true → P (.lst (zs.map .str))
  | _ => False
theorem lm_sortedSet : LMono pSortedSet := by
  intro ds P P' i h
  unfold pSortedSet at h ⊢
  split at h
  · obtain ⟨xs, h1, h3, h4⟩ := h
    exact ⟨xs, h1, h3, fun zs a b c => i _ (h4 zs a b c)⟩
  · exact h
theorem ok_sortedSet {K : PySem.W.Frag} {P : Program} {w : World} : COk K (fun vs H Q => rSetX K P w vs H fun v H1 => rSortedX P w [v] H1 Q) pSortedSet := by
  intro G H xs ds p Q le t q k
  unfold pSortedSet at q
  split at q
  · rename_i d
    obtain ⟨us, h1, h3, h4⟩ := q
    cases t with
    | @cons v _ _ _ a b =>
      cases b
      have key : ∃ b, v = V.ref b ∧ (SqL K H b (us.map V.str) ∨ SqT K H b (us.map V.str)) := by
        cases d with
        | list ds =>
          cases h1
          obtain ⟨b, vs, rfl, g1, r1⟩ := a
          rw [dqa_strs r1] at g1
          exact ⟨b, rfl, .inl (SqL.of g1)⟩
        | tuple ds =>
          cases h1
          obtain ⟨b, vs, rfl, g1, r1⟩ := top_tup le a
          rw [dqa_strs r1] at g1
          exact ⟨b, rfl, .inr g1⟩
        | none => cases h1
        | bool _ => cases h1
        | int _ => cases h1
        | str _ => cases h1
        | dict _ => cases h1
      obtain ⟨b, rfl, hb⟩ := key
      refine ⟨b, us, rfl, hb, h3, fun a l ha nd len mem => ⟨a, l, rfl, upd_same, by omega, fun zs p pm sd hp => ?_⟩⟩
      have g1 : Grow G H G (upd H a (SetXO P w a l)) := Grow.newO le ha
      have g2 : Grow G (upd H a (SetXO P w a l)) G (upd (upd H a (SetXO P w a l)) p (.lst (zs.map V.str))) := Grow.newO g1.le hp
      have hp0 : H p = none := by
        cases e : H p with
        | none => rfl
        | some u =>
          have := g1.he p u e
          rw [hp] at this
          cases this
      refine k (.lst (zs.map .str)) G _ (.ref p) [p] (h4 zs (pm.nodup_iff.mpr nd) (fun z => (pm.mem_iff).trans (mem z)) sd) ⟨Ex.refl G, g1.he.trans g2.he, g2.le, fun _ _ z => .inl z⟩ ⟨p, _, rfl, rfl, ?_, upd_same, dqa_of_strs zs⟩ fun c hc => ?_
      · exact fresh_g le hp0
      · have e : c = p := by simpa using hc
        rw [e]
        exact hp0
  · exact q.elim
theorem ve_sortedSet {e : Expr} {t : VAT} {p1 p2 p3 p4 : Pos} (hgd : X.calm = true) (hg1 : Gl X "sorted") (hg2 : Gl X "set") (h1 : X.mg "sorted" = none) (h2 : X.mg "set" = none) (ha : VA X [e] t)
    (e1 : starEach [e] X.env = [(false, eval e X.env)]) (e2 : starEach [Expr.Call (.Name "set" p2) [e] [] p3] X.env = [(false, eval (Expr.Call (.Name "set" p2) [e] [] p3) X.env)]) : VE X (.Call (.Name "sorted" p1) [.Call (.Name "set" p2) [e] [] p3] [] p4) (vCB pSortedSet t) :=
  ve_cb ok_sortedSet lm_sortedSet ha fun t h => PE.imp (pe_callB (cr_sortedX hgd) hg1 h1 (by first | exact PySem.boot_sorted | exact PyProof.Rows.boot_sorted | decide +kernel)
    (pa_cons (pe_callTy (cr_setX hgd) hg2 h2 (by first | exact PySem.boot_set | exact PyProof.Rows.boot_set | decide +kernel) h (by decide) (by decide) (by rw [e1]; rfl) (by rfl)) pa_nil (by rw [e2]; rfl)) (by decide) (by decide) (by rw [e2]; rfl) (by rfl)) fun σ H Q q => q
end
end VL

/-! the value layer, thirteenth part: readings computed -/
set_option Elab.async false
set_option linter.all false
set_option maxRecDepth 100000
namespace VL
open PySem PySem.Spec PyProof.Rows L2
open Evl (Ex ex_l ex_t)
variable [Wd]

/-! ### ends of a body -/
theorem outs0 {S : Ss} {P : List O → Prop} : (∃ os', Outs [] [] [] S os' ∧ P os') ↔ P [] :=
  ⟨fun ⟨os', h, p⟩ => by cases h; exact p, fun p => ⟨[], .nil, p⟩⟩
theorem outs1 {ms : List Bool} {v : V} {vs : List V} {o o' : O} {os : List O} {S : Ss} {P : List O → Prop} : (∃ os', Outs (true :: ms) (v :: vs) (o :: os) (.io v o' :: S) os' ∧ P os') ↔ ∃ os', Outs ms vs os S os' ∧ P (o' :: os') :=
  ⟨fun ⟨os', h, p⟩ => by cases h with | io h => exact ⟨_, h, p⟩, fun ⟨os', h, p⟩ => ⟨_, .io h, p⟩⟩
theorem outs2 {ms : List Bool} {v : V} {vs : List V} {d : PyData} {s : Sl} {os : List O} {S : Ss} {P : List O → Prop} : (∃ os', Outs (false :: ms) (v :: vs) (.sh d :: os) (s :: S) os' ∧ P os') ↔ ∃ os', Outs ms vs os S os' ∧ P (.sh d :: os') :=
  ⟨fun ⟨os', h, p⟩ => by cases h with | sh h => exact ⟨_, h, p⟩, fun ⟨os', h, p⟩ => ⟨_, .sh h, p⟩⟩
theorem ioNil : (([] : List Nat).Nodup) = True := eq_true List.nodup_nil
theorem ioOne (i : Nat) : ([i].Nodup) = True := eq_true (by simp)
/-! ### places that may be set -/
def slotFree : Sl → Bool
  | .io _ _ => false
  | _ => true
theorem sf_em : slotFree .em = true := rfl
theorem sf_ow (o : O) : slotFree (.ow o) = true := rfl
theorem canSet_eq {S : Ss} {i : Nat} : canSet S i = (S[i]?).elim false slotFree := by
  unfold canSet
  cases S[i]? with
  | none => rfl
  | some s => cases s <;> rfl
/-! ### three numbers -/
section
variable {α : Type} {a b c : α}
theorem at30 : atI [a, b, c] 0 = some a := rfl
theorem at31 : atI [a, b, c] 1 = some b := rfl
theorem at32 : atI [a, b, c] 2 = some c := rfl
theorem at20 : atI [a, b] 0 = some a := rfl
theorem at21 : atI [a, b] 1 = some b := rfl
theorem ixlast {xs : List α} (h : xs ≠ []) : atI xs (-1) = some (xs.getLast h) := by
  have l : 0 < xs.length := List.length_pos_iff.mpr h
  unfold atI ixN
  rw [if_neg (by decide), if_pos (by omega)]
  show xs[((-1 : Int) + xs.length).toNat]? = _
  rw [show ((-1 : Int) + xs.length).toNat = xs.length - 1 by omega, List.getLast_eq_getElem, List.getElem?_eq_getElem]
theorem ixhead {x : α} {xs : List α} : atI (x :: xs) 0 = some x := by
  unfold atI ixN
  rw [if_pos (Int.le_refl 0), if_pos (by rw [List.length_cons]; omega)]
  rfl
theorem ix_nat {xs : List α} {i : Nat} (h : i < xs.length) : atI xs (i : Int) = some xs[i] := by
  unfold atI ixN
  rw [if_pos (by omega), if_pos (by omega)]
  show xs[(i : Int).toNat]? = _
  rw [Int.toNat_natCast, List.getElem?_eq_getElem h]
theorem ixN_nat {n i : Nat} (h : i < n) : ixN n (i : Int) = some i := by
  unfold ixN
  rw [if_pos (by omega), if_pos (by omega), Int.toNat_natCast]
theorem ix_int {xs : List α} {i : Int} (h0 : 0 ≤ i) (h : i < xs.length) : atI xs i = xs[i.toNat]? := by
  unfold atI ixN
  rw [if_pos h0, if_pos h]
  rfl
end
theorem ix30 : ixN 3 0 = some 0 := rfl
theorem ix32 : ixN 3 2 = some 2 := rfl
/-! ### loops -/
theorem for_ind {g : VG} {tb : VS} {D : VEnds} (I : List PyData → Ss → Prop) (step : ∀ d ds S (K : Ss → Prop), (∀ S', I ds S' → K S') → I (d :: ds) S → g d S fun S1 => tb { D with nx := K, ct := K, bk := D.nx } S1)
    (fin : ∀ S, I [] S → D.nx S) : ∀ ds S, I ds S → forW g tb D ds S
  | [], S, h => fin S h
  | d :: ds, S, h => step d ds S _ (fun S' h' => for_ind I step fin ds S' h') h
theorem lc_ind {g : VG} {tt : VTT} {te : VT} {is : List Nat} {R : List PyData → Ss → Prop} (I : List PyData → List PyData → Ss → Prop)
    (step : ∀ d ds acc S (K : List PyData → Ss → Prop), (∀ acc' S', I ds acc' S' → K acc' S') → I (d :: ds) acc S → g d S fun S1 => tt S1 fun k S2 => if k = true then te S2 fun o S3 => acc.length < sizeLine ∧ K (acc ++ [o.dat]) (wipeS S3 is) else K acc (wipeS S2 is))
    (fin : ∀ acc S, I [] acc S → R acc S) : ∀ ds acc S, I ds acc S → lcW g tt te is R ds acc S
  | [], acc, S, h => fin acc S h
  | d :: ds, acc, S, h => step d ds acc S (fun acc' S' => lcW g tt te is R ds acc' S') (fun acc' S' h' => lc_ind I step fin ds acc' S' h') h
/-- a comprehension that leaves the state alone -/
theorem lc_pure {α : Type} {g : VG} {tt : VTT} {te : VT} {is : List Nat} {R : List PyData → Ss → Prop} {S : Ss} (enc f : α → PyData) (p : α → Bool) (ok : α → Prop)
    (step : ∀ x (K : PyData → Ss → Prop) (L : Ss → Prop), ok x → (p x = true → K (f x) S) → (p x = false → L S) → g (enc x) S fun S1 => tt S1 fun k S2 => if k = true then te S2 fun o S3 => K o.dat (wipeS S3 is) else L (wipeS S2 is)) :
    ∀ (xs : List α) (acc : List PyData), (∀ x ∈ xs, ok x) → acc.length + xs.length ≤ sizeLine → R (acc ++ (xs.filter p).map f) S → lcW g tt te is R (xs.map enc) acc S
  | [], acc, _, _, h => by
    rw [List.filter_nil, List.map_nil, List.append_nil] at h
    exact h
  | x :: xs, acc, hk, hl, h => by
    rw [List.length_cons] at hl
    refine step x (fun d S' => acc.length < sizeLine ∧ lcW g tt te is R (xs.map enc) (acc ++ [d]) S') (fun S' => lcW g tt te is R (xs.map enc) acc S') (hk x List.mem_cons_self) (fun hp => ?_) fun hp => ?_
    · refine ⟨by omega, lc_pure enc f p ok step xs _ (fun y hy => hk y (List.mem_cons_of_mem _ hy)) (by rw [List.length_append, List.length_singleton]; omega) ?_⟩
      rw [List.filter_cons_of_pos hp, List.map_cons] at h
      rw [List.append_assoc]
      exact h
    · refine lc_pure enc f p ok step xs _ (fun y hy => hk y (List.mem_cons_of_mem _ hy)) (by omega) ?_
      rw [List.filter_cons_of_neg (by rw [hp]; exact Bool.false_ne_true)] at h
      exact h
/-! ### numbers -/
theorem cmulL {i j : Int} (h0 : 0 ≤ i) (h1 : i < 2 ^ 64) : CMul i j := .inl ⟨by omega, h1⟩
theorem cmulR {i j : Int} (h0 : 0 ≤ j) (h1 : j < 2 ^ 64) : CMul i j := .inr ⟨by omega, h1⟩
theorem fm0 {a n : Int} (h : 0 < n) : 0 ≤ a.fmod n := Int.fmod_nonneg_of_pos a h
theorem fm1 {a n : Int} (h : 0 < n) : a.fmod n < n := Int.fmod_lt_of_pos a h
theorem fmB {a n : Int} (h : 0 < n) (h2 : n ≤ 2 ^ 64) : CMul (a.fmod n) b := cmulL (fm0 h) (Int.lt_of_lt_of_le (fm1 h) h2)
theorem cdiv {i n : Int} (h : 0 < n) (h2 : n < 2 ^ 30) : CDivN i n := ⟨by omega, by omega⟩
/-! ### pieces of lists -/
theorem cutD_map {α : Type} (f : α → PyData) (xs : List α) (lo hi : Option Int) : cutD (xs.map f) lo hi = ((xs.drop (HT.sIx xs.length 0 lo)).take (HT.sIx xs.length xs.length hi - HT.sIx xs.length 0 lo)).map f := by
  unfold cutD
  rw [List.length_map, ← List.map_drop, ← List.map_take]
def cutL {α : Type} (xs : List α) (lo hi : Option Int) : List α := (xs.drop (HT.sIx xs.length 0 lo)).take (HT.sIx xs.length xs.length hi - HT.sIx xs.length 0 lo)
theorem cutD_cutL {α : Type} (f : α → PyData) (xs : List α) (lo hi : Option Int) : cutD (xs.map f) lo hi = (cutL xs lo hi).map f := cutD_map f xs lo hi
theorem cutL_tail {α : Type} (xs : List α) : cutL xs (some 1) none = xs.tail := by
  unfold cutL
  show (xs.drop (min (1 : Int).toNat xs.length)).take (xs.length - min (1 : Int).toNat xs.length) = xs.tail
  cases xs with
  | nil => rfl
  | cons x xs =>
    rw [show min (1 : Int).toNat (x :: xs).length = 1 by rw [List.length_cons]; show min 1 _ = 1; omega]
    show xs.take (xs.length + 1 - 1) = xs
    rw [Nat.add_sub_cancel, List.take_length]
theorem cutL_sub {α : Type} {xs : List α} {lo hi : Option Int} {x : α} (h : x ∈ cutL xs lo hi) : x ∈ xs := List.mem_of_mem_drop (List.mem_of_mem_take h)
theorem cutL_len {α : Type} {xs : List α} {lo hi : Option Int} : (cutL xs lo hi).length ≤ xs.length := by
  unfold cutL
  rw [List.length_take, List.length_drop]
  omega
theorem zipD_map {α β : Type} (f : α → PyData) (g : β → PyData) : ∀ (xs : List α) (ys : List β), zipD (xs.map f) (ys.map g) = (xs.zip ys).map fun p => .tuple [f p.1, g p.2]
  | [], _ => by cases ‹List β› <;> rfl
  | x :: xs, [] => rfl
  | x :: xs, y :: ys => by
    show PyData.tuple [f x, g y] :: zipD (xs.map f) (ys.map g) = _
    rw [zipD_map f g xs ys]
    rfl
end VL

/-! the value layer, fourteenth part: data that can be shown; what the laws' helpers promise -/
set_option Elab.async false
set_option linter.all false
set_option maxRecDepth 100000
namespace VL
open PySem PySem.Spec PyProof.Rows L2
variable [Wd]

/-! ### data that can be shown and compared -/
structure Nice (k w : Nat) (d : PyData) : Prop where
  sh : d.showable = true
  la : d.canLay0 = true
  de : d.depth ≤ k
  wt : d.shown.length ≤ w
theorem Nice.mono {k l w v : Nat} {d : PyData} (h : Nice k w d) (h1 : k ≤ l) (h2 : w ≤ v) : Nice l v d := ⟨h.sh, h.la, Nat.le_trans h.de h1, Nat.le_trans h.wt h2⟩
theorem Nice.shaped {k w : Nat} {d : PyData} (h : Nice k w d) (h1 : k ≤ 64) : SeqAt.shaped d = true := by
  unfold SeqAt.shaped
  rw [Bool.and_eq_true, decide_eq_true_eq]
  exact ⟨h.la, Nat.le_trans h.de h1⟩
theorem Nice.rep {k w : Nat} {d : PyData} (h : Nice k w d) (h1 : k ≤ 64) (h2 : w ≤ 16000000) {P : O → Prop} (q : P (.sh (.str d.shown))) : pRepr d P :=
  ⟨h.sh, h.shaped h1, Nat.le_trans h.wt (by rw [sizeLine_eq]; omega), q⟩
theorem nice_none : Nice 0 5 .none := ⟨rfl, rfl, Nat.le_refl _, by decide⟩
theorem nice_bool (b : Bool) : Nice 0 5 (.bool b) := by
  cases b
  · exact ⟨rfl, rfl, Nat.le_refl _, by decide⟩
  · exact ⟨rfl, rfl, Nat.le_refl _, by decide⟩
theorem nice_int {i : Int} {n : Nat} (h0 : 0 < n) (h : i.natAbs.log2 < n) (h1 : n ≤ 1920) : Nice 0 (n + 1) (.int i) := by
  refine ⟨?_, rfl, Nat.le_refl _, ?_⟩
  · show decide (i.natAbs.log2 < 1920) = true
    exact decide_eq_true (by omega)
  · show (Str.ofString (toString i)).length ≤ n + 1
    rw [PySem.ofString_length]
    exact int_text_length_le h0 h
theorem log2_small {i n : Nat} (h : i < 2 ^ n) (h0 : 0 < n) : i.log2 < n := by
  by_cases e : i = 0
  · subst e
    rw [show Nat.log2 0 = 0 from by decide]
    exact h0
  · exact (Nat.log2_lt e).mpr h
theorem nice_small {i : Int} (h : i.natAbs < 2 ^ 40) : Nice 0 50 (.int i) := (nice_int (n := 40) (by decide) (log2_small h (by decide)) (by decide)).mono (Nat.le_refl _) (by decide)
theorem nice_str {x : Str} {n : Nat} (h : PyData.strOk x = true) (hl : x.length ≤ n) : Nice 0 (10 * n + 2) (.str x) := by
  refine ⟨rfl, h, Nat.le_refl _, ?_⟩
  have q := StrLaws.reprText_len x fun c hc => by
    have h : x.cps.all (· < 0x110000) = true := h
    rw [← Array.all_toList, List.all_eq_true] at h
    have := of_decide_eq_true (h c hc)
    have e : (16 : Nat) ^ 8 = 4294967296 := by decide
    omega
  show (reprText x).length ≤ 10 * n + 2
  omega
theorem all_nice {k w : Nat} : ∀ {ds : List PyData}, (∀ d ∈ ds, Nice k w d) → PyData.showableAll ds = true ∧ PyData.canLayAll0 ds = true ∧ PyData.depthAll ds ≤ k ∧ piled (PyData.shownAll ds) ≤ ds.length * (w + 2)
  | [], _ => ⟨rfl, rfl, Nat.zero_le _, Nat.zero_le _⟩
  | d :: ds, h => by
    obtain ⟨a, b, c, e⟩ := all_nice fun x hx => h x (List.mem_cons_of_mem _ hx)
    have n := h d List.mem_cons_self
    refine ⟨?_, ?_, ?_, ?_⟩
    · show (d.showable && PyData.showableAll ds) = true
      rw [n.sh, a]; rfl
    · show (d.canLay0 && PyData.canLayAll0 ds) = true
      rw [n.la, b]; rfl
    · show max d.depth (PyData.depthAll ds) ≤ k
      exact Nat.max_le.mpr ⟨n.de, c⟩
    · show piled (d.shown :: PyData.shownAll ds) ≤ (ds.length + 1) * (w + 2)
      rw [piled_cons, Nat.succ_mul]
      have := n.wt
      omega
theorem listText_le (ts : List Str) : (listText ts).length ≤ piled ts + 2 := by
  cases ts with
  | nil => decide
  | cons t r =>
    have h := textFrom_length_pos r 1 (("[" : Str) ++ (if (0 : Nat) > 0 then ", " else "" : String) ++ t) (Nat.succ_pos 0)
    have e : (("[" : Str) ++ (if (0 : Nat) > 0 then ", " else "" : String) ++ t).length = 1 + t.length := by
      rw [strLen_append, strLen_append]
      show 1 + 0 + t.length = 1 + t.length
      omega
    show (textFrom 1 (("[" : Str) ++ (if (0 : Nat) > 0 then ", " else "" : String) ++ t) r ++ "]").length ≤ _
    rw [strLen_append, h, e, piled_cons]
    show 1 + t.length + piled r + 1 ≤ _
    omega
theorem tupleText_le (ts : List Str) : (tupleText ts).length ≤ piled ts + 3 := by
  cases ts with
  | nil => decide
  | cons t r =>
    have j := join_length_add (t :: r) (by simp)
    unfold tupleText
    rw [strLen_append, strLen_append]
    have e : ∀ b : Bool, ((if b = true then ",)" else ")" : String) : Str).length ≤ 2 := by
      intro b
      cases b
      · decide
      · decide
    have := e ((t :: r).length == 1)
    have o : (("(" : String) : Str).length = 1 := by decide
    omega
theorem nice_list {k w n : Nat} {ds : List PyData} (h : ∀ d ∈ ds, Nice k w d) (hn : ds.length ≤ n) : Nice (k + 1) (n * (w + 2) + 3) (.list ds) := by
  obtain ⟨a, b, c, e⟩ := all_nice h
  refine ⟨a, b, Nat.succ_le_succ c, ?_⟩
  have q := listText_le (PyData.shownAll ds)
  have m : ds.length * (w + 2) ≤ n * (w + 2) := Nat.mul_le_mul_right _ hn
  show (listText (PyData.shownAll ds)).length ≤ _
  omega
theorem nice_tup {k w n : Nat} {ds : List PyData} (h : ∀ d ∈ ds, Nice k w d) (hn : ds.length ≤ n) : Nice (k + 1) (n * (w + 2) + 3) (.tuple ds) := by
  obtain ⟨a, b, c, e⟩ := all_nice h
  refine ⟨a, b, Nat.succ_le_succ c, ?_⟩
  have q := tupleText_le (PyData.shownAll ds)
  have m : ds.length * (w + 2) ≤ n * (w + 2) := Nat.mul_le_mul_right _ hn
  show (tupleText (PyData.shownAll ds)).length ≤ _
  omega

/-! ### words and texts -/
def wOk (w : Str) : Prop := PyData.strOk w = true ∧ w.length ≤ 1000
structure Fit (xs : List Str) : Prop where
  len : xs.length ≤ 1000
  wd : ∀ w ∈ xs, wOk w
/-- a text, as a tuple or as a list -/
def Txt (d : PyData) (xs : List Str) : Prop := d = .tuple (xs.map .str) ∨ d = .list (xs.map .str)
def endW (w : Str) (n : Int) : Str := cutS w (some (-n)) none
theorem strOk_sub {x y : Str} (h : PyData.strOk x = true) (s : ∀ c ∈ y.cps.toList, c ∈ x.cps.toList) : PyData.strOk y = true := by
  have h : x.cps.all (· < 0x110000) = true := h
  show y.cps.all (· < 0x110000) = true
  rw [← Array.all_toList, List.all_eq_true] at h ⊢
  exact fun c hc => h c (s c hc)
theorem cutS_ok {x : Str} {lo hi : Option Int} (h : wOk x) : wOk (cutS x lo hi) := by
  refine ⟨strOk_sub h.1 fun c hc => ?_, ?_⟩
  · unfold cutS at hc
    rw [List.toList_toArray] at hc
    exact List.mem_of_mem_drop (List.mem_of_mem_take hc)
  · have := h.2
    show ((x.cps.toList.drop _).take _).toArray.size ≤ 1000
    rw [List.size_toArray, List.length_take, List.length_drop]
    have e : x.length = x.cps.toList.length := (Array.length_toList).symm
    omega
theorem endW_ok {w : Str} {n : Int} (h : wOk w) : wOk (endW w n) := cutS_ok h
theorem wOk.nice {w : Str} (h : wOk w) : Nice 0 10002 (.str w) := (nice_str h.1 h.2).mono (Nat.le_refl _) (by decide)
theorem wOk.line {w : Str} (h : wOk w) : w.length ≤ sizeLine := by have := h.2; rw [sizeLine_eq]; omega
/-! ### the laws' helpers -/
def isBox (b : O) : Prop := ∃ x y z : Int, b = .lst [.int x, .int y, .int z]
def BoxOf : VSp := fun os R => ∃ (cs : List Int) (k : Int), os = [.sh (.list (cs.map .int)), .sh (.int k)] ∧ 0 ≤ k ∧ k < cs.length ∧ ∀ b, isBox b → R b os
def Take : VSp := fun os R => ∃ bx n, os = [bx, .sh (.int n)] ∧ isBox bx ∧ 0 < n ∧ n < 2 ^ 30 ∧ ∀ (k : Int) bx', 0 ≤ k → k < n → isBox bx' → R (.sh (.int k)) [bx', .sh (.int n)]
def Cells : VSp := fun os R => ∃ (ns : List Int) (m : Int), os = [.sh (scrD ns), .sh (.int m)] ∧ ns.length ≤ 63 ∧ 0 < m ∧ m ≤ 63 ∧ ∀ cs : List Int, 0 < cs.length → cs.length ≤ m → R (.lst (cs.map .int)) os
def OneOf : VSp := fun os R => ∃ bx d ds, os = [bx, .sh d] ∧ isBox bx ∧ itemsD d = some ds ∧ ds ≠ [] ∧ ds.length < 2 ^ 30 ∧ ∀ x bx', x ∈ ds → isBox bx' → R (.sh x) [bx', .sh d]
def Strewn : VSp := fun os R => ∃ bx d ds, os = [bx, .sh d] ∧ isBox bx ∧ itemsD d = some ds ∧ ds.length ≤ 2 ^ 20 ∧ ∀ es bx', es.Perm ds → isBox bx' → R (.lst es) [bx', .sh d]
def Same : VSp := fun os R => ∃ d, os = [.sh d, .sh d] ∧ (∃ k w, Nice k w d ∧ k ≤ 64 ∧ w ≤ 16000000) ∧ R (.sh (.bool true)) os
def Ending : VSp := fun os R => ∃ w n, os = [.sh (.str w), .sh (.int n)] ∧ wOk w ∧ R (.sh (.str (endW w n))) os
def alk (a b : Str) (n : Int) : Bool := PyData.eqv (.str (endW a n)) (.str (endW b n))
def Alike : VSp := fun os R => ∃ a b n, os = [.sh (.str a), .sh (.str b), .sh (.int n)] ∧ wOk a ∧ wOk b ∧ R (.sh (.bool (alk a b n))) os
def pairsD (xs : List Str) (n : Int) : List PyData := (xs.zip xs.tail).map fun p => .tuple [.str (endW p.1 n), .str p.2]
def Pairs : VSp := fun os R => ∃ d xs n, os = [.sh d, .sh (.int n)] ∧ Txt d xs ∧ Fit xs ∧ R (.lst (pairsD xs n)) os
theorem pairsD_nice {xs : List Str} {n : Int} (h : Fit xs) : ∀ d ∈ pairsD xs n, Nice 1 30000 d := by
  intro d hd
  unfold pairsD at hd
  obtain ⟨p, hp, rfl⟩ := List.mem_map.mp hd
  have h1 := h.wd _ (List.of_mem_zip hp).1
  have h2 := h.wd _ (List.mem_of_mem_tail (List.of_mem_zip hp).2)
  refine (nice_tup (n := 2) (k := 0) (w := 10002) (fun d hd => ?_) (Nat.le_refl _)).mono (Nat.le_refl _) (by decide)
  rcases List.mem_cons.mp hd with z | z
  · rw [z]; exact (endW_ok h1).nice
  · rw [List.mem_singleton.mp z]; exact h2.nice
theorem pairsD_len {xs : List Str} {n : Int} : (pairsD xs n).length ≤ xs.length := by
  unfold pairsD
  rw [List.length_map, List.length_zip]
  omega
theorem list_shaped {k w : Nat} {ds : List PyData} (h : ∀ d ∈ ds, Nice k w d) (hk : k < 64) : SeqAt.shaped (.list ds) = true := (nice_list h (Nat.le_refl _)).shaped (by omega)
theorem tup_shaped {k w : Nat} {ds : List PyData} (h : ∀ d ∈ ds, Nice k w d) (hk : k < 64) : SeqAt.shaped (.tuple ds) = true := (nice_tup h (Nat.le_refl _)).shaped (by omega)
end VL

/-! the value layer, fifteenth part: isinstance -/
set_option Elab.async false
set_option linter.all false
set_option maxRecDepth 100000
namespace VL
open PySem PySem.Spec PyProof.Rows L2
open Evl (Ex ex_l ex_t)
variable [Wd]
/-- the name of a value's class -/
def tyD : PyData → String
  | .none => "NoneType"
  | .bool _ => "bool"
  | .int _ => "int"
  | .str _ => "str"
  | .list _ => "list"
  | .tuple _ => "tuple"
  | .dict _ => "list"
theorem ty_lst {K : PySem.W.Frag} {H : Hp} {a : Addr} {xs : List V} (h : SqL K H a xs) : TyX K H (.ref a) (.type "list") := by
  rcases h with h | ⟨o, its, n, h1, h2, _⟩
  · rcases h with h | ⟨o, h⟩
    · exact .base (.lst h)
    · exact .base (.frz h)
  · exact .kList h1 h2
theorem ty_tup {K : PySem.W.Frag} {H : Hp} {a : Addr} {xs : List V} (h : SqT K H a xs) : TyX K H (.ref a) (.type "tuple") := by
  rcases h with h | ⟨o, its, n, h1, h2, _⟩
  · rcases h with h | ⟨o, h⟩
    · exact .base (.tup h)
    · exact .fTuple h
  · exact .kTuple h1 h2
def noD : PyData → Bool
  | .dict _ => false
  | _ => true
theorem top_ty {K : PySem.W.Frag} {G H : Hp} {x : V} {d : PyData} (le : Ex G H) (h : Top K G H x d) (nd : noD d = true) : TyX K H x (.type (tyD d)) := by
  cases d with
  | none => rw [top_none h]; exact .base .non
  | bool b => rw [top_bool h]; exact .base (.bl _)
  | int i => rw [top_int h]; exact .base (.int _)
  | str s => rw [top_str h]; exact .base (.str _)
  | list ds =>
    obtain ⟨a, vs, rfl, h1, _⟩ := h
    exact .base (.lst h1)
  | tuple ds =>
    obtain ⟨a, vs, rfl, h1, _⟩ := top_tup le h
    exact ty_tup h1
  | dict q => cases nd
/-- isinstance's answer for a built-in class -/
def isiD (T : String) (d : PyData) : Bool := tyD d == T || (tyD d == "bool" && T == "int")
def pIsi (T : String) : Pd1 := fun d P => noD d = true ∧ P (.sh (.bool (isiD T d)))
def tyNames : List String := ["NoneType", "bool", "int", "str", "list", "tuple"]
theorem kit_all : ∀ a ∈ tyNames, ∀ T ∈ tyNames, kitB a T = some (a == T || (a == "bool" && T == "int")) := by decide +kernel
theorem tyD_in (d : PyData) : tyD d ∈ tyNames := by
  cases d
  all_goals
    unfold tyD tyNames
    simp
theorem kit_isi {K : PySem.W.Frag} {T : String} (hT : T ∈ tyNames) (d : PyData) : PySem.W.kitOne K (.type (tyD d)) (.type T) = some (isiD T d) := kit_ty (kit_all _ (tyD_in d) T hT)
/-- isinstance's answer for some built-in classes -/
def isiAny (Ts : List String) (d : PyData) : Bool := Ts.any fun T => isiD T d
theorem kit_any {K : PySem.W.Frag} {d : PyData} : ∀ {Ts : List String}, (∀ T ∈ Ts, T ∈ tyNames) → PySem.W.kitAny K (.type (tyD d)) (Ts.map .type) = some (isiAny Ts d)
  | [], _ => kitAny_nil
  | T :: Ts, h => by
    refine kitAny_cons (kit_isi (h T List.mem_cons_self) d) (fun hb => ?_) fun hb => ?_
    · rw [kit_any fun T hT => h T (List.mem_cons_of_mem _ hT)]
      unfold isiAny
      rw [List.any_cons, hb, Bool.false_or]
    · unfold isiAny
      rw [List.any_cons, hb, Bool.true_or]
theorem clsV_all : ∀ Ts : List String, Paired ClsV (Ts.map V.ty) (Ts.map Value.type)
  | [] => .nil
  | T :: Ts => .cons (.ty T) (clsV_all Ts)
section
variable {X : Cx} {e : Expr} {p1 p2 pos : Pos} {t : VBT}
theorem ve_isi {T : String} {y : Str} (hT : T ∈ tyNames) (ha : VB X e t) (h : PE X (.Call (.Name "isinstance" p1) [e, .Name y p2] [] pos) (tCB (rIsi X.K) (tCons (liftB X.K t) (tCons (tC (.ty T)) tNil)))) : VE X (.Call (.Name "isinstance" p1) [e, .Name y p2] [] pos) (vUn (pIsi T) t) := by
  refine ⟨fun S P P' i q => ha.mono _ _ _ (fun b1 S1 z => let ⟨d, g, q3⟩ := z; ⟨d, g, q3.1, i _ _ q3.2⟩) q, PE.imp h fun σ H Q hq => ?_⟩
  obtain ⟨G, S, F, m, q⟩ := hq
  refine ⟨G, S, F, m, ha.mono _ _ _ (fun b1 S1 z G1 H1 v1 F1 ev1 m1 k1 => ?_) q⟩
  obtain ⟨d, g, nd, q3⟩ := z
  have tx := bo_top k1 (Ex.refl _) m1 g
  exact ⟨v1, .ty T, _, _, isiD T d, rfl, .ty T, top_ty m1.le tx nd, kit_isi hT d, q3 G1 H1 _ [] F1 ev1 m1 ⟨rfl, .bl _⟩ (fun _ z => nomatch z) fun _ z => nomatch z⟩
def tTys (Ts : List String) : TA := match Ts with
  | [] => tNil
  | T :: Ts => tCons (tC (.ty T)) (tTys Ts)
theorem tTys_use {Ts : List String} {σ : L2.St} {H : Hp} {Q : List V → Hp → Prop} (h : Q (Ts.map V.ty) H) : tTys Ts σ H Q := by
  induction Ts generalizing Q with
  | nil => exact h
  | cons T Ts ih => exact ih (Q := fun xs H1 => Q (.ty T :: xs) H1) h
def pIsiT (Ts : List String) : Pd1 := fun d P => noD d = true ∧ P (.sh (.bool (isiAny Ts d)))
/-- isinstance(x, (A, B)) -/
theorem ve_isiT {Ts : List String} {e2 : Expr} (hT : ∀ T ∈ Ts, T ∈ tyNames) (hl : Ts.length ≤ 10) (ha : VB X e t) (h : PE X (.Call (.Name "isinstance" p1) [e, e2] [] pos) (tCB (rIsiT X.K) (tCons (liftB X.K t) (tCons (tTup (tTys Ts)) tNil)))) : VE X (.Call (.Name "isinstance" p1) [e, e2] [] pos) (vUn (pIsiT Ts) t) := by
  refine ⟨fun S P P' i q => ha.mono _ _ _ (fun b1 S1 z => let ⟨d, g, q3⟩ := z; ⟨d, g, q3.1, i _ _ q3.2⟩) q, PE.imp h fun σ H Q hq => ?_⟩
  obtain ⟨G, S, F, m, q⟩ := hq
  refine ⟨G, S, F, m, ha.mono _ _ _ (fun b1 S1 z G1 H1 v1 F1 ev1 m1 k1 => ?_) q⟩
  obtain ⟨d, g, nd, q3⟩ := z
  refine tTys_use ⟨by rw [List.length_map, sizeLine_eq]; omega, fun T hT2 => ?_⟩
  have gr : Grow G1 H1 G1 (upd H1 T (.tup (Ts.map V.ty))) := Grow.newO m1.le hT2
  have m2 := m1.grow gr
  have tx := bo_top k1 (Ex.refl _) m2 g
  exact ⟨v1, T, Ts.map V.ty, _, Ts.map .type, isiAny Ts d, rfl, upd_same, clsV_all Ts, top_ty m2.le tx nd, kit_any hT, q3 G1 _ _ [] F1 (ev1.trans (gr.evo _)) m2 ⟨rfl, .bl _⟩ (fun _ z => nomatch z) fun _ z => nomatch z⟩
end
end VL

/-! the value layer, sixteenth part: comparisons in a chain -/
set_option Elab.async false
set_option linter.all false
set_option maxRecDepth 100000
namespace VL
open PySem PySem.Spec PyProof.Rows L2
open Evl (Ex ex_l ex_t)
variable [Wd]
def vChain (p p' : Pd2) (ta tb tc : VBT) : VT := fun S Q => ta S fun b1 S1 => tb S1 fun b2 S2 => ∃ d e, b1.get S2 = some d ∧ b2.get S2 = some e ∧ p d e fun o => ∃ k, o = .sh (.bool k) ∧
  if k = true then tc S2 fun b3 S3 => ∃ e' g, b2.get S3 = some e' ∧ b3.get S3 = some g ∧ p' e' g fun o' => Q o' S3 else Q (.sh (.bool false)) S2
section
variable {X : Cx} {a b c : Expr} {pos : Pos} {ta tb tc : VBT} {r r' : R2} {p p' : Pd2} {op op' : CmpOp}
theorem vChain_mono (pm : PMono p) (pm' : PMono p') (ma : Mono ta) (mb : Mono tb) (mc : Mono tc) : Mono (vChain p p' ta tb tc) := fun S P P' i q =>
  ma _ _ _ (fun b1 S1 q1 => mb _ _ _ (fun b2 S2 z => by
    obtain ⟨d, e, h1, h2, q2⟩ := z
    refine ⟨d, e, h1, h2, pm _ _ _ _ (fun o z => ?_) q2⟩
    obtain ⟨k, e1, z⟩ := z
    refine ⟨k, e1, ?_⟩
    cases k with
    | false => exact i _ _ z
    | true => exact mc _ _ _ (fun b3 S3 y => let ⟨e', g, h3, h4, w⟩ := y; ⟨e', g, h3, h4, pm' _ _ _ _ (fun o z => i _ _ z) w⟩) z) q1) q
theorem chain_use (ok : ROk X.K r p) (ok' : ROk X.K r' p') (ha : VB X a ta) (hb : VB X b tb) (hc : VB X c tc) {σ : L2.St} {H : Hp} {Q : VK} (hq : lift X.K (vChain p p' ta tb tc) σ H Q) : tChain r r' (liftB X.K ta) (liftB X.K tb) (liftB X.K tc) σ H Q := by
  obtain ⟨G, S, F, m, q⟩ := hq
  refine ⟨G, S, F, m, ha.mono _ _ _ (fun b1 S1 q1 G1 H1 v1 F1 ev1 m1 k1 => ?_) q⟩
  refine ⟨G1, S1, F1, m1, hb.mono _ _ _ (fun b2 S2 z G2 H2 v2 F2 ev2 m2 k2 => ?_) q1⟩
  obtain ⟨d, e, g1, g2, q2⟩ := z
  refine ok G2 H2 v1 v2 d e _ _ m2.le (bo_top k1 ev2.gle m2 g1) (bo_top k2 (Ex.refl _) m2 g2) q2 fun o G3 H3 v f q3 gr ow fr => ?_
  obtain ⟨k, rfl, q3⟩ := q3
  obtain ⟨_, w⟩ := ow
  cases w
  have m3 := m2.grow gr
  have ev3 := (ev1.trans ev2).trans (gr.evo (Mu S2 F2))
  refine ⟨k, rfl, ?_⟩
  cases k with
  | false =>
    rw [if_neg Bool.false_ne_true] at q3 ⊢
    exact q3 G3 H3 _ [] F2 ev3 m3 ⟨rfl, .bl _⟩ (fun _ z => nomatch z) fun _ z => nomatch z
  | true =>
    rw [if_pos rfl] at q3 ⊢
    refine ⟨G3, S2, F2, m3, hc.mono _ _ _ (fun b3 S3 z G4 H4 v3 F4 ev4 m4 k4 => ?_) q3⟩
    obtain ⟨e', g, g3, g4, q4⟩ := z
    refine ok' G4 H4 v2 v3 e' g _ Q m4.le (bo_top k2 (gr.ge.trans ev4.gle) m4 g3) (bo_top k4 (Ex.refl _) m4 g4) q4 fun o G5 H5 v f q5 gr5 ow5 fr5 => ?_
    exact q5 G5 H5 v f F4 ((ev3.trans ev4).trans (gr5.evo _)) (m4.grow gr5) ow5 (fun x hx => fresh_mu m4 (fr5 x hx)) fun x hx => (ev3.trans ev4).back (.inl (fr5 x hx))
theorem ve_chain (ho : OpR X (compareOp op) r) (ho' : OpR X (compareOp op') r') (ok : ROk X.K r p) (ok' : ROk X.K r' p') (pm : PMono p) (pm' : PMono p') (ha : VB X a ta) (hb : VB X b tb) (hc : VB X c tc) (hm : lastMarks [op, op'] [b, c] = false) :
    VE X (.Compare a [op, op'] [b, c] pos) (vChain p p' ta tb tc) :=
  ⟨vChain_mono pm pm' ha.mono hb.mono hc.mono, PE.imp (pe_chain ho ho' ha.pe hb.pe hc.pe hm) fun σ H Q hq => chain_use ok ok' ha hb hc hq⟩
theorem test_lift {K : PySem.W.Frag} {t : VT} (mt : Mono t) {σ : L2.St} {H : Hp} {Q : Bool → Hp → Prop} (hq : liftT K (vTest t) σ H Q) : lift K t σ H fun v H1 => ∃ k, v = .bl k ∧ Q k H1 := by
  obtain ⟨G, S, F, m, q⟩ := hq
  refine ⟨G, S, F, m, mt _ _ _ (fun o S1 z G1 H1 v f F1 ev m1 ow ap nw => ?_) q⟩
  obtain ⟨k, rfl, z⟩ := z
  obtain ⟨_, w⟩ := ow
  cases w
  exact ⟨k, rfl, z G1 H1 F1 ev m1⟩
theorem vt_chain (ho : OpR X (compareOp op) r) (ho' : OpR X (compareOp op') r') (ok : ROk X.K r p) (ok' : ROk X.K r' p') (pm : PMono p) (pm' : PMono p') (ha : VB X a ta) (hb : VB X b tb) (hc : VB X c tc) (hm : lastMarks [op, op'] [b, c] = false) :
    VTe X (.Compare a [op, op'] [b, c] pos) (vTest (vChain p p' ta tb tc)) := by
  have mo := vChain_mono pm pm' ha.mono hb.mono hc.mono
  exact ⟨vTest_mono mo, PT.imp (pt_chain ho ho' ha.pe hb.pe hc.pe hm) fun σ H Q hq => chain_use ok ok' ha hb hc (test_lift mo hq)⟩
end
end VL

/-! the value layer, seventeenth part: str(x), what is never reached -/
set_option Elab.async false
set_option linter.all false
set_option maxRecDepth 100000
namespace VL
open PySem PySem.Spec PyProof.Rows L2
open Evl (Ex ex_l ex_t)
variable [Wd]
section
variable {X : Cx}
/-- an expression that is never reached -/
def vNeverE : VT := fun _ _ => False
theorem ve_never (e : Expr) : VE X e vNeverE := ⟨fun _ _ _ _ q => q, ⟨fun pins s σ H Q I h => by
  obtain ⟨_, _, _, _, q⟩ := h
  exact q.elim⟩⟩
theorem callR_or {f : Value} {r r' : List V → Hp → L2.VK → Prop} (h : CallR X f r) (h' : CallR X f r') : CallR X f fun xs H Q => r xs H Q ∨ r' xs H Q := by
  intro pins s σ H xs us Q I rv q
  rcases q with q | q
  · exact h pins s σ H xs us Q I rv q
  · exact h' pins s σ H xs us Q I rv q
def pStr : Pd1 := fun d P => match d with
  | .int i => i.natAbs.log2 < 1920 ∧ P (.sh (.str (toString i)))
  | .str x => P (.sh (.str x))
  | _ => False
theorem lm_str : LMono (pd1 pStr) := lm1 (by
  intro d P P' i h
  unfold pStr at h ⊢
  split at h
  · exact ⟨h.1, i _ h.2⟩
  · exact i _ h
  · exact h)
def rStrA : List V → Hp → L2.VK → Prop := fun xs H Q => (∃ i, xs = [.int i] ∧ i.natAbs.log2 < 1920 ∧ Q (.str (toString i)) H) ∨ ∃ a, xs = [.str a] ∧ Q (.str a) H
theorem call_strA : CallR X (.type "str") rStrA := callR_or call_str_int SkE.call_str_str
theorem ok_str {K : PySem.W.Frag} : COk K rStrA (pd1 pStr) := ok1 (by
  intro G H x d P Q le tx h k
  unfold pStr at h
  split at h
  · rw [top_int tx]
    exact .inl ⟨_, rfl, h.1, ans le k h.2 (.str _)⟩
  · rw [top_str tx]
    exact .inr ⟨_, rfl, ans le k h (.str _)⟩
  · exact h.elim)
end
end VL

/-! the value layer, eighteenth part: data of any kind by leaves, depth and weight; upper; range as a value -/
set_option Elab.async false
set_option linter.all false
set_option maxRecDepth 100000
namespace VL
open PySem PySem.Spec PyProof.Rows L2
open Evl (Ex ex_l ex_t)
variable [Wd]
mutual
def lvs (n : Nat) : PyData → Bool
  | .none | .bool _ => true
  | .int i => decide (i.natAbs ≤ n)
  | .str x => x.cps.all (· < 128)
  | .list xs | .tuple xs => lvsAll n xs
  | .dict _ => false
def lvsAll (n : Nat) : List PyData → Bool
  | [] => true
  | x :: xs => lvs n x && lvsAll n xs
end
mutual
def wt : PyData → Nat
  | .none | .bool _ => 5
  | .int _ => 50
  | .str x => 10 * x.length + 2
  | .list xs | .tuple xs => wtAll xs + 3
  | .dict _ => 0
def wtAll : List PyData → Nat
  | [] => 0
  | x :: xs => wt x + 2 + wtAll xs
end
theorem lvsAll_iff {n : Nat} : ∀ {ds : List PyData}, lvsAll n ds = true ↔ ∀ d ∈ ds, lvs n d = true
  | [] => ⟨fun _ _ h => (nomatch h), fun _ => rfl⟩
  | d :: ds => by
    unfold lvsAll
    rw [Bool.and_eq_true, lvsAll_iff, List.forall_mem_cons]
theorem depthAll_iff {k : Nat} : ∀ {ds : List PyData}, PyData.depthAll ds ≤ k ↔ ∀ d ∈ ds, d.depth ≤ k
  | [] => ⟨fun _ _ h => (nomatch h), fun _ => Nat.zero_le _⟩
  | d :: ds => by
    unfold PyData.depthAll
    rw [Nat.max_le, depthAll_iff, List.forall_mem_cons]
theorem wtAll_app : ∀ {ds es : List PyData}, wtAll (ds ++ es) = wtAll ds + wtAll es
  | [], es => by rw [List.nil_append, wtAll, Nat.zero_add]
  | d :: ds, es => by
    rw [List.cons_append, wtAll, wtAll, wtAll_app]
    omega
theorem wtAll_mem : ∀ {ds : List PyData} {d : PyData}, d ∈ ds → wt d + 2 ≤ wtAll ds
  | x :: ds, d, h => by
    rw [wtAll]
    rcases List.mem_cons.mp h with rfl | h
    · omega
    · have := wtAll_mem h
      omega
theorem wtAll_len : ∀ {ds : List PyData}, 2 * ds.length ≤ wtAll ds
  | [] => Nat.zero_le _
  | x :: ds => by
    have := wtAll_len (ds := ds)
    rw [wtAll, List.length_cons]
    omega
theorem wtAll_take {ds : List PyData} {k : Nat} : wtAll (ds.take k) ≤ wtAll ds := by
  have h : wtAll (ds.take k ++ ds.drop k) = wtAll ds := by rw [List.take_append_drop]
  rw [wtAll_app] at h
  omega
theorem wtAll_drop {ds : List PyData} {k : Nat} : wtAll (ds.drop k) ≤ wtAll ds := by
  have h : wtAll (ds.take k ++ ds.drop k) = wtAll ds := by rw [List.take_append_drop]
  rw [wtAll_app] at h
  omega
theorem wtAll_rev : ∀ {ds : List PyData}, wtAll ds.reverse = wtAll ds
  | [] => rfl
  | x :: ds => by
    rw [List.reverse_cons, wtAll_app, wtAll_rev, wtAll, wtAll, wtAll]
    omega
theorem wtAll_set {d : PyData} : ∀ {ds : List PyData} {i : Nat}, wtAll (ds.set i d) ≤ wtAll ds + wt d + 2
  | [], i => by rw [List.set_nil, wtAll]; omega
  | x :: ds, 0 => by rw [List.set_cons_zero, wtAll, wtAll]; omega
  | x :: ds, i + 1 => by
    have := wtAll_set (d := d) (ds := ds) (i := i)
    rw [List.set_cons_succ, wtAll, wtAll]
    omega
theorem ascii_ok {x : Str} (h : x.cps.all (· < 128) = true) : PyData.strOk x = true := by
  show x.cps.all (· < 0x110000) = true
  rw [← Array.all_toList, List.all_eq_true] at h ⊢
  intro c hc
  have := of_decide_eq_true (h c hc)
  exact decide_eq_true (by omega)
mutual
theorem lvs_shown {n : Nat} (hn : n < 2 ^ 40) : ∀ {d : PyData}, lvs n d = true → d.showable = true ∧ d.canLay0 = true ∧ d.shown.length ≤ wt d
  | .none, _ => ⟨rfl, rfl, by decide⟩
  | .bool b, _ => ⟨rfl, rfl, (nice_bool b).wt⟩
  | .int i, h => by
    have h : decide (i.natAbs ≤ n) = true := h
    have q := nice_small (i := i) (by have := of_decide_eq_true h; omega)
    exact ⟨q.sh, q.la, q.wt⟩
  | .str x, h => by
    have q := nice_str (x := x) (ascii_ok h) (Nat.le_refl _)
    exact ⟨q.sh, q.la, q.wt⟩
  | .list ds, h => by
    obtain ⟨a, b, c⟩ := lvs_shownAll hn (ds := ds) h
    refine ⟨a, b, ?_⟩
    have q := listText_le (PyData.shownAll ds)
    show (listText (PyData.shownAll ds)).length ≤ wtAll ds + 3
    omega
  | .tuple ds, h => by
    obtain ⟨a, b, c⟩ := lvs_shownAll hn (ds := ds) h
    refine ⟨a, b, ?_⟩
    have q := tupleText_le (PyData.shownAll ds)
    show (tupleText (PyData.shownAll ds)).length ≤ wtAll ds + 3
    omega
  | .dict _, h => nomatch h
theorem lvs_shownAll {n : Nat} (hn : n < 2 ^ 40) : ∀ {ds : List PyData}, lvsAll n ds = true → PyData.showableAll ds = true ∧ PyData.canLayAll0 ds = true ∧ piled (PyData.shownAll ds) ≤ wtAll ds
  | [], _ => ⟨rfl, rfl, Nat.zero_le _⟩
  | d :: ds, h => by
    unfold lvsAll at h
    rw [Bool.and_eq_true] at h
    obtain ⟨a, b, c⟩ := lvs_shown hn h.1
    obtain ⟨a2, b2, c2⟩ := lvs_shownAll hn h.2
    refine ⟨?_, ?_, ?_⟩
    · show (d.showable && PyData.showableAll ds) = true
      rw [a, a2]; rfl
    · show (d.canLay0 && PyData.canLayAll0 ds) = true
      rw [b, b2]; rfl
    · show piled (d.shown :: PyData.shownAll ds) ≤ wt d + 2 + wtAll ds
      rw [piled_cons]
      omega
end
structure Fat (n k w : Nat) (d : PyData) : Prop where
  lv : lvs n d = true
  de : d.depth ≤ k
  wt : wt d ≤ w
structure FatL (n k w : Nat) (ds : List PyData) : Prop where
  lv : ∀ d ∈ ds, lvs n d = true
  de : ∀ d ∈ ds, d.depth ≤ k
  wt : wtAll ds ≤ w
mutual
theorem lvs_mono {n m : Nat} (h : n ≤ m) : ∀ {d : PyData}, lvs n d = true → lvs m d = true
  | .none, _ => rfl
  | .bool b, _ => rfl
  | .int i, q => by
    have q : decide (i.natAbs ≤ n) = true := q
    show decide (i.natAbs ≤ m) = true
    have := of_decide_eq_true q
    exact decide_eq_true (by omega)
  | .str x, q => q
  | .list ds, q => lvsAll_mono h (ds := ds) q
  | .tuple ds, q => lvsAll_mono h (ds := ds) q
  | .dict _, q => nomatch q
theorem lvsAll_mono {n m : Nat} (h : n ≤ m) : ∀ {ds : List PyData}, lvsAll n ds = true → lvsAll m ds = true
  | [], _ => rfl
  | d :: ds, q => by
    unfold lvsAll at q ⊢
    rw [Bool.and_eq_true] at q ⊢
    exact ⟨lvs_mono h q.1, lvsAll_mono h q.2⟩
end
section
variable {n m k l w v : Nat} {d : PyData} {ds es : List PyData}
theorem Fat.mono (h : Fat n k w d) (h1 : n ≤ m) (h2 : k ≤ l) (h3 : w ≤ v) : Fat m l v d := ⟨lvs_mono h1 h.lv, Nat.le_trans h.de h2, Nat.le_trans h.wt h3⟩
theorem FatL.mono (h : FatL n k w ds) (h1 : n ≤ m) (h2 : k ≤ l) (h3 : w ≤ v) : FatL m l v ds := ⟨fun d hd => lvs_mono h1 (h.lv d hd), fun d hd => Nat.le_trans (h.de d hd) h2, Nat.le_trans h.wt h3⟩
theorem Fat.nice (h : Fat n k w d) (hn : n < 2 ^ 40) : Nice k w d := by
  obtain ⟨a, b, c⟩ := lvs_shown hn h.lv
  exact ⟨a, b, h.de, Nat.le_trans c h.wt⟩
theorem FatL.list (h : FatL n k w ds) : Fat n (k + 1) (w + 3) (.list ds) := ⟨lvsAll_iff.mpr h.lv, Nat.succ_le_succ (depthAll_iff.mpr h.de), Nat.add_le_add_right h.wt 3⟩
theorem FatL.tup (h : FatL n k w ds) : Fat n (k + 1) (w + 3) (.tuple ds) := ⟨lvsAll_iff.mpr h.lv, Nat.succ_le_succ (depthAll_iff.mpr h.de), Nat.add_le_add_right h.wt 3⟩
theorem Fat.items (h : Fat n k w d) (e : itemsD d = some ds) : ∃ j u, k = j + 1 ∧ u + 3 ≤ w ∧ FatL n j u ds := by
  have key : d.depth = PyData.depthAll ds + 1 ∧ VL.wt d = wtAll ds + 3 ∧ lvs n d = lvsAll n ds := by
    cases d with
    | list es => cases e; exact ⟨rfl, rfl, rfl⟩
    | tuple es => cases e; exact ⟨rfl, rfl, rfl⟩
    | none => cases e
    | bool _ => cases e
    | int _ => cases e
    | str _ => cases e
    | dict _ => cases e
  obtain ⟨a, b, c⟩ := key
  have h1 := h.de
  have h2 := h.wt
  have h3 := h.lv
  rw [a] at h1
  rw [b] at h2
  rw [c] at h3
  exact ⟨k - 1, wtAll ds, by omega, h2, lvsAll_iff.mp h3, depthAll_iff.mp (by omega), Nat.le_refl _⟩
theorem FatL.at (h : FatL n k w ds) (hd : d ∈ ds) : Fat n k w d := ⟨h.lv d hd, h.de d hd, by have := wtAll_mem hd; have := h.wt; omega⟩
theorem FatL.len (h : FatL n k w ds) : ds.length ≤ w := by have := wtAll_len (ds := ds); have := h.wt; omega
theorem FatL.take (h : FatL n k w ds) (i : Nat) : FatL n k w (ds.take i) := ⟨fun d hd => h.lv d (List.mem_of_mem_take hd), fun d hd => h.de d (List.mem_of_mem_take hd), Nat.le_trans wtAll_take h.wt⟩
theorem FatL.drop (h : FatL n k w ds) (i : Nat) : FatL n k w (ds.drop i) := ⟨fun d hd => h.lv d (List.mem_of_mem_drop hd), fun d hd => h.de d (List.mem_of_mem_drop hd), Nat.le_trans wtAll_drop h.wt⟩
theorem FatL.rev (h : FatL n k w ds) : FatL n k w ds.reverse := ⟨fun d hd => h.lv d (List.mem_reverse.mp hd), fun d hd => h.de d (List.mem_reverse.mp hd), by rw [wtAll_rev]; exact h.wt⟩
theorem FatL.app (h : FatL n k w ds) (h' : FatL n k v es) : FatL n k (w + v) (ds ++ es) := ⟨fun d hd => (List.mem_append.mp hd).elim (h.lv d) (h'.lv d), fun d hd => (List.mem_append.mp hd).elim (h.de d) (h'.de d), by
  rw [wtAll_app]
  have := h.wt
  have := h'.wt
  omega⟩
theorem FatL.set (h : FatL n k w ds) (h' : Fat n k v d) (i : Nat) : FatL n k (w + v + 2) (ds.set i d) := ⟨fun x hx => (List.mem_or_eq_of_mem_set hx).elim (h.lv x) fun e => e ▸ h'.lv, fun x hx => (List.mem_or_eq_of_mem_set hx).elim (h.de x) fun e => e ▸ h'.de, by
  have := wtAll_set (d := d) (ds := ds) (i := i)
  have := h.wt
  have := h'.wt
  omega⟩
theorem FatL.nil : FatL n k w [] := ⟨fun _ h => (nomatch h), fun _ h => (nomatch h), Nat.zero_le _⟩
theorem FatL.cons (h' : Fat n k v d) (h : FatL n k w ds) : FatL n k (v + 2 + w) (d :: ds) := ⟨fun x hx => (List.mem_cons.mp hx).elim (fun e => e ▸ h'.lv) (h.lv x), fun x hx => (List.mem_cons.mp hx).elim (fun e => e ▸ h'.de) (h.de x), by
  have := h.wt
  have := h'.wt
  rw [wtAll]
  omega⟩
theorem FatL.all (h : ∀ d ∈ ds, Fat n k w d) (hl : ds.length ≤ m) : FatL n k (m * (w + 2)) ds := by
  refine ⟨fun d hd => (h d hd).lv, fun d hd => (h d hd).de, ?_⟩
  have key : ∀ {es : List PyData}, (∀ d ∈ es, Fat n k w d) → wtAll es ≤ es.length * (w + 2) := by
    intro es
    induction es with
    | nil => exact fun _ => Nat.zero_le _
    | cons e es ih =>
      intro h
      have a := (h e List.mem_cons_self).wt
      have b := ih fun d hd => h d (List.mem_cons_of_mem _ hd)
      rw [wtAll, List.length_cons, Nat.succ_mul]
      omega
  exact Nat.le_trans (key h) (Nat.mul_le_mul_right _ hl)
theorem fat_none : Fat n 0 5 .none := ⟨rfl, Nat.le_refl _, Nat.le_refl _⟩
theorem fat_bool {b : Bool} : Fat n 0 5 (.bool b) := ⟨rfl, Nat.le_refl _, Nat.le_refl _⟩
theorem fat_int {i : Int} (h : i.natAbs ≤ n) : Fat n 0 50 (.int i) := ⟨decide_eq_true h, Nat.le_refl _, Nat.le_refl _⟩
theorem fat_str {x : Str} (h : x.cps.all (· < 128) = true) (hl : x.length ≤ m) : Fat n 0 (10 * m + 2) (.str x) := ⟨h, Nat.le_refl _, by show 10 * x.length + 2 ≤ _; omega⟩
end
/-! ### upper -/
theorem upper_low : ∀ c < 128, Unicode.upperOf c = [if 97 ≤ c ∧ c ≤ 122 then c - 32 else c] := by decide +kernel
theorem mapIdx_const {α β : Type} (g : α → β) : ∀ l : List α, (l.mapIdx fun _ c => g c) = l.map g
  | [] => rfl
  | x :: l => by
    rw [List.mapIdx_cons, List.map_cons]
    exact congrArg (g x :: ·) (mapIdx_const g l)
theorem placed_list (x : Str) (f : Nat → List Nat) : (placed x fun _ c => f c).toList = x.cps.toList.flatMap f := by
  unfold placed
  rw [Array.toList_flatten, Array.toList_mapIdx, mapIdx_const, List.map_map]
  show (x.cps.toList.map fun c => (f c).toArray.toList).flatten = _
  rw [List.flatMap]
theorem upper_cps {x : Str} (h : x.cps.all (· < 128) = true) : (Txt.upper x).cps.toList = x.cps.toList.map fun c => if 97 ≤ c ∧ c ≤ 122 then c - 32 else c := by
  show (placed x fun _ c => Unicode.upperOf c).toList = _
  rw [placed_list]
  rw [← Array.all_toList, List.all_eq_true] at h
  revert h
  generalize x.cps.toList = l
  intro h
  induction l with
  | nil => rfl
  | cons c l ih =>
    rw [List.flatMap_cons, upper_low c (of_decide_eq_true (h c List.mem_cons_self)), ih fun d hd => h d (List.mem_cons_of_mem _ hd)]
    rfl
theorem upper_len {x : Str} (h : x.cps.all (· < 128) = true) : (Txt.upper x).length = x.length := by
  have e := congrArg List.length (upper_cps h)
  rw [List.length_map, Array.length_toList, Array.length_toList] at e
  exact e
theorem upper_ascii {x : Str} (h : x.cps.all (· < 128) = true) : (Txt.upper x).cps.all (· < 128) = true := by
  have e := upper_cps h
  rw [← Array.all_toList, List.all_eq_true] at h ⊢
  intro c hc
  rw [e] at hc
  obtain ⟨d, hd, rfl⟩ := List.mem_map.mp hc
  have := of_decide_eq_true (h d hd)
  exact decide_eq_true (by split <;> omega)
def pUpper : Pd1 := fun d P => match d with
  | .str x => x.length ≤ 5592405 ∧ P (.sh (.str (Txt.upper x)))
  | _ => False
theorem pm_upper : ∀ d P P', (∀ o, P o → P' o) → pUpper d P → pUpper d P' := by
  intro d P P' i h
  unfold pUpper at h ⊢
  split at h
  · exact ⟨h.1, i _ h.2⟩
  · exact h
section
variable {X : Cx} {o : Expr} {apos pos : Pos} {t : VBT}
def tUpper (to : TE) : TE := tM0 (fun x xs H Q => ∃ a, x = .str a ∧ xs = [] ∧ a.length ≤ 5592405 ∧ Q (.str (Txt.upper a)) H) to
theorem ve_upper (ha : VB X o t) (h : PE X o (liftB X.K t) → PE X (.Call (.Attribute o "upper" apos) [] [] pos) (tUpper (liftB X.K t))) : VE X (.Call (.Attribute o "upper" apos) [] [] pos) (vUn pUpper t) := by
  refine ⟨fun S P P' i q => ha.mono _ _ _ (fun b1 S1 z => let ⟨d, g, q3⟩ := z; ⟨d, g, pm_upper _ _ _ (fun o z => i _ _ z) q3⟩) q, PE.imp (h ha.pe) fun σ H Q hq => ?_⟩
  obtain ⟨G, S, F, m, q⟩ := hq
  refine ⟨G, S, F, m, ha.mono _ _ _ (fun b1 S1 z G1 H1 v1 F1 ev1 m1 k1 => ?_) q⟩
  obtain ⟨d, g, q3⟩ := z
  have tx := bo_top k1 (Ex.refl _) m1 g
  unfold pUpper at q3
  split at q3
  · rw [top_str tx]
    exact ⟨⟨_, rfl⟩, _, rfl, rfl, q3.1, q3.2 G1 H1 _ [] F1 ev1 m1 ⟨rfl, .str _⟩ (fun _ z => nomatch z) fun _ z => nomatch z⟩
  · exact q3.elim
end
end VL

/-! the value layer, nineteenth part: comprehensions and loops by what they keep -/
set_option Elab.async false
set_option linter.all false
set_option maxRecDepth 100000
namespace VL
open PySem PySem.Spec PyProof.Rows L2
variable [Wd]
/-- a comprehension that keeps I and makes P's -/
theorem draw_lc {g : VG} {te : VT} {is : List Nat} {R : List PyData → Ss → Prop} (I : Ss → Prop) (P : PyData → Prop) (N : Nat) (hN : N ≤ 10000000)
    (step : ∀ d S (K : PyData → Ss → Prop), I S → (∀ x S', P x → I S' → K x S') → g d S fun S1 => te S1 fun o S3 => K o.dat (wipeS S3 is))
    (fin : ∀ acc S, I S → (∀ x ∈ acc, P x) → acc.length = N → R acc S) : ∀ rem acc S, I S → (∀ x ∈ acc, P x) → acc.length + rem.length = N → lcW g vYes te is R rem acc S
  | [], acc, S, hi, ha, hl => fin acc S hi ha hl
  | d :: ds, acc, S, hi, ha, hl => by
    rw [List.length_cons] at hl
    refine step d S (fun x S3 => acc.length < sizeLine ∧ lcW g vYes te is R ds (acc ++ [x]) S3) hi fun x S' px is' => ⟨by rw [sizeLine_eq]; omega, ?_⟩
    refine draw_lc I P N hN step fin ds _ S' is' (fun y hy => ?_) (by rw [List.length_append, List.length_singleton]; omega)
    rcases List.mem_append.mp hy with z | z
    · exact ha y z
    · rw [List.mem_singleton.mp z]; exact px
/-- a loop that keeps I, over P's -/
theorem for_keep {g : VG} {tb : VS} {D : VEnds} (I : Ss → Prop) (P : PyData → Prop) (step : ∀ x S (K : Ss → Prop), P x → I S → (∀ S', I S' → K S') → g x S fun S1 => tb { D with nx := K, ct := K, bk := D.nx } S1)
    (fin : ∀ S, I S → D.nx S) : ∀ rem S, I S → (∀ x ∈ rem, P x) → forW g tb D rem S
  | [], S, hi, _ => fin S hi
  | x :: rem, S, hi, hp => step x S _ (hp x List.mem_cons_self) hi fun S' hi' => for_keep I P step fin rem S' hi' fun y hy => hp y (List.mem_cons_of_mem _ hy)
theorem of_all {α : Type} {f : α → PyData} {Q : α → Prop} : ∀ {acc : List PyData}, (∀ x ∈ acc, ∃ t, x = f t ∧ Q t) → ∃ ts : List α, acc = ts.map f ∧ ∀ t ∈ ts, Q t
  | [], _ => ⟨[], rfl, fun _ h => nomatch h⟩
  | x :: acc, h => by
    obtain ⟨t, rfl, q⟩ := h x List.mem_cons_self
    obtain ⟨ts, rfl, qs⟩ := of_all (f := f) (Q := Q) fun y hy => h y (List.mem_cons_of_mem _ hy)
    refine ⟨t :: ts, rfl, fun y hy => ?_⟩
    rcases List.mem_cons.mp hy with rfl | hy
    · exact q
    · exact qs y hy
end VL

/-! the value layer, twentieth part: dicts -/
set_option Elab.async false
set_option linter.all false
set_option maxRecDepth 100000
namespace VL
open PySem PySem.Spec PyProof.Rows L2
open Evl (Ex ex_l ex_t)
variable [Wd]
/-! ### keys -/
section
variable {X : Cx} {pins : List (Addr × Obj)} {σ : L2.St} {s : Shared} {G H : Hp}
mutual
theorem key_is (I : Inv X pins σ H s) (le : Ex G H) : ∀ {d : PyData} {k : NestedKey} {v : V} {u : Value}, Dq X.K G v d → keyOf d = some k → RelV v u → NestedIs s.heap k u
  | .none, k, v, u, h, hk, ru => by
    cases h
    cases hk
    cases (show u = Value.none from ru)
    exact .none
  | .bool b, k, v, u, h, hk, ru => by
    cases h
    cases hk
    cases (show u = Value.bool b from ru)
    exact .bool rfl
  | .int i, k, v, u, h, hk, ru => by
    cases h
    cases hk
    obtain ⟨t, q⟩ := (show ∃ t, u = Value.int i t from ru)
    cases q
    exact .int _ _
  | .str x, k, v, u, h, hk, ru => by
    cases h
    cases hk
    obtain ⟨t, q⟩ := (show ∃ t, u = Value.str x t from ru)
    cases q
    exact .text _ _
  | .list _, k, v, u, h, hk, ru => by cases hk
  | .dict _, k, v, u, h, hk, ru => by cases hk
  | .tuple ds, k, v, u, h, hk, ru => by
    cases h with
    | @tup a vs _ h r =>
      have hk : (keysOf ds).map NestedKey.tup = some k := hk
      cases e : keysOf ds with
      | none => rw [e] at hk; cases hk
      | some ks =>
        rw [e] at hk
        cases hk
        cases (show u = Value.ref a from ru)
        obtain ⟨its, rv, ⟨o, h1, h2, n, h3⟩, _⟩ := I.tuple (ex_t le h)
        exact .tup h1 h2 h3 (keys_are I le r e rv)
theorem keys_are (I : Inv X pins σ H s) (le : Ex G H) : ∀ {ds : List PyData} {ks : List NestedKey} {vs : List V} {its : List Value}, DqA X.K G vs ds → keysOf ds = some ks → Vals vs its → NestedAll s.heap ks its
  | [], ks, vs, its, h, hk, rv => by
    cases h
    cases rv
    cases hk
    exact .nil
  | d :: ds, ks, vs, its, h, hk, rv => by
    cases h with
    | cons a b =>
      cases rv with
      | cons r1 r2 =>
        have hk : (keyOf d).bind (fun k => (keysOf ds).map (k :: ·)) = some ks := hk
        cases e1 : keyOf d with
        | none => rw [e1] at hk; cases hk
        | some k =>
          rw [e1] at hk
          cases e2 : keysOf ds with
          | none => rw [e2] at hk; cases hk
          | some ks' =>
            rw [e2] at hk
            cases hk
            exact .cons (key_is I le a e1 r1) (keys_are I le b e2 r2)
end
end
mutual
theorem key_depth : ∀ {d : PyData} {k : NestedKey}, keyOf d = some k → k.depth = d.depth
  | .none, k, h => by cases h; rfl
  | .bool _, k, h => by cases h; rfl
  | .int _, k, h => by cases h; rfl
  | .str _, k, h => by cases h; rfl
  | .list _, k, h => by cases h
  | .dict _, k, h => by cases h
  | .tuple ds, k, h => by
    have h : (keysOf ds).map NestedKey.tup = some k := h
    cases e : keysOf ds with
    | none => rw [e] at h; cases h
    | some ks =>
      rw [e] at h
      cases h
      show NestedKey.depthAll ks + 1 = PyData.depthAll ds + 1
      rw [keys_depth e]
theorem keys_depth : ∀ {ds : List PyData} {ks : List NestedKey}, keysOf ds = some ks → NestedKey.depthAll ks = PyData.depthAll ds
  | [], ks, h => by cases h; rfl
  | d :: ds, ks, h => by
    have h : (keyOf d).bind (fun k => (keysOf ds).map (k :: ·)) = some ks := h
    cases e1 : keyOf d with
    | none => rw [e1] at h; cases h
    | some k =>
      rw [e1] at h
      cases e2 : keysOf ds with
      | none => rw [e2] at h; cases h
      | some ks' =>
        rw [e2] at h
        cases h
        show max k.depth (NestedKey.depthAll ks') = max d.depth (PyData.depthAll ds)
        rw [key_depth e1, keys_depth e2]
end
/-! ### what a dict holds, as data -/
def dget (kvs : List (PyData × PyData)) (k : NestedKey) : Option PyData := (kvs.find? fun p => decide (keyOf p.1 = some k)).map (·.2)
def dputAt (k : NestedKey) (z : PyData) (p : PyData × PyData) : PyData × PyData := if keyOf p.1 = some k then (p.1, z) else p
def dput (kvs : List (PyData × PyData)) (k : NestedKey) (d z : PyData) : List (PyData × PyData) := if (dget kvs k).isSome then kvs.map (dputAt k z) else kvs ++ [(d, z)]
def atX (xs : List (NestedKey × Addr × V)) (k : NestedKey) : Option (Addr × V) := (xs.find? fun p => decide (p.1 = k)).map (·.2)
def putX (k : NestedKey) (v : V) (p : NestedKey × Addr × V) : NestedKey × Addr × V := if p.1 = k then (p.1, p.2.1, v) else p
def storeX (xs : List (NestedKey × Addr × V)) (k : NestedKey) (b : Addr) (v : V) : List (NestedKey × Addr × V) := if (atX xs k).isSome then xs.map (putX k v) else xs ++ [(k, b, v)]
theorem dqx_at {K : PySem.W.Frag} {G : Hp} {k : NestedKey} : ∀ {xs : List (NestedKey × Addr × V)} {kvs : List (PyData × PyData)}, DqX K G xs kvs → (∃ b v d, atX xs k = some (b, v) ∧ dget kvs k = some d ∧ Dq K G v d) ∨ (atX xs k = none ∧ dget kvs k = none)
  | [], _, h => by cases h; exact .inr ⟨rfl, rfl⟩
  | _ :: xs, _, h => by
    cases h with
    | @xcons j b v _ e d kvs hk hd he h r =>
      by_cases q : j = k
      · subst q
        refine .inl ⟨b, v, d, ?_, ?_, h⟩
        · unfold atX
          rw [List.find?_cons_of_pos (by exact decide_eq_true rfl)]
          rfl
        · unfold dget
          rw [List.find?_cons_of_pos (by exact decide_eq_true hk)]
          rfl
      · have e1 : atX ((j, b, v) :: xs) k = atX xs k := by
          unfold atX
          rw [List.find?_cons_of_neg (by rw [decide_eq_false q]; exact Bool.false_ne_true)]
        have e2 : dget ((e, d) :: kvs) k = dget kvs k := by
          unfold dget
          rw [List.find?_cons_of_neg (by rw [decide_eq_false (fun z => q (Option.some.inj (hk.symm.trans z)))]; exact Bool.false_ne_true)]
        rw [e1, e2]
        exact dqx_at r
theorem dqx_map {K : PySem.W.Frag} {G : Hp} {k : NestedKey} {v : V} {z : PyData} (q : Dq K G v z) : ∀ {xs : List (NestedKey × Addr × V)} {kvs : List (PyData × PyData)}, DqX K G xs kvs → DqX K G (xs.map (putX k v)) (kvs.map (dputAt k z))
  | [], _, h => by cases h; exact .xnil
  | _ :: xs, _, h => by
    cases h with
    | @xcons j b v _ e d kvs hk hd he h r =>
      rw [List.map_cons, List.map_cons]
      unfold putX dputAt
      by_cases p : j = k
      · rw [if_pos p, if_pos (by rw [← p]; exact hk)]
        exact .xcons hk hd he q (dqx_map q r)
      · rw [if_neg p, if_neg (fun z => p (Option.some.inj (hk.symm.trans z)))]
        exact .xcons hk hd he h (dqx_map q r)
theorem dqx_app {K : PySem.W.Frag} {G : Hp} {xs' : List (NestedKey × Addr × V)} {kvs' : List (PyData × PyData)} (h' : DqX K G xs' kvs') : ∀ {xs : List (NestedKey × Addr × V)} {kvs : List (PyData × PyData)}, DqX K G xs kvs → DqX K G (xs ++ xs') (kvs ++ kvs')
  | [], _, h => by cases h; exact h'
  | _ :: xs, _, h => by
    cases h with
    | xcons hk hd he h r => exact .xcons hk hd he h (dqx_app h' r)
theorem dqx_put {K : PySem.W.Frag} {G : Hp} {k : NestedKey} {b : Addr} {v : V} {d z : PyData} {xs : List (NestedKey × Addr × V)} {kvs : List (PyData × PyData)} (h : DqX K G xs kvs) (hk : keyOf d = some k) (hd : k.depth ≤ 8) (he : Dq K G (.ref b) d) (q : Dq K G v z) :
    DqX K G (storeX xs k b v) (dput kvs k d z) := by
  unfold storeX dput
  rcases dqx_at (k := k) h with ⟨b', v', d', e1, e2, _⟩ | ⟨e1, e2⟩
  · rw [e1, e2]
    exact dqx_map q h
  · rw [e1, e2]
    exact dqx_app (.xcons hk hd he q .xnil) h
theorem dqx_len {K : PySem.W.Frag} {G : Hp} : ∀ {xs : List (NestedKey × Addr × V)} {kvs : List (PyData × PyData)}, DqX K G xs kvs → xs.length = kvs.length
  | [], _, h => by cases h; rfl
  | _ :: xs, _, h => by
    cases h with
    | xcons hk hd he h r => rw [List.length_cons, List.length_cons, dqx_len r]
theorem storeX_len {xs : List (NestedKey × Addr × V)} {k : NestedKey} {b : Addr} {v : V} : (storeX xs k b v).length ≤ xs.length + 1 := by
  unfold storeX
  split
  · rw [List.length_map]; omega
  · rw [List.length_append, List.length_singleton]; omega
/-! ### the cell -/
abbrev PX (p : NestedKey × Addr × V) (q : NestedKey × Addr × Value) : Prop := p.1 = q.1 ∧ p.2.1 = q.2.1 ∧ RelV p.2.2 q.2.2
theorem px_at {k : NestedKey} : ∀ {xs : List (NestedKey × Addr × V)} {ys : List (NestedKey × Addr × Value)}, Paired PX xs ys → (∃ b v u, atX xs k = some (b, v) ∧ atKey ys k = some (b, u) ∧ RelV v u) ∨ (atX xs k = none ∧ atKey ys k = none)
  | _, _, .nil => .inr ⟨rfl, rfl⟩
  | _, _, .cons (a := (j, b, v)) (b := (j', b', u)) ⟨e1, e2, e3⟩ r => by
    have e1 : j = j' := e1
    have e2 : b = b' := e2
    subst e1 e2
    by_cases q : j = k
    · refine .inl ⟨b, v, u, ?_, ?_, e3⟩
      · unfold atX
        rw [List.find?_cons_of_pos (by exact decide_eq_true q)]
        rfl
      · unfold atKey
        rw [List.find?_cons_of_pos (by exact decide_eq_true q)]
        rfl
    · unfold atX atKey
      rw [List.find?_cons_of_neg (by rw [decide_eq_false q]; exact Bool.false_ne_true), List.find?_cons_of_neg (by rw [decide_eq_false q]; exact Bool.false_ne_true)]
      exact px_at r
theorem px_map {k : NestedKey} {v : V} {u : Value} (rv : RelV v u) : ∀ {xs : List (NestedKey × Addr × V)} {ys : List (NestedKey × Addr × Value)}, Paired PX xs ys → Paired PX (xs.map (putX k v)) (ys.map (putAt k u))
  | _, _, .nil => .nil
  | _, _, .cons (a := (j, b, w)) (b := (j', b', u')) ⟨e1, e2, e3⟩ r => by
    have e1 : j = j' := e1
    have e2 : b = b' := e2
    subst e1 e2
    refine .cons ?_ (px_map rv r)
    unfold putX putAt
    by_cases q : j = k
    · rw [if_pos q, if_pos q]
      exact ⟨rfl, rfl, rv⟩
    · rw [if_neg q, if_neg q]
      exact ⟨rfl, rfl, e3⟩
theorem px_app : ∀ {xs xs' : List (NestedKey × Addr × V)} {ys ys' : List (NestedKey × Addr × Value)}, Paired PX xs ys → Paired PX xs' ys' → Paired PX (xs ++ xs') (ys ++ ys')
  | _, _, _, _, .nil, h => h
  | _, _, _, _, .cons a r, h => .cons a (px_app r h)
theorem px_put {k : NestedKey} {b : Addr} {v : V} {u : Value} (rv : RelV v u) {xs : List (NestedKey × Addr × V)} {ys : List (NestedKey × Addr × Value)} (h : Paired PX xs ys) : Paired PX (storeX xs k b v) (storedH ys k b u) := by
  unfold storeX storedH
  rcases px_at (k := k) h with ⟨b', v', u', e1, e2, _⟩ | ⟨e1, e2⟩
  · rw [e1, e2]
    exact px_map rv h
  · rw [e1, e2]
    exact px_app h (.cons ⟨rfl, rfl, rv⟩ .nil)
/-- the world is that of the place -/
structure WdOk (X : Cx) : Prop where
  p : Wd.P = X.prog
  w : Wd.w = X.w
section
variable {X : Cx} {pins : List (Addr × Obj)} {σ : L2.St} {s : Shared} {G H : Hp} {a b : Addr} {xs : List (NestedKey × Addr × V)} {kvs : List (PyData × PyData)} {A : Around} {E : Value → Shared → Prop}
theorem px_is (I : Inv X pins σ H s) (le : Ex G H) {P : Program} {w : World} : ∀ {xs : List (NestedKey × Addr × V)} {ys : List (NestedKey × Addr × Value)}, Paired PX xs ys → ∀ {kvs : List (PyData × PyData)}, DqX X.K G xs kvs → ∀ y ∈ ys, (nestedKind P w).is s.heap y.1 y.2.1
  | _, _, .nil, _, _ => fun _ z => nomatch z
  | _, _, .cons (a := (j, b, w')) (b := (j', b', u')) ⟨e1, e2, e3⟩ r, _, h => by
    have e1 : j = j' := e1
    have e2 : b = b' := e2
    subst e1 e2
    cases h with
    | xcons hk hd he hq hr =>
      intro y hy
      rcases List.mem_cons.mp hy with rfl | hy
      · exact ⟨key_is I le he hk rfl, hd⟩
      · exact px_is I le r hr y hy
theorem dx_rd (W : WdOk X) (I : Inv X pins σ H s) (le : Ex G H) (e : H a = some (DXo a xs)) (r : DqX X.K G xs kvs) : xs.length ≤ sizeLine ∧ (a == sysModules) = false ∧ ∃ ys, Paired PX xs ys ∧ s.heap.DictOfH (nestedKind X.prog X.w) a ys := by
  obtain ⟨⟨z, y, ys, pr, o, es, ep, h1, h2, h3, h4, h5⟩, _⟩ := (show ObjOk X.prog X.w H s.heap a (DXo a xs) from I.hok a _ e)
  rw [W.p, W.w] at h4
  exact ⟨z, y, ys, pr, o, es, ep, h1, h2, h3, h4, px_is I le pr r, h5⟩
theorem dx_new (W : WdOk X) {H' : Hp} {h' : Heap} {ys : List (NestedKey × Addr × Value)} (z : xs.length ≤ sizeLine) (y : (a == sysModules) = false) (pr : Paired PX xs ys) (dd : h'.DictOfH (nestedKind X.prog X.w) a ys) : ObjOk X.prog X.w H' h' a (DXo a xs) := by
  obtain ⟨o, es, ep, h1, h2, h3, h4, _, h5⟩ := dd
  rw [← W.p, ← W.w] at h4
  refine ⟨⟨z, y, ys, pr, o, es, ep, h1, h2, h3, h4, h5⟩, ⟨o, h1⟩, fun g1 g2 q k => ?_⟩
  obtain ⟨z, y, ys, pr, o, es, ep, h1, h2, h3, h4, h5⟩ := q
  exact ⟨z, y, ys, pr, o, es, ep, k _ h1, h2, h3, h4, h5⟩
/-- the key kd fits a dict of tuples (x), of ints and texts (not x) -/
def fitK : Bool → PyData → Bool
  | true, .tuple ds => decide ((PyData.tuple ds).depth ≤ 8)
  | false, .int _ => true
  | false, .str _ => true
  | _, _ => false
theorem fit_x {d : PyData} (h : fitK true d = true) : d.depth ≤ 8 ∧ ∃ ds, d = .tuple ds := by
  cases d with
  | tuple ds => exact ⟨of_decide_eq_true h, ds, rfl⟩
  | _ => cases h
theorem fit_k {d : PyData} (h : fitK false d = true) : ∃ k : Key, d = keyV k := by
  cases d with
  | int i => exact ⟨.inl i, rfl⟩
  | str x => exact ⟨.inr x, rfl⟩
  | _ => cases h
def nk : Key → NestedKey
  | .inl i => .num i
  | .inr x => .text x
theorem nk_key (k : Key) : keyOf (keyV k) = some (nk k) := by cases k <;> rfl
theorem nk_inj {j k : Key} (h : nk j = nk k) : j = k := by
  cases j <;> cases k <;> cases h <;> rfl
theorem keyV_rel {k : Key} {K : PySem.W.Frag} {G : Hp} {v : V} (h : Dq K G v (keyV k)) : v = kV k := by
  cases k with
  | inl i =>
    have h : Dq K G v (.int i) := h
    cases h
    rfl
  | inr x =>
    have h : Dq K G v (.str x) := h
    cases h
    rfl
theorem dqk_at {K : PySem.W.Frag} {G : Hp} {k : Key} : ∀ {ks : List (Key × V)} {kvs : List (PyData × PyData)}, DqK K G ks kvs → (∃ v d, valV ks k = some v ∧ dget kvs (nk k) = some d ∧ Dq K G v d) ∨ (valV ks k = none ∧ dget kvs (nk k) = none)
  | [], _, h => by cases h; exact .inr ⟨rfl, rfl⟩
  | _ :: ks, _, h => by
    cases h with
    | @kcons j v _ d kvs h r =>
      by_cases q : j = k
      · subst q
        refine .inl ⟨v, d, valV_pos rfl, ?_, h⟩
        unfold dget
        rw [List.find?_cons_of_pos (by exact decide_eq_true (nk_key j))]
        rfl
      · have e2 : dget ((keyV j, d) :: kvs) (nk k) = dget kvs (nk k) := by
          unfold dget
          rw [List.find?_cons_of_neg (by rw [decide_eq_false (fun z => q (nk_inj (Option.some.inj ((nk_key j).symm.trans z))))]; exact Bool.false_ne_true)]
        rw [valV_neg q, e2]
        exact dqk_at r
theorem dqk_map {K : PySem.W.Frag} {G : Hp} {k : Key} {v : V} {z : PyData} (q : Dq K G v z) : ∀ {ks : List (Key × V)} {kvs : List (PyData × PyData)}, DqK K G ks kvs → DqK K G (ks.map fun kv => if kv.1 = k then (kv.1, v) else kv) (kvs.map (dputAt (nk k) z))
  | [], _, h => by cases h; exact .knil
  | _ :: ks, _, h => by
    cases h with
    | @kcons j w _ d kvs h r =>
      rw [List.map_cons, List.map_cons]
      unfold dputAt
      by_cases p : j = k
      · rw [if_pos p, if_pos (by rw [← p]; exact nk_key j)]
        exact .kcons q (dqk_map q r)
      · rw [if_neg p, if_neg (fun z => p (nk_inj (Option.some.inj ((nk_key j).symm.trans z))))]
        exact .kcons h (dqk_map q r)
theorem dqk_app {K : PySem.W.Frag} {G : Hp} {ks' : List (Key × V)} {kvs' : List (PyData × PyData)} (h' : DqK K G ks' kvs') : ∀ {ks : List (Key × V)} {kvs : List (PyData × PyData)}, DqK K G ks kvs → DqK K G (ks ++ ks') (kvs ++ kvs')
  | [], _, h => by cases h; exact h'
  | _ :: ks, _, h => by
    cases h with
    | kcons h r => exact .kcons h (dqk_app h' r)
theorem dqk_put {K : PySem.W.Frag} {G : Hp} {k : Key} {v : V} {z : PyData} {ks : List (Key × V)} {kvs : List (PyData × PyData)} (h : DqK K G ks kvs) (q : Dq K G v z) : DqK K G (putK ks k v) (dput kvs (nk k) (keyV k) z) := by
  unfold putK dput
  rw [valV_any]
  rcases dqk_at (k := k) h with ⟨v', d', e1, e2, _⟩ | ⟨e1, e2⟩
  · rw [e1, e2]
    exact dqk_map q h
  · rw [e1, e2]
    exact dqk_app (.kcons q .knil) h
theorem dqk_len {K : PySem.W.Frag} {G : Hp} : ∀ {ks : List (Key × V)} {kvs : List (PyData × PyData)}, DqK K G ks kvs → ks.length = kvs.length
  | [], _, h => by cases h; rfl
  | _ :: xs, _, h => by
    cases h with
    | kcons h r => rw [List.length_cons, List.length_cons, dqk_len r]
/-- what a dict, as data, holds at a key -/
def dlook (m d : PyData) : Option (Option PyData) := match m with
  | .dict ((.bool false, .none) :: kvs) => if fitK true d = true then (keyOf d).map (dget kvs) else none
  | .dict kvs => if plainK kvs = true ∧ fitK false d = true then (keyOf d).map (dget kvs) else none
  | _ => none
/-- the same of values: at the address -/
inductive Lk (K : PySem.W.Frag) (H : Hp) (a : Addr) (y : V) (r : Option V) : Prop
  | k {ks : List (Key × V)} {k : Key} (e : H a = some (.dK ks)) (hy : y = kV k) (hr : r = valV ks k)
  | x {G : Hp} {xs : List (NestedKey × Addr × V)} {kvs : List (PyData × PyData)} {b : Addr} {d : PyData} {k : NestedKey} (le : Ex G H) (e : H a = some (DXo a xs)) (h : DqX K G xs kvs) (hy : y = .ref b) (hd : Dq K G (.ref b) d) (hk : keyOf d = some k) (h8 : k.depth ≤ 8) (hr : r = (atX xs k).map (·.2))
theorem lk_of {K : PySem.W.Frag} {G H : Hp} {x y : V} {m d : PyData} {r : Option PyData} (le : Ex G H) (tx : Top K G H x m) (ty : Top K G H y d) (h : dlook m d = some r) : ∃ a r', x = .ref a ∧ Lk K H a y r' ∧ ((∃ v z, r' = some v ∧ r = some z ∧ Dq K G v z) ∨ (r' = none ∧ r = none)) := by
  unfold dlook at h
  split at h
  · rename_i kvs
    obtain ⟨a, xs, rfl, e, q⟩ := top_dx le (kvs := kvs) tx
    by_cases f : fitK true d = true
    · rw [if_pos f] at h
      obtain ⟨h8, ds, rfl⟩ := fit_x f
      obtain ⟨k, hk, rfl⟩ := Option.map_eq_some_iff.mp h
      have dy : Dq K G y (.tuple ds) := ty
      obtain ⟨b, rfl⟩ : ∃ b, y = .ref b := by cases dy; exact ⟨_, rfl⟩
      refine ⟨a, _, rfl, .x le e q rfl dy hk (by rw [key_depth hk]; exact h8) rfl, ?_⟩
      rcases dqx_at (k := k) q with ⟨b', v, z, e1, e2, q2⟩ | ⟨e1, e2⟩
      · rw [e1, e2]
        exact .inl ⟨v, z, rfl, rfl, q2⟩
      · rw [e1, e2]
        exact .inr ⟨rfl, rfl⟩
    · rw [if_neg f] at h
      cases h
  · rename_i kvs _
    by_cases f : plainK kvs = true ∧ fitK false d = true
    · rw [if_pos f] at h
      obtain ⟨a, ks, rfl, e, q⟩ := top_dk le tx f.1
      obtain ⟨k, rfl⟩ := fit_k f.2
      rw [nk_key] at h
      cases h
      have dy : Dq K H y (keyV k) := ty.dq le
      refine ⟨a, _, rfl, .k e (keyV_rel dy) rfl, ?_⟩
      rcases dqk_at (k := k) q with ⟨v, z, e1, e2, q2⟩ | ⟨e1, e2⟩
      · rw [e1, e2]
        exact .inl ⟨v, z, rfl, rfl, q2⟩
      · rw [e1, e2]
        exact .inr ⟨rfl, rfl⟩
    · rw [if_neg f] at h
      cases h
  · cases h
section
variable {X : Cx} {pins : List (Addr × Obj)} {σ : L2.St} {s : Shared} {H : Hp} {a : Addr} {y : V} {u : Value} {r : Option V} {A : Around} {E : Value → Shared → Prop}
theorem lk_in (W : WdOk X) (hu : A.units + 9 < cLine) (I : Inv X pins σ H s) (g : Lk X.K H a y r) (ry : RelV y u) {Q : Value → Shared → Prop} (h : ∀ s', Inv X pins σ H s' → Q (.bool r.isSome) s') : wpAny (model X.prog X.w) A (compareOp .In u (.ref a)) Q E s := by
  cases g with
  | k e hy hr => exact d_in (by omega) I (.inl ⟨_, _, .inl e, hy, hr⟩) ry h
  | @x G xs kvs b d k le e q hy hd hk h8 hr =>
    subst hy
    cases (show u = Value.ref b from ry)
    obtain ⟨z, hs, ys, pr, dd⟩ := dx_rd W I le e q
    refine wpAny_in_heap (knd := nestedKind X.prog X.w) (by show A.units + 1 + 8 < cLine; omega) ⟨key_is I le hd hk rfl, h8⟩ hs dd ?_
    rcases px_at (k := k) pr with ⟨b', v, w', e1, e2, _⟩ | ⟨e1, e2⟩
    · rw [hr, e1] at h
      rw [e2]
      exact h _ (I.tok _)
    · rw [hr, e1] at h
      rw [e2]
      exact h _ (I.tok _)
theorem lk_notIn (W : WdOk X) (hu : A.units + 9 < cLine) (I : Inv X pins σ H s) (g : Lk X.K H a y r) (ry : RelV y u) {Q : Value → Shared → Prop} (h : ∀ s', Inv X pins σ H s' → Q (.bool (!r.isSome)) s') : wpAny (model X.prog X.w) A (compareOp .NotIn u (.ref a)) Q E s := by
  cases g with
  | k e hy hr => exact d_notIn (by omega) I (.inl ⟨_, _, .inl e, hy, hr⟩) ry h
  | @x G xs kvs b d k le e q hy hd hk h8 hr =>
    subst hy
    cases (show u = Value.ref b from ry)
    obtain ⟨z, hs, ys, pr, dd⟩ := dx_rd W I le e q
    refine wpAny_notIn_heap (knd := nestedKind X.prog X.w) (by show A.units + 1 + 8 < cLine; omega) ⟨key_is I le hd hk rfl, h8⟩ hs dd ?_
    rcases px_at (k := k) pr with ⟨b', v, w', e1, e2, _⟩ | ⟨e1, e2⟩
    · rw [hr, e1] at h
      rw [e2]
      exact h _ (I.tok _)
    · rw [hr, e1] at h
      rw [e2]
      exact h _ (I.tok _)
theorem lk_type (W : WdOk X) (I : Inv X pins σ H s) (g : Lk X.K H a y r) : s.TypeIs (.ref a) "dict" := by
  cases g with
  | k e hy hr => exact dict_typeIs I (.inl ⟨_, _, .inl e, hy, hr⟩)
  | @x G xs kvs b d k le e q hy hd hk h8 hr =>
    obtain ⟨z, hs, ys, pr, dd⟩ := dx_rd W I le e q
    exact dd.typeIs
theorem lk_get (W : WdOk X) (hu : A.units + 9 < cLine) {v : V} (I : Inv X pins σ H s) (g : Lk X.K H a y (some v)) (ry : RelV y u) {Q : Value → Shared → Prop} (h : ∀ w' s', Inv X pins σ H s' → RelV v w' → Q w' s') : wpAny (model X.prog X.w) A (getItem (.ref a) u) Q E s := by
  cases g with
  | k e hy hr => exact d_getItem (by omega) I (.inl ⟨_, _, .inl e, hy, hr⟩) ry h
  | @x G xs kvs b d k le e q hy hd hk h8 hr =>
    subst hy
    cases (show u = Value.ref b from ry)
    obtain ⟨z, hs, ys, pr, dd⟩ := dx_rd W I le e q
    rcases px_at (k := k) pr with ⟨b', v', w', e1, e2, rw'⟩ | ⟨e1, e2⟩
    · rw [e1] at hr
      cases hr
      exact wpAny_getItem_heap (knd := nestedKind X.prog X.w) (by show A.units + 1 + 8 < cLine; omega) ⟨key_is I le hd hk rfl, h8⟩ dd e2 (h w' _ (I.tok _) rw')
    · rw [e1] at hr
      cases hr
def rDIn (K : PySem.W.Frag) : R2 := fun y x H Q => ∃ a r, x = .ref a ∧ Lk K H a y r ∧ Q (.bl r.isSome) H
def rDNotIn (K : PySem.W.Frag) : R2 := fun y x H Q => ∃ a r, x = .ref a ∧ Lk K H a y r ∧ Q (.bl (!r.isSome)) H
def rDGetV (K : PySem.W.Frag) : R2 := fun x y H Q => ∃ a v, x = .ref a ∧ Lk K H a y (some v) ∧ Q v H
end
theorem op_dIn {X : Cx} (W : WdOk X) (hu : X.A.units + 9 < cLine) : OpR X (compareOp .In) (rDIn X.K) := fun pins s σ H y x u v Q I ry rx q => by
  obtain ⟨a, r, rfl, g, q⟩ := q
  cases (show v = Value.ref a from rx)
  exact lk_in W hu I g ry fun s' I' => ⟨.bl r.isSome, H, I', rfl, q⟩
theorem op_dNotIn {X : Cx} (W : WdOk X) (hu : X.A.units + 9 < cLine) : OpR X (compareOp .NotIn) (rDNotIn X.K) := fun pins s σ H y x u v Q I ry rx q => by
  obtain ⟨a, r, rfl, g, q⟩ := q
  cases (show v = Value.ref a from rx)
  exact lk_notIn W hu I g ry fun s' I' => ⟨.bl (!r.isSome), H, I', rfl, q⟩
theorem ix_tail {prog : Program} {w : World} {A : Around} {E : Value → Shared → Prop} {s : Shared} {value slice : Expr} {T id : String} {Q : Value → Shared → Prop} {o i : Value}
    (hl : typeLookup (.type T) "__getitem__" = pure (some (.builtin id))) (hs : subscripted slice false o i = operate [o, i] (getItem o i)) (hT : s.TypeIs o T)
    (h : wpAny (model prog w) A (getItem o i) Q E s) : wpAny (model prog w) A (subscriptTail value slice o i) Q E s := by
  unfold subscriptTail
  refine wpAny_bind ?_
  rw [getitemInPython_of_ne hT.not_modules]
  refine wpAny_bind (wpAny_specialOf hT hl ?_)
  have fin : wpAny (model prog w) A (subscripted slice false o i) (fun r s₃ => wpAny (model prog w) A (letTemporaryGo value o r >>= fun _ => pure r) Q E s₃) E s := by
    rw [hs]
    exact wpAny_operating (wpAny_mono h (fun r s₃ h₃ => wpAny_bind (wpAny_letTemporaryGo (wpAny_pure h₃))) fun _ _ x => x)
  first
    | exact wpAny_pure (wpAny_bind fin)
    | exact wpAny_bind (wpAny_pure (wpAny_bind fin))
    | exact wpAny_bind fin
theorem ix_dict {X : Cx} (W : WdOk X) (hu : X.A.units + 9 < cLine) : IxR X (rDGetV X.K) := fun value slice pins s σ H x y v u Q I rx ry q hs => by
  obtain ⟨a, z, rfl, g, q⟩ := q
  cases (show v = Value.ref a from rx)
  exact ix_tail PySem.F.slot_dict_getitem.lookup hs (lk_type W I g) (lk_get W hu I g ry fun w' s' I' rw' => ⟨z, H, I', rw', q⟩)
/-! ### in, not in, subscripts: with dicts -/
def pdInU (neg : Bool) : Pd2 := fun d e P => pdIn neg d e P ∨ ∃ r, dlook e d = some r ∧ P (.sh (.bool (if neg then !r.isSome else r.isSome)))
theorem pm_inU {neg : Bool} : PMono (pdInU neg) := fun d e P P' i h => h.imp (pm_in _ _ _ _ i) fun ⟨r, h1, h2⟩ => ⟨r, h1, i _ h2⟩
theorem op_inU {X : Cx} (W : WdOk X) (hu : X.A.units + 65 < cLine) : OpR X (compareOp .In) fun x y H Q => rInA X.K x y H Q ∨ rDIn X.K x y H Q := OpR.or (op_inA hu) (op_dIn W (by omega))
theorem op_notInU {X : Cx} (W : WdOk X) (hu : X.A.units + 65 < cLine) : OpR X (compareOp .NotIn) fun x y H Q => rNotInA X.K x y H Q ∨ rDNotIn X.K x y H Q := OpR.or (op_notInA hu) (op_dNotIn W (by omega))
theorem ok_inU {K : PySem.W.Frag} : ROk K (fun x y H Q => rInA K x y H Q ∨ rDIn K x y H Q) (pdInU false) := by
  intro G H x y d e P Q le tx ty h k
  rcases h with h | ⟨r, h1, h2⟩
  · exact .inl (ok_in G H x y d e P Q le tx ty h k)
  · obtain ⟨a, r', rfl, g, z⟩ := lk_of le ty tx h1
    refine .inr ⟨a, r', rfl, g, ?_⟩
    rcases z with ⟨v, z, rfl, rfl, _⟩ | ⟨rfl, rfl⟩
    · exact ans le k h2 (.bl _)
    · exact ans le k h2 (.bl _)
theorem ok_notInU {K : PySem.W.Frag} : ROk K (fun x y H Q => rNotInA K x y H Q ∨ rDNotIn K x y H Q) (pdInU true) := by
  intro G H x y d e P Q le tx ty h k
  rcases h with h | ⟨r, h1, h2⟩
  · exact .inl (ok_notIn G H x y d e P Q le tx ty h k)
  · obtain ⟨a, r', rfl, g, z⟩ := lk_of le ty tx h1
    refine .inr ⟨a, r', rfl, g, ?_⟩
    rcases z with ⟨v, z, rfl, rfl, _⟩ | ⟨rfl, rfl⟩
    · exact ans le k h2 (.bl _)
    · exact ans le k h2 (.bl _)
def pdIxU : Pd2 := fun d e P => pdIx d e P ∨ ∃ z, dlook d e = some (some z) ∧ P (.sh z)
theorem pm_ixU : PMono pdIxU := fun d e P P' i h => h.imp (pm_ix _ _ _ _ i) fun ⟨r, h1, h2⟩ => ⟨r, h1, i _ h2⟩
end
end VL

/-! the value layer, twenty-first part: tuples of texts in order, sorted of a dict -/
set_option Elab.async false
set_option linter.all false
set_option maxRecDepth 100000
namespace VL
open PySem PySem.Spec PyProof.Rows L2
open Evl (Ex ex_l ex_t)
open SrtO
/-! ### the order of texts -/
section
variable {α : Type}
structure Lin (lt : α → α → Bool) : Prop where
  irr : ∀ x, lt x x = false
  tr : ∀ x y z, lt x y = true → lt y z = true → lt x z = true
  tri : ∀ x y, lt x y = false → lt y x = false → x = y
theorem Lin.swo {lt : α → α → Bool} (h : Lin lt) : Swo lt := by
  have asym : ∀ x y, lt x y = true → lt y x = false := fun x y a => by
    cases b : lt y x with
    | false => rfl
    | true =>
      have c := h.tr x y x a b
      rw [h.irr] at c
      cases c
  refine ⟨asym, fun x y z a b => ?_⟩
  cases c : lt z x with
  | false => rfl
  | true =>
    cases d : lt x y with
    | true =>
      have e := h.tr z x y c d
      rw [b] at e
      cases e
    | false =>
      have e := h.tri x y d a
      rw [← e, c] at b
      cases b
theorem _root_.SrtO.Swo.on {β : Type} {lt : α → α → Bool} (h : Swo lt) (f : β → α) : Swo fun x y => lt (f x) (f y) := ⟨fun x y => h.asym _ _, fun x y z => h.tr _ _ _⟩
variable [DecidableEq α]
def lexL (lt : α → α → Bool) : List α → List α → Bool
  | [], [] => false
  | [], _ :: _ => true
  | _ :: _, [] => false
  | x :: xs, y :: ys => if x = y then lexL lt xs ys else lt x y
theorem Lin.lex {lt : α → α → Bool} (h : Lin lt) : Lin (lexL lt) := by
  refine ⟨fun x => ?_, fun x => ?_, fun x => ?_⟩
  · induction x with
    | nil => rfl
    | cons a x ih => unfold lexL; rw [if_pos rfl]; exact ih
  · induction x with
    | nil =>
      intro y z a b
      cases y with
      | nil => cases a
      | cons c y =>
        cases z with
        | nil => cases b
        | cons d z => rfl
    | cons p x ih =>
      intro y z a b
      cases y with
      | nil => cases a
      | cons q y =>
        cases z with
        | nil => cases b
        | cons r z =>
          unfold lexL at a b ⊢
          by_cases e : p = q
          · rw [if_pos e] at a
            by_cases f : q = r
            · rw [if_pos f] at b
              rw [if_pos (e.trans f)]
              exact ih _ _ a b
            · rw [if_neg f] at b
              rw [if_neg (fun g => f (e.symm.trans g)), e]
              exact b
          · rw [if_neg e] at a
            by_cases f : q = r
            · rw [if_neg (fun g => e (g.trans f.symm)), ← f]
              exact a
            · rw [if_neg f] at b
              have t := h.tr p q r a b
              rw [if_neg (fun g => by rw [g, h.irr] at t; cases t)]
              exact t
  · induction x with
    | nil =>
      intro y a b
      cases y with
      | nil => rfl
      | cons c y => cases a
    | cons p x ih =>
      intro y a b
      cases y with
      | nil => cases b
      | cons q y =>
        unfold lexL at a b
        by_cases e : p = q
        · rw [if_pos e] at a
          rw [if_pos e.symm] at b
          rw [e, ih y a b]
        · rw [if_neg e] at a
          rw [if_neg (fun g => e g.symm)] at b
          exact absurd (h.tri p q a b) e
end
theorem lin_nat : Lin fun a b : Nat => decide (a < b) := ⟨fun x => decide_eq_false (Nat.lt_irrefl x), fun x y z a b => decide_eq_true (Nat.lt_trans (of_decide_eq_true a) (of_decide_eq_true b)), fun x y a b => by
  have a := of_decide_eq_false a
  have b := of_decide_eq_false b
  omega⟩
def ltS (x y : Str) : Bool := decide (x.cps.toList < y.cps.toList)
theorem ltS_lex : ∀ xs ys : List Nat, decide (xs < ys) = lexL (fun a b : Nat => decide (a < b)) xs ys
  | [], [] => decide_eq_false (List.not_lt_nil _)
  | [], _ :: _ => decide_eq_true (List.nil_lt_cons _ _)
  | _ :: _, [] => decide_eq_false (List.not_lt_nil _)
  | x :: xs, y :: ys => by
    unfold lexL
    rw [← ltS_lex xs ys]
    by_cases e : x = y
    · rw [if_pos e, e]
      refine decide_eq_decide.mpr ?_
      rw [List.cons_lt_cons_iff]
      exact ⟨fun h => h.elim (fun z => absurd z (Nat.lt_irrefl _)) fun z => z.2, fun h => .inr ⟨rfl, h⟩⟩
    · rw [if_neg e]
      refine decide_eq_decide.mpr ?_
      rw [List.cons_lt_cons_iff]
      exact ⟨fun h => h.elim id fun z => absurd z.1 e, .inl⟩
theorem lin_str : Lin ltS := by
  have h := lin_nat.lex
  refine ⟨fun x => ?_, fun x y z => ?_, fun x y a b => ?_⟩
  · unfold ltS
    rw [ltS_lex]
    exact h.irr _
  · unfold ltS
    rw [ltS_lex, ltS_lex, ltS_lex]
    exact h.tr _ _ _
  · unfold ltS at a b
    rw [ltS_lex] at a b
    have e := h.tri _ _ a b
    cases x with
    | mk p =>
      cases y with
      | mk q => rw [show p = q from Array.toList_inj.mp e]
abbrev ltW : List Str → List Str → Bool := lexL ltS
theorem lin_w : Lin ltW := lin_str.lex
/-! ### tuples of texts -/
def WTup (h : Heap) (v : Value) (ws : List Str) : Prop := ∃ a o its n, v = .ref a ∧ h.get? a = some o ∧ o.cls = .type "tuple" ∧ o.data = .seq its n ∧ StrsAre its.toList ws
theorem WTup.keeps {h h' : Heap} {v : Value} {ws : List Str} (t : WTup h v ws) (k : ∀ b o, h.get? b = some o → o.cls = .type "tuple" → h'.get? b = some o) : WTup h' v ws := by
  obtain ⟨a, o, its, n, e, h1, h2, h3, h4⟩ := t
  exact ⟨a, o, its, n, e, k _ _ h1 h2, h2, h3, h4⟩
section
variable {prog : Program} {w : World} {A : Around} {E : Value → Shared → Prop} {s : Shared}
theorem lex_go {b fin : Bool} {Q : Bool → Shared → Prop} : ∀ {us vs : List Value} {xs ys : List Str} {i : Nat}, StrsAre us xs → StrsAre vs ys → fin = decide (i + xs.length < i + ys.length) → Q (ltW xs ys) s → PySem.W.KatLex prog w A b fin Q (us.zip vs) i s
  | [], vs, xs, ys, i, hx, hy, hf, q => by
    cases xs with
    | cons x xs => cases hx
    | nil =>
      rw [List.zip_nil_left]
      refine PySem.W.kat_nil ?_
      rw [hf]
      cases ys with
      | nil => rw [decide_eq_false (by omega)]; exact q
      | cons y ys => rw [decide_eq_true (by rw [List.length_cons, List.length_nil]; omega)]; exact q
  | u :: us, [], xs, ys, i, hx, hy, hf, q => by
    cases ys with
    | cons y ys => cases hy
    | nil =>
      rw [List.zip_nil_right]
      refine PySem.W.kat_nil ?_
      rw [hf, decide_eq_false (by rw [List.length_nil]; omega)]
      cases xs with
      | nil => exact q
      | cons x xs => exact q
  | u :: us, v :: vs, xs, ys, i, hx, hy, hf, q => by
    cases xs with
    | nil => cases hx
    | cons x xs =>
      cases ys with
      | nil => cases hy
      | cons y ys =>
        cases hx with
        | cons _ t hx =>
        cases hy with
        | cons _ t' hy =>
        rw [List.zip_cons_cons]
        refine PySem.W.kat_cons (SeqAt.EqAt.str_str x t y t' prog w _ _ ?_)
        unfold ltW lexL at q
        refine PySem.W.kat_go (fun e => ?_) fun e => ?_
        · have e : x = y := beq_iff_eq.mp e
          rw [if_pos e] at q
          refine PySem.W.kat_yes (lex_go hx hy ?_ q)
          rw [hf, List.length_cons, List.length_cons]
          refine decide_eq_decide.mpr ?_
          omega
        · have e : ¬ x = y := fun z => by rw [beq_iff_eq.mpr z] at e; cases e
          rw [if_neg e] at q
          refine PySem.W.kat_no ?_
          cases b && i == 0 with
          | true => exact oneLt_str q
          | false => exact PySem.W.kat_one _ _ (lt_str q)
theorem wtup_cmp {vs : List Value} {k : Value → List Str} {b : Bool} (hp : ∀ v ∈ vs, WTup s.heap v (k v)) : Cmp prog w A s (tuples' b) (fun p => p.1 ∈ vs) (lt2 fun v u => ltW (k v) (k u)) := by
  intro p q hm hm'
  have h1 := hp _ hm
  have h2 := hp _ hm'
  show wpAny (model prog w) A (keyLt' (tuples' b) p.1 q.1) (fun r s' => s' = s ∧ r = ltW (k p.1) (k q.1)) (fun _ _ => False) s
  generalize k p.1 = x at h1 ⊢
  generalize k q.1 = y at h2 ⊢
  obtain ⟨a, o, its, n, e, ho, hc, hd, hs⟩ := h1
  obtain ⟨a', o', its', n', e', ho', hc', hd', hs'⟩ := h2
  rw [e, e']
  refine PySem.W.kat_lt ho hd ho' hd' (lex_go hs hs' ?_ ⟨rfl, rfl⟩)
  rw [← hs.len_eq, ← hs'.len_eq, Array.length_toList, Array.length_toList, Nat.zero_add, Nat.zero_add]
theorem wfirsts : ∀ {vs : List Value} {k : Value → List Str}, (∀ v ∈ vs, WTup s.heap v (k v) ∧ k v ≠ []) → ∃ fs, PySem.W.KatTups s.heap vs fs ∧ fs.length = vs.length ∧ ∀ f ∈ fs, ∃ x t, f = .str x t
  | [], _, _ => ⟨[], .nil, rfl, fun _ h => nomatch h⟩
  | v :: vs, k, h => by
    obtain ⟨fs, h1, h2, h3⟩ := wfirsts (vs := vs) (k := k) fun u hu => h u (List.mem_cons_of_mem _ hu)
    obtain ⟨⟨a, o, its, n, rfl, ho, hc, hd, hs⟩, ne⟩ := h v List.mem_cons_self
    generalize hk : k (.ref a) = ws at hs ne
    cases ws with
    | nil => exact absurd rfl ne
    | cons x ws =>
      cases e : its.toList with
      | nil => rw [e] at hs; cases hs
      | cons f r =>
        rw [e] at hs
        cases hs with
        | cons _ t hs =>
        refine ⟨.str x t :: fs, PySem.W.KatTups.cons ho hc hd (by rw [← Array.getElem?_toList, e]; rfl) h1, by rw [List.length_cons, List.length_cons, h2], fun g hg => ?_⟩
        rcases List.mem_cons.mp hg with rfl | hg
        · exact ⟨_, _, rfl⟩
        · exact h3 g hg
theorem wtup_sortable {a : Addr} {vs : List Value} {k : Value → List Str} (h0 : 0 < vs.length) (hp : ∀ v ∈ vs, WTup s.heap v (k v) ∧ k v ≠ []) (ha : ∀ o, s.heap.get? a = some o → o.cls ≠ .type "tuple") : SortableO prog w A s a vs fun v u => ltW (k v) (k u) := by
  intro h' keep
  have hp' : ∀ v ∈ vs, WTup h' v (k v) ∧ k v ≠ [] := fun v hm => ⟨(hp v hm).1.keeps fun b o e c => keep b o (fun z => by subst z; exact ha o e c) e, (hp v hm).2⟩
  obtain ⟨fs, h1, h2, h3⟩ := wfirsts (s := { s with heap := h' }) hp'
  refine ⟨tuples' true, fun Q E hq => ?_, wtup_cmp fun v hv => (hp' v hv).1⟩
  refine PySem.W.kat_kind (T := .type "str") h1 (by omega) (fun f hm => ?_) (by rfl) ?_
  · obtain ⟨x, t, rfl⟩ := h3 f hm
    exact PySem.W.Looks.now
  · have e : (Value.type "str" != Value.type "tuple") = true := by first | decide +kernel | rfl | decide
    rw [e]
    exact hq
end
/-! ### sorted(d), the keys tuples of texts -/
variable [Wd]
/-- words as a key -/
def kWs (ws : List Str) : NestedKey := .tup (ws.map .text)
theorem keysOf_strs : ∀ ws : List Str, keysOf (ws.map PyData.str) = some (ws.map NestedKey.text)
  | [] => rfl
  | w :: ws => by
    show (keyOf (.str w)).bind (fun k => (keysOf (ws.map PyData.str)).map (k :: ·)) = _
    rw [keysOf_strs ws]
    rfl
theorem keyOf_ws (ws : List Str) : keyOf (.tuple (ws.map .str)) = some (kWs ws) := by
  show (keysOf (ws.map PyData.str)).map NestedKey.tup = _
  rw [keysOf_strs]
  rfl
theorem nested_strs {h : Heap} : ∀ {ws : List Str} {us : List Value}, NestedAll h (ws.map .text) us → StrsAre us ws
  | [], _, r => by cases r; exact .nil
  | w :: ws, _, r => by
    cases r with
    | cons a b =>
      cases a
      exact .cons _ _ (nested_strs b)
theorem wtup_of {h : Heap} {ws : List Str} {v : Value} (t : NestedIs h (kWs ws) v) : WTup h v ws := by
  cases t with
  | @tup a o vs n ks h1 h2 h3 h4 => exact ⟨a, o, vs, n, rfl, h1, h2, h3, nested_strs h4⟩
section
variable {X : Cx}
/-- the entries: the words of each key and where it lies -/
inductive WKeys (H : Hp) : List (NestedKey × Addr × V) → List (List Str × Addr) → Prop
  | nil : WKeys H [] []
  | cons {ws : List Str} {b : Addr} {v : V} {xs : List (NestedKey × Addr × V)} {ks : List (List Str × Addr)} (hn : ws ≠ []) (r : WKeys H xs ks) : WKeys H ((kWs ws, b, v) :: xs) ((ws, b) :: ks)
def rSortDX (K : PySem.W.Frag) : List V → Hp → VK → Prop := fun xs H Q => ∃ (a : Addr) (G : Hp) (es : List (NestedKey × Addr × V)) (kvs : List (PyData × PyData)) (ks : List (List Str × Addr)), xs = [.ref a] ∧ Ex G H ∧ H a = some (DXo a es) ∧ DqX K G es kvs ∧ WKeys H es ks ∧
  ∀ (out : List (List Str × Addr)) p, out.Perm ks → (out.map (·.1)).Pairwise (fun x y => ltW y x = false) → H p = none → Q (.ref p) (upd H p (.lst (out.map fun q => V.ref q.2)))
theorem strs_inj : ∀ {us : List Value} {xs ys : List Str}, StrsAre us xs → StrsAre us ys → xs = ys
  | _, _, _, .nil, h => by cases h; rfl
  | _, _, _, .cons y t a, h => by
    cases h with
    | cons _ _ b => rw [strs_inj a b]
theorem WTup.inj {h : Heap} {v : Value} {xs ys : List Str} (a : WTup h v xs) (b : WTup h v ys) : xs = ys := by
  obtain ⟨p, o, its, n, rfl, h1, _, h3, h4⟩ := a
  obtain ⟨p', o', its', n', e, h1', _, h3', h4'⟩ := b
  cases e
  rw [h1] at h1'
  cases h1'
  rw [h3] at h3'
  cases h3'
  exact strs_inj h4 h4'
noncomputable def wordsOf (h : Heap) (v : Value) : List Str := open Classical in if e : ∃ ws, WTup h v ws then Classical.choose e else []
theorem wordsOf_eq {h : Heap} {v : Value} {ws : List Str} (t : WTup h v ws) : wordsOf h v = ws := by
  have e : ∃ ws, WTup h v ws := ⟨ws, t⟩
  unfold wordsOf
  rw [dif_pos e]
  exact (Classical.choose_spec e).inj t
theorem perm_mapG {α β : Type} (f : α → β) : ∀ {es : List β} {xs : List α}, es.Perm (xs.map f) → ∃ ys : List α, es = ys.map f ∧ ys.Perm xs := by
  intro es xs h
  have key : ∀ {l1 l2 : List β}, l1.Perm l2 → ∀ xs : List α, l2 = xs.map f → ∃ ys : List α, l1 = ys.map f ∧ ys.Perm xs := by
    intro l1 l2 h
    induction h with
    | nil => exact fun xs e => ⟨xs, e, List.Perm.refl _⟩
    | cons x _ ih =>
      intro xs e
      cases xs with
      | nil => cases e
      | cons y xs =>
        obtain ⟨rfl, e2⟩ := List.cons.inj e
        obtain ⟨ys, rfl, p⟩ := ih xs e2
        exact ⟨y :: ys, rfl, p.cons y⟩
    | swap x y l =>
      intro xs e
      match xs, e with
      | a :: b :: xs, e =>
        obtain ⟨rfl, e2⟩ := List.cons.inj e
        obtain ⟨rfl, rfl⟩ := List.cons.inj e2
        exact ⟨b :: a :: xs, rfl, List.Perm.swap _ _ _⟩
    | trans _ _ ih1 ih2 =>
      intro xs e
      obtain ⟨ys, e1, p1⟩ := ih2 xs e
      obtain ⟨zs, e2, p2⟩ := ih1 ys e1
      exact ⟨zs, e2, p2.trans p1⟩
  exact key h xs rfl
theorem wkeys_at {H : Hp} : ∀ {xs : List (NestedKey × Addr × V)} {ks : List (List Str × Addr)}, WKeys H xs ks → xs.map (fun x => (x.1, x.2.1)) = ks.map fun q => (kWs q.1, q.2)
  | _, _, .nil => rfl
  | _, _, .cons _ r => by rw [List.map_cons, List.map_cons, wkeys_at r]
theorem wkeys_ne {H : Hp} : ∀ {xs : List (NestedKey × Addr × V)} {ks : List (List Str × Addr)}, WKeys H xs ks → ∀ q ∈ ks, q.1 ≠ []
  | _, _, .nil => fun _ h => nomatch h
  | _, _, .cons hn r => fun q hq => by
    rcases List.mem_cons.mp hq with rfl | hq
    · exact hn
    · exact wkeys_ne r q hq
theorem px_keys : ∀ {xs : List (NestedKey × Addr × V)} {ys : List (NestedKey × Addr × Value)}, Paired PX xs ys → ys.map (fun x => (x.1, x.2.1)) = xs.map fun x => (x.1, x.2.1)
  | _, _, .nil => rfl
  | _, _, .cons (a := (j, b, w')) (b := (j', b', u')) ⟨e1, e2, e3⟩ r => by
    have e1 : j = j' := e1
    have e2 : b = b' := e2
    rw [List.map_cons, List.map_cons, px_keys r, e1, e2]
theorem call_sortedDX (W : WdOk X) (hc : X.calm = true) : CallR X (.builtin "sorted") (rSortDX X.K) := by
  intro pins s σ H xs us Q I r q
  obtain ⟨a, G, es, kvs, ks, ex, le, e, dq, wk, q⟩ := q
  subst ex
  obtain ⟨u, eu, rx⟩ := vals1 r
  subst eu
  cases rx
  obtain ⟨z, lo, ys, pr, hd⟩ := dx_rd W I le e dq
  have hd' := hd
  obtain ⟨o, des, ep, ho, hx, hdt, he, his, hn⟩ := hd'
  have l1 : des.size = ys.length := size_of_entries he
  have l2 : es.length = ys.length := Paired.length pr
  have keys : ys.map (fun x => (x.1, x.2.1)) = ks.map fun q => (kWs q.1, q.2) := (px_keys pr).trans (wkeys_at wk)
  have l3 : ks.length = ys.length := by
    have := congrArg List.length keys
    rw [List.length_map, List.length_map] at this
    exact this.symm
  have hv : ∀ q ∈ ks, WTup s.heap (.ref q.2) q.1 := fun q hq => by
    have m : (kWs q.1, q.2) ∈ ys.map fun x => (x.1, x.2.1) := by rw [keys]; exact List.mem_map.mpr ⟨q, hq, rfl⟩
    obtain ⟨y, hy, e⟩ := List.mem_map.mp m
    have t := (his y hy).1
    rw [(Prod.mk.inj e).1, (Prod.mk.inj e).2] at t
    exact wtup_of t
  refine Calls.call_function_entry kind_sorted plain_sorted entry_sorted (args_sorted1 _) ?_
  unfold Builtin.«sorted»
  refine wpAny_bind (m := checkCount "sorted" 1 1 _) (wpAny_pure ?_)
  refine wpAny_bind (PySem.W.kdu_collect (A := X.A.in1) (kdl_raw lo hx hdt) (I.ok.hd hc) ho (by omega) fun h' tk acc kp it => ?_)
  have ea : acc.toList = ks.map fun q => Value.ref q.2 := by
    have hl : acc.toList.length = ys.length := by rw [Array.length_toList, it.1]; exact l1
    have e2 : acc.toList = ys.map fun x => Value.ref x.2.1 := by
      apply List.ext_getElem?
      intro j
      rw [List.getElem?_map]
      cases hj : acc.toList[j]? with
      | none =>
        have h1 := List.getElem?_eq_none_iff.mp hj
        rw [List.getElem?_eq_none (by omega)]
        rfl
      | some v =>
        obtain ⟨en, hen, hv⟩ := it.2 j v (by rw [← Array.getElem?_toList]; exact hj)
        have qe := PySem.entry_at he j
        rw [hen] at qe
        cases hb : ys[j]? with
        | none => rw [hb] at qe; cases qe
        | some b =>
          rw [hb] at qe
          cases qe
          rw [hv]
          rfl
    have e3 := congrArg (List.map fun p : NestedKey × Addr => Value.ref p.2) keys
    rw [List.map_map, List.map_map] at e3
    exact e2.trans e3
  have I1 : Inv X pins σ H { s with heap := h', toks := tk } := I.kept kp
  have hal : acc.toList.length ≤ sizeLine := by rw [ea, List.length_map]; omega
  refine wpAny_bind (wpAny_newList ?_ hal)
  have hoL : (h'.push (seqObj "list" acc.toList.toArray 0)).get? h'.objs.size = some (seqObj "list" acc.toList.toArray 0) := Heap.get?_push_size _ rfl
  show wpAny _ _ _ _ _ { s with heap := h'.push (seqObj "list" acc.toList.toArray 0), toks := tk }
  have up : ∀ b ob, s.heap.get? b = some ob → (h'.push (seqObj "list" acc.toList.toArray 0)).get? b = some ob := fun b ob g => Heap.get?_push_of_some _ (kp b ob g)
  have hk : ∀ v ∈ acc.toList, WTup (h'.push (seqObj "list" acc.toList.toArray 0)) v (wordsOf s.heap v) ∧ wordsOf s.heap v ≠ [] := fun v hm => by
    rw [ea] at hm
    obtain ⟨q, hq, rfl⟩ := List.mem_map.mp hm
    rw [wordsOf_eq (hv q hq)]
    exact ⟨(hv q hq).keeps fun b ob g _ => up b ob g, wkeys_ne wk q hq⟩
  refine wpAny_bind (wpAny_holding (wpAny_call_entry slot_list_sort ⟨_, hoL, rfl⟩ entry_list_sort
    (list_sort_ord (lin_w.swo.on (wordsOf s.heap)) hoL hal (fun h2 => wtup_sortable (s := { s with heap := h'.push (seqObj "list" acc.toList.toArray 0), toks := tk }) (by omega) hk fun o' e' => ?_) fun out hs hb => ⟨_, rfl, ?_⟩) (args_list_sort _)))
  · rw [hoL] at e'
    cases e'
    intro c
    exact absurd (Value.type.inj c) (by decide)
  obtain ⟨out', rfl, po⟩ := perm_mapG (fun q : List Str × Addr => Value.ref q.2) (es := out) (xs := ks) (by rw [← ea]; exact hb.perm)
  obtain ⟨e', he'⟩ := sortedHeap_at (vs := acc.toList) (out := (out'.map fun q => Value.ref q.2).toArray) hoL
  have hlen : (out'.map fun q => V.ref q.2).length ≤ sizeLine := by
    rw [List.length_map, po.length_eq]
    omega
  have rv : Vals (out'.map fun q => V.ref q.2) (out'.map fun q => Value.ref q.2) := by
    have := vals_refs (out'.map (·.2))
    rw [List.map_map, List.map_map] at this
    exact this
  refine wpAny_pure ⟨_, rfl, .ref h'.objs.size, upd H h'.objs.size (.lst (out'.map fun q => V.ref q.2)), I1.laid (t' := tk) (fun b u e => ?_) (Nat.le_refl _)
    (show ObjOk X.prog X.w _ _ _ (.lst _) from ⟨hlen, _, e', rv, he'⟩), rfl, q out' _ po ?_ (I1.hok.fresh (Nat.le_refl _))⟩
  · have hb : b < h'.objs.size := Heap.lt_size e
    rw [sortedHeap_old (Nat.ne_of_lt hb) (by rw [size_push']; exact Nat.lt_succ_of_lt hb)]
    exact Heap.get?_push_of_some _ e
  · have hs' : (out'.map fun q => Value.ref q.2).Pairwise fun x y => ltW (wordsOf s.heap y) (wordsOf s.heap x) = false := hs
    rw [List.pairwise_map] at hs' ⊢
    refine hs'.imp_of_mem fun {x y} hx hy h => ?_
    rw [wordsOf_eq (hv x (po.mem_iff.mp hx)), wordsOf_eq (hv y (po.mem_iff.mp hy))] at h
    exact h
end
end VL

/-! the value layer, twenty-second part: dicts made, stored into, sorted -/
set_option Elab.async false
set_option linter.all false
set_option maxRecDepth 100000
namespace VL
open PySem PySem.Spec PyProof.Rows L2
open Evl (Ex ex_l ex_t)
variable [Wd]
theorem units9 {k : Nat} {A : Around} (hr : Room k A) : A.units + 9 < cLine := by have := hr.un; omega
/-! ### sorted(d) -/
def twD (ws : List Str) : PyData := .tuple (ws.map .str)
def pSortD : Pd1 := fun d P => match d with
  | .dict ((.bool false, .none) :: kvs) => ∃ wss : List (List Str), kvs.map (·.1) = wss.map twD ∧ (∀ ws ∈ wss, ws ≠ []) ∧ ∀ out : List (List Str), out.Perm wss → out.Pairwise (fun x y => ltW y x = false) → P (.lst (out.map twD))
  | _ => False
theorem lm_sortD : LMono (pd1 pSortD) := lm1 (by
  intro d P P' i h
  unfold pSortD at h ⊢
  split at h
  · obtain ⟨wss, h1, h2, h3⟩ := h
    exact ⟨wss, h1, h2, fun out a b => i _ (h3 out a b)⟩
  · exact h)
theorem wk_of {K : PySem.W.Frag} {G H : Hp} : ∀ {xs : List (NestedKey × Addr × V)} {kvs : List (PyData × PyData)} {wss : List (List Str)}, DqX K G xs kvs → kvs.map (·.1) = wss.map twD → (∀ ws ∈ wss, ws ≠ []) → ∃ ks, WKeys H xs ks ∧ ks.map (·.1) = wss ∧ ∀ q ∈ ks, Dq K G (.ref q.2) (twD q.1)
  | [], _, wss, h, e, n => by
    cases h
    cases wss with
    | nil => exact ⟨[], .nil, rfl, fun _ z => nomatch z⟩
    | cons _ _ => cases e
  | _ :: xs, _, wss, h, e, n => by
    cases h with
    | @xcons k b v _ kd d kvs hk hd he hq hr =>
      cases wss with
      | nil => cases e
      | cons ws wss =>
        obtain ⟨rfl, e2⟩ := List.cons.inj e
        obtain ⟨ks, w1, w2, w3⟩ := wk_of (H := H) hr e2 fun w hw => n w (List.mem_cons_of_mem _ hw)
        have ek : k = kWs ws := Option.some.inj (hk.symm.trans (keyOf_ws ws))
        subst ek
        refine ⟨(ws, b) :: ks, .cons (n ws List.mem_cons_self) w1, by rw [List.map_cons, w2], fun q hq2 => ?_⟩
        rcases List.mem_cons.mp hq2 with rfl | hq2
        · exact he
        · exact w3 q hq2
theorem dqa_refs {K : PySem.W.Frag} {G : Hp} : ∀ {ks : List (List Str × Addr)}, (∀ q ∈ ks, Dq K G (.ref q.2) (twD q.1)) → DqA K G (ks.map fun q => V.ref q.2) ((ks.map (·.1)).map twD)
  | [], _ => .nil
  | q :: ks, h => .cons (h q List.mem_cons_self) (dqa_refs fun q hq => h q (List.mem_cons_of_mem _ hq))
theorem ok_sortD {K : PySem.W.Frag} : COk K (rSortDX K) (pd1 pSortD) := ok1 (by
  intro G H x d P Q le tx h k
  unfold pSortD at h
  split at h
  · rename_i kvs
    obtain ⟨wss, h1, h2, h3⟩ := h
    obtain ⟨a, xs, rfl, e, dq⟩ := top_dx le (kvs := kvs) tx
    obtain ⟨ks, w1, w2, w3⟩ := wk_of (H := H) dq h1 h2
    refine ⟨a, G, xs, kvs, ks, rfl, le, e, dq, w1, fun out p po so hp => ?_⟩
    exact ans_lst le k (h3 (out.map (·.1)) (by rw [← w2]; exact po.map _) so) (dqa_refs fun q hq => w3 q (po.mem_iff.mp hq)) p hp
  · exact h.elim)
/-! ### d[k] = e -/
inductive PutV (K : PySem.W.Frag) (H : Hp) (a : Addr) (y v : V) (H' : Hp) : Prop
  | k {ks : List (Key × V)} {k : Key} (e : H a = some (.dK ks)) (hy : y = kV k) (hl : ks.length < sizeLine) (hH : H' = upd H a (.dK (putK ks k v)))
  | x {G : Hp} {xs : List (NestedKey × Addr × V)} {kvs : List (PyData × PyData)} {b : Addr} {d : PyData} {k : NestedKey} (le : Ex G H) (e : H a = some (DXo a xs)) (h : DqX K G xs kvs) (hy : y = .ref b) (hd : Dq K G (.ref b) d) (hk : keyOf d = some k) (h8 : k.depth ≤ 8) (hl : xs.length < sizeLine) (hH : H' = upd H a (DXo a (storeX xs k b v)))
def rSetD (K : PySem.W.Frag) : TSet := fun o i v H Q => ∃ a H', o = .ref a ∧ PutV K H a i v H' ∧ Q H'
theorem set_dict {X : Cx} (W : WdOk X) (hu : X.A.units + 9 < cLine) : PSet X (rSetD X.K) := fun pins s σ H o i v ov iv u Q I ro ri rv h => by
  obtain ⟨a, H', rfl, g, q⟩ := h
  cases (show ov = Value.ref a from ro)
  cases g with
  | k e hy hl hH => exact d_setItem (by omega) I (.inl ⟨_, _, e, hy, hl, hH⟩) ri rv fun s' I' => ⟨H', I', q⟩
  | @x G xs kvs b d k le e h hy hd hk h8 hl hH =>
    subst hy hH
    cases (show iv = Value.ref b from ri)
    obtain ⟨z, lo, ys, pr, dd⟩ := dx_rd W I le e h
    refine wpAny_setItem_heap (knd := nestedKind X.prog X.w) (by show X.A.units + 1 + 8 < cLine; omega) ⟨key_is I le hd hk rfl, h8⟩ dd (fun h' dd' hs => ?_) (by rw [← Paired.length pr]; exact z)
    refine ⟨_, d_write I (by rw [e]; exact True.intro) hs (let ⟨q, _, _, hq, _⟩ := dd'; ⟨q, hq⟩) (dx_new W ?_ lo (px_put rv pr) dd'), q⟩
    have := storeX_len (xs := xs) (k := k) (b := b) (v := v)
    omega
theorem slot_updD {K : PySem.W.Frag} {G H : Hp} {σ : L2.St} {S : Ss} {F : Nat → List Addr} (m : Md K G H σ S F) {i : Nat} {x : Bool} {kvs : List (PyData × PyData)} (h : S[i]?.bind Sl.con = some (.dct x kvs)) :
    ∃ a u, σ[i]? = some (some (.ref a)) ∧ H a = some u ∧ DctC K G a x u kvs ∧ ∀ u' kvs', DctC K G a x u' kvs' → Md K G (upd H a u') σ (S.set i ((S.getD i .em).put (.dct x kvs'))) F ∧ Evo G H (Mu S F) G (upd H a u') (Mu (S.set i ((S.getD i .em).put (.dct x kvs'))) F) := by
  cases hs : S[i]? with
  | none => rw [hs] at h; cases h
  | some s =>
    rw [hs] at h
    have h : s.con = some (.dct x kvs) := h
    obtain ⟨v, hv, w⟩ := m.at hs h
    obtain ⟨a, u, rfl, ef, g, hb, r1⟩ := w
    have hi := m.lt hs
    have eg : S.getD i .em = s := by rw [List.getD_eq_getElem?_getD, hs]; rfl
    have ha : a ∈ F i := by rw [ef]; exact List.mem_cons_self
    have ng : ∀ b u, G b = some u → b ≠ a := fun b u q z => by rw [z, g] at q; cases q
    refine ⟨a, u, hv, hb, r1, fun u' kvs' r2 => ?_⟩
    rw [eg]
    refine ⟨⟨fun b u q => by rw [upd_ne (ng b u q)]; exact m.le b u q, by rw [List.length_set]; exact m.len, fun j t hj => ?_, fun j k b hj hk => ?_⟩, Ex.refl _, fun b u q n => ?_, fun _ _ q => .inl q, fun b q => ?_⟩
    · by_cases ej : j = i
      · subst ej
        rw [List.getElem?_set_self hi] at hj
        cases hj
        refine ⟨some (.ref a), hv, ?_⟩
        have own : Own K G (upd H a u') (.ref a) (.dct x kvs') (F j) := ⟨a, u', rfl, ef, g, upd_same, r2⟩
        cases s with
        | em => cases h
        | ow o => exact own
        | io u o =>
          obtain ⟨x, e, z⟩ := m.sl j _ hs
          rw [hv] at e
          cases e
          exact ⟨z.1, own⟩
      · rw [List.getElem?_set_ne (Ne.symm ej)] at hj
        obtain ⟨x, e, z⟩ := m.sl j t hj
        refine ⟨x, e, z.mono (Ex.refl _) (fun b hb' => (m.free (m.lt hj) b hb').1) fun b hb' u q => ?_⟩
        have ne : b ≠ a := fun y => ej (m.dj j i b (m.lt hj) hi hb' (by rw [y]; exact ha))
        rw [upd_ne ne]
        exact q
    · rw [List.length_set] at hj hk
      exact m.dj j k b hj hk
    · have ne : b ≠ a := fun y => n ⟨i, hi, by rw [y]; exact ha⟩
      rw [upd_ne ne]
      exact q
    · obtain ⟨j, hj, hb'⟩ := q
      rw [List.length_set] at hj
      exact .inr ⟨j, hj, hb'⟩
section
variable {X : Cx} {e a b : Expr} {es rest : List Expr} {pos : Pos} {st : Stmt}
/-- name[k] = e, the name a dict -/
def vSetD (j : Nat) (te ti : VT) : VS := fun D S => te S fun o S1 => (∃ x kvs0, S1[j]?.bind Sl.con = some (.dct x kvs0)) ∧ ti S1 fun oi S2 => ∃ kd x k kvs, oi = .sh kd ∧ S2[j]?.bind Sl.con = some (.dct x kvs) ∧ fitK x kd = true ∧ keyOf kd = some k ∧ kvs.length < sizeLine ∧
  D.nx (S2.set j ((S2.getD j .em).put (.dct x (dput kvs k kd o.dat))))
theorem vs_setD {j : Nat} {te ti : VT} (he : VE X e te) (hi : VE X a ti) (h : ∀ te ti, PE X e te → PE X a ti → PS X st (tAsg te (gSub (tVar j) ti (rSetD X.K)))) : VSt X st (vSetD j te ti) := by
  refine ⟨fun D D' S k q => he.mono _ _ _ (fun o S1 z => ⟨z.1, hi.mono _ _ _ (fun oi S2 y => let ⟨kd, x, k', kvs, h1, h2, h3, h4, h5, h6⟩ := y; ⟨kd, x, k', kvs, h1, h2, h3, h4, h5, k.nx _ h6⟩) z.2⟩) q, PS.imp (h _ _ he.pe hi.pe) fun D σ H hq => ?_⟩
  obtain ⟨G, S, F, m, q⟩ := hq
  refine ⟨G, S, F, m, he.mono _ _ _ (fun o S1 z G1 H1 v f F1 ev m1 ow ap nw => ?_) q⟩
  obtain ⟨G2, g1, d, m2, g3⟩ := m1.freezeT ow ap
  have ev2 := ev.given g1 g3 nw
  obtain ⟨⟨x0, kvs0, h0⟩, z⟩ := z
  obtain ⟨l, u, hv, _⟩ := slot_updD m2 h0
  refine ⟨_, hv, G2, S1, F1, m2, hi.mono _ _ _ (fun oi S2 y G3 H3 w f3 F3 ev3 m3 ow3 ap3 nw3 => ?_) z⟩
  obtain ⟨kd, x, k, kvs, rfl, h1, h2, h3, h4, h5⟩ := y
  obtain ⟨_, dk⟩ := ow3
  obtain ⟨l', u', hv', hl, r1, fin⟩ := slot_updD m3 h1
  rw [hv] at hv'
  cases hv'
  have dv := dp_mono ev3.gle d
  rcases r1 with ⟨rfl, ks, rfl, r1⟩ | ⟨rfl, xs, rfl, r1⟩
  · obtain ⟨k', rfl⟩ := fit_k h2
    rw [nk_key] at h3
    cases h3
    obtain ⟨m4, ev4⟩ := fin _ _ (.inl ⟨rfl, _, rfl, dqk_put (k := k') r1 dv⟩)
    exact ⟨l, _, rfl, .k hl (keyV_rel dk) (by rw [dqk_len r1]; exact h4) rfl, h5 _ _ _ _ ((ev2.trans ev3).trans ev4) m4⟩
  · obtain ⟨h8, ds, rfl⟩ := fit_x h2
    obtain ⟨b, rfl⟩ : ∃ b, w = .ref b := by cases dk; exact ⟨_, rfl⟩
    obtain ⟨m4, ev4⟩ := fin _ _ (.inr ⟨rfl, _, rfl, dqx_put r1 h3 (by rw [key_depth h3]; exact h8) dk dv⟩)
    exact ⟨l, _, rfl, .x m3.le hl r1 rfl dk h3 (by rw [key_depth h3]; exact h8) (by rw [dqx_len r1]; exact h4) rfl, h5 _ _ _ _ ((ev2.trans ev3).trans ev4) m4⟩
/-! ### {} and {k: e} -/
def vDNew (x : Bool) : VT := fun S Q => Q (.dct x []) S
theorem dx_empty (W : WdOk X) {H : Hp} (h : Heap) (hb : sysModules < h.objs.size) : ObjOk X.prog X.w H (h.push { cls := .type "dict", data := .dict #[] }) h.objs.size (DXo h.objs.size []) :=
  dx_new W (Nat.zero_le _) (beq_eq_false_iff_ne.mpr (Ne.symm (Nat.ne_of_lt hb))) .nil (Heap.DictOfH.new h)
def tDNewX : TE := fun _ H Q => ∀ p, H p = none → Q (.ref p) (upd H p (DXo p []))
theorem pe_dnewX (W : WdOk X) : PE X (.Dict [] [] pos) tDNewX := ⟨fun pins s σ H Q I h =>
  wpAny_Dict_empty ⟨.ref s.heap.objs.size, _, I.laid (a := s.heap.objs.size) (o := DXo s.heap.objs.size []) (t' := s.toks) (fun _ _ q => Heap.get?_push_of_some _ q) (Nat.le_refl _) (dx_empty W s.heap I.big), rfl, h _ (I.hok.fresh (Nat.le_refl _))⟩⟩
theorem dnew_use {x : Bool} {t : TE} {c : Addr → HO} (hc : ∀ K G p, DctC K G p x (c p) []) (ht : ∀ σ H Q, (∀ p, H p = none → Q (.ref p) (upd H p (c p))) → t σ H Q) {σ : L2.St} {H : Hp} {Q : VK} (hq : lift X.K (vDNew x) σ H Q) : t σ H Q := by
  obtain ⟨G, S, F, m, q⟩ := hq
  refine ht σ H Q fun p hp => ?_
  have gr : Grow G H G (upd H p (c p)) := Grow.newO m.le hp
  refine q G _ (.ref p) [p] F (gr.evo _) (m.grow gr) ⟨p, c p, rfl, rfl, fresh_g m.le hp, upd_same, hc _ _ _⟩ (fun b hb => ?_) fun b hb => ?_
  · rw [List.mem_singleton.mp hb]
    exact fresh_mu m hp
  · rw [List.mem_singleton.mp hb]
    exact .inl hp
theorem ve_dnewX (W : WdOk X) : VE X (.Dict [] [] pos) (vDNew true) := ⟨fun _ _ _ i q => i _ _ q, PE.imp (pe_dnewX W) fun σ H Q hq => dnew_use (fun K G p => .inr ⟨rfl, [], rfl, .xnil⟩) (fun _ _ _ h => h) hq⟩
theorem ve_dnewK : VE X (.Dict [] [] pos) (vDNew false) := ⟨fun _ _ _ i q => i _ _ q, PE.imp pe_dnewK fun σ H Q hq => dnew_use (c := fun _ => .dK []) (fun K G p => .inl ⟨rfl, [], rfl, .knil⟩) (fun _ _ _ h => h) hq⟩
def tDisp1 (K : PySem.W.Frag) (tk tv : TE) : TE := fun σ H Q => ∀ p, H p = none → tk σ (upd H p (DXo p [])) fun x H1 => tv σ H1 fun y H2 => ∃ H', PutV K H2 p x y H' ∧ Q (.ref p) H'
theorem pe_disp1 (W : WdOk X) (hu : X.A.units + 9 < cLine) {k v : Expr} {tk tv : TE} (hk : PE X k tk) (hv : PE X v tv) : PE X (.Dict [some k] [v] pos) (tDisp1 X.K tk tv) := by
  refine ⟨fun pins s σ H Q I h => ?_⟩
  have hn := I.hok.fresh (Nat.le_refl s.heap.objs.size)
  have I1 := I.laid (a := s.heap.objs.size) (o := DXo s.heap.objs.size []) (h' := s.heap.push { cls := .type "dict", data := .dict #[] }) (t' := s.toks) (fun _ _ q => Heap.get?_push_of_some _ q) (Nat.le_refl _) (dx_empty W s.heap I.big)
  refine wpAny_Dict_any rfl rfl (by simp) (by show 1 ≤ 15; decide) (pairTrees_cons_walk (thn (hk.run pins _ σ _ _ I1 (h _ hn)) fun kv s1 ⟨x, H1, I2, rx, q1⟩ => thn (hv.run pins s1 σ H1 _ I2 q1) fun vv s2 ⟨y, H2, I3, ry, H', g, q2⟩ => pairTrees_nil_walk ?_))
  unfold storeAll
  rw [List.forIn_cons]
  cases g with
  | @k ks kk e hy hl hH =>
    subst hy
    obtain ⟨z, hd, vs, rel, dd⟩ := dk_of I3.hok e
    refine wpAny_bind (wpAny_bind (wpAny_dictSet_pairs (hsz := by rw [← rel.length]; exact z) (kV_is rx) dd fun h' dd' hs => wpAny_pure ?_))
    show wpAny (model X.prog X.w) X.A (pure PUnit.unit) _ _ _
    refine wpAny_pure ⟨.ref s.heap.objs.size, H', ?_, rfl, q2⟩
    rw [hH]
    exact d_write I3 (by rw [e]; exact True.intro) hs (let ⟨q, _, _, hq, _⟩ := dd'; ⟨q, hq⟩) (dk_new (by have := length_putK ks kk y; omega) hd (rel.put _ ry) dd')
  | @x G xs kvs b d k' le e hq hy hd hk' h8 hl hH =>
    subst hy
    cases (show kv = Value.ref b from rx)
    obtain ⟨z, lo, ys, pr, dd⟩ := dx_rd W I3 le e hq
    refine wpAny_bind (wpAny_bind (wpAny_dictSet_heap (knd := nestedKind X.prog X.w) (hsz := by rw [← Paired.length pr]; exact z) (by show X.A.units + 8 < cLine; omega) ⟨key_is I3 le hd hk' rfl, h8⟩ dd fun h' dd' hs => wpAny_pure ?_))
    show wpAny (model X.prog X.w) X.A (pure PUnit.unit) _ _ _
    refine wpAny_pure ⟨.ref s.heap.objs.size, H', ?_, rfl, q2⟩
    rw [hH]
    refine d_write I3 (by rw [e]; exact True.intro) hs (let ⟨q, _, _, hq, _⟩ := dd'; ⟨q, hq⟩) (dx_new W ?_ lo (px_put ry pr) dd')
    have := storeX_len (xs := xs) (k := k') (b := b) (v := y)
    omega
/-- a cell aside is written -/
theorem Md.aside {K : PySem.W.Frag} {G H : Hp} {σ : L2.St} {S : Ss} {F : Nat → List Addr} (m : Md K G H σ S F) {p : Addr} {u : HO} (g : G p = none) (n : ¬ Mu S F p) : Md K G (upd H p u) σ S F :=
  m.mono (Ex.refl G) (fun b w q => by rw [upd_ne (fun z => by rw [z, g] at q; cases q)]; exact m.le b w q) (fun a ha => (m.mu ha).1) fun a ha w q => by
    rw [upd_ne (fun z => n (by rw [← z]; exact ha))]
    exact q
def vDisp1 (tk tv : VT) : VT := fun S Q => tk S fun ok S1 => tv S1 fun ov S2 => ∃ k, keyOf ok.dat = some k ∧ fitK true ok.dat = true ∧ Q (.dct true [(ok.dat, ov.dat)]) S2
theorem ve_disp1 (W : WdOk X) (hu : X.A.units + 9 < cLine) {tk tv : VT} (hk : VE X a tk) (hv : VE X b tv) : VE X (.Dict [some a] [b] pos) (vDisp1 tk tv) := by
  refine ⟨fun S P P' i q => hk.mono _ _ _ (fun ok S1 z => hv.mono _ _ _ (fun ov S2 y => let ⟨k, h1, h2, h3⟩ := y; ⟨k, h1, h2, i _ _ h3⟩) z) q, PE.imp (pe_disp1 W hu hk.pe hv.pe) fun σ H Q hq p hp => ?_⟩
  obtain ⟨G, S, F, m, q⟩ := hq
  have gr : Grow G H G (upd H p (DXo p [])) := Grow.newO m.le hp
  have own0 : Own X.K G (upd H p (DXo p [])) (.ref p) (.dct true []) [p] := ⟨p, _, rfl, rfl, fresh_g m.le hp, upd_same, .inr ⟨rfl, [], rfl, .xnil⟩⟩
  have n0 : ∀ x ∈ [p], ¬ Mu S F x := fun x hx => by rw [List.mem_singleton.mp hx]; exact fresh_mu m hp
  refine ⟨G, S, F, m.grow gr, hk.mono _ _ _ (fun ok S1 z G1 H1 v1 f1 F1 ev1 m1 ow1 ap1 nw1 => ?_) q⟩
  obtain ⟨own1, n1⟩ := own0.stay ev1 n0
  obtain ⟨G2, g1, dk, m2, g3⟩ := m1.freezeT ow1 ap1
  have pf : ∀ x ∈ [p], x ∉ f1 := fun x hx hf => by
    rw [List.mem_singleton.mp hx] at hf
    rcases nw1 p hf with y | y
    · rw [upd_same] at y; cases y
    · exact n0 p List.mem_cons_self y
  have ev2 := ev1.given g1 g3 nw1
  have own2 : Own X.K G2 H1 (.ref p) (.dct true []) [p] := own1.mono g1 (fun x hx => none_of g3 (own1.tracked x hx).1 (pf x hx)) fun _ _ _ q => q
  refine ⟨G2, S1, F1, m2, hv.mono _ _ _ (fun ov S2 y G3 H3 v2 f2 F2 ev3 m3 ow3 ap3 nw3 => ?_) z⟩
  obtain ⟨k, h1, h2, h3⟩ := y
  obtain ⟨own3, n3⟩ := own2.stay ev3 n1
  obtain ⟨G4, g4, dv, m4, g5⟩ := m3.freezeT ow3 ap3
  have pf2 : ∀ x ∈ [p], x ∉ f2 := fun x hx hf => by
    rcases nw3 x hf with y | y
    · obtain ⟨_, u, hu⟩ := own2.tracked x hx
      rw [hu] at y; cases y
    · exact n1 x hx y
  have ev4 := ev3.given g4 g5 nw3
  have own4 : Own X.K G4 H3 (.ref p) (.dct true []) [p] := own3.mono g4 (fun x hx => none_of g5 (own3.tracked x hx).1 (pf2 x hx)) fun _ _ _ q => q
  obtain ⟨p', u, e1, _, gp, hp3, c⟩ := own4
  cases e1
  obtain ⟨z0, _⟩ | ⟨_, xs, rfl, r⟩ := c
  · cases z0
  cases r
  obtain ⟨h8, ds, ed⟩ := fit_x h2
  have dk4 : Dq X.K G4 v1 ok.dat := dp_mono (ev3.gle.trans g4) dk
  obtain ⟨b', rfl⟩ : ∃ b', v1 = .ref b' := by
    rw [ed] at dk4
    cases dk4
    exact ⟨_, rfl⟩
  have hd8 : k.depth ≤ 8 := by rw [key_depth h1]; exact h8
  have np : ¬ Mu S2 F2 p := n3 p List.mem_cons_self
  refine ⟨_, .x m4.le hp3 .xnil rfl dk4 h1 hd8 (by rw [sizeLine_eq]; exact Nat.zero_lt_succ _) rfl, ?_⟩
  have evA : Evo G (upd H p (DXo p [])) (Mu S F) G4 H3 (Mu S2 F2) := (ev1.given g1 g3 nw1).trans ev4
  refine h3 G4 _ (.ref p) [p] F2 ?_ (m4.aside gp np) ⟨p, _, rfl, rfl, gp, upd_same, .inr ⟨rfl, _, rfl, .xcons h1 hd8 dk4 dv .xnil⟩⟩ (fun x hx => n3 x hx) fun x hx => ?_
  · refine ⟨evA.gle, fun x u hx hn => ?_, fun x u hx => ?_, fun x hx => ?_⟩
    · have ne : x ≠ p := fun z => by rw [z, hp] at hx; cases hx
      rw [upd_ne ne]
      exact evA.keep x u (by rw [upd_ne ne]; exact hx) hn
    · rcases evA.gnew x u hx with y | y | y
      · exact .inl y
      · by_cases ne : x = p
        · exact .inr (.inl (by rw [ne]; exact hp))
        · rw [upd_ne ne] at y
          exact .inr (.inl y)
      · exact .inr (.inr y)
    · rcases evA.fnew x hx with y | y
      · by_cases ne : x = p
        · exact .inl (by rw [ne]; exact hp)
        · rw [upd_ne ne] at y
          exact .inl y
      · exact .inr y
  · rw [List.mem_singleton.mp hx]
    exact .inl hp
end
end VL

/-! the value layer, twenty-third part: zip of lists and tuples in any mix -/
set_option Elab.async false
set_option linter.all false
set_option maxRecDepth 100000
set_option maxHeartbeats 1000000
namespace VL
open PySem PySem.Spec PyProof.Rows L2
/-- one of the things that are zipped: of a tuple or of a list, what it goes over, its iterator -/
structure Leg where
  t : Bool
  l : Addr
  it : Addr
def legIt (t : Bool) (h : Heap) (it l : Addr) (k : Nat) : Prop := if t = true then h.IsTupleIter it l k else h.IsListIter it l k
def legOf (t : Bool) (h : Heap) (l : Addr) (its : Array Value) : Prop := if t = true then h.IsTuple l its else h.IsList l its
abbrev isTup (h : Heap) (T : Addr) (vs : List Value) : Prop := h.get? T = some { cls := .type "tuple", data := .seq vs.toArray }
theorem legIt_mv {t : Bool} {h h' : Heap} {it l : Addr} {k : Nat} (a : legIt t h it l k) (q : ∀ o, h.get? it = some o → h'.get? it = some o) : legIt t h' it l k := by
  cases t
  · exact Heap.IsListIter.at a q
  · exact Heap.IsTupleIter.at a q
theorem legOf_mv {t : Bool} {h h' : Heap} {l : Addr} {its : Array Value} (a : legOf t h l its) (q : ∀ o, h.get? l = some o → h'.get? l = some o) : legOf t h' l its := by
  cases t
  · exact Heap.IsList.at a q
  · exact Heap.IsTuple.at a q
theorem legIt_obj {t : Bool} {h : Heap} {it l : Addr} {k : Nat} (a : legIt t h it l k) : ∃ o, h.get? it = some o ∧ ∀ v, o.data ≠ .cell v := by
  cases t
  · obtain ⟨o, e, _, d⟩ := (show h.IsListIter it l k from a); exact ⟨o, e, fun v q => by rw [d] at q; cases q⟩
  · obtain ⟨o, e, _, d⟩ := (show h.IsTupleIter it l k from a); exact ⟨o, e, fun v q => by rw [d] at q; cases q⟩
section
variable {prog : Program} {w : World} {A : Around} {E : Value → Shared → Prop} {s : Shared}
theorem leg_item {t : Bool} {it l : Addr} {k : Nat} {its : Array Value} {x : Value} {Q : Value → Shared → Prop} (h1 : legIt t s.heap it l k) (h2 : legOf t s.heap l its) (hx : its[k]? = some x)
    (hQ : ∀ h', legIt t h' it l (k + 1) → Heap.SameBut it s.heap h' → Q x { s with heap := h' }) : wpAny (model prog w) A (Builtin.SmallTypes.nextOf (.ref it)) Q E s := by
  cases t
  · exact wpAny_nextOf_list_item h1 h2 hx hQ
  · exact RZ.nextOf_tuple_item h1 h2 hx hQ
theorem leg_end {t : Bool} {it l : Addr} {k : Nat} {its : Array Value} {Q : Value → Shared → Prop} (hh : A.handled = none) (h1 : legIt t s.heap it l k) (h2 : legOf t s.heap l its) (hx : its[k]? = none)
    (hE : ∀ h' e, Heap.ExtBut it s.heap h' → (∃ o, h'.get? e = some o ∧ o.cls = .type "StopIteration") → E (.ref e) { s with heap := h' }) : wpAny (model prog w) A (Builtin.SmallTypes.nextOf (.ref it)) Q E s := by
  cases t
  · exact wpAny_nextOf_list_end hh h1 h2 hx hE
  · exact RZ.nextOf_tuple_end hh h1 h2 hx hE
theorem leg_iter {t : Bool} {l : Addr} {its : Array Value} {Q : Value → Shared → Prop} (h : legOf t s.heap l its)
    (hQ : Q (.ref s.heap.objs.size) { s with heap := s.heap.push { cls := .type (if t = true then "tuple_iterator" else "list_iterator"), data := .fields #[.ref l, .int 0 0] } }) : wpAny (model prog w) A (pyIter (.ref l)) Q E s := by
  cases t
  · exact wpAny_pyIter_list h hQ
  · exact wpAny_pyIter_tuple h hQ
end
/-- what stands at place k of each -/
inductive LegX (h : Heap) (k : Nat) : List Leg → List Value → Prop
  | nil : LegX h k [] []
  | cons {g : Leg} {gs : List Leg} {x : Value} {xs : List Value} {its : Array Value} : legOf g.t h g.l its → its[k]? = some x → LegX h k gs xs → LegX h k (g :: gs) (x :: xs)
theorem legX_mv {h h' : Heap} {k : Nat} {gs : List Leg} {xs : List Value} (a : LegX h k gs xs) (q : ∀ g ∈ gs, ∀ o, h.get? g.l = some o → h'.get? g.l = some o) : LegX h' k gs xs := by
  induction a with
  | nil => exact .nil
  | cons a b _ ih => exact .cons (legOf_mv a (q _ (by simp))) b (ih fun g hg => q g (List.mem_cons_of_mem _ hg))
section
variable {prog : Program} {w : World} {A : Around} {E E' : Value → Shared → Prop} {TO : Addr} {k : Nat} {β : Type} {f : Value × Nat → β → Sem (ForInStep β)} {b : β}
def LegF (prog : Program) (w : World) (A : Around) (TO : Addr) (E' E : Value → Shared → Prop) (b : β) (f : Value × Nat → β → Sem (ForInStep β)) : Prop :=
  ∀ (it : Addr) (j : Nat) (s : Shared) (Q : ForInStep β → Shared → Prop),
    wpAny (model prog w) A (Builtin.SmallTypes.nextOf (.ref it)) (fun x s1 => ∃ kept : List Value, kept.length ≤ sizeLine ∧ isTup s1.heap TO kept ∧ ∀ h', isTup h' TO (kept.set j x) → Heap.SameBut TO s1.heap h' → Q (.yield b) { s1 with heap := h' }) E' s →
    wpAny (model prog w) A (f (.ref it, j) b) Q E s
theorem legs_item (hf : LegF prog w A TO E' E b f) : ∀ (gs : List Leg) (xs suf pre : List Value) (s : Shared) (Q : β → Shared → Prop), LegX s.heap k gs xs → suf.length = gs.length → pre.length + suf.length ≤ sizeLine → isTup s.heap TO (pre ++ suf) →
    (∀ g ∈ gs, legIt g.t s.heap g.it g.l k) → (TO :: gs.map (·.it)).Nodup → (∀ g ∈ gs, g.l ∉ TO :: gs.map (·.it)) →
    (∀ h', isTup h' TO (pre ++ xs) → (∀ g ∈ gs, legIt g.t h' g.it g.l (k + 1)) → h'.objs.size = s.heap.objs.size → (∀ c o, c ∉ TO :: gs.map (·.it) → s.heap.get? c = some o → h'.get? c = some o) → Q b { s with heap := h' }) →
    wpAny (model prog w) A (forIn ((gs.map fun g => Value.ref g.it).zipIdx pre.length) b f) Q E s
  | [], _, suf, pre, s, Q, hx, hl, hsl, hTO, hi, nd, ll, hQ => by
    cases hx
    cases suf with
    | cons a r => simp at hl
    | nil =>
      show wpAny _ _ (forIn ([] : List (Value × Nat)) b f) Q E s
      rw [List.forIn_nil]
      exact wpAny_pure (hQ s.heap hTO (by simp) rfl fun _ _ _ e => e)
  | g :: gs, _, suf, pre, s, Q, hx, hl, hsl, hTO, hi, nd, ll, hQ => by
    cases hx with
    | @cons _ _ x xs its ho hk hr =>
      cases suf with
      | nil => simp at hl
      | cons a suf =>
        rw [List.length_cons, List.length_cons] at hl
        have hsl : pre.length + (suf.length + 1) ≤ sizeLine := hsl
        have nd' : TO ≠ g.it ∧ TO ∉ gs.map (·.it) ∧ g.it ∉ gs.map (·.it) ∧ (gs.map (·.it)).Nodup := by
          rw [List.map_cons, List.nodup_cons, List.nodup_cons, List.mem_cons] at nd
          exact ⟨fun e => nd.1 (.inl e), fun e => nd.1 (.inr e), nd.2.1, nd.2.2⟩
        have lg : ∀ q ∈ g :: gs, q.l ≠ TO ∧ q.l ≠ g.it ∧ q.l ∉ gs.map (·.it) := fun q hq => by
          have z := ll q hq
          rw [List.map_cons, List.mem_cons, List.mem_cons] at z
          exact ⟨fun e => z (.inl e), fun e => z (.inr (.inl e)), fun e => z (.inr (.inr e))⟩
        rw [List.map_cons, List.zipIdx_cons, List.forIn_cons]
        refine wpAny_bind (hf _ _ _ _ (leg_item (hi g (by simp)) ho hk fun h1 i1 s1 => ⟨pre ++ a :: suf, by rw [List.length_append, List.length_cons]; exact hsl, s1.extBut _ _ nd'.1 hTO, fun h2 t2 s2 => ?_⟩))
        show wpAny _ _ (forIn ((gs.map fun g => Value.ref g.it).zipIdx (pre.length + 1)) b f) Q E _
        have e1 : (pre ++ a :: suf).set pre.length x = (pre ++ [x]) ++ suf := by simp
        have e2 : pre.length + 1 = (pre ++ [x]).length := by simp
        rw [e1] at t2
        rw [e2]
        have up : ∀ c o, c ≠ TO → c ≠ g.it → s.heap.get? c = some o → h2.get? c = some o := fun c o n1 n2 e => s2.extBut _ _ n1 (s1.extBut _ _ n2 e)
        have mi : ∀ q ∈ gs, q.it ≠ TO ∧ q.it ≠ g.it := fun q hq => ⟨fun e => nd'.2.1 (e ▸ List.mem_map_of_mem hq), fun e => nd'.2.2.1 (e ▸ List.mem_map_of_mem hq)⟩
        refine legs_item hf gs xs suf (pre ++ [x]) _ Q (legX_mv hr fun q hq o e => up _ _ (lg q (List.mem_cons_of_mem _ hq)).1 (lg q (List.mem_cons_of_mem _ hq)).2.1 e) (by omega) (by rw [List.length_append, List.length_singleton]; omega) t2
          (fun q hq => legIt_mv (hi q (List.mem_cons_of_mem _ hq)) fun o e => up _ _ (mi q hq).1 (mi q hq).2 e)
          (List.nodup_cons.mpr ⟨nd'.2.1, nd'.2.2.2⟩) (fun q hq z => by
            rcases List.mem_cons.mp z with z | z
            · exact (lg q (List.mem_cons_of_mem _ hq)).1 z
            · exact (lg q (List.mem_cons_of_mem _ hq)).2.2 z) fun h3 t3 i3 z3 k3 => ?_
        refine hQ h3 (by rw [show pre ++ x :: xs = (pre ++ [x]) ++ xs by simp]; exact t3) (fun q hq => ?_) (by rw [z3]; exact s2.1.trans s1.1) fun c o hc e => ?_
        · rcases List.mem_cons.mp hq with z | z
          · rw [z]
            exact legIt_mv i1 fun o e => k3 _ o (fun z' => by
              rcases List.mem_cons.mp z' with z' | z'
              · exact nd'.1 z'.symm
              · exact nd'.2.2.1 z') (s2.extBut _ _ (fun z' => nd'.1 z'.symm) e)
          · exact i3 q z
        · rw [List.map_cons, List.mem_cons, List.mem_cons] at hc
          exact k3 c o (fun z' => by
            rcases List.mem_cons.mp z' with z' | z'
            · exact hc (.inl z')
            · exact hc (.inr (.inr z'))) (up c o (fun z => hc (.inl z)) (fun z => hc (.inr (.inl z))) e)
theorem legs_end (hh : A.handled = none) (hf : LegF prog w A TO E' E b f) : ∀ (gs : List Leg) (suf pre : List Value) (s : Shared) (Q : β → Shared → Prop), (∀ g ∈ gs, ∃ its, legOf g.t s.heap g.l its) → (∃ g ∈ gs, ∀ its, legOf g.t s.heap g.l its → its[k]? = none) →
    suf.length = gs.length → pre.length + suf.length ≤ sizeLine → isTup s.heap TO (pre ++ suf) →
    (∀ g ∈ gs, legIt g.t s.heap g.it g.l k) → (TO :: gs.map (·.it)).Nodup → (∀ g ∈ gs, g.l ∉ TO :: gs.map (·.it)) →
    (∀ h' e, (∀ c o, c ∉ TO :: gs.map (·.it) → s.heap.get? c = some o → h'.get? c = some o) → (∃ o, h'.get? e = some o ∧ o.cls = .type "StopIteration") → E' (.ref e) { s with heap := h' }) →
    wpAny (model prog w) A (forIn ((gs.map fun g => Value.ref g.it).zipIdx pre.length) b f) Q E s
  | [], suf, pre, s, Q, ha, hx, hl, hsl, hTO, hi, nd, ll, hE => by
    obtain ⟨_, hg, _⟩ := hx
    simp at hg
  | g :: gs, suf, pre, s, Q, ha, hx, hl, hsl, hTO, hi, nd, ll, hE => by
    cases suf with
    | nil => simp at hl
    | cons a suf =>
      rw [List.length_cons, List.length_cons] at hl
      have hsl : pre.length + (suf.length + 1) ≤ sizeLine := hsl
      have nd' : TO ≠ g.it ∧ TO ∉ gs.map (·.it) ∧ g.it ∉ gs.map (·.it) ∧ (gs.map (·.it)).Nodup := by
        rw [List.map_cons, List.nodup_cons, List.nodup_cons, List.mem_cons] at nd
        exact ⟨fun e => nd.1 (.inl e), fun e => nd.1 (.inr e), nd.2.1, nd.2.2⟩
      have lg : ∀ q ∈ g :: gs, q.l ≠ TO ∧ q.l ≠ g.it ∧ q.l ∉ gs.map (·.it) := fun q hq => by
        have z := ll q hq
        rw [List.map_cons, List.mem_cons, List.mem_cons] at z
        exact ⟨fun e => z (.inl e), fun e => z (.inr (.inl e)), fun e => z (.inr (.inr e))⟩
      rw [List.map_cons, List.zipIdx_cons, List.forIn_cons]
      obtain ⟨its, ho⟩ := ha g (by simp)
      cases hk : its[k]? with
      | none =>
        refine wpAny_bind (hf _ _ _ _ (leg_end hh (hi g (by simp)) ho hk fun h1 e x1 st => hE h1 e (fun c o hc e => x1 _ _ (fun z => hc (by rw [z]; simp)) e) st))
      | some x =>
        refine wpAny_bind (hf _ _ _ _ (leg_item (hi g (by simp)) ho hk fun h1 i1 s1 => ⟨pre ++ a :: suf, by rw [List.length_append, List.length_cons]; exact hsl, s1.extBut _ _ nd'.1 hTO, fun h2 t2 s2 => ?_⟩))
        show wpAny _ _ (forIn ((gs.map fun g => Value.ref g.it).zipIdx (pre.length + 1)) b f) Q E _
        have e1 : (pre ++ a :: suf).set pre.length x = (pre ++ [x]) ++ suf := by simp
        have e2 : pre.length + 1 = (pre ++ [x]).length := by simp
        rw [e1] at t2
        rw [e2]
        have up : ∀ c o, c ≠ TO → c ≠ g.it → s.heap.get? c = some o → h2.get? c = some o := fun c o n1 n2 e => s2.extBut _ _ n1 (s1.extBut _ _ n2 e)
        have dn : ∀ c, c ≠ TO → c ≠ g.it → h2.get? c = s.heap.get? c := fun c n1 n2 => (s2.2 c n1).trans (s1.2 c n2)
        have mi : ∀ q ∈ gs, q.it ≠ TO ∧ q.it ≠ g.it := fun q hq => ⟨fun e => nd'.2.1 (e ▸ List.mem_map_of_mem hq), fun e => nd'.2.2.1 (e ▸ List.mem_map_of_mem hq)⟩
        refine legs_end hh hf gs suf (pre ++ [x]) _ Q (fun q hq => ?_) ?_ (by omega) (by rw [List.length_append, List.length_singleton]; omega) t2
          (fun q hq => legIt_mv (hi q (List.mem_cons_of_mem _ hq)) fun o e => up _ _ (mi q hq).1 (mi q hq).2 e)
          (List.nodup_cons.mpr ⟨nd'.2.1, nd'.2.2.2⟩) (fun q hq z => by
            rcases List.mem_cons.mp z with z | z
            · exact (lg q (List.mem_cons_of_mem _ hq)).1 z
            · exact (lg q (List.mem_cons_of_mem _ hq)).2.2 z) fun h3 e k3 st => ?_
        · obtain ⟨i, p⟩ := ha q (List.mem_cons_of_mem _ hq)
          exact ⟨i, legOf_mv p fun o e => up _ _ (lg q (List.mem_cons_of_mem _ hq)).1 (lg q (List.mem_cons_of_mem _ hq)).2.1 e⟩
        · obtain ⟨q, hq, p⟩ := hx
          rcases List.mem_cons.mp hq with z | z
          · rw [z] at p
            have p := p its ho
            rw [p] at hk
            cases hk
          · refine ⟨q, z, fun its' o' => p its' (legOf_mv o' fun o e => ?_)⟩
            rw [← dn q.l (lg q hq).1 (lg q hq).2.1]
            exact e
        · refine hE h3 e (fun c o hc e => ?_) st
          rw [List.map_cons, List.mem_cons, List.mem_cons] at hc
          exact k3 c o (fun z' => by
            rcases List.mem_cons.mp z' with z' | z'
            · exact hc (.inl z')
            · exact hc (.inr (.inr z'))) (up c o (fun z => hc (.inl z)) (fun z => hc (.inr (.inl z))) e)
end
section
variable {prog : Program} {w : World} {A : Around} {E : Value → Shared → Prop} {s : Shared}
structure ZApart (z TI TO : Addr) (gs : List Leg) : Prop where
  nd : (z :: TI :: TO :: gs.map (·.it)).Nodup
  ll : ∀ g ∈ gs, g.l ∉ z :: TI :: TO :: gs.map (·.it)
namespace ZApart
variable {z TI TO : Addr} {gs : List Leg} (D : ZApart z TI TO gs)
include D
theorem nd' : (TO :: gs.map (·.it)).Nodup := (List.nodup_cons.mp (List.nodup_cons.mp D.nd).2).2
theorem zn : z ∉ TO :: gs.map (·.it) := fun q => (List.nodup_cons.mp D.nd).1 (List.mem_cons_of_mem _ q)
theorem TIz : TI ≠ z := fun q => (List.nodup_cons.mp D.nd).1 (by rw [q]; simp)
theorem TIn : TI ∉ TO :: gs.map (·.it) := (List.nodup_cons.mp (List.nodup_cons.mp D.nd).2).1
theorem TOz : TO ≠ z := fun q => (List.nodup_cons.mp D.nd).1 (by rw [q]; simp)
theorem iz {g : Leg} (hg : g ∈ gs) : g.it ≠ z := fun q => D.zn (List.mem_cons_of_mem _ (q ▸ List.mem_map_of_mem hg))
theorem lz {g : Leg} (hg : g ∈ gs) : g.l ≠ z := fun q => D.ll g hg (by rw [q]; simp)
theorem ll' : ∀ g ∈ gs, g.l ∉ TO :: gs.map (·.it) := fun g hg q => D.ll g hg (List.mem_cons_of_mem _ (List.mem_cons_of_mem _ q))
end ZApart
theorem zn_item {z TI TO : Addr} {gs : List Leg} {k : Nat} {vs xs : List Value} {Q : Value → Shared → Prop} (D : ZApart z TI TO gs) (hne : gs ≠ []) (hvl : vs.length ≤ sizeLine) (hsl : xs.length ≤ sizeLine)
    (hz : IsZip s.heap z TI TO .none) (hTI : isTup s.heap TI (gs.map fun g => .ref g.it)) (hTO : isTup s.heap TO vs) (hv : vs.length = gs.length)
    (hi : ∀ g ∈ gs, legIt g.t s.heap g.it g.l k) (hx : LegX s.heap k gs xs)
    (hQ : ∀ h', IsZip h' z TI TO (rawInt s.heap.objs.size) → isTup h' TO xs → (∀ g ∈ gs, legIt g.t h' g.it g.l (k + 1)) → isTup h' s.heap.objs.size xs → h'.objs.size = s.heap.objs.size + 1 →
      (∀ c o, c ∉ z :: TO :: gs.map (·.it) → s.heap.get? c = some o → h'.get? c = some o) → Q (.ref s.heap.objs.size) { s with heap := h' }) :
    wpAny (model prog w) A (Builtin.«zip.__next__» ⟨[.ref z], []⟩) (fun fin s' => ∃ v, fin = .done (.ret v) ∧ Q v s') E s := by
  show wpAny _ _ (field (.ref z) 2 >>= _) _ _ _
  refine wpAny_bind (wpAny_field hz rfl (x := .bool false) rfl ?_)
  show wpAny _ _ (field (.ref z) 3 >>= _) _ _ _
  refine wpAny_bind (wpAny_field hz rfl (x := .ref TI) rfl ?_)
  refine wpAny_bind (wpAny_seqItems hTI rfl ?_)
  have hemp : ((gs.map fun g => Value.ref g.it).toArray.isEmpty) = false := by
    cases gs with
    | nil => exact absurd rfl hne
    | cons a b => simp
  simp only [hemp]
  show wpAny _ _ (Builtin.SmallTypes.ownedTupleIsFree (.ref z) >>= _) _ _ _
  refine wpAny_bind ?_
  unfold Builtin.SmallTypes.ownedTupleIsFree
  refine wpAny_bind (wpAny_field hz rfl (x := .none) rfl (wpAny_pure ?_))
  simp only [if_true]
  refine wpAny_bind (wpAny_rule ?_)
  refine wpAny_bind (wpAny_field hz rfl (x := .ref TO) rfl ?_)
  refine wpAny_bind (wpAny_setField_rec hz (by simp) fun h₁ hz₁ hs₁ => ?_)
  replace hz₁ : IsZip h₁ z TI TO .ellipsis := hz₁
  refine wpAny_bind ?_
  have e0 : (gs.map fun g => Value.ref g.it).toArray.toList.zipIdx = (gs.map fun g => Value.ref g.it).zipIdx ([] : List Value).length := rfl
  rw [e0]
  refine legs_item (E' := fun e s1 => wpAny (model prog w) A (setField (.ref z) 0 .none) (fun _ s2 => E e s2) E s1) (TO := TO) (k := k) (fun it j s Q h => ?_) gs xs vs [] _ _ (legX_mv hx fun g hg o e => hs₁.extBut _ _ (D.lz hg) e) hv (by rw [List.length_nil, Nat.zero_add]; exact hvl) (hs₁.extBut _ _ D.TOz hTO)
    (fun g hg => legIt_mv (hi g hg) fun o e => hs₁.extBut _ _ (D.iz hg) e) D.nd' D.ll' fun h₅ hTO₅ hi₅ hsz hk₅ => ?_
  · refine wpAny_bind (wpAny_onRaise ?_)
    show wpAny _ _ (Builtin.SmallTypes.nextOf (.ref it) >>= _) _ _ _
    refine wpAny_bind (wpAny_mono h (fun x s1 p => ?_) fun _ _ e => e)
    refine wpAny_pure ?_
    obtain ⟨kept, ks, t, p⟩ := p
    refine wpAny_bind (wpAny_seqItems t rfl ?_)
    refine wpAny_bind (wpAny_updateSeq t rfl (hz := by simpa using ks) (_hz' := Nat.le_succ_of_le (by simpa using ks)) ?_)
    refine wpAny_bind (wpAny_letGo (wpAny_pure ?_))
    refine p _ ?_ (Heap.SameBut.update ..)
    rw [isTup, Heap.get?_update_self _ t rfl]
    simp [Obj.mapSeq]
  have hTO₅ : isTup h₅ TO xs := hTO₅
  refine wpAny_bind (wpAny_seqItems hTO₅ rfl ?_)
  refine wpAny_bind (wpAny_newTuple (hsz := by simpa using hsl) ?_)
  have hsz : h₅.objs.size = s.heap.objs.size := hsz.trans hs₁.1
  have hz₅ : IsZip h₅ z TI TO .ellipsis := hk₅ _ _ D.zn hz₁
  have hzlt : z < h₅.objs.size := Heap.lt_size hz₅
  show wpAny _ _ (Builtin.SmallTypes.ownedTupleHandOut (.ref z) (.ref h₅.objs.size) >>= _) _ _ _
  refine wpAny_bind ?_
  unfold Builtin.SmallTypes.ownedTupleHandOut
  have hz₆ : IsZip (h₅.push { cls := .type "tuple", data := .seq xs.toArray }) z TI TO .ellipsis := Heap.get?_push_of_some _ hz₅
  refine wpAny_bind (wpAny_setField_rec hz₆ (by simp) fun h₇ hz₇ hs₇ => ?_)
  replace hz₇ : IsZip h₇ z TI TO (rawInt h₅.objs.size) := hz₇
  refine wpAny_setField_rec hz₇ (by simp) fun h₈ hz₈ hs₈ => ?_
  replace hz₈ : IsZip h₈ z TI TO (rawInt h₅.objs.size) := hz₈
  have up : ∀ c o, c ≠ z → h₅.get? c = some o → h₈.get? c = some o := fun c o c1 e => hs₈.extBut _ _ c1 (hs₇.extBut _ _ c1 (Heap.get?_push_of_some _ e))
  have hT₈ : isTup h₈ h₅.objs.size xs := hs₈.extBut _ _ (Nat.ne_of_gt hzlt) (hs₇.extBut _ _ (Nat.ne_of_gt hzlt) (Heap.get?_push_size _ rfl))
  have hz8 : h₈.objs.size = h₅.objs.size + 1 := by rw [hs₈.1, hs₇.1, Heap.size_push]
  rw [hsz] at hz₈ hT₈ hz8
  refine wpAny_pure ⟨_, rfl, ?_⟩
  show Q (.ref h₅.objs.size) _
  rw [hsz]
  exact hQ h₈ hz₈ (up _ _ D.TOz hTO₅) (fun g hg => legIt_mv (hi₅ g hg) fun o e => up _ o (D.iz hg) e) hT₈ hz8 fun c o hc e =>
    up c o (fun q => hc (by rw [q]; simp)) (hk₅ c o (fun q => hc (List.mem_cons_of_mem _ q)) (hs₁.extBut _ _ (fun q => hc (by rw [q]; simp)) e))
theorem zn_end {z TI TO : Addr} {gs : List Leg} {k : Nat} {vs : List Value} {Q : Fin → Shared → Prop} (hh : A.handled = none) (D : ZApart z TI TO gs) (hne : gs ≠ []) (hvl : vs.length ≤ sizeLine)
    (hz : IsZip s.heap z TI TO .none) (hTI : isTup s.heap TI (gs.map fun g => .ref g.it)) (hTO : isTup s.heap TO vs) (hv : vs.length = gs.length)
    (hi : ∀ g ∈ gs, legIt g.t s.heap g.it g.l k) (ha : ∀ g ∈ gs, ∃ its, legOf g.t s.heap g.l its) (hx : ∃ g ∈ gs, ∀ its, legOf g.t s.heap g.l its → its[k]? = none)
    (hE : ∀ h' e, (∀ c o, c ∉ z :: TO :: gs.map (·.it) → s.heap.get? c = some o → h'.get? c = some o) → (∃ o, h'.get? e = some o ∧ o.cls = .type "StopIteration") → E (.ref e) { s with heap := h' }) :
    wpAny (model prog w) A (Builtin.«zip.__next__» ⟨[.ref z], []⟩) Q E s := by
  show wpAny _ _ (field (.ref z) 2 >>= _) _ _ _
  refine wpAny_bind (wpAny_field hz rfl (x := .bool false) rfl ?_)
  show wpAny _ _ (field (.ref z) 3 >>= _) _ _ _
  refine wpAny_bind (wpAny_field hz rfl (x := .ref TI) rfl ?_)
  refine wpAny_bind (wpAny_seqItems hTI rfl ?_)
  have hemp : ((gs.map fun g => Value.ref g.it).toArray.isEmpty) = false := by
    cases gs with
    | nil => exact absurd rfl hne
    | cons a b => simp
  simp only [hemp]
  show wpAny _ _ (Builtin.SmallTypes.ownedTupleIsFree (.ref z) >>= _) _ _ _
  refine wpAny_bind ?_
  unfold Builtin.SmallTypes.ownedTupleIsFree
  refine wpAny_bind (wpAny_field hz rfl (x := .none) rfl (wpAny_pure ?_))
  simp only [if_true]
  refine wpAny_bind (wpAny_rule ?_)
  refine wpAny_bind (wpAny_field hz rfl (x := .ref TO) rfl ?_)
  refine wpAny_bind (wpAny_setField_rec hz (by simp) fun h₁ hz₁ hs₁ => ?_)
  replace hz₁ : IsZip h₁ z TI TO .ellipsis := hz₁
  refine wpAny_bind ?_
  have e0 : (gs.map fun g => Value.ref g.it).toArray.toList.zipIdx = (gs.map fun g => Value.ref g.it).zipIdx ([] : List Value).length := rfl
  rw [e0]
  refine legs_end (E' := fun e s1 => wpAny (model prog w) A (setField (.ref z) 0 .none) (fun _ s2 => E e s2) E s1) (TO := TO) (k := k) hh (fun it j s Q h => ?_) gs vs [] _ _ (fun g hg => ?_) ?_ hv (by rw [List.length_nil, Nat.zero_add]; exact hvl) (hs₁.extBut _ _ D.TOz hTO)
    (fun g hg => legIt_mv (hi g hg) fun o e => hs₁.extBut _ _ (D.iz hg) e) D.nd' D.ll' fun h₅ e hk₅ he => ?_
  · refine wpAny_bind (wpAny_onRaise ?_)
    show wpAny _ _ (Builtin.SmallTypes.nextOf (.ref it) >>= _) _ _ _
    refine wpAny_bind (wpAny_mono h (fun x s1 p => ?_) fun _ _ e => e)
    refine wpAny_pure ?_
    obtain ⟨kept, ks, t, p⟩ := p
    refine wpAny_bind (wpAny_seqItems t rfl ?_)
    refine wpAny_bind (wpAny_updateSeq t rfl (hz := by simpa using ks) (_hz' := Nat.le_succ_of_le (by simpa using ks)) ?_)
    refine wpAny_bind (wpAny_letGo (wpAny_pure ?_))
    refine p _ ?_ (Heap.SameBut.update ..)
    rw [isTup, Heap.get?_update_self _ t rfl]
    simp [Obj.mapSeq]
  · obtain ⟨its, p⟩ := ha g hg
    exact ⟨its, legOf_mv p fun o e => hs₁.extBut _ _ (D.lz hg) e⟩
  · obtain ⟨g, hg, p⟩ := hx
    refine ⟨g, hg, fun its o' => p its (legOf_mv o' fun o e => ?_)⟩
    rw [← hs₁.2 _ (D.lz hg)]
    exact e
  · obtain ⟨oe, hoe, hce⟩ := he
    have hz₂ : IsZip h₅ z TI TO .ellipsis := hk₅ _ _ D.zn hz₁
    have hez : e ≠ z := fun x => by subst x; rw [hz₂] at hoe; cases hoe; simp at hce
    refine wpAny_setField_rec hz₂ (by simp) fun h₃ _ hs₃ => hE h₃ e (fun c o hc x => hs₃.extBut _ _ (fun q => hc (by rw [q]; simp)) (hk₅ c o (fun q => hc (List.mem_cons_of_mem _ q)) (hs₁.extBut _ _ (fun q => hc (by rw [q]; simp)) x))) ⟨oe, hs₃.extBut _ _ hez hoe, hce⟩
theorem pyNext_zn_item {z TI TO : Addr} {gs : List Leg} {k : Nat} {vs xs : List Value} {Q : Option Value → Shared → Prop} (D : ZApart z TI TO gs) (hne : gs ≠ []) (hvl : vs.length ≤ sizeLine) (hsl : xs.length ≤ sizeLine)
    (hz : IsZip s.heap z TI TO .none) (hTI : isTup s.heap TI (gs.map fun g => .ref g.it)) (hTO : isTup s.heap TO vs) (hv : vs.length = gs.length)
    (hi : ∀ g ∈ gs, legIt g.t s.heap g.it g.l k) (hx : LegX s.heap k gs xs)
    (hQ : ∀ h', IsZip h' z TI TO (rawInt s.heap.objs.size) → isTup h' TO xs → (∀ g ∈ gs, legIt g.t h' g.it g.l (k + 1)) → isTup h' s.heap.objs.size xs → h'.objs.size = s.heap.objs.size + 1 →
      (∀ c o, c ∉ z :: TO :: gs.map (·.it) → s.heap.get? c = some o → h'.get? c = some o) → Q (some (.ref s.heap.objs.size)) { s with heap := h' }) :
    wpAny (model prog w) A (pyNext (.ref z)) Q E s := by
  have hT : s.TypeIs (.ref z) "zip" := ⟨_, hz, rfl⟩
  unfold pyNext
  exact wpAny_bind (wpAny_attempt (wpAny_callSpecial?_slot (name := Str.ofString "__next__") hT F.slot_zip_next
    (wpAny_call_entry F.slot_zip_next hT F.entry_zip_next
      (zn_item D hne hvl hsl hz hTI hTO hv hi hx fun h' a1 a2 a3 a5 a6 a7 => wpAny_pure (hQ h' a1 a2 a3 a5 a6 a7)) (F.args_zip_next_1 _))))
theorem pyNext_zn_end {z TI TO : Addr} {gs : List Leg} {k : Nat} {vs : List Value} {Q : Option Value → Shared → Prop} (hh : A.handled = none) (D : ZApart z TI TO gs) (hne : gs ≠ []) (hvl : vs.length ≤ sizeLine)
    (hz : IsZip s.heap z TI TO .none) (hTI : isTup s.heap TI (gs.map fun g => .ref g.it)) (hTO : isTup s.heap TO vs) (hv : vs.length = gs.length)
    (hi : ∀ g ∈ gs, legIt g.t s.heap g.it g.l k) (ha : ∀ g ∈ gs, ∃ its, legOf g.t s.heap g.l its) (hx : ∃ g ∈ gs, ∀ its, legOf g.t s.heap g.l its → its[k]? = none)
    (hQ : ∀ h', (∀ c o, c ∉ z :: TO :: gs.map (·.it) → s.heap.get? c = some o → h'.get? c = some o) → Q none { s with heap := h' }) : wpAny (model prog w) A (pyNext (.ref z)) Q E s := by
  have hT : s.TypeIs (.ref z) "zip" := ⟨_, hz, rfl⟩
  unfold pyNext
  refine wpAny_bind (wpAny_attempt (wpAny_callSpecial?_slot (name := Str.ofString "__next__") hT F.slot_zip_next
    (wpAny_call_entry F.slot_zip_next hT F.entry_zip_next (zn_end hh D hne hvl hz hTI hTO hv hi ha hx fun h' e hk he => ?_) (F.args_zip_next_1 _))))
  obtain ⟨o, ho, hc⟩ := he
  refine wpAny_bind (wpAny_isInstance (T := "StopIteration") (b := true) ⟨o, ho, hc⟩ isSubtype_stop ?_)
  exact wpAny_pure (hQ _ hk)
end
abbrev zitO (t : Bool) (l : Addr) : Obj := { cls := .type (if t = true then "tuple_iterator" else "list_iterator"), data := .fields #[.ref l, .int 0 0] }
theorem zitO_it {t : Bool} {h : Heap} {it l : Addr} (e : h.get? it = some (zitO t l)) : legIt t h it l 0 := by
  cases t
  · exact ⟨_, e, rfl, rfl⟩
  · exact ⟨_, e, rfl, rfl⟩
theorem legOf_push {t : Bool} {h : Heap} {l : Addr} {its : Array Value} (a : legOf t h l its) (o : Obj) : legOf t (h.push o) l its := legOf_mv a fun _ e => Heap.get?_push_of_some _ e
abbrev z2H (h : Heap) (t1 t2 : Bool) (l1 l2 : Addr) : Heap := (h.push (zitO t1 l1)).push (zitO t2 l2)
abbrev z2H3 (h : Heap) (t1 t2 : Bool) (l1 l2 : Addr) : Heap := (z2H h t1 t2 l1 l2).push { cls := .type "tuple", data := .seq #[.ref h.objs.size, .ref (h.push (zitO t1 l1)).objs.size] }
abbrev z2H4 (h : Heap) (t1 t2 : Bool) (l1 l2 : Addr) : Heap := (z2H3 h t1 t2 l1 l2).push { cls := .type "tuple", data := .seq #[.none, .none] }
abbrev z2H5 (h : Heap) (t1 t2 : Bool) (l1 l2 : Addr) : Heap := (z2H4 h t1 t2 l1 l2).push { cls := .type "zip", data := .fields #[.none, .bool false, .bool false, .ref (z2H h t1 t2 l1 l2).objs.size, .ref (z2H3 h t1 t2 l1 l2).objs.size] }
theorem meets_z2 (t1 t2 : Bool) (l1 l2 : Addr) (xs ys : Array Value) :
    Meets (Builtin.«zip.__new__» ⟨[.type "zip", .ref l1, .ref l2], []⟩) (fun _ R s => legOf t1 s.heap l1 xs ∧ legOf t2 s.heap l2 ys ∧
      R (.ok (.ret (.ref (z2H4 s.heap t1 t2 l1 l2).objs.size))) { s with heap := z2H5 s.heap t1 t2 l1 l2 }) :=
  .of_wp fun prog w A R s h => by
    obtain ⟨hp, g, d, tk, os⟩ := s; obtain ⟨hl1, hl2, h⟩ := h
    have hsub := sub_zip
    have hL1 : legOf t1 (Shared.heap ⟨hp, g, d, tk, os⟩) l1 xs := hl1
    have hL2 : legOf t2 (Shared.heap ⟨hp.push (zitO t1 l1), g, d, tk, os⟩) l2 ys := legOf_push hl2 _
    wp_walk using leg_iter hL1, leg_iter hL2
    exact ⟨_, rfl, h⟩
abbrev z3H (h : Heap) (t1 t2 t3 : Bool) (l1 l2 l3 : Addr) : Heap := (z2H h t1 t2 l1 l2).push (zitO t3 l3)
abbrev z3H3 (h : Heap) (t1 t2 t3 : Bool) (l1 l2 l3 : Addr) : Heap := (z3H h t1 t2 t3 l1 l2 l3).push { cls := .type "tuple", data := .seq #[.ref h.objs.size, .ref (h.push (zitO t1 l1)).objs.size, .ref (z2H h t1 t2 l1 l2).objs.size] }
abbrev z3H4 (h : Heap) (t1 t2 t3 : Bool) (l1 l2 l3 : Addr) : Heap := (z3H3 h t1 t2 t3 l1 l2 l3).push { cls := .type "tuple", data := .seq #[.none, .none, .none] }
abbrev z3H5 (h : Heap) (t1 t2 t3 : Bool) (l1 l2 l3 : Addr) : Heap := (z3H4 h t1 t2 t3 l1 l2 l3).push { cls := .type "zip", data := .fields #[.none, .bool false, .bool false, .ref (z3H h t1 t2 t3 l1 l2 l3).objs.size, .ref (z3H3 h t1 t2 t3 l1 l2 l3).objs.size] }
theorem meets_z3 (t1 t2 t3 : Bool) (l1 l2 l3 : Addr) (xs ys zs : Array Value) :
    Meets (Builtin.«zip.__new__» ⟨[.type "zip", .ref l1, .ref l2, .ref l3], []⟩) (fun _ R s => legOf t1 s.heap l1 xs ∧ legOf t2 s.heap l2 ys ∧ legOf t3 s.heap l3 zs ∧
      R (.ok (.ret (.ref (z3H4 s.heap t1 t2 t3 l1 l2 l3).objs.size))) { s with heap := z3H5 s.heap t1 t2 t3 l1 l2 l3 }) :=
  .of_wp fun prog w A R s h => by
    obtain ⟨hp, g, d, tk, os⟩ := s; obtain ⟨hl1, hl2, hl3, h⟩ := h
    have hsub := sub_zip
    have hL1 : legOf t1 (Shared.heap ⟨hp, g, d, tk, os⟩) l1 xs := hl1
    have hL2 : legOf t2 (Shared.heap ⟨hp.push (zitO t1 l1), g, d, tk, os⟩) l2 ys := legOf_push hl2 _
    have hL3 : legOf t3 (Shared.heap ⟨(hp.push (zitO t1 l1)).push (zitO t2 l2), g, d, tk, os⟩) l3 zs := legOf_push (legOf_push hl3 _) _
    wp_walk using leg_iter hL1, leg_iter hL2, leg_iter hL3
    exact ⟨_, rfl, h⟩
theorem tcall_zip3 (a b c : Value) : checkTypeCall "zip" ⟨[a, b, c], []⟩ = pure () := by kernel_rfl
theorem ncall_zip3 (a b c : Value) : checkBuiltinCall "zip.__new__" ⟨[.type "zip", a, b, c], []⟩ = pure () := by kernel_rfl
theorem args_oinit4 (a b c d : Value) : argsOk "object.__init__" ⟨[a, b, c, d], []⟩ := by
  unfold argsOk; rw [signature?_of (id := "object.__init__") (n := ['_', '_', 't', 'i', 'n', 'i', '_', '_']) (o := ['t', 'c', 'e', 'j', 'b', 'o']) (by kernel_rfl) F.owner_object]; kernel_rfl
section
variable {prog : Program} {w : World} {A : Around} {E : Value → Shared → Prop} {s : Shared}
/-- the legs of a call, laid from n on -/
def legsAt : Nat → List (Bool × Addr) → List Leg
  | _, [] => []
  | n, p :: ps => ⟨p.1, p.2, n⟩ :: legsAt (n + 1) ps
def ZipCall (n : Nat) (prog : Program) (w : World) (A : Around) : Prop := ∀ (E : Value → Shared → Prop) (s : Shared) (ls : List (Bool × Addr)) (Q : Value → Shared → Prop), ls.length = n → (∀ p ∈ ls, ∃ its, legOf p.1 s.heap p.2 its) →
    (∀ h', IsZip h' (s.heap.objs.size + n + 2) (s.heap.objs.size + n) (s.heap.objs.size + n + 1) .none → isTup h' (s.heap.objs.size + n) ((legsAt s.heap.objs.size ls).map fun g => .ref g.it) →
      isTup h' (s.heap.objs.size + n + 1) (List.replicate n .none) → (∀ g ∈ legsAt s.heap.objs.size ls, legIt g.t h' g.it g.l 0) →
      (∀ c o, s.heap.get? c = some o → h'.get? c = some o) → Q (.ref (s.heap.objs.size + n + 2)) { s with heap := h' }) →
    wpAny (model prog w) A (call (.type "zip") (ls.map fun p => .ref p.2)) Q E s
theorem zipCall2 : ZipCall 2 prog w A := by
  intro E s ls Q hl ha h
  match ls, hl with
  | [(t1, l1), (t2, l2)], _ =>
    obtain ⟨i1, a1⟩ := ha _ (List.mem_cons_self ..)
    obtain ⟨i2, a2⟩ := ha _ (List.mem_cons_of_mem _ (List.mem_cons_self ..))
    refine callType_new F.called_zip (by decide) (F.typeCall_zip_2 _ _) (F.newCall_zip_2 _ _) (fun obj => F.args_object_init_3 obj _ _) F.entry_zip_new
      (meets_z2 t1 t2 l1 l2 i1 i2) ⟨a1, a2, ?_⟩
    have z1 : (s.heap.push (zitO t1 l1)).objs.size = s.heap.objs.size + 1 := Heap.size_push ..
    have z2 : (z2H s.heap t1 t2 l1 l2).objs.size = s.heap.objs.size + 2 := by rw [Heap.size_push, z1]
    have z3 : (z2H3 s.heap t1 t2 l1 l2).objs.size = s.heap.objs.size + 2 + 1 := by rw [Heap.size_push, z2]
    have z4 : (z2H4 s.heap t1 t2 l1 l2).objs.size = s.heap.objs.size + 2 + 2 := by rw [Heap.size_push, z3]
    have g5 : (z2H5 s.heap t1 t2 l1 l2).get? (z2H4 s.heap t1 t2 l1 l2).objs.size = some _ := Heap.get?_push_size _ rfl
    have g4 : (z2H5 s.heap t1 t2 l1 l2).get? (z2H3 s.heap t1 t2 l1 l2).objs.size = some _ := Heap.get?_push_of_some _ (Heap.get?_push_size _ rfl)
    have g3 : (z2H5 s.heap t1 t2 l1 l2).get? (z2H s.heap t1 t2 l1 l2).objs.size = some _ := Heap.get?_push_of_some _ (Heap.get?_push_of_some _ (Heap.get?_push_size _ rfl))
    have g2 : (z2H5 s.heap t1 t2 l1 l2).get? (s.heap.push (zitO t1 l1)).objs.size = some _ := Heap.get?_push_of_some _ (Heap.get?_push_of_some _ (Heap.get?_push_of_some _ (Heap.get?_push_size _ rfl)))
    have g1 : (z2H5 s.heap t1 t2 l1 l2).get? s.heap.objs.size = some _ := Heap.get?_push_of_some _ (Heap.get?_push_of_some _ (Heap.get?_push_of_some _ (Heap.get?_push_of_some _ (Heap.get?_push_size _ rfl))))
    show _ ∧ _
    rw [z2, z3, z4] at g5
    rw [z1, z2] at g3
    rw [z3] at g4
    rw [z1] at g2
    rw [z4]
    refine ⟨⟨_, g5, rfl⟩, h _ g5 g3 g4 (fun g hg => ?_) fun c o x =>
      Heap.get?_push_of_some _ (Heap.get?_push_of_some _ (Heap.get?_push_of_some _ (Heap.get?_push_of_some _ (Heap.get?_push_of_some _ x))))⟩
    have hg : g = ⟨t1, l1, s.heap.objs.size⟩ ∨ g = ⟨t2, l2, s.heap.objs.size + 1⟩ := by simpa [legsAt] using hg
    rcases hg with rfl | rfl
    · exact zitO_it g1
    · exact zitO_it g2
theorem zipCall3 : ZipCall 3 prog w A := by
  intro E s ls Q hl ha h
  match ls, hl with
  | [(t1, l1), (t2, l2), (t3, l3)], _ =>
    obtain ⟨i1, a1⟩ := ha _ (List.mem_cons_self ..)
    obtain ⟨i2, a2⟩ := ha _ (List.mem_cons_of_mem _ (List.mem_cons_self ..))
    obtain ⟨i3, a3⟩ := ha _ (List.mem_cons_of_mem _ (List.mem_cons_of_mem _ (List.mem_cons_self ..)))
    refine callType_new F.called_zip (by decide) (tcall_zip3 _ _ _) (ncall_zip3 _ _ _) (fun obj => args_oinit4 obj _ _ _) F.entry_zip_new
      (meets_z3 t1 t2 t3 l1 l2 l3 i1 i2 i3) ⟨a1, a2, a3, ?_⟩
    have z1 : (s.heap.push (zitO t1 l1)).objs.size = s.heap.objs.size + 1 := Heap.size_push ..
    have z2 : (z2H s.heap t1 t2 l1 l2).objs.size = s.heap.objs.size + 2 := by rw [Heap.size_push, z1]
    have z2' : (z3H s.heap t1 t2 t3 l1 l2 l3).objs.size = s.heap.objs.size + 3 := by rw [Heap.size_push, z2]
    have z3 : (z3H3 s.heap t1 t2 t3 l1 l2 l3).objs.size = s.heap.objs.size + 3 + 1 := by rw [Heap.size_push, z2']
    have z4 : (z3H4 s.heap t1 t2 t3 l1 l2 l3).objs.size = s.heap.objs.size + 3 + 2 := by rw [Heap.size_push, z3]
    have g5 : (z3H5 s.heap t1 t2 t3 l1 l2 l3).get? (z3H4 s.heap t1 t2 t3 l1 l2 l3).objs.size = some _ := Heap.get?_push_size _ rfl
    have g4 : (z3H5 s.heap t1 t2 t3 l1 l2 l3).get? (z3H3 s.heap t1 t2 t3 l1 l2 l3).objs.size = some _ := Heap.get?_push_of_some _ (Heap.get?_push_size _ rfl)
    have g3 : (z3H5 s.heap t1 t2 t3 l1 l2 l3).get? (z3H s.heap t1 t2 t3 l1 l2 l3).objs.size = some _ := Heap.get?_push_of_some _ (Heap.get?_push_of_some _ (Heap.get?_push_size _ rfl))
    have g2' : (z3H5 s.heap t1 t2 t3 l1 l2 l3).get? (z2H s.heap t1 t2 l1 l2).objs.size = some _ := Heap.get?_push_of_some _ (Heap.get?_push_of_some _ (Heap.get?_push_of_some _ (Heap.get?_push_size _ rfl)))
    have g2 : (z3H5 s.heap t1 t2 t3 l1 l2 l3).get? (s.heap.push (zitO t1 l1)).objs.size = some _ := Heap.get?_push_of_some _ (Heap.get?_push_of_some _ (Heap.get?_push_of_some _ (Heap.get?_push_of_some _ (Heap.get?_push_size _ rfl))))
    have g1 : (z3H5 s.heap t1 t2 t3 l1 l2 l3).get? s.heap.objs.size = some _ := Heap.get?_push_of_some _ (Heap.get?_push_of_some _ (Heap.get?_push_of_some _ (Heap.get?_push_of_some _ (Heap.get?_push_of_some _ (Heap.get?_push_size _ rfl)))))
    show _ ∧ _
    rw [z2', z3, z4] at g5
    rw [z1, z2, z2'] at g3
    rw [z3] at g4
    rw [z2] at g2'
    rw [z1] at g2
    rw [z4]
    refine ⟨⟨_, g5, rfl⟩, h _ g5 g3 g4 (fun g hg => ?_) fun c o x =>
      Heap.get?_push_of_some _ (Heap.get?_push_of_some _ (Heap.get?_push_of_some _ (Heap.get?_push_of_some _ (Heap.get?_push_of_some _ (Heap.get?_push_of_some _ x)))))⟩
    have hg : g = ⟨t1, l1, s.heap.objs.size⟩ ∨ g = ⟨t2, l2, s.heap.objs.size + 1⟩ ∨ g = ⟨t3, l3, s.heap.objs.size + 1 + 1⟩ := by simpa [legsAt] using hg
    rcases hg with rfl | rfl | rfl
    · exact zitO_it g1
    · exact zitO_it g2
    · exact zitO_it g2'
end
end VL

/-! the value layer, twenty-fourth part: zip of lists and tuples in any mix, as readings -/
set_option Elab.async false
set_option linter.all false
set_option maxRecDepth 100000
set_option maxHeartbeats 1000000
namespace VL
open PySem PySem.Spec PyProof.Rows L2
open Evl (Ex ex_l ex_t)
theorem legOf_inj {t : Bool} {h : Heap} {l : Addr} {a b : Array Value} (x : legOf t h l a) (y : legOf t h l b) : a = b := by
  cases t
  · obtain ⟨o, e, _, n, d⟩ := (show h.IsList l a from x)
    obtain ⟨o', e', _, n', d'⟩ := (show h.IsList l b from y)
    rw [e] at e'; cases e'
    rw [d] at d'
    injection d'
  · obtain ⟨o, e, _, n, d⟩ := (show h.IsTuple l a from x)
    obtain ⟨o', e', _, n', d'⟩ := (show h.IsTuple l b from y)
    rw [e] at e'; cases e'
    rw [d] at d'
    injection d'
def sqK (K : PySem.W.Frag) (H : Hp) (t : Bool) (l : Addr) (xs : List V) : Prop := if t = true then SqT K H l xs else SqL K H l xs
inductive SqA (K : PySem.W.Frag) (H : Hp) : List (Bool × Addr) → List (List V) → Prop
  | nil : SqA K H [] []
  | cons {p : Bool × Addr} {ps : List (Bool × Addr)} {xs : List V} {xss : List (List V)} : sqK K H p.1 p.2 xs → SqA K H ps xss → SqA K H (p :: ps) (xs :: xss)
section
variable {X : Cx} {pins : List (Addr × Obj)} {σ : L2.St} {H : Hp} {s : Shared}
theorem sqK_of (I : Inv X pins σ H s) {t : Bool} {l : Addr} {xs : List V} (h : sqK X.K H t l xs) : ∃ its : List Value, Vals xs its ∧ legOf t s.heap l its.toArray ∧ l < s.heap.objs.size := by
  cases t
  · obtain ⟨its, r, p, _⟩ := I.list (show SqL X.K H l xs from h)
    exact ⟨its, r, p.isList, p.lt⟩
  · obtain ⟨its, r, p, _⟩ := I.tuple (show SqT X.K H l xs from h)
    obtain ⟨o, ho, _⟩ := id p
    exact ⟨its, r, p, Heap.lt_size ho⟩
theorem sqK_inj (I : Inv X pins σ H s) {t : Bool} {l : Addr} {xs ys : List V} (h : sqK X.K H t l xs) (h' : sqK X.K H t l ys) : xs = ys := by
  cases t
  · exact I.list_inj h h'
  · exact I.tuple_inj h h'
theorem sqA_inj (I : Inv X pins σ H s) : ∀ {ls : List (Bool × Addr)} {a b : List (List V)}, SqA X.K H ls a → SqA X.K H ls b → a = b
  | [], _, _, x, y => by cases x; cases y; rfl
  | _ :: _, _, _, x, y => by
    cases x with
    | cons x1 x2 =>
      cases y with
      | cons y1 y2 => rw [sqK_inj I x1 y1, sqA_inj I x2 y2]
theorem sqA_legX (I : Inv X pins σ H s) {i : Nat} : ∀ {gs : List Leg} {xss : List (List V)} {xs : List V}, SqA X.K H (gs.map fun g => (g.t, g.l)) xss → xss.map (fun a => a[i]?) = xs.map some → ∃ us, LegX s.heap i gs us ∧ Vals xs us
  | [], xss, xs, h, e => by
    cases h
    cases xs with
    | nil => exact ⟨[], .nil, .nil⟩
    | cons a b => simp at e
  | g :: gs, xss, xs, h, e => by
    cases h with
    | @cons _ _ ys yss a b =>
      cases xs with
      | nil => simp at e
      | cons x xs =>
        rw [List.map_cons, List.map_cons, List.cons.injEq] at e
        obtain ⟨its, r, p, _⟩ := sqK_of I a
        obtain ⟨u, hu, ru⟩ := r.get e.1
        obtain ⟨us, q1, q2⟩ := sqA_legX I b e.2
        exact ⟨u :: us, .cons p (by simpa using hu) q1, .cons ru q2⟩
theorem sqA_legOf (I : Inv X pins σ H s) : ∀ {ls : List (Bool × Addr)} {xss : List (List V)}, SqA X.K H ls xss → ∀ p ∈ ls, (∃ its, legOf p.1 s.heap p.2 its) ∧ p.2 < s.heap.objs.size
  | [], _, _, p, hp => by simp at hp
  | q :: ls, _, h, p, hp => by
    cases h with
    | cons a b =>
      rcases List.mem_cons.mp hp with z | z
      · rw [z]
        obtain ⟨its, _, p, l⟩ := sqK_of I a
        exact ⟨⟨_, p⟩, l⟩
      · exact sqA_legOf I b p z
theorem sqA_end (I : Inv X pins σ H s) {i : Nat} : ∀ {gs : List Leg} {xss : List (List V)}, SqA X.K H (gs.map fun g => (g.t, g.l)) xss → (∃ xs ∈ xss, xs[i]? = none) → ∃ g ∈ gs, ∀ its, legOf g.t s.heap g.l its → its[i]? = none
  | [], _, h, e => by
    cases h
    obtain ⟨_, h, _⟩ := e
    simp at h
  | g :: gs, _, h, e => by
    cases h with
    | @cons _ _ ys yss a b =>
      obtain ⟨xs, hx, e⟩ := e
      rcases List.mem_cons.mp hx with z | z
      · refine ⟨g, List.mem_cons_self .., fun its o => ?_⟩
        obtain ⟨its', r, p, _⟩ := sqK_of I a
        rw [legOf_inj o p]
        rw [z] at e
        have l := r.length
        have e := List.getElem?_eq_none_iff.mp e
        simp
        omega
      · obtain ⟨g', hg, q⟩ := sqA_end I b ⟨xs, z, e⟩
        exact ⟨g', List.mem_cons_of_mem _ hg, q⟩
end
def ItzN (K : PySem.W.Frag) (ls : List (Bool × Addr)) : It :=
  ⟨fun i H => ∃ (xss : List (List V)) (xs : List V), SqA K H ls xss ∧ xss.map (fun a => a[i]?) = xs.map some,
    fun i H v H' => ∃ T xs, v = .ref T ∧ H T = none ∧ H' = upd H T (.tup xs) ∧ ∀ xss, SqA K H ls xss → xss.map (fun a => a[i]?) = xs.map some,
    fun i H => ∃ xss, SqA K H ls xss ∧ ∃ xs ∈ xss, xs[i]? = none⟩
theorem legX_len {h : Heap} {i : Nat} {gs : List Leg} {us : List Value} (a : LegX h i gs us) : us.length = gs.length := by
  induction a with
  | nil => rfl
  | cons _ _ _ ih => rw [List.length_cons, List.length_cons, ih]
theorem turn_zN {P : Program} {w : World} {K : PySem.W.Frag} {elts : List Expr} {kk : Nat} {tpos : Pos} {z TI TO : Addr} {gs : List Leg} (D : ZApart z TI TO gs) (hne : gs ≠ []) (hn : gs.length ≤ 100) :
    Turn P w K (.Tuple elts kk tpos) (ItzN K (gs.map fun g => (g.t, g.l))) (z :: TI :: TO :: gs.map (·.it)) z (fun i h => IsZip h z TI TO .none ∧ isTup h TI (gs.map fun g => .ref g.it) ∧ (∃ vs, isTup h TO vs ∧ vs.length = gs.length) ∧ ∀ g ∈ gs, legIt g.t h g.it g.l i) where
  mem := by simp
  obj := fun i h st c hc => by
    obtain ⟨hz, hTI, ⟨vs, hTO, _⟩, hi⟩ := st
    rcases List.mem_cons.mp hc with q | hc
    · rw [q]; exact ⟨_, hz, fun v q => nomatch q⟩
    rcases List.mem_cons.mp hc with q | hc
    · rw [q]; exact ⟨_, hTI, fun v q => nomatch q⟩
    rcases List.mem_cons.mp hc with q | hc
    · rw [q]; exact ⟨_, hTO, fun v q => nomatch q⟩
    obtain ⟨g, hg, rfl⟩ := List.mem_map.mp hc
    exact legIt_obj (hi g hg)
  keep := fun i h h' st k => by
    obtain ⟨hz, hTI, ⟨vs, hTO, hv⟩, hi⟩ := st
    exact ⟨k z (by simp) _ hz, k TI (by simp) _ hTI, ⟨vs, k TO (by simp) _ hTO, hv⟩, fun g hg => legIt_mv (hi g hg) fun o q => k _ (List.mem_cons_of_mem _ (List.mem_cons_of_mem _ (List.mem_cons_of_mem _ (List.mem_map_of_mem hg)))) o q⟩
  item := by
    intro X hP hw hK hc i pins s σ H E I hf st hg
    subst hP hw hK
    obtain ⟨hz, hTI, ⟨vs, hTO, hv⟩, hi⟩ := st
    obtain ⟨xss, xs, hq, he⟩ := hg
    obtain ⟨us, hx, rv⟩ := sqA_legX I hq he
    have hzl : z < s.heap.objs.size := Heap.lt_size hz
    have ul := legX_len hx
    have sl : (100 : Nat) ≤ sizeLine := by decide
    refine pyNext_zn_item D hne (by omega) (by omega) hz hTI hTO hv hi hx fun h' z' TO' hi' hT hsz hk => ?_
    refine ⟨_, rfl, wpAny_letOwnedTupleGo_zip (s := { s with heap := h' }) z' fun h'' z'' sb => ?_⟩
    have hT2 : isTup h'' s.heap.objs.size us := (sb.2 _ (Nat.ne_of_gt hzl)).trans hT
    have xl := rv.length
    have new : ObjOk X.prog X.w (upd H s.heap.objs.size (.tup xs)) h'' s.heap.objs.size (.tup xs) :=
      ⟨by show xs.length ≤ sizeLine; omega, us, rv, ⟨_, hT2, rfl, _, rfl⟩⟩
    have I1 : Inv X pins σ (upd H s.heap.objs.size (.tup xs)) { s with heap := h'' } :=
      I.turnedNew (t' := s.toks) (ch := z :: TI :: TO :: gs.map (·.it)) (fun c o hb q => (sb.2 c (fun q' => hb (by simp [q']))).trans (hk c o (fun q' => hb (by
        rcases List.mem_cons.mp q' with z | z
        · rw [z]; simp
        · exact List.mem_cons_of_mem _ (List.mem_cons_of_mem _ z))) q)) hf (Nat.le_refl _) new
    refine ⟨.ref s.heap.objs.size, _, I1, rfl, ⟨_, xs, rfl, I.hok.fresh (Nat.le_refl _), rfl, fun l hl => by rw [sqA_inj I hl hq]; exact he⟩, ⟨z'', ?_, ⟨us, ?_, ul⟩, fun g hg => ?_⟩, fun c hcm => ?_⟩
    · exact (sb.2 _ D.TIz).trans (hk _ _ (fun q => by
        rcases List.mem_cons.mp q with q | q
        · exact D.TIz q
        · exact D.TIn q) hTI)
    · exact (sb.2 _ D.TOz).trans TO'
    · exact legIt_mv (hi' g hg) fun o q => (sb.2 _ (D.iz hg)).trans q
    · have hlt : c < s.heap.objs.size := by
        rcases List.mem_cons.mp hcm with q | hcm
        · rw [q]; exact hzl
        rcases List.mem_cons.mp hcm with q | hcm
        · rw [q]; exact Heap.lt_size hTI
        rcases List.mem_cons.mp hcm with q | hcm
        · rw [q]; exact Heap.lt_size hTO
        obtain ⟨g, hg, rfl⟩ := List.mem_map.mp hcm
        obtain ⟨o, e, _⟩ := legIt_obj (hi g hg)
        exact Heap.lt_size e
      rw [upd_ne (Nat.ne_of_lt hlt)]
      exact (hf c hcm).1
  done := by
    intro X hP hw hK hc i pins s σ H E I hf st hg
    subst hP hw hK
    obtain ⟨hz, hTI, ⟨vs, hTO, hv⟩, hi⟩ := st
    obtain ⟨xss, hq, hend⟩ := hg
    have sl : (100 : Nat) ≤ sizeLine := by decide
    refine pyNext_zn_end (I.ok.hd hc) D hne (by omega) hz hTI hTO hv hi (fun g hg => (sqA_legOf I hq _ (List.mem_map_of_mem (f := fun g : Leg => (g.t, g.l)) hg)).1) (sqA_end I hq hend) fun h' hk =>
      ⟨rfl, I.turnedL (t' := s.toks) (ch := z :: TI :: TO :: gs.map (·.it)) (fun c o hb q => hk c o (fun q' => hb (by
        rcases List.mem_cons.mp q' with z | z
        · rw [z]; simp
        · exact List.mem_cons_of_mem _ (List.mem_cons_of_mem _ z))) q) hf⟩
  self := fun A i s Q E st h => wpAny_pyIter_zip st.1 h
theorem legsAt_ls : ∀ (n : Nat) (ls : List (Bool × Addr)), (legsAt n ls).map (fun g => (g.t, g.l)) = ls
  | _, [] => rfl
  | n, p :: ps => by rw [legsAt, List.map_cons, legsAt_ls (n + 1) ps]
theorem legsAt_it : ∀ (n : Nat) (ls : List (Bool × Addr)), (legsAt n ls).map (·.it) = List.range' n ls.length
  | _, [] => rfl
  | n, p :: ps => by rw [legsAt, List.map_cons, legsAt_it (n + 1) ps, List.length_cons, List.range'_succ]
theorem legsAt_len (n : Nat) (ls : List (Bool × Addr)) : (legsAt n ls).length = ls.length := by
  rw [← legsAt_ls n ls, List.length_map, legsAt_ls n ls]
theorem nz1 (l n m : Nat) (h : l < n) (q : l = n + m + 2 ∨ l = n + m ∨ l = n + m + 1 ∨ (n ≤ l ∧ l < n + m)) : False := by omega
theorem nz2 (c n m k : Nat) (q : c = n + m + 2 ∨ c = n + m ∨ c = n + m + 1 ∨ (n ≤ c ∧ c < n + k)) : n ≤ c := by omega
theorem legsAt_apart {n : Nat} {ls : List (Bool × Addr)} (h : ∀ p ∈ ls, p.2 < n) : ZApart (n + ls.length + 2) (n + ls.length) (n + ls.length + 1) (legsAt n ls) := by
  refine ⟨?_, fun g hg => ?_⟩
  · rw [legsAt_it, List.nodup_cons, List.nodup_cons, List.nodup_cons]
    refine ⟨?_, ?_, ?_, List.nodup_range'⟩
    · intro q
      simp only [List.mem_cons, List.mem_range'_1] at q
      have q : (n + ls.length + 2 : Nat) = n + ls.length ∨ (n + ls.length + 2 : Nat) = n + ls.length + 1 ∨ ((n : Nat) ≤ n + ls.length + 2 ∧ (n + ls.length + 2 : Nat) < n + ls.length) := q
      omega
    · intro q
      simp only [List.mem_cons, List.mem_range'_1] at q
      have q : (n + ls.length : Nat) = n + ls.length + 1 ∨ ((n : Nat) ≤ n + ls.length ∧ (n + ls.length : Nat) < n + ls.length) := q
      omega
    · intro q
      simp only [List.mem_range'_1] at q
      have q : ((n : Nat) ≤ n + ls.length + 1 ∧ (n + ls.length + 1 : Nat) < n + ls.length) := q
      omega
  · have hl : g.l < n := by
      have q : (g.t, g.l) ∈ (legsAt n ls).map (fun g => (g.t, g.l)) := List.mem_map_of_mem (f := fun g : Leg => (g.t, g.l)) hg
      rw [legsAt_ls] at q
      exact h _ q
    rw [legsAt_it]
    intro q
    simp only [List.mem_cons, List.mem_range'_1] at q
    exact nz1 _ _ _ hl q
def iZipN (K : PySem.W.Frag) (n : Nat) (ta : TA) : TI := fun σ H R => ta σ H fun vs H1 => ∃ (ls : List (Bool × Addr)) (xss : List (List V)), ls.length = n ∧ vs = ls.map (fun p => V.ref p.2) ∧ SqA K H1 ls xss ∧ R (ItzN K ls) H1
theorem vals_refs : ∀ {ls : List (Bool × Addr)} {us : List Value}, Vals (ls.map fun p => V.ref p.2) us → us = ls.map fun p => Value.ref p.2
  | [], us, h => by cases h; rfl
  | p :: ps, us, h => by
    cases h with
    | cons a b =>
      rw [vals_refs b]
      cases a
      rfl
theorem pi_zipN {X : Cx} {e : Expr} {es : List Expr} {ta : TA} {p pos tpos : Pos} {elts : List Expr} {kk n : Nat} (zc : ZipCall n X.prog X.w X.A) (h0 : 0 < n) (hn : n ≤ 100) (hg : Gl X "zip") (hm : X.mg "zip" = none) (ha : PA X (e :: es) ta)
    (hs : starEach (e :: es) X.env = (false, eval e X.env) :: starEach es X.env := by rfl) (hpl : (backTo pos (starEach es X.env)).any (·.1) = false := by rfl) :
    PI X (.Tuple elts kk tpos) (.Call (.Name "zip" p) (e :: es) [] pos) (iZipN X.K n ta) := by
  refine ⟨fun pins s σ H R I h => ?_⟩
  refine Call_ (ld_blt I hg hm PyProof.Rows.boot_zip (PyProof.Rows.callWith_type1 (thn (ha.run pos pins s σ H _ I h) fun us s1 ⟨vs, H1, I1, r1, q1⟩ => ?_) hs hpl))
  obtain ⟨ls, xss, hl, ex, hq, q⟩ := q1
  subst ex
  have r1 := vals_refs r1
  subst r1
  have lo := sqA_legOf I1 hq
  refine zc _ _ ls _ hl (fun p hp => (lo p hp).1) fun h' hz hTI hTO hi hk => wpAny_pyIter_zip hz ?_
  have I2 : Inv X pins σ H1 { s1 with heap := h' } := I1.kept (t' := s1.toks) hk
  have D : ZApart (s1.heap.objs.size + n + 2) (s1.heap.objs.size + n) (s1.heap.objs.size + n + 1) (legsAt s1.heap.objs.size ls) := by
    rw [← hl]; exact legsAt_apart fun p hp => (lo p hp).2
  have ln := legsAt_len s1.heap.objs.size ls
  have q' : R (ItzN X.K ((legsAt s1.heap.objs.size ls).map fun g => (g.t, g.l))) H1 := by rw [legsAt_ls]; exact q
  refine ⟨s1.heap.objs.size + n + 2, (s1.heap.objs.size + n + 2) :: (s1.heap.objs.size + n) :: (s1.heap.objs.size + n + 1) :: (legsAt s1.heap.objs.size ls).map (·.it), _, _, H1, rfl, I2,
    turn_zN D (fun e => by rw [e] at ln; simp at ln; omega) (by omega), ⟨hz, hTI, ⟨_, hTO, by rw [List.length_replicate]; omega⟩, hi⟩, fun c hc => ?_, q'⟩
  have hle : s1.heap.objs.size ≤ c := by
    rw [legsAt_it] at hc
    simp only [List.mem_cons, List.mem_range'_1] at hc
    exact nz2 _ _ _ _ hc
  exact I1.fpOk hle (I1.hok.fresh hle)
/-! ### as readings -/
variable [Wd]
inductive DqAA (K : PySem.W.Frag) (G : Hp) : List (List V) → List (List PyData) → Prop
  | nil : DqAA K G [] []
  | cons {xs : List V} {ds : List PyData} {xss : List (List V)} {dss : List (List PyData)} : DqA K G xs ds → DqAA K G xss dss → DqAA K G (xs :: xss) (ds :: dss)
theorem dqaa_at {K : PySem.W.Frag} {G : Hp} {i : Nat} : ∀ {dss : List (List PyData)} {xss : List (List V)} {xs : List V}, DqAA K G xss dss → xss.map (fun a => a[i]?) = xs.map some → ∃ ds, dss.map (fun a => a[i]?) = ds.map some ∧ DqA K G xs ds
  | [], _, xs, h, e => by
    cases h
    cases xs with
    | nil => exact ⟨[], rfl, .nil⟩
    | cons a b => simp at e
  | _ :: _, _, xs, h, e => by
    cases h with
    | cons a b =>
      cases xs with
      | nil => simp at e
      | cons x xs =>
        rw [List.map_cons, List.map_cons, List.cons.injEq] at e
        obtain ⟨d, hd, q⟩ := dpa_get a e.1
        obtain ⟨ds, q1, q2⟩ := dqaa_at b e.2
        exact ⟨d :: ds, by rw [List.map_cons, List.map_cons, hd, q1], .cons q q2⟩
/-- what is made at each place -/
def Zips (dss : List (List PyData)) (zs : List PyData) : Prop :=
  (∀ (i : Nat) (ds : List PyData), dss.map (fun a => a[i]?) = ds.map some → zs[i]? = some (.tuple ds)) ∧ (∀ i, i < zs.length → ∀ ds ∈ dss, i < ds.length) ∧ ∃ ds ∈ dss, ds.length = zs.length
theorem map_some_of {i : Nat} : ∀ {xss : List (List V)}, (∀ xs ∈ xss, i < xs.length) → ∃ xs : List V, xss.map (fun a => a[i]?) = xs.map some
  | [], _ => ⟨[], rfl⟩
  | xs :: xss, h => by
    obtain ⟨ys, q⟩ := map_some_of (xss := xss) fun xs hx => h xs (List.mem_cons_of_mem _ hx)
    have l := h xs (List.mem_cons_self ..)
    exact ⟨xs[i] :: ys, by rw [List.map_cons, List.map_cons, q]; simp [l]⟩
theorem dqaa_lens {K : PySem.W.Frag} {G : Hp} : ∀ {dss : List (List PyData)} {xss : List (List V)}, DqAA K G xss dss → xss.map List.length = dss.map List.length
  | [], _, h => by cases h; rfl
  | _ :: _, _, h => by
    cases h with
    | cons a b => rw [List.map_cons, List.map_cons, dpa_len a, dqaa_lens b]
theorem walk_zN {K : PySem.W.Frag} {G : Hp} {ls : List (Bool × Addr)} {xss : List (List V)} {dss : List (List PyData)} {zs : List PyData} (hd : DqAA K G xss dss) (hz : Zips dss zs) (hq : ∀ H, Ex G H → SqA K H ls xss) :
    Walk (ItzN K ls) zs.length (fun H => Ex G H) (YD K G zs) := by
  have hl := dqaa_lens hd
  refine ⟨fun i H hi e => ?_, fun H e => ?_, fun i H v H' hi e y => ?_⟩
  · obtain ⟨xs, q⟩ := map_some_of (i := i) (xss := xss) fun xs hx => by
      have : xs.length ∈ dss.map List.length := by rw [← hl]; exact List.mem_map_of_mem hx
      obtain ⟨ds, h1, h2⟩ := List.mem_map.mp this
      rw [← h2]
      exact hz.2.1 i hi ds h1
    exact ⟨xss, xs, hq H e, q⟩
  · obtain ⟨ds, h1, h2⟩ := hz.2.2
    have : ds.length ∈ xss.map List.length := by rw [hl]; exact List.mem_map_of_mem h1
    obtain ⟨xs, h3, h4⟩ := List.mem_map.mp this
    exact ⟨xss, hq H e, xs, h3, List.getElem?_eq_none_iff.mpr (by omega)⟩
  · obtain ⟨T, xs, rfl, hT, rfl, he⟩ := y
    obtain ⟨ds, q1, q2⟩ := dqaa_at hd (he xss (hq H e))
    refine ⟨_, hz.1 i ds q1, fun G1 e1 e2 => ?_⟩
    have gr := Grow.new (o := .tup xs) e2 hT
    exact ⟨_, gr, .tup (SqT.of upd_same) (dpa_mono (e1.trans gr.ge) q2)⟩
def vZip2 (t : VAT) : VI := fun S Q => t S fun bs S1 => ∃ (d1 d2 : PyData) (a b : List PyData), valsA bs = some [d1, d2] ∧ itemsD d1 = some a ∧ itemsD d2 = some b ∧ Q (zipD a b) S1
/-- three at each place -/
def zip3D : List PyData → List PyData → List PyData → List PyData
  | x :: xs, y :: ys, z :: zs => .tuple [x, y, z] :: zip3D xs ys zs
  | _, _, _ => []
theorem zip3D_get : ∀ {xs ys zs : List PyData} {i : Nat} {x y z : PyData}, xs[i]? = some x → ys[i]? = some y → zs[i]? = some z → (zip3D xs ys zs)[i]? = some (.tuple [x, y, z])
  | x :: xs, y :: ys, z :: zs, 0, a, b, c, h1, h2, h3 => by
    have e1 : x = a := Option.some.inj h1
    have e2 : y = b := Option.some.inj h2
    have e3 : z = c := Option.some.inj h3
    rw [← e1, ← e2, ← e3]
    rfl
  | x :: xs, y :: ys, z :: zs, i + 1, a, b, c, h1, h2, h3 => by
    have h1 : xs[i]? = some a := by simpa using h1
    have h2 : ys[i]? = some b := by simpa using h2
    have h3 : zs[i]? = some c := by simpa using h3
    exact zip3D_get (i := i) h1 h2 h3
  | [], _, _, _, _, _, _, h, _, _ => by simp at h
  | _ :: _, [], _, _, _, _, _, _, h, _ => by simp at h
  | _ :: _, _ :: _, [], _, _, _, _, _, _, h => by simp at h
theorem zip3D_len : ∀ (xs ys zs : List PyData), (zip3D xs ys zs).length = min xs.length (min ys.length zs.length)
  | x :: xs, y :: ys, z :: zs => by
    show (zip3D xs ys zs).length + 1 = _
    rw [zip3D_len xs ys zs, List.length_cons, List.length_cons, List.length_cons]
    omega
  | [], _, _ => by simp [zip3D]
  | _ :: _, [], _ => by simp [zip3D]
  | _ :: _, _ :: _, [] => by simp [zip3D]
def vZip3 (t : VAT) : VI := fun S Q => t S fun bs S1 => ∃ (d1 d2 d3 : PyData) (a b c : List PyData), valsA bs = some [d1, d2, d3] ∧ itemsD d1 = some a ∧ itemsD d2 = some b ∧ itemsD d3 = some c ∧ Q (zip3D a b c) S1
theorem zips2 (a b : List PyData) : Zips [a, b] (zipD a b) := by
  have l := zipD_len a b
  refine ⟨fun i ds e => ?_, fun i hi ds hd => ?_, ?_⟩
  · have hl : ds.length = 2 := by
      have := congrArg List.length e
      simpa using this.symm
    match ds, hl, e with
    | [x, y], _, e =>
      have e : a[i]? = some x ∧ b[i]? = some y := by simpa using e
      exact zipD_get e.1 e.2
  · have hd : ds = a ∨ ds = b := by simpa using hd
    rcases hd with rfl | rfl <;> omega
  · rcases Nat.le_total a.length b.length with h | h
    · exact ⟨a, by simp, by omega⟩
    · exact ⟨b, by simp, by omega⟩
theorem zips3 (a b c : List PyData) : Zips [a, b, c] (zip3D a b c) := by
  have l := zip3D_len a b c
  refine ⟨fun i ds e => ?_, fun i hi ds hd => ?_, ?_⟩
  · have hl : ds.length = 3 := by
      have := congrArg List.length e
      simpa using this.symm
    match ds, hl, e with
    | [x, y, z], _, e =>
      have e : a[i]? = some x ∧ b[i]? = some y ∧ c[i]? = some z := by simpa using e
      exact zip3D_get e.1 e.2.1 e.2.2
  · have hd : ds = a ∨ ds = b ∨ ds = c := by simpa using hd
    rcases hd with rfl | rfl | rfl <;> omega
  · rcases Nat.le_total a.length b.length with h | h
    · rcases Nat.le_total a.length c.length with h' | h'
      · exact ⟨a, by simp, by omega⟩
      · exact ⟨c, by simp, by omega⟩
    · rcases Nat.le_total b.length c.length with h' | h'
      · exact ⟨b, by simp, by omega⟩
      · exact ⟨c, by simp, by omega⟩
theorem items_or {d : PyData} {a : List PyData} (e : itemsD d = some a) : d = .list a ∨ d = .tuple a := by
  cases d <;> simp [itemsD] at e <;> subst e <;> simp
/-- a value that has items: where it stands -/
theorem dq_items {K : PySem.W.Frag} {G : Hp} {v : V} {d : PyData} {a : List PyData} (h : Dq K G v d) (e : itemsD d = some a) : ∃ (t : Bool) (l : Addr) (xs : List V), v = .ref l ∧ DqA K G xs a ∧ ∀ H, Ex G H → sqK K H t l xs := by
  rcases items_or e with rfl | rfl
  · cases h with
    | lst h r => exact ⟨false, _, _, rfl, r, fun H x => ex_l x (SqL.of h)⟩
  · cases h with
    | tup h r => exact ⟨true, _, _, rfl, r, fun H x => ex_t x h⟩
theorem vi_zip2 {es : List Expr} {t : VAT} (ha : VA X es t) (h : ∀ t, PA X es t → PI X tg e (iZipN X.K 2 t)) : VIt X tg e (vZip2 t) := by
  refine ⟨fun S P P' i q => ha.mono _ _ _ (fun bs S1 z => let ⟨d1, d2, a, b, h1, h2, h3, h4⟩ := z; ⟨d1, d2, a, b, h1, h2, h3, i _ _ h4⟩) q, PI.imp (h _ ha.pa) fun σ H R hq => ?_⟩
  obtain ⟨G, S, F, m, q⟩ := hq
  refine ⟨G, S, F, m, ha.mono _ _ _ (fun bs S1 z G1 H1 vs F1 ev m1 kb => ?_) q⟩
  obtain ⟨d1, d2, a, b, hg, i1, i2, z⟩ := z
  cases boall_vals kb hg with
  | cons t1 t2 =>
    cases t2 with
    | cons t2 t3 =>
      cases t3
      obtain ⟨k1, l1, xs, rfl, r1, s1⟩ := dq_items t1 i1
      obtain ⟨k2, l2, ys, rfl, r2, s2⟩ := dq_items t2 i2
      exact ⟨[(k1, l1), (k2, l2)], [xs, ys], rfl, rfl, .cons (s1 _ m1.le) (.cons (s2 _ m1.le) .nil), z _ _ _ _ ev m1 (walk_zN (.cons r1 (.cons r2 .nil)) (zips2 a b) fun H x => .cons (s1 _ x) (.cons (s2 _ x) .nil))⟩
theorem vi_zip3 {es : List Expr} {t : VAT} (ha : VA X es t) (h : ∀ t, PA X es t → PI X tg e (iZipN X.K 3 t)) : VIt X tg e (vZip3 t) := by
  refine ⟨fun S P P' i q => ha.mono _ _ _ (fun bs S1 z => let ⟨d1, d2, d3, a, b, c, h1, h2, h3, h4, h5⟩ := z; ⟨d1, d2, d3, a, b, c, h1, h2, h3, h4, i _ _ h5⟩) q, PI.imp (h _ ha.pa) fun σ H R hq => ?_⟩
  obtain ⟨G, S, F, m, q⟩ := hq
  refine ⟨G, S, F, m, ha.mono _ _ _ (fun bs S1 z G1 H1 vs F1 ev m1 kb => ?_) q⟩
  obtain ⟨d1, d2, d3, a, b, c, hg, i1, i2, i3, z⟩ := z
  cases boall_vals kb hg with
  | cons t1 t2 =>
    cases t2 with
    | cons t2 t3 =>
      cases t3 with
      | cons t3 t4 =>
        cases t4
        obtain ⟨k1, l1, xs, rfl, r1, s1⟩ := dq_items t1 i1
        obtain ⟨k2, l2, ys, rfl, r2, s2⟩ := dq_items t2 i2
        obtain ⟨k3, l3, ws, rfl, r3, s3⟩ := dq_items t3 i3
        exact ⟨[(k1, l1), (k2, l2), (k3, l3)], [xs, ys, ws], rfl, rfl, .cons (s1 _ m1.le) (.cons (s2 _ m1.le) (.cons (s3 _ m1.le) .nil)), z _ _ _ _ ev m1 (walk_zN (.cons r1 (.cons r2 (.cons r3 .nil))) (zips3 a b c) fun H x => .cons (s1 _ x) (.cons (s2 _ x) (.cons (s3 _ x) .nil)))⟩
end VL

/-! the value layer, twenty-fifth part: sorted(set(a tuple of ints)), tuple(range(n)), list(range(n)) -/
set_option Elab.async false
set_option linter.all false
set_option maxRecDepth 100000
set_option maxHeartbeats 1000000
namespace VL
open PySem PySem.Spec PyProof.Rows L2
open Evl (Ex ex_l ex_t)
variable [Wd]
section
variable {X : Cx}
def rSetIT (K : PySem.W.Frag) (w : World) : List V → Hp → VK → Prop := fun xs H Q => ∃ (b : Addr) (ns : List Int), xs = [V.ref b] ∧ SqT K H b (ns.map V.int) ∧ ns.length ≤ 1000 ∧
  ∀ a c, H a = none → c ≤ ns.length → Q (.ref a) (upd H a (SetO w a (fun j => decide (j ∈ ns)) c))
theorem cr_setIT (hc : X.calm = true) : CallR X (.type "set") (rSetIT X.K X.w) := by
  intro pins s σ H xs us Q I r h
  obtain ⟨b, ns, rfl, hl, hf, q⟩ := h
  rw [Vals.ref1 r]
  obtain ⟨its, rv, pt, hz⟩ := I.tuple hl
  refine call_set_tupI ns (I.ok.hd hc) (show s.heap.IsTuple b its.toArray from pt) (by simpa using rv.ints) (by unfold scanBound; omega) fun h' tk c R1 hcn k => ?_
  have new : ObjOk X.prog X.w (upd H s.heap.objs.size (SetO X.w s.heap.objs.size (fun j => decide (j ∈ ns)) c)) h' s.heap.objs.size (SetO X.w s.heap.objs.size (fun j => decide (j ∈ ns)) c) := setO_new R1
  exact ⟨.ref s.heap.objs.size, upd H s.heap.objs.size (SetO X.w s.heap.objs.size (fun j => decide (j ∈ ns)) c), I.laid (t' := tk) k (Nat.le_refl _) new, rfl, q _ c (I.hok.fresh (Nat.le_refl _)) hcn⟩
end
def pSortedSetI : PdL := fun ds P => match ds with
  | [d] => ∃ xs : List Int, d = .tuple (xs.map .int) ∧ xs.length < 64 ∧ ∀ zs : List Int, zs.Pairwise (· < ·) → (∀ z, z ∈ zs ↔ z ∈ xs) → P (.lst (zs.map .int))
  | _ => False
theorem lm_sortedSetI : LMono pSortedSetI := by
  intro ds P P' i h
  unfold pSortedSetI at h ⊢
  split at h
  · obtain ⟨xs, h1, h3, h4⟩ := h
    exact ⟨xs, h1, h3, fun zs a b => i _ (h4 zs a b)⟩
  · exact h
theorem ok_sortedSetI {K : PySem.W.Frag} {w : World} : COk K (fun vs H Q => rSetIT K w vs H fun v H1 => rSortedSet w [v] H1 Q) pSortedSetI := by
  intro G H xs ds p Q le t q k
  unfold pSortedSetI at q
  split at q
  · rename_i d
    obtain ⟨us, rfl, h3, h4⟩ := q
    cases t with
    | @cons v _ _ _ a b =>
      cases b
      obtain ⟨b, vs, rfl, g1, r1⟩ := top_tup le a
      rw [dqa_ints r1] at g1
      refine ⟨b, us, rfl, g1, by omega, fun a c ha hc => ⟨a, _, c, rfl, upd_same, by omega, fun zs p sd mem len hp => ?_⟩⟩
      have g1 : Grow G H G (upd H a (SetO w a (fun j => decide (j ∈ us)) c)) := Grow.newO le ha
      have g2 : Grow G (upd H a (SetO w a (fun j => decide (j ∈ us)) c)) G (upd (upd H a (SetO w a (fun j => decide (j ∈ us)) c)) p (.lst (zs.map V.int))) := Grow.newO g1.le hp
      have hp0 : H p = none := by
        cases e : H p with
        | none => rfl
        | some u =>
          have := g1.he p u e
          rw [hp] at this
          cases this
      refine k (.lst (zs.map .int)) G _ (.ref p) [p] (h4 zs sd fun z => by rw [mem z, decide_eq_true_eq]) ⟨Ex.refl G, g1.he.trans g2.he, g2.le, fun _ _ z => .inl z⟩ ⟨p, _, rfl, rfl, ?_, upd_same, dqa_of_ints zs⟩ fun c hc => ?_
      · exact fresh_g le hp0
      · have e : c = p := by simpa using hc
        rw [e]
        exact hp0
  · exact q.elim
theorem ve_sortedSetI {X : Cx} {e : Expr} {t : VAT} {p1 p2 p3 p4 : Pos} (hgd : X.calm = true) (hg1 : Gl X "sorted") (hg2 : Gl X "set") (h1 : X.mg "sorted" = none) (h2 : X.mg "set" = none) (ha : VA X [e] t)
    (e1 : starEach [e] X.env = [(false, eval e X.env)]) (e2 : starEach [Expr.Call (.Name "set" p2) [e] [] p3] X.env = [(false, eval (Expr.Call (.Name "set" p2) [e] [] p3) X.env)]) : VE X (.Call (.Name "sorted" p1) [.Call (.Name "set" p2) [e] [] p3] [] p4) (vCB pSortedSetI t) :=
  ve_cb ok_sortedSetI lm_sortedSetI ha fun t h => PE.imp (pe_callB (cr_sortedSet hgd) hg1 h1 (by first | exact PySem.boot_sorted | exact PyProof.Rows.boot_sorted | decide +kernel)
    (pa_cons (pe_callTy (cr_setIT hgd) hg2 h2 (by first | exact PySem.boot_set | exact PyProof.Rows.boot_set | decide +kernel) h (by decide) (by decide) (by rw [e1]; rfl) (by rfl)) pa_nil (by rw [e2]; rfl)) (by decide) (by decide) (by rw [e2]; rfl) (by rfl)) fun σ H Q q => q
/-! ### ranges made into tuples, lists -/
theorem ve_rel {X : Cx} {a e : Expr} {r : V → Hp → VK → Prop} {p : Pd1} {ta : VBT} (ok : UOk X.K r p) (pm : ∀ d P P', (∀ o, P o → P' o) → p d P → p d P') (ha : VB X a ta) (h : PE X a (liftB X.K ta) → PE X e fun σ H Q => liftB X.K ta σ H fun x H1 => r x H1 Q) : VE X e (vUn p ta) := by
  refine ⟨fun S P P' i q => ha.mono _ _ _ (fun b1 S1 z => let ⟨d, g, q3⟩ := z; ⟨d, g, pm _ _ _ (fun o z => i _ _ z) q3⟩) q, PE.imp (h ha.pe) fun σ H Q hq => ?_⟩
  obtain ⟨G, S, F, m, q⟩ := hq
  refine ⟨G, S, F, m, ha.mono _ _ _ (fun b1 S1 z G1 H1 v1 F1 ev1 m1 k1 => ?_) q⟩
  obtain ⟨d, g, q3⟩ := z
  refine ok G1 H1 v1 d _ Q m1.le (bo_top k1 (Ex.refl _) m1 g) q3 fun o G4 H4 v f q4 gr ow fr => ?_
  exact q4 G4 H4 v f F1 (ev1.trans (gr.evo _)) (m1.grow gr) ow (fun x hx => fresh_mu m1 (fr x hx)) fun x hx => ev1.back (.inl (fr x hx))
def rgI (n : Int) : List Int := (List.range n.toNat).map fun i => ((i : Nat) : Int)
theorem rgV_ints (n : Int) : rgV 0 n = (rgI n).map V.int := by
  unfold rgV rgI
  rw [List.map_map]
  refine (List.map_congr_left (fun i _ => ?_)).trans (congrArg _ (by rw [Int.sub_zero]))
  show V.int (0 + (i : Nat)) = V.int ((i : Nat) : Int)
  rw [Int.zero_add]
def pTupRg : Pd1 := fun d P => match d with
  | .int n => 0 ≤ n ∧ n ≤ 16777216 ∧ P (.sh (.tuple ((rgI n).map .int)))
  | _ => False
def pLstRg : Pd1 := fun d P => match d with
  | .int n => 0 ≤ n ∧ n ≤ 16777216 ∧ P (.lst ((rgI n).map .int))
  | _ => False
theorem pm_tupRg : ∀ d P P', (∀ o, P o → P' o) → pTupRg d P → pTupRg d P' := by
  intro d P P' i h
  unfold pTupRg at h ⊢
  split at h
  · exact ⟨h.1, h.2.1, i _ h.2.2⟩
  · exact h
theorem pm_lstRg : ∀ d P P', (∀ o, P o → P' o) → pLstRg d P → pLstRg d P' := by
  intro d P P' i h
  unfold pLstRg at h ⊢
  split at h
  · exact ⟨h.1, h.2.1, i _ h.2.2⟩
  · exact h
def rTupRg : V → Hp → VK → Prop := fun x H1 Q => ∃ n, x = .int n ∧ RgOk 0 n ∧ ∀ q, H1 q = none → Q (.ref q) (upd H1 q (.tup (rgV 0 n)))
def rLstRg : V → Hp → VK → Prop := fun x H1 Q => ∃ n, x = .int n ∧ RgOk 0 n ∧ ∀ q, H1 q = none → Q (.ref q) (upd H1 q (.lst (rgV 0 n)))
theorem ok_tupRg {K : PySem.W.Frag} : UOk K rTupRg pTupRg := by
  intro G H v d P Q le t q k
  unfold pTupRg at q
  split at q
  · rename_i n
    refine ⟨n, top_int t, RgOk.of_le (Int.le_refl 0) q.2.1 (by decide) q.1, ?_⟩
    rw [rgV_ints]
    exact ans_tup le k q.2.2 (dqa_of_ints _)
  · exact q.elim
theorem ok_lstRg {K : PySem.W.Frag} : UOk K rLstRg pLstRg := by
  intro G H v d P Q le t q k
  unfold pLstRg at q
  split at q
  · rename_i n
    refine ⟨n, top_int t, RgOk.of_le (Int.le_refl 0) q.2.1 (by decide) q.1, ?_⟩
    rw [rgV_ints]
    exact ans_lst le k q.2.2 (dqa_of_ints _)
  · exact q.elim
theorem ve_tupRg {X : Cx} {a : Expr} {ta : VBT} {p1 p2 pos1 pos2 : Pos} (hc : X.calm = true) (hg : Gl X "tuple") (hm : X.mg "tuple" = none) (hg2 : Gl X "range") (hm2 : X.mg "range" = none) (ha : VB X a ta)
    (na : starEach [a] X.env = (false, eval a X.env) :: starEach [] X.env) (na2 : starEach [Expr.Call (.Name "range" p2) [a] [] pos2] X.env = (false, eval (.Call (.Name "range" p2) [a] [] pos2) X.env) :: starEach [] X.env) :
    VE X (.Call (.Name "tuple" p1) [.Call (.Name "range" p2) [a] [] pos2] [] pos1) (vUn pTupRg ta) :=
  ve_rel ok_tupRg pm_tupRg ha fun h => PE.imp (pe_tupRg hc hg hm (prg_1 hg2 hm2 h na) na2) fun σ H Q q => q
theorem ve_listRg {X : Cx} {a : Expr} {ta : VBT} {p1 p2 pos1 pos2 : Pos} (hc : X.calm = true) (hg : Gl X "list") (hm : X.mg "list" = none) (hg2 : Gl X "range") (hm2 : X.mg "range" = none) (ha : VB X a ta)
    (na : starEach [a] X.env = (false, eval a X.env) :: starEach [] X.env) (na2 : starEach [Expr.Call (.Name "range" p2) [a] [] pos2] X.env = (false, eval (.Call (.Name "range" p2) [a] [] pos2) X.env) :: starEach [] X.env) :
    VE X (.Call (.Name "list" p1) [.Call (.Name "range" p2) [a] [] pos2] [] pos1) (vUn pLstRg ta) :=
  ve_rel ok_lstRg pm_lstRg ha fun h => PE.imp (pe_listRg hc hg hm (prg_1 hg2 hm2 h na) na2) fun σ H Q q => q
end VL

set_option Elab.async false
set_option linter.all false
set_option maxRecDepth 100000
namespace VL
open PySem PySem.Spec PyProof.Rows L2
/-! ### what the functions of this law promise -/
/-- the places of pairs that the original lacks -/
def bad (ys xs : List Str) (n : Int) : List Nat := ((pairsD ys n).zipIdx.filter fun p => !((pairsD xs n).any fun z => PyData.eqv z p.1)).map (·.2)
def gap : List Nat → PyData
  | [] => .none
  | k :: _ => .int (k : Nat)
def headW (xs : List Str) : Str := xs.headD Str.empty
def lastW (xs : List Str) : Str := xs.getLastD Str.empty
def bothB (ys xs : List Str) (n : Int) : Bool := (bad ys xs n).isEmpty && (PyData.eqv (.str (headW ys)) (.str (headW xs)) && alk (lastW ys) (lastW xs) n)
def MissingPair : VSp := fun os R => ∃ dc d ys xs n, os = [.sh dc, .sh d, .sh (.int n)] ∧ Txt dc ys ∧ Txt d xs ∧ Fit ys ∧ Fit xs ∧ R (.sh (gap (bad ys xs n))) os
def BothWays : VSp := fun os R => ∃ dc d ys xs n, os = [.sh dc, .sh d, .sh (.int n)] ∧ Txt dc ys ∧ Txt d xs ∧ Fit ys ∧ Fit xs ∧ ys ≠ [] ∧ xs ≠ [] ∧ R (.sh (.bool (bothB ys xs n))) os
structure Small (xs : List Str) (m : Nat) : Prop where
  ne : xs ≠ []
  len : xs.length ≤ m
  wd : ∀ w ∈ xs, PyData.strOk w = true ∧ w.length ≤ 8
theorem Small.fit {xs : List Str} {m : Nat} (h : Small xs m) (hm : m ≤ 1000) : Fit xs := ⟨Nat.le_trans h.len hm, fun w hw => ⟨(h.wd w hw).1, by have := (h.wd w hw).2; omega⟩⟩
def Span : VSp := fun os R => ∃ bx, os = [bx] ∧ isBox bx ∧ ∀ (n : Int) bx', 1 ≤ n → n ≤ 8 → isBox bx' → R (.sh (.int n)) [bx']
def Terms : VSp := fun os R => ∃ bx, os = [bx] ∧ isBox bx ∧ ∀ xs bx', Small xs 9 → isBox bx' → R (.lst (xs.map .str)) [bx']
def Scroll : VSp := fun os R => ∃ bx m, os = [bx, .sh (.int (m : Nat))] ∧ isBox bx ∧ 0 < m ∧ m ≤ 100 ∧ ∀ xs bx', Small xs m → isBox bx' → R (.sh (.tuple (xs.map .str))) [bx', .sh (.int (m : Nat))]
def leapD (p : Nat × Nat) : PyData := .tuple [.int (p.1 : Nat), .int (p.2 : Nat)]
def LeapOk (xs : List Str) (n : Int) (p : Nat × Nat) : Prop := ∃ (h1 : p.1 < p.2) (h2 : p.2 < xs.length), alk (xs[p.1]'(by omega)) xs[p.2] n = true
/-- all leaps, ascending -/
def alkAt (xs : List Str) (n : Int) (i j : Nat) : Bool := match xs[i]?, xs[j]? with
  | some a, some b => alk a b n
  | _, _ => false
def innerL (xs : List Str) (n : Int) (i : Nat) (js : List Nat) : List (Nat × Nat) := (js.filter (alkAt xs n i)).map fun j => (i, j)
def outerL (xs : List Str) (n : Int) (is : List Nat) : List (Nat × Nat) := is.flatMap fun i => innerL xs n i (List.range' (i + 1) (xs.length - (i + 1)))
def leapsL (xs : List Str) (n : Int) : List (Nat × Nat) := outerL xs n (List.range xs.length)
def Leaps : VSp := fun os R => ∃ xs n, os = [.sh (.tuple (xs.map .str)), .sh (.int n)] ∧ Fit xs ∧ R (.lst ((leapsL xs n).map leapD)) os
def leapt (xs : List Str) (p : Nat × Nat) : List Str := xs.take (p.1 + 1) ++ xs.drop (p.2 + 1)
def Leapt : VSp := fun os R => ∃ xs p, os = [.sh (.tuple (xs.map .str)), .sh (leapD p)] ∧ Fit xs ∧ p.1 < p.2 ∧ p.2 < xs.length ∧ R (.sh (.tuple ((leapt xs p).map .str))) os
/-- what comes of a text by leaps -/
inductive From (n : Int) (xs : List Str) : List Str → Prop
  | self : From n xs xs
  | leap {ys : List Str} {p : Nat × Nat} (h : From n xs ys) (hp : LeapOk ys n p) : From n xs (leapt ys p)
def Page : VSp := fun os R => ∃ bx xs m n, os = [bx, .sh (.tuple (xs.map .str)), .sh (.int n)] ∧ isBox bx ∧ Small xs m ∧ m ≤ 100 ∧ ∀ ys bx', Small ys m → From n xs ys → isBox bx' → R (.sh (.tuple (ys.map .str))) [bx', .sh (.tuple (xs.map .str)), .sh (.int n)]
def Changed : VSp := fun os R => ∃ bx xs m, os = [bx, .sh (.tuple (xs.map .str))] ∧ isBox bx ∧ Small xs m ∧ m ≤ 100 ∧ ∀ ys bx', Small ys (m + 1) → isBox bx' → R (.sh (.tuple (ys.map .str))) [bx', .sh (.tuple (xs.map .str))]
def Walked : VSp := fun os R => ∃ bx xs m n k, os = [bx, .sh (.tuple (xs.map .str)), .sh (.int n), .sh (.int (k : Nat))] ∧ isBox bx ∧ Small xs m ∧ m ≤ 100 ∧ k ≤ 100 ∧ ∀ ys bx', Small ys (k + 1) → isBox bx' → R (.sh (.tuple (ys.map .str))) [bx', .sh (.tuple (xs.map .str)), .sh (.int n), .sh (.int (k : Nat))]
def Right : VSp := fun os R => ∃ bx, os = [bx] ∧ isBox bx ∧ ∀ bx', isBox bx' → R (.sh (.bool true)) [bx']
abbrev spec_ending : VSp := Ending
abbrev spec_looks_alike : VSp := Alike
abbrev spec_pairs : VSp := Pairs
abbrev spec__law_box : VSp := BoxOf
abbrev spec__law_take : VSp := Take
abbrev spec__law_cells : VSp := Cells
abbrev spec__law_of : VSp := OneOf
abbrev spec__law_strewn : VSp := Strewn
abbrev spec__law_same : VSp := Same
abbrev spec__law_alike : VSp := Alike
abbrev spec__law_span : VSp := Span
abbrev spec__law_terms : VSp := Terms
abbrev spec__law_scroll : VSp := Scroll
abbrev spec__law_leaps : VSp := Leaps
abbrev spec__law_leapt : VSp := Leapt
abbrev spec__law_page : VSp := Page
abbrev spec__law_changed : VSp := Changed
abbrev spec__law_right : VSp := Right
abbrev spec_law : VSp := specLaw
/-! ### k07: obstacles and their evidence -/
/-- the places that match, found greedily -/
def stepM (W : List PyData) (f : List Nat) (p : PyData × Nat) : List Nat := match W[f.length]? with
  | some w => if PyData.eqv p.1 w = true then f ++ [p.2] else f
  | none => f
def matched (W P : List PyData) : List Nat := P.zipIdx.foldl (stepM W) []
def obs (ys xs : List Str) (n : Int) : Option Nat := if PyData.eqv (.str (headW ys)) (.str (headW xs)) = true then
  (if (matched (pairsD ys n) (pairsD xs n)).length + 1 = ys.length ∧ alk (lastW ys) (lastW xs) n = true then none else some ((matched (pairsD ys n) (pairsD xs n)).length + 1)) else some 0
def optD : Option Nat → PyData
  | none => .none
  | some k => .int (k : Nat)
def natsD (l : List Nat) : PyData := .list (l.map fun k => .int (k : Nat))
def MatchedPairs : VSp := fun os R => ∃ dc d ys xs n, os = [.sh dc, .sh d, .sh (.int n)] ∧ Txt dc ys ∧ Txt d xs ∧ Fit ys ∧ Fit xs ∧ R (.lst ((matched (pairsD ys n) (pairsD xs n)).map fun k => .int (k : Nat))) os
def Obstacle : VSp := fun os R => ∃ dc d ys xs n, os = [.sh dc, .sh d, .sh (.int n)] ∧ Txt dc ys ∧ Txt d xs ∧ Fit ys ∧ Fit xs ∧ ys ≠ [] ∧ xs ≠ [] ∧ R (.sh (optD (obs ys xs n))) os
def isNum (d : PyData) : Bool := isiD "int" d && !isiD "bool" d
def IsNumber : VSp := fun os R => ∃ d, os = [.sh d] ∧ noD d = true ∧ R (.sh (.bool (isNum d))) os
/-- a matter of bounded leaves, depth and weight -/
def Mat (d : PyData) : Prop := ∃ n k w, Fat n k w d ∧ n < 2 ^ 40 ∧ k ≤ 20 ∧ w ≤ 15000000
def Odd : VSp := fun os R => ∃ bx, os = [bx] ∧ isBox bx ∧ ∀ d bx', Fat 1 2 100 d → isBox bx' → R (.sh d) [bx']
/-- what comes of any data, bent -/
def Bent (j : Nat) : VSp := fun os R => ∃ bx m n a w k, os = [bx, .sh m, .sh (.int (k : Nat))] ∧ isBox bx ∧ k < j ∧ Fat n a w m ∧ n ≤ 2 ^ 38 ∧ w ≤ 1000000 ∧ ∀ d bx', Fat (n + 1) (a + 2) ((k + 2) * w + 600) d → isBox bx' → R (.sh d) [bx', .sh m, .sh (.int (k : Nat))]
abbrev spec_is_integer : VSp := IsNumber
abbrev spec__law_is_number : VSp := IsNumber
abbrev spec_matched_pairs : VSp := MatchedPairs
abbrev spec_obstacle : VSp := Obstacle
abbrev spec__law_odd : VSp := Odd
abbrev spec__law_bent : VSp := Bent 4
def ComesFrom : VSp := fun os R => ∃ dc d ys xs n, os = [.sh dc, .sh d, .sh (.int n)] ∧ Txt dc ys ∧ Txt d xs ∧ Fit ys ∧ Fit xs ∧ ys ≠ [] ∧ xs ≠ [] ∧ R (.sh (.bool (obs ys xs n).isNone)) os
abbrev spec_comes_from : VSp := ComesFrom
/-! ### k09: partings and their evidence -/
def begsOf (es : List Int) : List Int := 0 :: es.dropLast.map (· + 1)
def wordAt (xs : List Str) (i : Int) : Str := xs.getD i.toNat Str.empty
def incr (es : List Int) : Bool := (es.zip es.tail).all fun p => decide (p.1 < p.2)
def firstsOk (ys xs : List Str) (es : List Int) : Bool := ((begsOf es).zip ys).all fun p => PyData.eqv (.str (wordAt xs p.1)) (.str p.2)
def lastsOk (ys xs : List Str) (n : Int) (es : List Int) : Bool := (es.zip ys).all fun p => alk (wordAt xs p.1) p.2 n
/-- these are the ends of a parting -/
def part (ys xs : List Str) (n : Int) (es : List Int) : Bool := decide (es.length = ys.length) && (decide (es.getLast? = some ((xs.length : Int) - 1)) && (decide (0 ≤ es.headD 0) && (incr es && (firstsOk ys xs es && lastsOk ys xs n es))))
def intOf : PyData → Int
  | .int i => i
  | _ => 0
def evidP (ys xs : List Str) (n : Int) (d : PyData) : Bool := match d with
  | .tuple ds => ds.all isNum && part ys xs n (ds.map intOf)
  | _ => false
def leastP (ys xs : List Str) (n : Int) : List Int := ((matched (pairsD ys n) (pairsD xs n)).map fun k => ((k : Nat) : Int)) ++ [(xs.length : Int) - 1]
def leastD (ys xs : List Str) (n : Int) : PyData := match obs ys xs n with
  | none => .tuple ((leastP ys xs n).map .int)
  | some _ => .none
def LeastParting : VSp := fun os R => ∃ dc d ys xs n, os = [.sh dc, .sh d, .sh (.int n)] ∧ Txt dc ys ∧ Txt d xs ∧ Fit ys ∧ Fit xs ∧ ys ≠ [] ∧ xs ≠ [] ∧ R (.sh (leastD ys xs n)) os
def IsParting : VSp := fun os R => ∃ dc d ys xs n es, os = [.sh dc, .sh d, .sh (.int n), .sh (.tuple (es.map .int))] ∧ Txt dc ys ∧ Txt d xs ∧ Fit ys ∧ Fit xs ∧ ys ≠ [] ∧ xs ≠ [] ∧ ys.length ≤ 60 ∧ R (.sh (.bool (part ys xs n es))) os
def ShowsP : VSp := fun os R => ∃ dc d ys xs n m, os = [.sh dc, .sh d, .sh (.int n), .sh m] ∧ Txt dc ys ∧ Txt d xs ∧ Fit ys ∧ Fit xs ∧ ys ≠ [] ∧ xs ≠ [] ∧ ys.length ≤ 60 ∧ Mat m ∧ R (.sh (.bool (evidP ys xs n m))) os
abbrev spec_least_parting : VSp := LeastParting
abbrev spec_is_parting : VSp := IsParting
abbrev spec__law_are_places : VSp := IsParting
abbrev spec_shows_parting : VSp := ShowsP
abbrev spec__law_is_it : VSp := ShowsP
end VL

set_option Elab.async false
set_option linter.all false
set_option maxRecDepth 100000
set_option maxHeartbeats 4000000
namespace VL
open PySem PySem.Spec PyProof.Rows L2
def topS (i : Nat) : Stmt := PySem.Challenge.pw_eyeskip_k09_evidence_of_partings.main.body.getD i (.Pass ⟨0, 0, 0, 0⟩)
abbrev ms_is_integer : List Bool := [false]
abbrev kbs_is_integer : List (List Str × List Nat) := []
abbrev s_is_integer : Stmt := topS 1
abbrev N_is_integer : List Str := ["thing"]
abbrev ps_is_integer : List Str := ["thing"]
theorem sc_is_integer : FnScope N_is_integer ps_is_integer (defScope s_is_integer) := ⟨rfl, rfl, rfl, by decide +kernel, rfl, by decide +kernel, by decide +kernel⟩
def t_is_integer : VS := vRet (vAndV (vUn (pIsi "int") (vSlot 0)) (vNotV (vUn (pIsi "bool") (vSlot 0))))
theorem dv_is_integer [Wd] {K : PySem.W.Frag} {mg : Str → Option Value} {base : Heap} {f : Addr} {cdv : Value} {A : Around} {outer : List Env} {s : Shared} {H : Hp} {E : XK} (Bt : Bts mg)
    (hr : Room 0 (A.deeper (envOfC "is_integer" (defScope s_is_integer) s.heap.objs.size f cdv))) (hg : A.guards = some []) :
    VSs ((cxOf CX0 Wd.P Wd.w K mg base N_is_integer "is_integer" (defScope s_is_integer) f cdv A outer s H E).nox) (defBody s_is_integer) t_is_integer :=
  vs_one (vs_ret (ve_and (ve_isi (T := "int") (by decide) (vb_slot (pv 0)) (pe_callB call_isi (by rfl) Bt.n_isinstance (by first | exact PySem.boot_isinstance | exact PyProof.Rows.boot_isinstance | decide +kernel) (pa_cons (VB.pe (vb_slot (pv 0))) (pa_cons (pe_bltn (v := .ty "int") (by rfl) Bt.n_int (by first | exact PySem.boot_int | exact PyProof.Rows.boot_int | decide +kernel) rfl) pa_nil (by rfl)) (by rfl)))) (ve_one (ve_not (ve_isi (T := "bool") (by decide) (vb_slot (pv 0)) (pe_callB call_isi (by rfl) Bt.n_isinstance (by first | exact PySem.boot_isinstance | exact PyProof.Rows.boot_isinstance | decide +kernel) (pa_cons (VB.pe (vb_slot (pv 0))) (pa_cons (pe_bltn (v := .ty "bool") (by rfl) Bt.n_bool (by first | exact PySem.boot_bool | exact PyProof.Rows.boot_bool | decide +kernel) rfl) pa_nil (by rfl)) (by rfl))))))))
abbrev ms_ending : List Bool := [false, false]
abbrev kbs_ending : List (List Str × List Nat) := []
abbrev s_ending : Stmt := topS 2
abbrev N_ending : List Str := ["word", "tail"]
abbrev ps_ending : List Str := ["word", "tail"]
theorem sc_ending : FnScope N_ending ps_ending (defScope s_ending) := ⟨rfl, rfl, rfl, by decide +kernel, rfl, by decide +kernel, by decide +kernel⟩
def t_ending : VS := vRet (vSl pdSl (vSlot 0) (vPart (vUn pdNeg (vSlot 1))) (vNoPart))
theorem dv_ending [Wd] {K : PySem.W.Frag} {mg : Str → Option Value} {base : Heap} {f : Addr} {cdv : Value} {A : Around} {outer : List Env} {s : Shared} {H : Hp} {E : XK} (Bt : Bts mg)
    (hr : Room 0 (A.deeper (envOfC "ending" (defScope s_ending) s.heap.objs.size f cdv))) (hg : A.guards = some []) :
    VSs ((cxOf CX0 Wd.P Wd.w K mg base N_ending "ending" (defScope s_ending) f cdv A outer s H E).nox) (defBody s_ending) t_ending :=
  vs_one (vs_ret (ve_slice sl_any ok_sl pm_sl (vb_slot (pv 0)) (vo_some (ve_un un_neg ok_neg pm_neg (vb_slot (pv 1)))) (vo_none)))
abbrev ms_looks_alike : List Bool := [false, false, false]
abbrev kbs_looks_alike : List (List Str × List Nat) := []
abbrev s_looks_alike : Stmt := topS 3
abbrev N_looks_alike : List Str := ["first", "second", "tail"]
abbrev ps_looks_alike : List Str := ["first", "second", "tail"]
theorem sc_looks_alike : FnScope N_looks_alike ps_looks_alike (defScope s_looks_alike) := ⟨rfl, rfl, rfl, by decide +kernel, rfl, by decide +kernel, by decide +kernel⟩
def t_looks_alike : VS := vRet (vOp pdEq (vSh (vCall ms_ending spec_ending (vConsA (vSh (vVar 0)) (vConsA (vSh (vVar 2)) (vNilA))))) (vSh (vCall ms_ending spec_ending (vConsA (vSh (vVar 1)) (vConsA (vSh (vVar 2)) (vNilA))))))
theorem dv_looks_alike [Wd] {K : PySem.W.Frag} {mg : Str → Option Value} {base : Heap} {f : Addr} {cdv : Value} {A : Around} {outer : List Env} {s : Shared} {H : Hp} {E : XK} (Bt : Bts mg) (D_ending : Df Wd.P Wd.w K mg base 1 "ending" ps_ending ms_ending kbs_ending spec_ending)
    (hr : Room 1 (A.deeper (envOfC "looks_alike" (defScope s_looks_alike) s.heap.objs.size f cdv))) (hg : A.guards = some []) :
    VSs ((cxOf CX0 Wd.P Wd.w K mg base N_looks_alike "looks_alike" (defScope s_looks_alike) f cdv A outer s H E).nox) (defBody s_looks_alike) t_looks_alike :=
  vs_one (vs_ret (ve_cmp (op_eqZ hr.units) ok_eq pm_eq (vb_of (ve_callD D_ending hr (by first | decide | omega) hg (va_cons (vb_of (ve_var (pv 0))) (va_cons (vb_of (ve_var (pv 2))) (va_nil) rfl) rfl) (by rfl) (by decide) rfl rfl)) (vb_of (ve_callD D_ending hr (by first | decide | omega) hg (va_cons (vb_of (ve_var (pv 1))) (va_cons (vb_of (ve_var (pv 2))) (va_nil) rfl) rfl) (by rfl) (by decide) rfl rfl)) (by first | rfl | exact nomark _)))
abbrev ms_pairs : List Bool := [false, false]
abbrev kbs_pairs : List (List Str × List Nat) := []
abbrev s_pairs : Stmt := topS 4
abbrev N_pairs : List Str := ["text", "tail", "word", "following"]
abbrev ps_pairs : List Str := ["text", "tail"]
theorem sc_pairs : FnScope N_pairs ps_pairs (defScope s_pairs) := ⟨rfl, rfl, rfl, by decide +kernel, rfl, by decide +kernel, by decide +kernel⟩
def t_pairs : VS := vRet (vLc (vZip (vConsA (vSh (vVar 0)) (vConsA (vSh (vSl pdSl (vSlot 0) (vPart (vC (.int 1))) (vNoPart))) (vNilA)))) (gvTup 2 (gvCons (gvName 2) (gvCons (gvName 3) (gvNil)))) (vYes) (vTup (vConsA (vSh (vCall ms_ending spec_ending (vConsA (vSh (vVar 2)) (vConsA (vSh (vVar 1)) (vNilA))))) (vConsA (vSh (vVar 3)) (vNilA)))) [2, 3])
theorem dv_pairs [Wd] {K : PySem.W.Frag} {mg : Str → Option Value} {base : Heap} {f : Addr} {cdv : Value} {A : Around} {outer : List Env} {s : Shared} {H : Hp} {E : XK} (Bt : Bts mg) (D_ending : Df Wd.P Wd.w K mg base 1 "ending" ps_ending ms_ending kbs_ending spec_ending)
    (hr : Room 1 (A.deeper (envOfC "pairs" (defScope s_pairs) s.heap.objs.size f cdv))) (hg : A.guards = some []) :
    VSs ((cxOf CX0 Wd.P Wd.w K mg base N_pairs "pairs" (defScope s_pairs) f cdv A outer s H E).nox) (defBody s_pairs) t_pairs :=
  vs_one (vs_ret (ve_lc (own := [("word", 2), ("following", 3)]) rfl sc_pairs.nd (vi_zip (va_cons (vb_of (ve_var (pv 0))) (va_cons (vb_of (ve_slice sl_any ok_sl pm_sl (vb_slot (pv 0)) (vo_some (ve_int)) (vo_none))) (va_nil) rfl) rfl) (fun t h => RZ.pi_zipA rfl Bt.n_zip h)) (blkOk_by (own := [("word", 2), ("following", 3)]) (N := N_pairs) (sc := defScope s_pairs) (by decide +kernel)) (fun _ _ _ _ _ => gv_tup (n := 2) rfl (gv_cons (gv_name (is := [2, 3]) (pg_name (i := 2) sc_pairs.nd rfl (by first | exact Or.inl rfl | exact Or.inr rfl)) (by decide)) (gv_cons (gv_name (is := [2, 3]) (pg_name (i := 3) sc_pairs.nd rfl (by first | exact Or.inl rfl | exact Or.inr rfl)) (by decide)) (gv_nil) rfl) rfl) rfl rfl) (fun _ _ _ _ _ => vts_nil) (fun _ _ _ _ _ => ve_tup (va_cons (vb_of (ve_callD D_ending hr (by first | decide | omega) hg (va_cons (vb_of (ve_var (pv 2))) (va_cons (vb_of (ve_var (pv 1))) (va_nil) rfl) rfl) (by rfl) (by decide) rfl rfl)) (va_cons (vb_of (ve_var (pv 3))) (va_nil) rfl) rfl)) (fun _ => rfl) s))
abbrev ms_matched_pairs : List Bool := [false, false, false]
abbrev kbs_matched_pairs : List (List Str × List Nat) := []
abbrev s_matched_pairs : Stmt := topS 6
abbrev N_matched_pairs : List Str := ["copy", "original", "tail", "wanted", "found", "index", "pair"]
abbrev ps_matched_pairs : List Str := ["copy", "original", "tail"]
theorem sc_matched_pairs : FnScope N_matched_pairs ps_matched_pairs (defScope s_matched_pairs) := ⟨rfl, rfl, rfl, by decide +kernel, rfl, by decide +kernel, by decide +kernel⟩
def t_matched_pairs : VS := vSeq (vPar 3 4 (vCall ms_pairs spec_pairs (vConsA (vSh (vVar 0)) (vConsA (vSh (vVar 2)) (vNilA)))) (vLst (vNilA))) (vSeq (vFor (vEnum (vConsA (vSh (vCall ms_pairs spec_pairs (vConsA (vSh (vVar 1)) (vConsA (vSh (vVar 2)) (vNilA))))) (vNilA))) (gvTup 2 (gvCons (gvName 5) (gvCons (gvName 6) (gvNil)))) (vIfS (vAnd (vTest (vOp pdLt (vSh (vCB (pd1 pLen) (vConsA (vSlot 4) (vNilA)))) (vSh (vCB (pd1 pLen) (vConsA (vSlot 3) (vNilA)))))) (vTest (vOp pdEq (vSlot 6) (vSh (vOp pdIx (vSlot 3) (vSh (vCB (pd1 pLen) (vConsA (vSlot 4) (vNilA))))))))) (vDrop (vMth pmAppend 4 (vConsA (vSh (vVar 5)) (vNilA)))) (vNext))) (vRet (vMove 4)))
theorem dv_matched_pairs [Wd] {K : PySem.W.Frag} {mg : Str → Option Value} {base : Heap} {f : Addr} {cdv : Value} {A : Around} {outer : List Env} {s : Shared} {H : Hp} {E : XK} (Bt : Bts mg) (D_pairs : Df Wd.P Wd.w K mg base 2 "pairs" ps_pairs ms_pairs kbs_pairs spec_pairs)
    (hr : Room 2 (A.deeper (envOfC "matched_pairs" (defScope s_matched_pairs) s.heap.objs.size f cdv))) (hg : A.guards = some []) :
    VSs ((cxOf CX0 Wd.P Wd.w K mg base N_matched_pairs "matched_pairs" (defScope s_matched_pairs) f cdv A outer s H E).nox) (defBody s_matched_pairs) t_matched_pairs :=
  vs_cons ((by first | exact vs_par (i := 3) (j := 4) (ve_callD D_pairs hr (by first | decide | omega) hg (va_cons (vb_of (ve_var (pv 0))) (va_cons (vb_of (ve_var (pv 2))) (va_nil) rfl) rfl) (by rfl) (by decide) rfl rfl) (ve_lst (va_nil)) (fun ta tb h1 h2 => ps_par rfl sc_matched_pairs.nd rfl rfl (by decide) rfl rfl (pa_cons h1 (pa_cons h2 pa_nil)) (by rfl)) | exact vs_parC (i := 3) (j := 4) rfl (ve_callD D_pairs hr (by first | decide | omega) hg (va_cons (vb_of (ve_var (pv 0))) (va_cons (vb_of (ve_var (pv 2))) (va_nil) rfl) rfl) (by rfl) (by decide) rfl rfl) (ve_lst (va_nil)) (fun ta tb h1 h2 => ps_asg (pe_tup (pa_cons h1 (pa_cons h2 pa_nil))) (pg_tup rfl (pgs_cons (pg_name (i := 3) sc_matched_pairs.nd rfl (by first | exact Or.inl rfl | exact Or.inr rfl)) (pgs_cons (pg_name (i := 4) sc_matched_pairs.nd rfl (by first | exact Or.inl rfl | exact Or.inr rfl)) pgs_nil)))))) (vs_cons (vs_for PassesOwn.never rfl (vi_enum (va_cons (vb_of (ve_callD D_pairs hr (by first | decide | omega) hg (va_cons (vb_of (ve_var (pv 1))) (va_cons (vb_of (ve_var (pv 2))) (va_nil) rfl) rfl) (by rfl) (by decide) rfl rfl)) (va_nil) rfl) (fun t h => pi_enum rfl Bt.n_enumerate h)) (gv_tup (n := 2) rfl (gv_cons (gv_name (is := [5, 6]) (pg_name (i := 5) sc_matched_pairs.nd rfl (by first | exact Or.inl rfl | exact Or.inr rfl)) (by decide)) (gv_cons (gv_name (is := [5, 6]) (pg_name (i := 6) sc_matched_pairs.nd rfl (by first | exact Or.inl rfl | exact Or.inr rfl)) (by decide)) (gv_nil) rfl) rfl) rfl rfl) (vs_one (vs_if (PWv.vt (vw_and (vt_cmp op_ltA ok_ord pm_ord (vb_of (ve_cb ok_len lm_len (va_cons (vb_slot (pv 4)) (va_nil) rfl) (fun t h => pe_callB call_len (by rfl) Bt.n_len (by first | exact PySem.boot_len | exact PyProof.Rows.boot_len | decide +kernel) h))) (vb_of (ve_cb ok_len lm_len (va_cons (vb_slot (pv 3)) (va_nil) rfl) (fun t h => pe_callB call_len (by rfl) Bt.n_len (by first | exact PySem.boot_len | exact PyProof.Rows.boot_len | decide +kernel) h))) (by first | rfl | exact nomark _)) (vw_and1 (vt_cmp (op_eqZ hr.units) ok_eq pm_eq (vb_slot (pv 6)) (vb_of (ve_ix ix_seq ok_ix pm_ix (vb_slot (pv 3)) (vb_of (ve_cb ok_len lm_len (va_cons (vb_slot (pv 4)) (va_nil) rfl) (fun t h => pe_callB call_len (by rfl) Bt.n_len (by first | exact PySem.boot_len | exact PyProof.Rows.boot_len | decide +kernel) h))) (fun _ _ => rfl))) (by first | rfl | exact nomark _))))) (vs_one (vs_expr (ve_mth mk_append mm_append (va_cons (vb_of (ve_var (pv 5))) (va_nil) rfl) (fun t h => pe_bm PySem.F.plainAttrs_list PySem.F.slot_list_append PySem.F.type_list_append mt_append (pv 4) h)) rfl)) (vs_nil))) (fun _ => rfl)) (vs_one (vs_ret (ve_move (pv 4)))))
abbrev ms_obstacle : List Bool := [false, false, false]
abbrev kbs_obstacle : List (List Str × List Nat) := []
abbrev s_obstacle : Stmt := topS 7
abbrev N_obstacle : List Str := ["copy", "original", "tail", "matched"]
abbrev ps_obstacle : List Str := ["copy", "original", "tail"]
theorem sc_obstacle : FnScope N_obstacle ps_obstacle (defScope s_obstacle) := ⟨rfl, rfl, rfl, by decide +kernel, rfl, by decide +kernel, by decide +kernel⟩
def t_obstacle : VS := vSeq (vIfS (vTest (vOp pdNe (vSh (vOp pdIx (vSlot 0) (vSh (vC (.int 0))))) (vSh (vOp pdIx (vSlot 1) (vSh (vC (.int 0))))))) (vRet (vC (.int 0))) (vNext)) (vSeq (vAsg (vOp pdAdd (vSh (vCB (pd1 pLen) (vConsA (vSh (vCall ms_matched_pairs spec_matched_pairs (vConsA (vSh (vVar 0)) (vConsA (vSh (vVar 1)) (vConsA (vSh (vVar 2)) (vNilA)))))) (vNilA)))) (vSh (vC (.int 1)))) 3) (vSeq (vIfS (vAnd (vTest (vOp pdEq (vSlot 3) (vSh (vCB (pd1 pLen) (vConsA (vSlot 0) (vNilA)))))) (vTest (vCall ms_looks_alike spec_looks_alike (vConsA (vSh (vOp pdIx (vSlot 0) (vSh (vUn pdNeg (vSh (vC (.int 1))))))) (vConsA (vSh (vOp pdIx (vSlot 1) (vSh (vUn pdNeg (vSh (vC (.int 1))))))) (vConsA (vSh (vVar 2)) (vNilA))))))) (vRet (vC .none)) (vNext)) (vRet (vMove 3))))
theorem dv_obstacle [Wd] {K : PySem.W.Frag} {mg : Str → Option Value} {base : Heap} {f : Addr} {cdv : Value} {A : Around} {outer : List Env} {s : Shared} {H : Hp} {E : XK} (Bt : Bts mg) (D_matched_pairs : Df Wd.P Wd.w K mg base 3 "matched_pairs" ps_matched_pairs ms_matched_pairs kbs_matched_pairs spec_matched_pairs) (D_looks_alike : Df Wd.P Wd.w K mg base 2 "looks_alike" ps_looks_alike ms_looks_alike kbs_looks_alike spec_looks_alike)
    (hr : Room 3 (A.deeper (envOfC "obstacle" (defScope s_obstacle) s.heap.objs.size f cdv))) (hg : A.guards = some []) :
    VSs ((cxOf CX0 Wd.P Wd.w K mg base N_obstacle "obstacle" (defScope s_obstacle) f cdv A outer s H E).nox) (defBody s_obstacle) t_obstacle :=
  vs_cons (vs_if (vt_cmp (op_neZ hr.units) ok_ne pm_ne (vb_of (ve_ix ix_seq ok_ix pm_ix (vb_slot (pv 0)) (vb_of (ve_int)) (fun _ _ => rfl))) (vb_of (ve_ix ix_seq ok_ix pm_ix (vb_slot (pv 1)) (vb_of (ve_int)) (fun _ _ => rfl))) (by first | rfl | exact nomark _)) (vs_one (vs_ret (ve_int))) (vs_nil)) (vs_cons (vs_set (ve_op op_addA ok_add pm_add (vb_of (ve_cb ok_len lm_len (va_cons (vb_of (ve_callD D_matched_pairs hr (by first | decide | omega) hg (va_cons (vb_of (ve_var (pv 0))) (va_cons (vb_of (ve_var (pv 1))) (va_cons (vb_of (ve_var (pv 2))) (va_nil) rfl) rfl) rfl) (by rfl) (by decide) rfl rfl)) (va_nil) rfl) (fun t h => pe_callB call_len (by rfl) Bt.n_len (by first | exact PySem.boot_len | exact PyProof.Rows.boot_len | decide +kernel) h))) (vb_of (ve_int))) (fun te h => ps_set (i := 3) sc_obstacle.nd rfl (by first | exact Or.inl rfl | exact Or.inr rfl) h)) (vs_cons (vs_if (PWv.vt (vw_and (vt_cmp (op_eqZ hr.units) ok_eq pm_eq (vb_slot (pv 3)) (vb_of (ve_cb ok_len lm_len (va_cons (vb_slot (pv 0)) (va_nil) rfl) (fun t h => pe_callB call_len (by rfl) Bt.n_len (by first | exact PySem.boot_len | exact PyProof.Rows.boot_len | decide +kernel) h))) (by first | rfl | exact nomark _)) (vw_and1 (vt_of (ve_callD D_looks_alike hr (by first | decide | omega) hg (va_cons (vb_of (ve_ix ix_seq ok_ix pm_ix (vb_slot (pv 0)) (vb_of (ve_un un_neg ok_neg pm_neg (vb_of (ve_int)))) (fun _ _ => rfl))) (va_cons (vb_of (ve_ix ix_seq ok_ix pm_ix (vb_slot (pv 1)) (vb_of (ve_un un_neg ok_neg pm_neg (vb_of (ve_int)))) (fun _ _ => rfl))) (va_cons (vb_of (ve_var (pv 2))) (va_nil) rfl) rfl) rfl) (by rfl) (by decide) rfl rfl) (fun _ => rfl))))) (vs_one (vs_ret (ve_none))) (vs_nil)) (vs_one (vs_ret (ve_move (pv 3))))))
abbrev ms_comes_from : List Bool := [false, false, false]
abbrev kbs_comes_from : List (List Str × List Nat) := []
abbrev s_comes_from : Stmt := topS 8
abbrev N_comes_from : List Str := ["copy", "original", "tail"]
abbrev ps_comes_from : List Str := ["copy", "original", "tail"]
theorem sc_comes_from : FnScope N_comes_from ps_comes_from (defScope s_comes_from) := ⟨rfl, rfl, rfl, by decide +kernel, rfl, by decide +kernel, by decide +kernel⟩
def t_comes_from : VS := vRet (vOp (pdIs false) (vSh (vCall ms_obstacle spec_obstacle (vConsA (vSh (vVar 0)) (vConsA (vSh (vVar 1)) (vConsA (vSh (vVar 2)) (vNilA)))))) (vSh (vC .none)))
theorem dv_comes_from [Wd] {K : PySem.W.Frag} {mg : Str → Option Value} {base : Heap} {f : Addr} {cdv : Value} {A : Around} {outer : List Env} {s : Shared} {H : Hp} {E : XK} (Bt : Bts mg) (D_obstacle : Df Wd.P Wd.w K mg base 4 "obstacle" ps_obstacle ms_obstacle kbs_obstacle spec_obstacle)
    (hr : Room 4 (A.deeper (envOfC "comes_from" (defScope s_comes_from) s.heap.objs.size f cdv))) (hg : A.guards = some []) :
    VSs ((cxOf CX0 Wd.P Wd.w K mg base N_comes_from "comes_from" (defScope s_comes_from) f cdv A outer s H E).nox) (defBody s_comes_from) t_comes_from :=
  vs_one (vs_ret (ve_cmp op_isA ok_is pm_is (vb_of (ve_callD D_obstacle hr (by first | decide | omega) hg (va_cons (vb_of (ve_var (pv 0))) (va_cons (vb_of (ve_var (pv 1))) (va_cons (vb_of (ve_var (pv 2))) (va_nil) rfl) rfl) rfl) (by rfl) (by decide) rfl rfl)) (vb_of (ve_none)) (by first | rfl | exact nomark _)))
abbrev ms_least_parting : List Bool := [false, false, false]
abbrev kbs_least_parting : List (List Str × List Nat) := []
abbrev s_least_parting : Stmt := topS 9
abbrev N_least_parting : List Str := ["copy", "original", "tail"]
abbrev ps_least_parting : List Str := ["copy", "original", "tail"]
theorem sc_least_parting : FnScope N_least_parting ps_least_parting (defScope s_least_parting) := ⟨rfl, rfl, rfl, by decide +kernel, rfl, by decide +kernel, by decide +kernel⟩
def t_least_parting : VS := vSeq (vIfS (vNot (vTest (vCall ms_comes_from spec_comes_from (vConsA (vSh (vVar 0)) (vConsA (vSh (vVar 1)) (vConsA (vSh (vVar 2)) (vNilA))))))) (vRet (vC .none)) (vNext)) (vRet (vCB (pd1 pTuple) (vConsA (vSh (vOp pdAdd (vSh (vCall ms_matched_pairs spec_matched_pairs (vConsA (vSh (vVar 0)) (vConsA (vSh (vVar 1)) (vConsA (vSh (vVar 2)) (vNilA)))))) (vSh (vLst (vConsA (vSh (vOp pdSub (vSh (vCB (pd1 pLen) (vConsA (vSlot 1) (vNilA)))) (vSh (vC (.int 1))))) (vNilA)))))) (vNilA))))
theorem dv_least_parting [Wd] {K : PySem.W.Frag} {mg : Str → Option Value} {base : Heap} {f : Addr} {cdv : Value} {A : Around} {outer : List Env} {s : Shared} {H : Hp} {E : XK} (Bt : Bts mg) (D_comes_from : Df Wd.P Wd.w K mg base 5 "comes_from" ps_comes_from ms_comes_from kbs_comes_from spec_comes_from) (D_matched_pairs : Df Wd.P Wd.w K mg base 3 "matched_pairs" ps_matched_pairs ms_matched_pairs kbs_matched_pairs spec_matched_pairs)
    (hr : Room 5 (A.deeper (envOfC "least_parting" (defScope s_least_parting) s.heap.objs.size f cdv))) (hg : A.guards = some []) :
    VSs ((cxOf CX0 Wd.P Wd.w K mg base N_least_parting "least_parting" (defScope s_least_parting) f cdv A outer s H E).nox) (defBody s_least_parting) t_least_parting :=
  vs_cons (vs_if (vt_not (vt_of (ve_callD D_comes_from hr (by first | decide | omega) hg (va_cons (vb_of (ve_var (pv 0))) (va_cons (vb_of (ve_var (pv 1))) (va_cons (vb_of (ve_var (pv 2))) (va_nil) rfl) rfl) rfl) (by rfl) (by decide) rfl rfl) (fun _ => rfl))) (vs_one (vs_ret (ve_none))) (vs_nil)) (vs_one (vs_ret (ve_cb ok_tuple lm_tuple (va_cons (vb_of (ve_op op_addA ok_add pm_add (vb_of (ve_callD D_matched_pairs hr (by first | decide | omega) hg (va_cons (vb_of (ve_var (pv 0))) (va_cons (vb_of (ve_var (pv 1))) (va_cons (vb_of (ve_var (pv 2))) (va_nil) rfl) rfl) rfl) (by rfl) (by decide) rfl rfl)) (vb_of (ve_lst (va_cons (vb_of (ve_op op_subT ok_sub pm_int (vb_of (ve_cb ok_len lm_len (va_cons (vb_slot (pv 1)) (va_nil) rfl) (fun t h => pe_callB call_len (by rfl) Bt.n_len (by first | exact PySem.boot_len | exact PyProof.Rows.boot_len | decide +kernel) h))) (vb_of (ve_int)))) (va_nil) rfl))))) (va_nil) rfl) (fun t h => pe_callTy call_tuple_of (by rfl) Bt.n_tuple (by first | exact PySem.boot_tuple | exact PyProof.Rows.boot_tuple | decide +kernel) h))))
abbrev ms_is_parting : List Bool := [false, false, false, false]
abbrev kbs_is_parting : List (List Str × List Nat) := []
abbrev s_is_parting : Stmt := topS 10
abbrev N_is_parting : List Str := ["copy", "original", "tail", "ends", "begins", "word", "begin", "end", "later"]
abbrev ps_is_parting : List Str := ["copy", "original", "tail", "ends"]
theorem sc_is_parting : FnScope N_is_parting ps_is_parting (defScope s_is_parting) := ⟨rfl, rfl, rfl, by decide +kernel, rfl, by decide +kernel, by decide +kernel⟩
def t_is_parting : VS := vSeq (vIfS (vOr (vTest (vOp pdNe (vSh (vCB (pd1 pLen) (vConsA (vSlot 3) (vNilA)))) (vSh (vCB (pd1 pLen) (vConsA (vSlot 0) (vNilA)))))) (vOr (vTest (vOp pdNe (vSh (vOp pdIx (vSlot 3) (vSh (vUn pdNeg (vSh (vC (.int 1))))))) (vSh (vOp pdSub (vSh (vCB (pd1 pLen) (vConsA (vSlot 1) (vNilA)))) (vSh (vC (.int 1))))))) (vTest (vOp pdLt (vSh (vOp pdIx (vSlot 3) (vSh (vC (.int 0))))) (vSh (vC (.int 0))))))) (vRet (vC (.bool false))) (vNext)) (vSeq (vIfS (vNot (vTest (vCB (pd1 (pAll false)) (vConsA (vSh (vLc (vZip (vConsA (vSh (vVar 3)) (vConsA (vSh (vSl pdSl (vSlot 3) (vPart (vC (.int 1))) (vNoPart))) (vNilA)))) (gvTup 2 (gvCons (gvName 7) (gvCons (gvName 8) (gvNil)))) (vYes) (vOp pdLt (vSlot 7) (vSlot 8)) [7, 8])) (vNilA))))) (vRet (vC (.bool false))) (vNext)) (vSeq (vAsg (vOp pdAdd (vSh (vLst (vConsA (vSh (vC (.int 0))) (vNilA)))) (vSh (vLc (vSeqI (vSl pdSl (vSlot 3) (vNoPart) (vPart (vUn pdNeg (vSh (vC (.int 1))))))) (gvName 7) (vYes) (vOp pdAdd (vSlot 7) (vSh (vC (.int 1)))) [7]))) 4) (vSeq (vFor (vZip3 (vConsA (vSh (vVar 0)) (vConsA (vSh (vVar 4)) (vConsA (vSh (vVar 3)) (vNilA))))) (gvTup 3 (gvCons (gvName 5) (gvCons (gvName 6) (gvCons (gvName 7) (gvNil))))) (vIfS (vOr (vTest (vOp pdNe (vSh (vOp pdIx (vSlot 1) (vSlot 6))) (vSlot 5))) (vNot (vTest (vCall ms_looks_alike spec_looks_alike (vConsA (vSh (vOp pdIx (vSlot 1) (vSlot 7))) (vConsA (vSh (vVar 5)) (vConsA (vSh (vVar 2)) (vNilA)))))))) (vRet (vC (.bool false))) (vNext))) (vRet (vC (.bool true))))))
theorem dv_is_parting [Wd] {K : PySem.W.Frag} {mg : Str → Option Value} {base : Heap} {f : Addr} {cdv : Value} {A : Around} {outer : List Env} {s : Shared} {H : Hp} {E : XK} (Bt : Bts mg) (D_looks_alike : Df Wd.P Wd.w K mg base 2 "looks_alike" ps_looks_alike ms_looks_alike kbs_looks_alike spec_looks_alike)
    (hr : Room 2 (A.deeper (envOfC "is_parting" (defScope s_is_parting) s.heap.objs.size f cdv))) (hg : A.guards = some []) :
    VSs ((cxOf CX0 Wd.P Wd.w K mg base N_is_parting "is_parting" (defScope s_is_parting) f cdv A outer s H E).nox) (defBody s_is_parting) t_is_parting :=
  vs_cons (vs_if (PWv.vt (vw_or (vt_cmp (op_neZ hr.units) ok_ne pm_ne (vb_of (ve_cb ok_len lm_len (va_cons (vb_slot (pv 3)) (va_nil) rfl) (fun t h => pe_callB call_len (by rfl) Bt.n_len (by first | exact PySem.boot_len | exact PyProof.Rows.boot_len | decide +kernel) h))) (vb_of (ve_cb ok_len lm_len (va_cons (vb_slot (pv 0)) (va_nil) rfl) (fun t h => pe_callB call_len (by rfl) Bt.n_len (by first | exact PySem.boot_len | exact PyProof.Rows.boot_len | decide +kernel) h))) (by first | rfl | exact nomark _)) (vw_or (vt_cmp (op_neZ hr.units) ok_ne pm_ne (vb_of (ve_ix ix_seq ok_ix pm_ix (vb_slot (pv 3)) (vb_of (ve_un un_neg ok_neg pm_neg (vb_of (ve_int)))) (fun _ _ => rfl))) (vb_of (ve_op op_subT ok_sub pm_int (vb_of (ve_cb ok_len lm_len (va_cons (vb_slot (pv 1)) (va_nil) rfl) (fun t h => pe_callB call_len (by rfl) Bt.n_len (by first | exact PySem.boot_len | exact PyProof.Rows.boot_len | decide +kernel) h))) (vb_of (ve_int)))) (by first | rfl | exact nomark _)) (vw_or1 (vt_cmp op_ltA ok_ord pm_ord (vb_of (ve_ix ix_seq ok_ix pm_ix (vb_slot (pv 3)) (vb_of (ve_int)) (fun _ _ => rfl))) (vb_of (ve_int)) (by first | rfl | exact nomark _)))))) (vs_one (vs_ret (ve_bool))) (vs_nil)) (vs_cons (vs_if (vt_not (vt_of (ve_cb ok_all lm_all (va_cons (vb_of (ve_lc (own := [("end", 7), ("later", 8)]) rfl sc_is_parting.nd (vi_zip (va_cons (vb_of (ve_var (pv 3))) (va_cons (vb_of (ve_slice sl_any ok_sl pm_sl (vb_slot (pv 3)) (vo_some (ve_int)) (vo_none))) (va_nil) rfl) rfl) (fun t h => RZ.pi_zipA rfl Bt.n_zip h)) (blkOk_by (own := [("end", 7), ("later", 8)]) (N := N_is_parting) (sc := defScope s_is_parting) (by decide +kernel)) (fun _ _ _ _ _ => gv_tup (n := 2) rfl (gv_cons (gv_name (is := [7, 8]) (pg_name (i := 7) sc_is_parting.nd rfl (by first | exact Or.inl rfl | exact Or.inr rfl)) (by decide)) (gv_cons (gv_name (is := [7, 8]) (pg_name (i := 8) sc_is_parting.nd rfl (by first | exact Or.inl rfl | exact Or.inr rfl)) (by decide)) (gv_nil) rfl) rfl) rfl rfl) (fun _ _ _ _ _ => vts_nil) (fun _ _ _ _ _ => ve_cmp op_ltA ok_ord pm_ord (vb_slot (pv 7)) (vb_slot (pv 8)) (by first | rfl | exact nomark _)) (fun _ => rfl) s)) (va_nil) rfl) (fun t h => pe_callB (cr_all rfl) (by rfl) Bt.n_all (by first | exact PySem.boot_all | exact PyProof.Rows.boot_all | decide +kernel) h)) (fun _ => rfl))) (vs_one (vs_ret (ve_bool))) (vs_nil)) (vs_cons (vs_set (ve_op op_addA ok_add pm_add (vb_of (ve_lst (va_cons (vb_of (ve_int)) (va_nil) rfl))) (vb_of (ve_lc (own := [("end", 7)]) rfl sc_is_parting.nd (vi_seq (ve_slice sl_any ok_sl pm_sl (vb_slot (pv 3)) (vo_none) (vo_some (ve_un un_neg ok_neg pm_neg (vb_of (ve_int)))))) (blkOk_by (own := [("end", 7)]) (N := N_is_parting) (sc := defScope s_is_parting) (by decide +kernel)) (fun _ _ _ _ _ => gv_name (is := [7]) (pg_name (i := 7) sc_is_parting.nd rfl (by first | exact Or.inl rfl | exact Or.inr rfl)) (by decide)) (fun _ _ _ _ _ => vts_nil) (fun _ _ _ _ _ => ve_op op_addA ok_add pm_add (vb_slot (pv 7)) (vb_of (ve_int))) (fun _ => rfl) s))) (fun te h => ps_set (i := 4) sc_is_parting.nd rfl (by first | exact Or.inl rfl | exact Or.inr rfl) h)) (vs_cons (vs_for PassesOwn.never rfl (vi_zip3 (va_cons (vb_of (ve_var (pv 0))) (va_cons (vb_of (ve_var (pv 4))) (va_cons (vb_of (ve_var (pv 3))) (va_nil) rfl) rfl) rfl) (fun t h => pi_zipN zipCall3 (by decide) (by decide) rfl Bt.n_zip h)) (gv_tup (n := 3) rfl (gv_cons (gv_name (is := [5, 6, 7]) (pg_name (i := 5) sc_is_parting.nd rfl (by first | exact Or.inl rfl | exact Or.inr rfl)) (by decide)) (gv_cons (gv_name (is := [5, 6, 7]) (pg_name (i := 6) sc_is_parting.nd rfl (by first | exact Or.inl rfl | exact Or.inr rfl)) (by decide)) (gv_cons (gv_name (is := [5, 6, 7]) (pg_name (i := 7) sc_is_parting.nd rfl (by first | exact Or.inl rfl | exact Or.inr rfl)) (by decide)) (gv_nil) rfl) rfl) rfl) rfl rfl) (vs_one (vs_if (PWv.vt (vw_or (vt_cmp (op_neZ hr.units) ok_ne pm_ne (vb_of (ve_ix ix_seq ok_ix pm_ix (vb_slot (pv 1)) (vb_slot (pv 6)) (fun _ _ => rfl))) (vb_slot (pv 5)) (by first | rfl | exact nomark _)) (vw_or1 (vt_not (vt_of (ve_callD D_looks_alike hr (by first | decide | omega) hg (va_cons (vb_of (ve_ix ix_seq ok_ix pm_ix (vb_slot (pv 1)) (vb_slot (pv 7)) (fun _ _ => rfl))) (va_cons (vb_of (ve_var (pv 5))) (va_cons (vb_of (ve_var (pv 2))) (va_nil) rfl) rfl) rfl) (by rfl) (by decide) rfl rfl) (fun _ => rfl)))))) (vs_one (vs_ret (ve_bool))) (vs_nil))) (fun _ => rfl)) (vs_one (vs_ret (ve_bool))))))
abbrev ms_shows_parting : List Bool := [false, false, false, false]
abbrev kbs_shows_parting : List (List Str × List Nat) := [(["thing", "tail", "original", "copy"], [3, 2, 1, 0])]
abbrev s_shows_parting : Stmt := topS 11
abbrev N_shows_parting : List Str := ["copy", "original", "tail", "thing", "end"]
abbrev ps_shows_parting : List Str := ["copy", "original", "tail", "thing"]
theorem sc_shows_parting : FnScope N_shows_parting ps_shows_parting (defScope s_shows_parting) := ⟨rfl, rfl, rfl, by decide +kernel, rfl, by decide +kernel, by decide +kernel⟩
def t_shows_parting : VS := vSeq (vIfS (vOr (vNot (vTest (vUn (pIsi "tuple") (vSlot 3)))) (vNot (vTest (vCB (pd1 (pAll false)) (vConsA (vSh (vLc (vSeqI (vVar 3)) (gvName 4) (vYes) (vCall ms_is_integer spec_is_integer (vConsA (vSh (vVar 4)) (vNilA))) [4])) (vNilA)))))) (vRet (vC (.bool false))) (vNext)) (vRet (vCall ms_is_parting spec_is_parting (vConsA (vSh (vVar 0)) (vConsA (vSh (vVar 1)) (vConsA (vSh (vVar 2)) (vConsA (vSh (vVar 3)) (vNilA)))))))
theorem dv_shows_parting [Wd] {K : PySem.W.Frag} {mg : Str → Option Value} {base : Heap} {f : Addr} {cdv : Value} {A : Around} {outer : List Env} {s : Shared} {H : Hp} {E : XK} (Bt : Bts mg) (D_is_integer : Df Wd.P Wd.w K mg base 1 "is_integer" ps_is_integer ms_is_integer kbs_is_integer spec_is_integer) (D_is_parting : Df Wd.P Wd.w K mg base 3 "is_parting" ps_is_parting ms_is_parting kbs_is_parting spec_is_parting)
    (hr : Room 3 (A.deeper (envOfC "shows_parting" (defScope s_shows_parting) s.heap.objs.size f cdv))) (hg : A.guards = some []) :
    VSs ((cxOf CX0 Wd.P Wd.w K mg base N_shows_parting "shows_parting" (defScope s_shows_parting) f cdv A outer s H E).nox) (defBody s_shows_parting) t_shows_parting :=
  vs_cons (vs_if (PWv.vt (vw_or (vt_not (vt_of (ve_isi (T := "tuple") (by decide) (vb_slot (pv 3)) (pe_callB call_isi (by rfl) Bt.n_isinstance (by first | exact PySem.boot_isinstance | exact PyProof.Rows.boot_isinstance | decide +kernel) (pa_cons (VB.pe (vb_slot (pv 3))) (pa_cons (pe_bltn (v := .ty "tuple") (by rfl) Bt.n_tuple (by first | exact PySem.boot_tuple | exact PyProof.Rows.boot_tuple | decide +kernel) rfl) pa_nil (by rfl)) (by rfl)))) (fun _ => rfl))) (vw_or1 (vt_not (vt_of (ve_cb ok_all lm_all (va_cons (vb_of (ve_lc (own := [("end", 4)]) rfl sc_shows_parting.nd (vi_seq (ve_var (pv 3))) (blkOk_by (own := [("end", 4)]) (N := N_shows_parting) (sc := defScope s_shows_parting) (by decide +kernel)) (fun _ _ _ _ _ => gv_name (is := [4]) (pg_name (i := 4) sc_shows_parting.nd rfl (by first | exact Or.inl rfl | exact Or.inr rfl)) (by decide)) (fun _ _ _ _ _ => vts_nil) (fun _ _ _ _ _ => ve_callD D_is_integer hr (by first | decide | omega) hg (va_cons (vb_of (ve_var (pv 4))) (va_nil) rfl) (by rfl) (by decide) rfl rfl) (fun _ => rfl) s)) (va_nil) rfl) (fun t h => pe_callB (cr_all rfl) (by rfl) Bt.n_all (by first | exact PySem.boot_all | exact PyProof.Rows.boot_all | decide +kernel) h)) (fun _ => rfl)))))) (vs_one (vs_ret (ve_bool))) (vs_nil)) (vs_one (vs_ret (ve_callD D_is_parting hr (by first | decide | omega) hg (va_cons (vb_of (ve_var (pv 0))) (va_cons (vb_of (ve_var (pv 1))) (va_cons (vb_of (ve_var (pv 2))) (va_cons (vb_of (ve_var (pv 3))) (va_nil) rfl) rfl) rfl) rfl) (by rfl) (by decide) rfl rfl)))
abbrev ms__law_box : List Bool := [false, false]
abbrev kbs__law_box : List (List Str × List Nat) := []
abbrev s__law_box : Stmt := topS 13
abbrev N__law_box : List Str := ["_law_cells_here", "_law_k", "_law_cell"]
abbrev ps__law_box : List Str := ["_law_cells_here", "_law_k"]
theorem sc__law_box : FnScope N__law_box ps__law_box (defScope s__law_box) := ⟨rfl, rfl, rfl, by decide +kernel, rfl, by decide +kernel, by decide +kernel⟩
def t__law_box : VS := vSeq (vAsg (vOp pdIx (vSlot 0) (vSlot 1)) 2) (vRet (vLst (vConsA (vSh (vOp pdMul (vSh (vCB (pd1 pAbs) (vConsA (vSlot 2) (vNilA)))) (vSh (vCB (pd1 pInt1) (vConsA (vSh (vOp pdGe (vSh (vCB (pd1 pAbs) (vConsA (vSlot 2) (vNilA)))) (vSh (vOp pdPow (vSh (vC (.int 10))) (vSh (vC (.int 18))))))) (vNilA)))))) (vConsA (vSh (vOp pdAdd (vSh (vOp pdAdd (vSh (vOp pdMod (vSlot 2) (vSh (vC (.int 2305843009213693951))))) (vSh (vOp pdMul (vSh (vC (.int 15485863))) (vSlot 1))))) (vSh (vC (.int 11))))) (vConsA (vSh (vC (.int 0))) (vNilA))))))
theorem dv__law_box [Wd] {K : PySem.W.Frag} {mg : Str → Option Value} {base : Heap} {f : Addr} {cdv : Value} {A : Around} {outer : List Env} {s : Shared} {H : Hp} {E : XK} (Bt : Bts mg)
    (hr : Room 0 (A.deeper (envOfC "_law_box" (defScope s__law_box) s.heap.objs.size f cdv))) (hg : A.guards = some []) :
    VSs ((cxOf CX0 Wd.P Wd.w K mg base N__law_box "_law_box" (defScope s__law_box) f cdv A outer s H E).nox) (defBody s__law_box) t__law_box :=
  vs_cons (vs_set (ve_ix ix_seq ok_ix pm_ix (vb_slot (pv 0)) (vb_slot (pv 1)) (fun _ _ => rfl)) (fun te h => ps_set (i := 2) sc__law_box.nd rfl (by first | exact Or.inl rfl | exact Or.inr rfl) h)) (vs_one (vs_ret (ve_lst (va_cons (vb_of (ve_op op_mulA ok_mul pm_mul (vb_of (ve_cb ok_abs lm_abs (va_cons (vb_slot (pv 2)) (va_nil) rfl) (fun t h => pe_callB call_abs (by rfl) Bt.n_abs (by first | exact PySem.boot_abs | exact PyProof.Rows.boot_abs | decide +kernel) h))) (vb_of (ve_cb ok_int1 lm_int1 (va_cons (vb_of (ve_cmp op_geA ok_ord pm_ord (vb_of (ve_cb ok_abs lm_abs (va_cons (vb_slot (pv 2)) (va_nil) rfl) (fun t h => pe_callB call_abs (by rfl) Bt.n_abs (by first | exact PySem.boot_abs | exact PyProof.Rows.boot_abs | decide +kernel) h))) (vb_of (ve_op op_pow ok_pow pm_int (vb_of (ve_int)) (vb_of (ve_int)))) (by first | rfl | exact nomark _))) (va_nil) rfl) (fun t h => pe_callTy call_int1 (by rfl) Bt.n_int (by first | exact PySem.boot_int | exact PyProof.Rows.boot_int | decide +kernel) h))))) (va_cons (vb_of (ve_op op_addA ok_add pm_add (vb_of (ve_op op_addA ok_add pm_add (vb_of (ve_op op_modN ok_mod pm_int (vb_slot (pv 2)) (vb_of (ve_int)))) (vb_of (ve_op op_mulA ok_mul pm_mul (vb_of (ve_int)) (vb_slot (pv 1)))))) (vb_of (ve_int)))) (va_cons (vb_of (ve_int)) (va_nil) rfl) rfl) rfl))))
abbrev ms__law_take : List Bool := [true, false]
abbrev kbs__law_take : List (List Str × List Nat) := []
abbrev s__law_take : Stmt := topS 14
abbrev N__law_take : List Str := ["_law_box_here", "_law_below", "_law_blend", "_law_found"]
abbrev ps__law_take : List Str := ["_law_box_here", "_law_below"]
theorem sc__law_take : FnScope N__law_take ps__law_take (defScope s__law_take) := ⟨rfl, rfl, rfl, by decide +kernel, rfl, by decide +kernel, by decide +kernel⟩
def t__law_take : VS := vSeq (vIfS (vTest (vOp pdGt (vSh (vOp pdIx (vSlot 0) (vSh (vC (.int 0))))) (vSh (vC (.int 0))))) (vSeq (vAsg (vOp pdMod (vSh (vOp pdIx (vSlot 0) (vSh (vC (.int 0))))) (vSlot 1)) 3) (vSeq (vSetIx 0 (vOp pdFdiv (vSh (vOp pdIx (vSlot 0) (vSh (vC (.int 0))))) (vSlot 1)) (vC (.int 0))) (vRet (vMove 3)))) (vNext)) (vSeq (vSetIx 0 (vOp pdAdd (vSh (vOp pdIx (vSlot 0) (vSh (vC (.int 2))))) (vSh (vC (.int 1)))) (vC (.int 2))) (vSeq (vAsg (vOp pdMod (vSh (vOp pdAdd (vSh (vOp pdIx (vSlot 0) (vSh (vC (.int 1))))) (vSh (vOp pdMul (vSh (vC (.int 1442695040888963407))) (vSh (vOp pdIx (vSlot 0) (vSh (vC (.int 2))))))))) (vSh (vC (.int 2305843009213693951)))) 2) (vSeq (vAsg (vOp pdMod (vSh (vOp pdAdd (vSh (vOp pdAdd (vSh (vOp pdMul (vSlot 2) (vSlot 2))) (vSh (vOp pdMul (vSh (vC (.int 39373))) (vSh (vOp pdIx (vSlot 0) (vSh (vC (.int 2))))))))) (vSh (vC (.int 7))))) (vSh (vC (.int 2305843009213693921)))) 2) (vSeq (vAsg (vOp pdMod (vSh (vOp pdAdd (vSh (vOp pdMul (vSlot 2) (vSh (vOp pdAdd (vSh (vOp pdFdiv (vSlot 2) (vSh (vC (.int 65536))))) (vSh (vC (.int 3))))))) (vSh (vOp pdIx (vSlot 0) (vSh (vC (.int 2))))))) (vSh (vC (.int 2305843009213693907)))) 2) (vRet (vOp pdMod (vSh (vOp pdFdiv (vSlot 2) (vSh (vC (.int 1048576))))) (vSlot 1)))))))
theorem dv__law_take [Wd] {K : PySem.W.Frag} {mg : Str → Option Value} {base : Heap} {f : Addr} {cdv : Value} {A : Around} {outer : List Env} {s : Shared} {H : Hp} {E : XK} (Bt : Bts mg)
    (hr : Room 0 (A.deeper (envOfC "_law_take" (defScope s__law_take) s.heap.objs.size f cdv))) (hg : A.guards = some []) :
    VSs ((cxOf CX0 Wd.P Wd.w K mg base N__law_take "_law_take" (defScope s__law_take) f cdv A outer s H E).nox) (defBody s__law_take) t__law_take :=
  vs_cons (vs_if (vt_cmp op_gtA ok_ord pm_ord (vb_of (ve_ix ix_seq ok_ix pm_ix (vb_slot (pv 0)) (vb_of (ve_int)) (fun _ _ => rfl))) (vb_of (ve_int)) (by first | rfl | exact nomark _)) (vs_cons (vs_set (ve_op op_modN ok_mod pm_int (vb_of (ve_ix ix_seq ok_ix pm_ix (vb_slot (pv 0)) (vb_of (ve_int)) (fun _ _ => rfl))) (vb_slot (pv 1))) (fun te h => ps_set (i := 3) sc__law_take.nd rfl (by first | exact Or.inl rfl | exact Or.inr rfl) h)) (vs_cons (vs_setIx (j := 0) (ve_op op_fdivN ok_fdiv pm_int (vb_of (ve_ix ix_seq ok_ix pm_ix (vb_slot (pv 0)) (vb_of (ve_int)) (fun _ _ => rfl))) (vb_slot (pv 1))) (ve_int) (fun te ti h1 h2 => ps_asg h1 (pg_sub (pv 0) h2 set_list))) (vs_one (vs_ret (ve_move (pv 3)))))) (vs_nil)) (vs_cons (vs_setIx (j := 0) (ve_op op_addA ok_add pm_add (vb_of (ve_ix ix_seq ok_ix pm_ix (vb_slot (pv 0)) (vb_of (ve_int)) (fun _ _ => rfl))) (vb_of (ve_int))) (ve_int) (fun te ti h1 h2 => ps_asg h1 (pg_sub (pv 0) h2 set_list))) (vs_cons (vs_set (ve_op op_modN ok_mod pm_int (vb_of (ve_op op_addA ok_add pm_add (vb_of (ve_ix ix_seq ok_ix pm_ix (vb_slot (pv 0)) (vb_of (ve_int)) (fun _ _ => rfl))) (vb_of (ve_op op_mulA ok_mul pm_mul (vb_of (ve_int)) (vb_of (ve_ix ix_seq ok_ix pm_ix (vb_slot (pv 0)) (vb_of (ve_int)) (fun _ _ => rfl))))))) (vb_of (ve_int))) (fun te h => ps_set (i := 2) sc__law_take.nd rfl (by first | exact Or.inl rfl | exact Or.inr rfl) h)) (vs_cons (vs_set (ve_op op_modN ok_mod pm_int (vb_of (ve_op op_addA ok_add pm_add (vb_of (ve_op op_addA ok_add pm_add (vb_of (ve_op op_mulA ok_mul pm_mul (vb_slot (pv 2)) (vb_slot (pv 2)))) (vb_of (ve_op op_mulA ok_mul pm_mul (vb_of (ve_int)) (vb_of (ve_ix ix_seq ok_ix pm_ix (vb_slot (pv 0)) (vb_of (ve_int)) (fun _ _ => rfl))))))) (vb_of (ve_int)))) (vb_of (ve_int))) (fun te h => ps_set (i := 2) sc__law_take.nd rfl (by first | exact Or.inl rfl | exact Or.inr rfl) h)) (vs_cons (vs_set (ve_op op_modN ok_mod pm_int (vb_of (ve_op op_addA ok_add pm_add (vb_of (ve_op op_mulA ok_mul pm_mul (vb_slot (pv 2)) (vb_of (ve_op op_addA ok_add pm_add (vb_of (ve_op op_fdivN ok_fdiv pm_int (vb_slot (pv 2)) (vb_of (ve_int)))) (vb_of (ve_int)))))) (vb_of (ve_ix ix_seq ok_ix pm_ix (vb_slot (pv 0)) (vb_of (ve_int)) (fun _ _ => rfl))))) (vb_of (ve_int))) (fun te h => ps_set (i := 2) sc__law_take.nd rfl (by first | exact Or.inl rfl | exact Or.inr rfl) h)) (vs_one (vs_ret (ve_op op_modN ok_mod pm_int (vb_of (ve_op op_fdivN ok_fdiv pm_int (vb_slot (pv 2)) (vb_of (ve_int)))) (vb_slot (pv 1)))))))))
abbrev ms__law_cells : List Bool := [false, false]
abbrev kbs__law_cells : List (List Str × List Nat) := []
abbrev s__law_cells : Stmt := topS 15
abbrev N__law_cells : List Str := ["_law_script", "_law_utmost", "_law_cells_here", "_law_k", "_law_cell"]
abbrev ps__law_cells : List Str := ["_law_script", "_law_utmost"]
theorem sc__law_cells : FnScope N__law_cells ps__law_cells (defScope s__law_cells) := ⟨rfl, rfl, rfl, by decide +kernel, rfl, by decide +kernel, by decide +kernel⟩
def t__law_cells : VS := vSeq (vAsg (vOrT (vCB (pd1 pList) (vConsA (vSh (vSl pdSl (vSlot 0) (vNoPart) (vPart (vVar 1)))) (vNilA))) (vLst (vConsA (vSh (vC (.int 0))) (vNilA)))) 2) (vSeq (vFor (vEnum (vConsA (vSh (vSl pdSl (vSlot 0) (vPart (vVar 1)) (vPart (vC (.int 63))))) (vNilA))) (gvTup 2 (gvCons (gvName 3) (gvCons (gvName 4) (gvNil)))) (vSetIx 2 (vOp pdAdd (vSh (vOp pdIx (vSlot 2) (vSh (vOp pdMod (vSlot 3) (vSlot 1))))) (vSh (vOp pdMul (vSlot 4) (vSh (vOp pdAdd (vSlot 3) (vSh (vC (.int 2)))))))) (vOp pdMod (vSlot 3) (vSlot 1)))) (vRet (vMove 2)))
theorem dv__law_cells [Wd] {K : PySem.W.Frag} {mg : Str → Option Value} {base : Heap} {f : Addr} {cdv : Value} {A : Around} {outer : List Env} {s : Shared} {H : Hp} {E : XK} (Bt : Bts mg)
    (hr : Room 0 (A.deeper (envOfC "_law_cells" (defScope s__law_cells) s.heap.objs.size f cdv))) (hg : A.guards = some []) :
    VSs ((cxOf CX0 Wd.P Wd.w K mg base N__law_cells "_law_cells" (defScope s__law_cells) f cdv A outer s H E).nox) (defBody s__law_cells) t__law_cells :=
  vs_cons (vs_set (ve_orT (ve_cb ok_list lm_list (va_cons (vb_of (ve_slice sl_any ok_sl pm_sl (vb_slot (pv 0)) (vo_none) (vo_some (ve_var (pv 1))))) (va_nil) rfl) (fun t h => pe_callTy call_list_of (by rfl) Bt.n_list (by first | exact PySem.boot_list | exact PyProof.Rows.boot_list | decide +kernel) h)) (ve_one (ve_lst (va_cons (vb_of (ve_int)) (va_nil) rfl)))) (fun te h => ps_set (i := 2) sc__law_cells.nd rfl (by first | exact Or.inl rfl | exact Or.inr rfl) h)) (vs_cons (vs_for PassesOwn.never rfl (vi_enum (va_cons (vb_of (ve_slice sl_any ok_sl pm_sl (vb_slot (pv 0)) (vo_some (ve_var (pv 1))) (vo_some (ve_int)))) (va_nil) rfl) (fun t h => pi_enum rfl Bt.n_enumerate h)) (gv_tup (n := 2) rfl (gv_cons (gv_name (is := [3, 4]) (pg_name (i := 3) sc__law_cells.nd rfl (by first | exact Or.inl rfl | exact Or.inr rfl)) (by decide)) (gv_cons (gv_name (is := [3, 4]) (pg_name (i := 4) sc__law_cells.nd rfl (by first | exact Or.inl rfl | exact Or.inr rfl)) (by decide)) (gv_nil) rfl) rfl) rfl rfl) (vs_one (vs_setIx (j := 2) (ve_op op_addA ok_add pm_add (vb_of (ve_ix ix_seq ok_ix pm_ix (vb_slot (pv 2)) (vb_of (ve_op op_modN ok_mod pm_int (vb_slot (pv 3)) (vb_slot (pv 1)))) (fun _ _ => rfl))) (vb_of (ve_op op_mulA ok_mul pm_mul (vb_slot (pv 4)) (vb_of (ve_op op_addA ok_add pm_add (vb_slot (pv 3)) (vb_of (ve_int))))))) (ve_op op_modN ok_mod pm_int (vb_slot (pv 3)) (vb_slot (pv 1))) (fun te ti h1 h2 => ps_asg h1 (pg_sub (pv 2) h2 set_list)))) (fun _ => rfl)) (vs_one (vs_ret (ve_move (pv 2)))))
abbrev ms__law_of : List Bool := [true, false]
abbrev kbs__law_of : List (List Str × List Nat) := []
abbrev s__law_of : Stmt := topS 16
abbrev N__law_of : List Str := ["_law_box_here", "_law_some"]
abbrev ps__law_of : List Str := ["_law_box_here", "_law_some"]
theorem sc__law_of : FnScope N__law_of ps__law_of (defScope s__law_of) := ⟨rfl, rfl, rfl, by decide +kernel, rfl, by decide +kernel, by decide +kernel⟩
def t__law_of : VS := vRet (vOp pdIx (vSlot 1) (vSh (vCall ms__law_take spec__law_take (vConsA (vSlot 0) (vConsA (vSh (vCB (pd1 pLen) (vConsA (vSlot 1) (vNilA)))) (vNilA))))))
theorem dv__law_of [Wd] {K : PySem.W.Frag} {mg : Str → Option Value} {base : Heap} {f : Addr} {cdv : Value} {A : Around} {outer : List Env} {s : Shared} {H : Hp} {E : XK} (Bt : Bts mg) (D__law_take : Df Wd.P Wd.w K mg base 1 "_law_take" ps__law_take ms__law_take kbs__law_take spec__law_take)
    (hr : Room 1 (A.deeper (envOfC "_law_of" (defScope s__law_of) s.heap.objs.size f cdv))) (hg : A.guards = some []) :
    VSs ((cxOf CX0 Wd.P Wd.w K mg base N__law_of "_law_of" (defScope s__law_of) f cdv A outer s H E).nox) (defBody s__law_of) t__law_of :=
  vs_one (vs_ret (ve_ix ix_seq ok_ix pm_ix (vb_slot (pv 1)) (vb_of (ve_callD D__law_take hr (by first | decide | omega) hg (va_cons (vb_slot (pv 0)) (va_cons (vb_of (ve_cb ok_len lm_len (va_cons (vb_slot (pv 1)) (va_nil) rfl) (fun t h => pe_callB call_len (by rfl) Bt.n_len (by first | exact PySem.boot_len | exact PyProof.Rows.boot_len | decide +kernel) h))) (va_nil) rfl) rfl) (by rfl) (by decide) rfl rfl)) (fun _ _ => rfl)))
abbrev ms__law_strewn : List Bool := [true, false]
abbrev kbs__law_strewn : List (List Str × List Nat) := []
abbrev s__law_strewn : Stmt := topS 17
abbrev N__law_strewn : List Str := ["_law_box_here", "_law_some", "_law_turn", "_law_left", "_law_found"]
abbrev ps__law_strewn : List Str := ["_law_box_here", "_law_some"]
theorem sc__law_strewn : FnScope N__law_strewn ps__law_strewn (defScope s__law_strewn) := ⟨rfl, rfl, rfl, by decide +kernel, rfl, by decide +kernel, by decide +kernel⟩
def t__law_strewn : VS := vSeq (vPar 3 4 (vCB (pd1 pList) (vConsA (vSlot 1) (vNilA))) (vLst (vNilA))) (vSeq (vFor (vRng1 (vConsA (vSh (vCB (pd1 pLen) (vConsA (vSlot 3) (vNilA)))) (vNilA))) (gvName 2) (vDrop (vMth pmAppend 4 (vConsA (vSh (vMth pmPop 3 (vConsA (vSh (vCall ms__law_take spec__law_take (vConsA (vSlot 0) (vConsA (vSh (vCB (pd1 pLen) (vConsA (vSlot 3) (vNilA)))) (vNilA))))) (vNilA)))) (vNilA))))) (vRet (vMove 4)))
theorem dv__law_strewn [Wd] {K : PySem.W.Frag} {mg : Str → Option Value} {base : Heap} {f : Addr} {cdv : Value} {A : Around} {outer : List Env} {s : Shared} {H : Hp} {E : XK} (Bt : Bts mg) (D__law_take : Df Wd.P Wd.w K mg base 1 "_law_take" ps__law_take ms__law_take kbs__law_take spec__law_take)
    (hr : Room 1 (A.deeper (envOfC "_law_strewn" (defScope s__law_strewn) s.heap.objs.size f cdv))) (hg : A.guards = some []) :
    VSs ((cxOf CX0 Wd.P Wd.w K mg base N__law_strewn "_law_strewn" (defScope s__law_strewn) f cdv A outer s H E).nox) (defBody s__law_strewn) t__law_strewn :=
  vs_cons ((by first | exact vs_par (i := 3) (j := 4) (ve_cb ok_list lm_list (va_cons (vb_slot (pv 1)) (va_nil) rfl) (fun t h => pe_callTy call_list_of (by rfl) Bt.n_list (by first | exact PySem.boot_list | exact PyProof.Rows.boot_list | decide +kernel) h)) (ve_lst (va_nil)) (fun ta tb h1 h2 => ps_par rfl sc__law_strewn.nd rfl rfl (by decide) rfl rfl (pa_cons h1 (pa_cons h2 pa_nil)) (by rfl)) | exact vs_parC (i := 3) (j := 4) rfl (ve_cb ok_list lm_list (va_cons (vb_slot (pv 1)) (va_nil) rfl) (fun t h => pe_callTy call_list_of (by rfl) Bt.n_list (by first | exact PySem.boot_list | exact PyProof.Rows.boot_list | decide +kernel) h)) (ve_lst (va_nil)) (fun ta tb h1 h2 => ps_asg (pe_tup (pa_cons h1 (pa_cons h2 pa_nil))) (pg_tup rfl (pgs_cons (pg_name (i := 3) sc__law_strewn.nd rfl (by first | exact Or.inl rfl | exact Or.inr rfl)) (pgs_cons (pg_name (i := 4) sc__law_strewn.nd rfl (by first | exact Or.inl rfl | exact Or.inr rfl)) pgs_nil)))))) (vs_cons (vs_for PassesOwn.never rfl (vi_range1 (va_cons (vb_of (ve_cb ok_len lm_len (va_cons (vb_slot (pv 3)) (va_nil) rfl) (fun t h => pe_callB call_len (by rfl) Bt.n_len (by first | exact PySem.boot_len | exact PyProof.Rows.boot_len | decide +kernel) h))) (va_nil) rfl) (fun t h => pi_range1 rfl Bt.n_range h)) (gv_name (is := [2]) (pg_name (i := 2) sc__law_strewn.nd rfl (by first | exact Or.inl rfl | exact Or.inr rfl)) (by decide)) (vs_one (vs_expr (ve_mth mk_append mm_append (va_cons (vb_of (ve_mth mk_pop0 mm_pop (va_cons (vb_of (ve_callD D__law_take hr (by first | decide | omega) hg (va_cons (vb_slot (pv 0)) (va_cons (vb_of (ve_cb ok_len lm_len (va_cons (vb_slot (pv 3)) (va_nil) rfl) (fun t h => pe_callB call_len (by rfl) Bt.n_len (by first | exact PySem.boot_len | exact PyProof.Rows.boot_len | decide +kernel) h))) (va_nil) rfl) rfl) (by rfl) (by decide) rfl rfl)) (va_nil) rfl) (fun t h => pe_bm PySem.F.plainAttrs_list PySem.F.slot_list_pop PySem.F.type_list_pop mt_popA (pv 3) h))) (va_nil) rfl) (fun t h => pe_bm PySem.F.plainAttrs_list PySem.F.slot_list_append PySem.F.type_list_append mt_append (pv 4) h)) rfl)) (fun _ => rfl)) (vs_one (vs_ret (ve_move (pv 4)))))
abbrev ms__law_same : List Bool := [false, false]
abbrev kbs__law_same : List (List Str × List Nat) := []
abbrev s__law_same : Stmt := topS 18
abbrev N__law_same : List Str := ["_law_found", "_law_due"]
abbrev ps__law_same : List Str := ["_law_found", "_law_due"]
theorem sc__law_same : FnScope N__law_same ps__law_same (defScope s__law_same) := ⟨rfl, rfl, rfl, by decide +kernel, rfl, by decide +kernel, by decide +kernel⟩
def t__law_same : VS := vRet (vOp pdEq (vSh (vCB (pd1 pRepr) (vConsA (vSlot 0) (vNilA)))) (vSh (vCB (pd1 pRepr) (vConsA (vSlot 1) (vNilA)))))
theorem dv__law_same [Wd] {K : PySem.W.Frag} {mg : Str → Option Value} {base : Heap} {f : Addr} {cdv : Value} {A : Around} {outer : List Env} {s : Shared} {H : Hp} {E : XK} (Bt : Bts mg)
    (hr : Room 0 (A.deeper (envOfC "_law_same" (defScope s__law_same) s.heap.objs.size f cdv))) (hg : A.guards = some []) :
    VSs ((cxOf CX0 Wd.P Wd.w K mg base N__law_same "_law_same" (defScope s__law_same) f cdv A outer s H E).nox) (defBody s__law_same) t__law_same :=
  vs_one (vs_ret (ve_cmp (op_eqZ hr.units) ok_eq pm_eq (vb_of (ve_cb ok_repr lm_repr (va_cons (vb_slot (pv 0)) (va_nil) rfl) (fun t h => pe_callB (call_repr hg (units70 hr)) (by rfl) Bt.n_repr (by first | exact PySem.boot_repr | exact PyProof.Rows.boot_repr | decide +kernel) h))) (vb_of (ve_cb ok_repr lm_repr (va_cons (vb_slot (pv 1)) (va_nil) rfl) (fun t h => pe_callB (call_repr hg (units70 hr)) (by rfl) Bt.n_repr (by first | exact PySem.boot_repr | exact PyProof.Rows.boot_repr | decide +kernel) h))) (by first | rfl | exact nomark _)))
abbrev ms__law_alike : List Bool := [false, false, false]
abbrev kbs__law_alike : List (List Str × List Nat) := []
abbrev s__law_alike : Stmt := topS 19
abbrev N__law_alike : List Str := ["_law_term", "_law_mate", "_law_span_here"]
abbrev ps__law_alike : List Str := ["_law_term", "_law_mate", "_law_span_here"]
theorem sc__law_alike : FnScope N__law_alike ps__law_alike (defScope s__law_alike) := ⟨rfl, rfl, rfl, by decide +kernel, rfl, by decide +kernel, by decide +kernel⟩
def t__law_alike : VS := vRet (vOp pdEq (vSh (vSl pdSl (vSlot 0) (vPart (vUn pdNeg (vSlot 2))) (vNoPart))) (vSh (vSl pdSl (vSlot 1) (vPart (vUn pdNeg (vSlot 2))) (vNoPart))))
theorem dv__law_alike [Wd] {K : PySem.W.Frag} {mg : Str → Option Value} {base : Heap} {f : Addr} {cdv : Value} {A : Around} {outer : List Env} {s : Shared} {H : Hp} {E : XK} (Bt : Bts mg)
    (hr : Room 0 (A.deeper (envOfC "_law_alike" (defScope s__law_alike) s.heap.objs.size f cdv))) (hg : A.guards = some []) :
    VSs ((cxOf CX0 Wd.P Wd.w K mg base N__law_alike "_law_alike" (defScope s__law_alike) f cdv A outer s H E).nox) (defBody s__law_alike) t__law_alike :=
  vs_one (vs_ret (ve_cmp (op_eqZ hr.units) ok_eq pm_eq (vb_of (ve_slice sl_any ok_sl pm_sl (vb_slot (pv 0)) (vo_some (ve_un un_neg ok_neg pm_neg (vb_slot (pv 2)))) (vo_none))) (vb_of (ve_slice sl_any ok_sl pm_sl (vb_slot (pv 1)) (vo_some (ve_un un_neg ok_neg pm_neg (vb_slot (pv 2)))) (vo_none))) (by first | rfl | exact nomark _)))
abbrev ms__law_span : List Bool := [true]
abbrev kbs__law_span : List (List Str × List Nat) := []
abbrev s__law_span : Stmt := topS 20
abbrev N__law_span : List Str := ["_law_box_here"]
abbrev ps__law_span : List Str := ["_law_box_here"]
theorem sc__law_span : FnScope N__law_span ps__law_span (defScope s__law_span) := ⟨rfl, rfl, rfl, by decide +kernel, rfl, by decide +kernel, by decide +kernel⟩
def t__law_span : VS := vRet (vCall ms__law_of spec__law_of (vConsA (vSlot 0) (vConsA (vSh (vLst (vConsA (vSh (vC (.int 1))) (vConsA (vSh (vC (.int 1))) (vConsA (vSh (vC (.int 2))) (vConsA (vSh (vC (.int 3))) (vConsA (vSh (vC (.int 8))) (vNilA)))))))) (vNilA))))
theorem dv__law_span [Wd] {K : PySem.W.Frag} {mg : Str → Option Value} {base : Heap} {f : Addr} {cdv : Value} {A : Around} {outer : List Env} {s : Shared} {H : Hp} {E : XK} (Bt : Bts mg) (D__law_of : Df Wd.P Wd.w K mg base 2 "_law_of" ps__law_of ms__law_of kbs__law_of spec__law_of)
    (hr : Room 2 (A.deeper (envOfC "_law_span" (defScope s__law_span) s.heap.objs.size f cdv))) (hg : A.guards = some []) :
    VSs ((cxOf CX0 Wd.P Wd.w K mg base N__law_span "_law_span" (defScope s__law_span) f cdv A outer s H E).nox) (defBody s__law_span) t__law_span :=
  vs_one (vs_ret (ve_callD D__law_of hr (by first | decide | omega) hg (va_cons (vb_slot (pv 0)) (va_cons (vb_of (ve_lst (va_cons (vb_of (ve_int)) (va_cons (vb_of (ve_int)) (va_cons (vb_of (ve_int)) (va_cons (vb_of (ve_int)) (va_cons (vb_of (ve_int)) (va_nil) rfl) rfl) rfl) rfl) rfl))) (va_nil) rfl) rfl) (by rfl) (by decide) rfl rfl))
abbrev ms__law_terms : List Bool := [true]
abbrev kbs__law_terms : List (List Str × List Nat) := []
abbrev s__law_terms : Stmt := topS 21
abbrev N__law_terms : List Str := ["_law_box_here", "_law_pool"]
abbrev ps__law_terms : List Str := ["_law_box_here"]
theorem sc__law_terms : FnScope N__law_terms ps__law_terms (defScope s__law_terms) := ⟨rfl, rfl, rfl, by decide +kernel, rfl, by decide +kernel, by decide +kernel⟩
def t__law_terms : VS := vSeq (vAsg (vLst (vConsA (vSh (vC (.str ("a" : Str)))) (vConsA (vSh (vC (.str ("b" : Str)))) (vConsA (vSh (vC (.str ("ca" : Str)))) (vConsA (vSh (vC (.str ("ba" : Str)))) (vConsA (vSh (vC (.str ("cab" : Str)))) (vConsA (vSh (vC (.str ("aab" : Str)))) (vConsA (vSh (vC (.str ("c" : Str)))) (vConsA (vSh (vC (.str ("bbbca" : Str)))) (vConsA (vSh (vC (.str ("abcabc" : Str)))) (vNilA))))))))))) 1) (vRet (vSl pdSl (vSh (vCall ms__law_strewn spec__law_strewn (vConsA (vSlot 0) (vConsA (vSh (vVar 1)) (vNilA))))) (vNoPart) (vPart (vOp pdAdd (vSh (vC (.int 2))) (vSh (vCall ms__law_take spec__law_take (vConsA (vSlot 0) (vConsA (vSh (vC (.int 4))) (vNilA)))))))))
theorem dv__law_terms [Wd] {K : PySem.W.Frag} {mg : Str → Option Value} {base : Heap} {f : Addr} {cdv : Value} {A : Around} {outer : List Env} {s : Shared} {H : Hp} {E : XK} (Bt : Bts mg) (D__law_strewn : Df Wd.P Wd.w K mg base 2 "_law_strewn" ps__law_strewn ms__law_strewn kbs__law_strewn spec__law_strewn) (D__law_take : Df Wd.P Wd.w K mg base 1 "_law_take" ps__law_take ms__law_take kbs__law_take spec__law_take)
    (hr : Room 2 (A.deeper (envOfC "_law_terms" (defScope s__law_terms) s.heap.objs.size f cdv))) (hg : A.guards = some []) :
    VSs ((cxOf CX0 Wd.P Wd.w K mg base N__law_terms "_law_terms" (defScope s__law_terms) f cdv A outer s H E).nox) (defBody s__law_terms) t__law_terms :=
  vs_cons (vs_set (ve_lst (va_cons (vb_of (ve_str)) (va_cons (vb_of (ve_str)) (va_cons (vb_of (ve_str)) (va_cons (vb_of (ve_str)) (va_cons (vb_of (ve_str)) (va_cons (vb_of (ve_str)) (va_cons (vb_of (ve_str)) (va_cons (vb_of (ve_str)) (va_cons (vb_of (ve_str)) (va_nil) rfl) rfl) rfl) rfl) rfl) rfl) rfl) rfl) rfl)) (fun te h => ps_set (i := 1) sc__law_terms.nd rfl (by first | exact Or.inl rfl | exact Or.inr rfl) h)) (vs_one (vs_ret (ve_slice sl_any ok_sl pm_sl (vb_of (ve_callD D__law_strewn hr (by first | decide | omega) hg (va_cons (vb_slot (pv 0)) (va_cons (vb_of (ve_var (pv 1))) (va_nil) rfl) rfl) (by rfl) (by decide) rfl rfl)) (vo_none) (vo_some (ve_op op_addA ok_add pm_add (vb_of (ve_int)) (vb_of (ve_callD D__law_take hr (by first | decide | omega) hg (va_cons (vb_slot (pv 0)) (va_cons (vb_of (ve_int)) (va_nil) rfl) rfl) (by rfl) (by decide) rfl rfl)))))))
abbrev ms__law_scroll : List Bool := [true, false]
abbrev kbs__law_scroll : List (List Str × List Nat) := []
abbrev s__law_scroll : Stmt := topS 22
abbrev N__law_scroll : List Str := ["_law_box_here", "_law_size", "_law_some", "_law_turn"]
abbrev ps__law_scroll : List Str := ["_law_box_here", "_law_size"]
theorem sc__law_scroll : FnScope N__law_scroll ps__law_scroll (defScope s__law_scroll) := ⟨rfl, rfl, rfl, by decide +kernel, rfl, by decide +kernel, by decide +kernel⟩
def t__law_scroll : VS := vSeq (vAsg (vCall ms__law_terms spec__law_terms (vConsA (vSlot 0) (vNilA))) 2) (vRet (vCB (pd1 pTuple) (vConsA (vSh (vLc (vRng1 (vConsA (vSh (vOp pdAdd (vSh (vC (.int 1))) (vSh (vCall ms__law_take spec__law_take (vConsA (vSlot 0) (vConsA (vSh (vVar 1)) (vNilA))))))) (vNilA))) (gvName 3) (vYes) (vCall ms__law_of spec__law_of (vConsA (vSlot 0) (vConsA (vSh (vVar 2)) (vNilA)))) [3])) (vNilA))))
theorem dv__law_scroll [Wd] {K : PySem.W.Frag} {mg : Str → Option Value} {base : Heap} {f : Addr} {cdv : Value} {A : Around} {outer : List Env} {s : Shared} {H : Hp} {E : XK} (Bt : Bts mg) (D__law_terms : Df Wd.P Wd.w K mg base 3 "_law_terms" ps__law_terms ms__law_terms kbs__law_terms spec__law_terms) (D__law_take : Df Wd.P Wd.w K mg base 1 "_law_take" ps__law_take ms__law_take kbs__law_take spec__law_take) (D__law_of : Df Wd.P Wd.w K mg base 2 "_law_of" ps__law_of ms__law_of kbs__law_of spec__law_of)
    (hr : Room 3 (A.deeper (envOfC "_law_scroll" (defScope s__law_scroll) s.heap.objs.size f cdv))) (hg : A.guards = some []) :
    VSs ((cxOf CX0 Wd.P Wd.w K mg base N__law_scroll "_law_scroll" (defScope s__law_scroll) f cdv A outer s H E).nox) (defBody s__law_scroll) t__law_scroll :=
  vs_cons (vs_set (ve_callD D__law_terms hr (by first | decide | omega) hg (va_cons (vb_slot (pv 0)) (va_nil) rfl) (by rfl) (by decide) rfl rfl) (fun te h => ps_set (i := 2) sc__law_scroll.nd rfl (by first | exact Or.inl rfl | exact Or.inr rfl) h)) (vs_one (vs_ret (ve_cb ok_tuple lm_tuple (va_cons (vb_of (ve_lc (own := [("_law_turn", 3)]) rfl sc__law_scroll.nd (vi_range1 (va_cons (vb_of (ve_op op_addA ok_add pm_add (vb_of (ve_int)) (vb_of (ve_callD D__law_take hr (by first | decide | omega) hg (va_cons (vb_slot (pv 0)) (va_cons (vb_of (ve_var (pv 1))) (va_nil) rfl) rfl) (by rfl) (by decide) rfl rfl)))) (va_nil) rfl) (fun t h => pi_range1 rfl Bt.n_range h)) (blkOk_by (own := [("_law_turn", 3)]) (N := N__law_scroll) (sc := defScope s__law_scroll) (by decide +kernel)) (fun _ _ _ _ _ => gv_name (is := [3]) (pg_name (i := 3) sc__law_scroll.nd rfl (by first | exact Or.inl rfl | exact Or.inr rfl)) (by decide)) (fun _ _ _ _ _ => vts_nil) (fun _ _ _ _ _ => ve_callD D__law_of hr (by first | decide | omega) hg (va_cons (vb_slot (pv 0)) (va_cons (vb_of (ve_var (pv 2))) (va_nil) rfl) rfl) (by rfl) (by decide) rfl rfl) (fun _ => rfl) s)) (va_nil) rfl) (fun t h => pe_callTy call_tuple_of (by rfl) Bt.n_tuple (by first | exact PySem.boot_tuple | exact PyProof.Rows.boot_tuple | decide +kernel) h))))
abbrev ms__law_leaps : List Bool := [false, false]
abbrev kbs__law_leaps : List (List Str × List Nat) := []
abbrev s__law_leaps : Stmt := topS 23
abbrev N__law_leaps : List Str := ["_law_scroll_here", "_law_span_here", "_law_found", "_law_spot", "_law_end"]
abbrev ps__law_leaps : List Str := ["_law_scroll_here", "_law_span_here"]
theorem sc__law_leaps : FnScope N__law_leaps ps__law_leaps (defScope s__law_leaps) := ⟨rfl, rfl, rfl, by decide +kernel, rfl, by decide +kernel, by decide +kernel⟩
def t__law_leaps : VS := vSeq (vAsg (vLst (vNilA)) 2) (vSeq (vFor (vRng1 (vConsA (vSh (vCB (pd1 pLen) (vConsA (vSlot 0) (vNilA)))) (vNilA))) (gvName 3) (vFor (vRng2 (vConsA (vSh (vOp pdAdd (vSlot 3) (vSh (vC (.int 1))))) (vConsA (vSh (vCB (pd1 pLen) (vConsA (vSlot 0) (vNilA)))) (vNilA)))) (gvName 4) (vIfS (vTest (vCall ms__law_alike spec__law_alike (vConsA (vSh (vOp pdIx (vSlot 0) (vSlot 3))) (vConsA (vSh (vOp pdIx (vSlot 0) (vSlot 4))) (vConsA (vSh (vVar 1)) (vNilA)))))) (vDrop (vMth pmAppend 2 (vConsA (vSh (vTup (vConsA (vSh (vVar 3)) (vConsA (vSh (vVar 4)) (vNilA))))) (vNilA)))) (vNext)))) (vRet (vMove 2)))
theorem dv__law_leaps [Wd] {K : PySem.W.Frag} {mg : Str → Option Value} {base : Heap} {f : Addr} {cdv : Value} {A : Around} {outer : List Env} {s : Shared} {H : Hp} {E : XK} (Bt : Bts mg) (D__law_alike : Df Wd.P Wd.w K mg base 1 "_law_alike" ps__law_alike ms__law_alike kbs__law_alike spec__law_alike)
    (hr : Room 1 (A.deeper (envOfC "_law_leaps" (defScope s__law_leaps) s.heap.objs.size f cdv))) (hg : A.guards = some []) :
    VSs ((cxOf CX0 Wd.P Wd.w K mg base N__law_leaps "_law_leaps" (defScope s__law_leaps) f cdv A outer s H E).nox) (defBody s__law_leaps) t__law_leaps :=
  vs_cons (vs_set (ve_lst (va_nil)) (fun te h => ps_set (i := 2) sc__law_leaps.nd rfl (by first | exact Or.inl rfl | exact Or.inr rfl) h)) (vs_cons (vs_for PassesOwn.never rfl (vi_range1 (va_cons (vb_of (ve_cb ok_len lm_len (va_cons (vb_slot (pv 0)) (va_nil) rfl) (fun t h => pe_callB call_len (by rfl) Bt.n_len (by first | exact PySem.boot_len | exact PyProof.Rows.boot_len | decide +kernel) h))) (va_nil) rfl) (fun t h => pi_range1 rfl Bt.n_range h)) (gv_name (is := [3]) (pg_name (i := 3) sc__law_leaps.nd rfl (by first | exact Or.inl rfl | exact Or.inr rfl)) (by decide)) (vs_one (vs_for PassesOwn.never rfl (vi_range2 (va_cons (vb_of (ve_op op_addA ok_add pm_add (vb_slot (pv 3)) (vb_of (ve_int)))) (va_cons (vb_of (ve_cb ok_len lm_len (va_cons (vb_slot (pv 0)) (va_nil) rfl) (fun t h => pe_callB call_len (by rfl) Bt.n_len (by first | exact PySem.boot_len | exact PyProof.Rows.boot_len | decide +kernel) h))) (va_nil) rfl) rfl) (fun t h => pi_range2 rfl Bt.n_range h)) (gv_name (is := [4]) (pg_name (i := 4) sc__law_leaps.nd rfl (by first | exact Or.inl rfl | exact Or.inr rfl)) (by decide)) (vs_one (vs_if (vt_of (ve_callD D__law_alike hr (by first | decide | omega) hg (va_cons (vb_of (ve_ix ix_seq ok_ix pm_ix (vb_slot (pv 0)) (vb_slot (pv 3)) (fun _ _ => rfl))) (va_cons (vb_of (ve_ix ix_seq ok_ix pm_ix (vb_slot (pv 0)) (vb_slot (pv 4)) (fun _ _ => rfl))) (va_cons (vb_of (ve_var (pv 1))) (va_nil) rfl) rfl) rfl) (by rfl) (by decide) rfl rfl) (fun _ => rfl)) (vs_one (vs_expr (ve_mth mk_append mm_append (va_cons (vb_of (ve_tup (va_cons (vb_of (ve_var (pv 3))) (va_cons (vb_of (ve_var (pv 4))) (va_nil) rfl) rfl))) (va_nil) rfl) (fun t h => pe_bm PySem.F.plainAttrs_list PySem.F.slot_list_append PySem.F.type_list_append mt_append (pv 2) h)) rfl)) (vs_nil))) (fun _ => rfl))) (fun _ => rfl)) (vs_one (vs_ret (ve_move (pv 2)))))
abbrev ms__law_leapt : List Bool := [false, false]
abbrev kbs__law_leapt : List (List Str × List Nat) := []
abbrev s__law_leapt : Stmt := topS 24
abbrev N__law_leapt : List Str := ["_law_scroll_here", "_law_leap"]
abbrev ps__law_leapt : List Str := ["_law_scroll_here", "_law_leap"]
theorem sc__law_leapt : FnScope N__law_leapt ps__law_leapt (defScope s__law_leapt) := ⟨rfl, rfl, rfl, by decide +kernel, rfl, by decide +kernel, by decide +kernel⟩
def t__law_leapt : VS := vRet (vOp pdAdd (vSh (vSl pdSl (vSlot 0) (vNoPart) (vPart (vOp pdAdd (vSh (vOp pdIx (vSlot 1) (vSh (vC (.int 0))))) (vSh (vC (.int 1))))))) (vSh (vSl pdSl (vSlot 0) (vPart (vOp pdAdd (vSh (vOp pdIx (vSlot 1) (vSh (vC (.int 1))))) (vSh (vC (.int 1))))) (vNoPart))))
theorem dv__law_leapt [Wd] {K : PySem.W.Frag} {mg : Str → Option Value} {base : Heap} {f : Addr} {cdv : Value} {A : Around} {outer : List Env} {s : Shared} {H : Hp} {E : XK} (Bt : Bts mg)
    (hr : Room 0 (A.deeper (envOfC "_law_leapt" (defScope s__law_leapt) s.heap.objs.size f cdv))) (hg : A.guards = some []) :
    VSs ((cxOf CX0 Wd.P Wd.w K mg base N__law_leapt "_law_leapt" (defScope s__law_leapt) f cdv A outer s H E).nox) (defBody s__law_leapt) t__law_leapt :=
  vs_one (vs_ret (ve_op op_addA ok_add pm_add (vb_of (ve_slice sl_any ok_sl pm_sl (vb_slot (pv 0)) (vo_none) (vo_some (ve_op op_addA ok_add pm_add (vb_of (ve_ix ix_seq ok_ix pm_ix (vb_slot (pv 1)) (vb_of (ve_int)) (fun _ _ => rfl))) (vb_of (ve_int)))))) (vb_of (ve_slice sl_any ok_sl pm_sl (vb_slot (pv 0)) (vo_some (ve_op op_addA ok_add pm_add (vb_of (ve_ix ix_seq ok_ix pm_ix (vb_slot (pv 1)) (vb_of (ve_int)) (fun _ _ => rfl))) (vb_of (ve_int)))) (vo_none)))))
abbrev ms__law_page : List Bool := [true, false, false]
abbrev kbs__law_page : List (List Str × List Nat) := []
abbrev s__law_page : Stmt := topS 25
abbrev N__law_page : List Str := ["_law_box_here", "_law_scroll_here", "_law_span_here", "_law_turn", "_law_some"]
abbrev ps__law_page : List Str := ["_law_box_here", "_law_scroll_here", "_law_span_here"]
theorem sc__law_page : FnScope N__law_page ps__law_page (defScope s__law_page) := ⟨rfl, rfl, rfl, by decide +kernel, rfl, by decide +kernel, by decide +kernel⟩
def t__law_page : VS := vSeq (vFor (vRng1 (vConsA (vSh (vCall ms__law_take spec__law_take (vConsA (vSlot 0) (vConsA (vSh (vC (.int 4))) (vNilA))))) (vNilA))) (gvName 3) (vSeq (vAsg (vCall ms__law_leaps spec__law_leaps (vConsA (vSh (vVar 1)) (vConsA (vSh (vVar 2)) (vNilA)))) 4) (vAsg (vIf (vTest (vOp pdEq (vSlot 4) (vSh (vLst (vNilA))))) (vVar 1) (vCall ms__law_leapt spec__law_leapt (vConsA (vSh (vVar 1)) (vConsA (vSh (vCall ms__law_of spec__law_of (vConsA (vSlot 0) (vConsA (vSh (vVar 4)) (vNilA))))) (vNilA))))) 1))) (vRet (vMove 1))
theorem dv__law_page [Wd] {K : PySem.W.Frag} {mg : Str → Option Value} {base : Heap} {f : Addr} {cdv : Value} {A : Around} {outer : List Env} {s : Shared} {H : Hp} {E : XK} (Bt : Bts mg) (D__law_take : Df Wd.P Wd.w K mg base 1 "_law_take" ps__law_take ms__law_take kbs__law_take spec__law_take) (D__law_leaps : Df Wd.P Wd.w K mg base 2 "_law_leaps" ps__law_leaps ms__law_leaps kbs__law_leaps spec__law_leaps) (D__law_leapt : Df Wd.P Wd.w K mg base 1 "_law_leapt" ps__law_leapt ms__law_leapt kbs__law_leapt spec__law_leapt) (D__law_of : Df Wd.P Wd.w K mg base 2 "_law_of" ps__law_of ms__law_of kbs__law_of spec__law_of)
    (hr : Room 2 (A.deeper (envOfC "_law_page" (defScope s__law_page) s.heap.objs.size f cdv))) (hg : A.guards = some []) :
    VSs ((cxOf CX0 Wd.P Wd.w K mg base N__law_page "_law_page" (defScope s__law_page) f cdv A outer s H E).nox) (defBody s__law_page) t__law_page :=
  vs_cons (vs_for PassesOwn.never rfl (vi_range1 (va_cons (vb_of (ve_callD D__law_take hr (by first | decide | omega) hg (va_cons (vb_slot (pv 0)) (va_cons (vb_of (ve_int)) (va_nil) rfl) rfl) (by rfl) (by decide) rfl rfl)) (va_nil) rfl) (fun t h => pi_range1 rfl Bt.n_range h)) (gv_name (is := [3]) (pg_name (i := 3) sc__law_page.nd rfl (by first | exact Or.inl rfl | exact Or.inr rfl)) (by decide)) (vs_cons (vs_set (ve_callD D__law_leaps hr (by first | decide | omega) hg (va_cons (vb_of (ve_var (pv 1))) (va_cons (vb_of (ve_var (pv 2))) (va_nil) rfl) rfl) (by rfl) (by decide) rfl rfl) (fun te h => ps_set (i := 4) sc__law_page.nd rfl (by first | exact Or.inl rfl | exact Or.inr rfl) h)) (vs_one (vs_set (ve_if (vt_cmp (op_eqZ hr.units) ok_eq pm_eq (vb_slot (pv 4)) (vb_of (ve_lst (va_nil))) (by first | rfl | exact nomark _)) (ve_var (pv 1)) (ve_callD D__law_leapt hr (by first | decide | omega) hg (va_cons (vb_of (ve_var (pv 1))) (va_cons (vb_of (ve_callD D__law_of hr (by first | decide | omega) hg (va_cons (vb_slot (pv 0)) (va_cons (vb_of (ve_var (pv 4))) (va_nil) rfl) rfl) (by rfl) (by decide) rfl rfl)) (va_nil) rfl) rfl) (by rfl) (by decide) rfl rfl)) (fun te h => ps_set (i := 1) sc__law_page.nd rfl (by first | exact Or.inl rfl | exact Or.inr rfl) h)))) (fun _ => rfl)) (vs_one (vs_ret (ve_move (pv 1))))
abbrev ms__law_changed : List Bool := [true, false]
abbrev kbs__law_changed : List (List Str × List Nat) := []
abbrev s__law_changed : Stmt := topS 26
abbrev N__law_changed : List Str := ["_law_box_here", "_law_scroll_here", "_law_some", "_law_both", "_law_spot", "_law_way"]
abbrev ps__law_changed : List Str := ["_law_box_here", "_law_scroll_here"]
theorem sc__law_changed : FnScope N__law_changed ps__law_changed (defScope s__law_changed) := ⟨rfl, rfl, rfl, by decide +kernel, rfl, by decide +kernel, by decide +kernel⟩
def t__law_changed : VS := vSeq (vAsg (vOp pdAdd (vSh (vCB pSortedSet (vConsA (vSlot 1) (vNilA)))) (vSh (vLst (vConsA (vSh (vC (.str ("zz" : Str)))) (vConsA (vSh (vC (.str ("a" : Str)))) (vNilA)))))) 2) (vSeq (vPar 4 5 (vCall ms__law_take spec__law_take (vConsA (vSlot 0) (vConsA (vSh (vCB (pd1 pLen) (vConsA (vSlot 1) (vNilA)))) (vNilA)))) (vCall ms__law_take spec__law_take (vConsA (vSlot 0) (vConsA (vSh (vC (.int 4))) (vNilA))))) (vSeq (vIfS (vTest (vOp pdEq (vSlot 5) (vSh (vC (.int 0))))) (vRet (vOp pdAdd (vSh (vOp pdAdd (vSh (vSl pdSl (vSlot 1) (vNoPart) (vPart (vVar 4)))) (vSh (vTup (vConsA (vSh (vCall ms__law_of spec__law_of (vConsA (vSlot 0) (vConsA (vSh (vVar 2)) (vNilA))))) (vNilA)))))) (vSh (vSl pdSl (vSlot 1) (vPart (vOp pdAdd (vSlot 4) (vSh (vC (.int 1))))) (vNoPart))))) (vNext)) (vSeq (vIfS (vAnd (vTest (vOp pdEq (vSlot 5) (vSh (vC (.int 1))))) (vTest (vOp pdGt (vSh (vCB (pd1 pLen) (vConsA (vSlot 1) (vNilA)))) (vSh (vC (.int 1)))))) (vRet (vOp pdAdd (vSh (vSl pdSl (vSlot 1) (vNoPart) (vPart (vVar 4)))) (vSh (vSl pdSl (vSlot 1) (vPart (vOp pdAdd (vSlot 4) (vSh (vC (.int 1))))) (vNoPart))))) (vNext)) (vSeq (vIfS (vTest (vOp pdEq (vSlot 5) (vSh (vC (.int 2))))) (vRet (vOp pdAdd (vSh (vOp pdAdd (vSh (vSl pdSl (vSlot 1) (vNoPart) (vPart (vVar 4)))) (vSh (vTup (vConsA (vSh (vCall ms__law_of spec__law_of (vConsA (vSlot 0) (vConsA (vSh (vVar 2)) (vNilA))))) (vNilA)))))) (vSh (vSl pdSl (vSlot 1) (vPart (vVar 4)) (vNoPart))))) (vNext)) (vSeq (vAsg (vUn pdRev (vSh (vSl pdSl (vSlot 1) (vPart (vVar 4)) (vPart (vOp pdAdd (vSlot 4) (vSh (vC (.int 2)))))))) 3) (vRet (vOp pdAdd (vSh (vOp pdAdd (vSh (vSl pdSl (vSlot 1) (vNoPart) (vPart (vVar 4)))) (vSlot 3))) (vSh (vSl pdSl (vSlot 1) (vPart (vOp pdAdd (vSlot 4) (vSh (vC (.int 2))))) (vNoPart))))))))))
theorem dv__law_changed [Wd] {K : PySem.W.Frag} {mg : Str → Option Value} {base : Heap} {f : Addr} {cdv : Value} {A : Around} {outer : List Env} {s : Shared} {H : Hp} {E : XK} (Bt : Bts mg) (D__law_take : Df Wd.P Wd.w K mg base 1 "_law_take" ps__law_take ms__law_take kbs__law_take spec__law_take) (D__law_of : Df Wd.P Wd.w K mg base 2 "_law_of" ps__law_of ms__law_of kbs__law_of spec__law_of)
    (hr : Room 2 (A.deeper (envOfC "_law_changed" (defScope s__law_changed) s.heap.objs.size f cdv))) (hg : A.guards = some []) :
    VSs ((cxOf CX0 Wd.P Wd.w K mg base N__law_changed "_law_changed" (defScope s__law_changed) f cdv A outer s H E).nox) (defBody s__law_changed) t__law_changed :=
  vs_cons (vs_set (ve_op op_addA ok_add pm_add (vb_of (ve_sortedSet (by rfl) (by rfl) (by rfl) Bt.n_sorted Bt.n_set (va_cons (vb_slot (pv 1)) (va_nil) rfl) (by rfl) (by rfl))) (vb_of (ve_lst (va_cons (vb_of (ve_str)) (va_cons (vb_of (ve_str)) (va_nil) rfl) rfl)))) (fun te h => ps_set (i := 2) sc__law_changed.nd rfl (by first | exact Or.inl rfl | exact Or.inr rfl) h)) (vs_cons ((by first | exact vs_par (i := 4) (j := 5) (ve_callD D__law_take hr (by first | decide | omega) hg (va_cons (vb_slot (pv 0)) (va_cons (vb_of (ve_cb ok_len lm_len (va_cons (vb_slot (pv 1)) (va_nil) rfl) (fun t h => pe_callB call_len (by rfl) Bt.n_len (by first | exact PySem.boot_len | exact PyProof.Rows.boot_len | decide +kernel) h))) (va_nil) rfl) rfl) (by rfl) (by decide) rfl rfl) (ve_callD D__law_take hr (by first | decide | omega) hg (va_cons (vb_slot (pv 0)) (va_cons (vb_of (ve_int)) (va_nil) rfl) rfl) (by rfl) (by decide) rfl rfl) (fun ta tb h1 h2 => ps_par rfl sc__law_changed.nd rfl rfl (by decide) rfl rfl (pa_cons h1 (pa_cons h2 pa_nil)) (by rfl)) | exact vs_parC (i := 4) (j := 5) rfl (ve_callD D__law_take hr (by first | decide | omega) hg (va_cons (vb_slot (pv 0)) (va_cons (vb_of (ve_cb ok_len lm_len (va_cons (vb_slot (pv 1)) (va_nil) rfl) (fun t h => pe_callB call_len (by rfl) Bt.n_len (by first | exact PySem.boot_len | exact PyProof.Rows.boot_len | decide +kernel) h))) (va_nil) rfl) rfl) (by rfl) (by decide) rfl rfl) (ve_callD D__law_take hr (by first | decide | omega) hg (va_cons (vb_slot (pv 0)) (va_cons (vb_of (ve_int)) (va_nil) rfl) rfl) (by rfl) (by decide) rfl rfl) (fun ta tb h1 h2 => ps_asg (pe_tup (pa_cons h1 (pa_cons h2 pa_nil))) (pg_tup rfl (pgs_cons (pg_name (i := 4) sc__law_changed.nd rfl (by first | exact Or.inl rfl | exact Or.inr rfl)) (pgs_cons (pg_name (i := 5) sc__law_changed.nd rfl (by first | exact Or.inl rfl | exact Or.inr rfl)) pgs_nil)))))) (vs_cons (vs_if (vt_cmp (op_eqZ hr.units) ok_eq pm_eq (vb_slot (pv 5)) (vb_of (ve_int)) (by first | rfl | exact nomark _)) (vs_one (vs_ret (ve_op op_addA ok_add pm_add (vb_of (ve_op op_addA ok_add pm_add (vb_of (ve_slice sl_any ok_sl pm_sl (vb_slot (pv 1)) (vo_none) (vo_some (ve_var (pv 4))))) (vb_of (ve_tup (va_cons (vb_of (ve_callD D__law_of hr (by first | decide | omega) hg (va_cons (vb_slot (pv 0)) (va_cons (vb_of (ve_var (pv 2))) (va_nil) rfl) rfl) (by rfl) (by decide) rfl rfl)) (va_nil) rfl))))) (vb_of (ve_slice sl_any ok_sl pm_sl (vb_slot (pv 1)) (vo_some (ve_op op_addA ok_add pm_add (vb_slot (pv 4)) (vb_of (ve_int)))) (vo_none)))))) (vs_nil)) (vs_cons (vs_if (PWv.vt (vw_and (vt_cmp (op_eqZ hr.units) ok_eq pm_eq (vb_slot (pv 5)) (vb_of (ve_int)) (by first | rfl | exact nomark _)) (vw_and1 (vt_cmp op_gtA ok_ord pm_ord (vb_of (ve_cb ok_len lm_len (va_cons (vb_slot (pv 1)) (va_nil) rfl) (fun t h => pe_callB call_len (by rfl) Bt.n_len (by first | exact PySem.boot_len | exact PyProof.Rows.boot_len | decide +kernel) h))) (vb_of (ve_int)) (by first | rfl | exact nomark _))))) (vs_one (vs_ret (ve_op op_addA ok_add pm_add (vb_of (ve_slice sl_any ok_sl pm_sl (vb_slot (pv 1)) (vo_none) (vo_some (ve_var (pv 4))))) (vb_of (ve_slice sl_any ok_sl pm_sl (vb_slot (pv 1)) (vo_some (ve_op op_addA ok_add pm_add (vb_slot (pv 4)) (vb_of (ve_int)))) (vo_none)))))) (vs_nil)) (vs_cons (vs_if (vt_cmp (op_eqZ hr.units) ok_eq pm_eq (vb_slot (pv 5)) (vb_of (ve_int)) (by first | rfl | exact nomark _)) (vs_one (vs_ret (ve_op op_addA ok_add pm_add (vb_of (ve_op op_addA ok_add pm_add (vb_of (ve_slice sl_any ok_sl pm_sl (vb_slot (pv 1)) (vo_none) (vo_some (ve_var (pv 4))))) (vb_of (ve_tup (va_cons (vb_of (ve_callD D__law_of hr (by first | decide | omega) hg (va_cons (vb_slot (pv 0)) (va_cons (vb_of (ve_var (pv 2))) (va_nil) rfl) rfl) (by rfl) (by decide) rfl rfl)) (va_nil) rfl))))) (vb_of (ve_slice sl_any ok_sl pm_sl (vb_slot (pv 1)) (vo_some (ve_var (pv 4))) (vo_none)))))) (vs_nil)) (vs_cons (vs_set (ve_revS (vb_of (ve_slice sl_any ok_sl pm_sl (vb_slot (pv 1)) (vo_some (ve_var (pv 4))) (vo_some (ve_op op_addA ok_add pm_add (vb_slot (pv 4)) (vb_of (ve_int))))))) (fun te h => ps_set (i := 3) sc__law_changed.nd rfl (by first | exact Or.inl rfl | exact Or.inr rfl) h)) (vs_one (vs_ret (ve_op op_addA ok_add pm_add (vb_of (ve_op op_addA ok_add pm_add (vb_of (ve_slice sl_any ok_sl pm_sl (vb_slot (pv 1)) (vo_none) (vo_some (ve_var (pv 4))))) (vb_slot (pv 3)))) (vb_of (ve_slice sl_any ok_sl pm_sl (vb_slot (pv 1)) (vo_some (ve_op op_addA ok_add pm_add (vb_slot (pv 4)) (vb_of (ve_int)))) (vo_none)))))))))))
abbrev ms__law_odd : List Bool := [true]
abbrev kbs__law_odd : List (List Str × List Nat) := []
abbrev s__law_odd : Stmt := topS 27
abbrev N__law_odd : List Str := ["_law_box_here", "_law_some"]
abbrev ps__law_odd : List Str := ["_law_box_here"]
theorem sc__law_odd : FnScope N__law_odd ps__law_odd (defScope s__law_odd) := ⟨rfl, rfl, rfl, by decide +kernel, rfl, by decide +kernel, by decide +kernel⟩
def t__law_odd : VS := vSeq (vAsg (vLst (vConsA (vSh (vC .none)) (vConsA (vSh (vC (.bool true))) (vConsA (vSh (vC (.bool false))) (vConsA (vSh (vC (.int 0))) (vConsA (vSh (vC (.int 1))) (vConsA (vSh (vUn pdNeg (vSh (vC (.int 1))))) (vConsA (vSh (vC (.str ("" : Str)))) (vConsA (vSh (vC (.str ("a" : Str)))) (vConsA (vSh (vC (.str ("A" : Str)))) (vConsA (vSh (vC (.str ("a b" : Str)))) (vConsA (vSh (vTup (vNilA))) (vConsA (vSh (vLst (vNilA))) (vConsA (vSh (vTup (vConsA (vSh (vC (.str ("a" : Str)))) (vNilA)))) (vConsA (vSh (vLst (vConsA (vSh (vC (.str ("a" : Str)))) (vNilA)))) (vConsA (vSh (vTup (vConsA (vSh (vC (.str ("" : Str)))) (vNilA)))) (vConsA (vSh (vTup (vConsA (vSh (vC (.str ("A" : Str)))) (vNilA)))) (vNilA)))))))))))))))))) 1) (vSeq (vAsg (vOp pdAdd (vSlot 1) (vSh (vLst (vConsA (vSh (vTup (vConsA (vSh (vC (.str ("abcdefg" : Str)))) (vNilA)))) (vConsA (vSh (vTup (vConsA (vSh (vTup (vConsA (vSh (vC (.str ("a" : Str)))) (vNilA)))) (vNilA)))) (vNilA)))))) 1) (vRet (vCall ms__law_of spec__law_of (vConsA (vSlot 0) (vConsA (vSh (vOp pdAdd (vSlot 1) (vSh (vLst (vConsA (vSh (vTup (vConsA (vSh (vC (.str ("a" : Str)))) (vConsA (vSh (vC (.int 1))) (vNilA))))) (vConsA (vSh (vTup (vConsA (vSh (vC (.str ("a" : Str)))) (vConsA (vSh (vC .none)) (vNilA))))) (vConsA (vSh (vTup (vConsA (vSh (vC (.str ("a" : Str)))) (vConsA (vSh (vC (.str ("b1" : Str)))) (vNilA))))) (vConsA (vSh (vTup (vConsA (vSh (vC (.str ("abcdef" : Str)))) (vNilA)))) (vConsA (vSh (vTup (vConsA (vSh (vC (.bool true))) (vNilA)))) (vConsA (vSh (vLst (vConsA (vSh (vTup (vConsA (vSh (vC (.str ("a" : Str)))) (vNilA)))) (vNilA)))) (vNilA))))))))))) (vNilA))))))
theorem dv__law_odd [Wd] {K : PySem.W.Frag} {mg : Str → Option Value} {base : Heap} {f : Addr} {cdv : Value} {A : Around} {outer : List Env} {s : Shared} {H : Hp} {E : XK} (Bt : Bts mg) (D__law_of : Df Wd.P Wd.w K mg base 2 "_law_of" ps__law_of ms__law_of kbs__law_of spec__law_of)
    (hr : Room 2 (A.deeper (envOfC "_law_odd" (defScope s__law_odd) s.heap.objs.size f cdv))) (hg : A.guards = some []) :
    VSs ((cxOf CX0 Wd.P Wd.w K mg base N__law_odd "_law_odd" (defScope s__law_odd) f cdv A outer s H E).nox) (defBody s__law_odd) t__law_odd :=
  vs_cons (vs_set (ve_lst (va_cons (vb_of (ve_none)) (va_cons (vb_of (ve_bool)) (va_cons (vb_of (ve_bool)) (va_cons (vb_of (ve_int)) (va_cons (vb_of (ve_int)) (va_cons (vb_of (ve_un un_neg ok_neg pm_neg (vb_of (ve_int)))) (va_cons (vb_of (ve_str)) (va_cons (vb_of (ve_str)) (va_cons (vb_of (ve_str)) (va_cons (vb_of (ve_str)) (va_cons (vb_of (ve_tup (va_nil))) (va_cons (vb_of (ve_lst (va_nil))) (va_cons (vb_of (ve_tup (va_cons (vb_of (ve_str)) (va_nil) rfl))) (va_cons (vb_of (ve_lst (va_cons (vb_of (ve_str)) (va_nil) rfl))) (va_cons (vb_of (ve_tup (va_cons (vb_of (ve_str)) (va_nil) rfl))) (va_cons (vb_of (ve_tup (va_cons (vb_of (ve_str)) (va_nil) rfl))) (va_nil) rfl) rfl) rfl) rfl) rfl) rfl) rfl) rfl) rfl) rfl) rfl) rfl) rfl) rfl) rfl) rfl)) (fun te h => ps_set (i := 1) sc__law_odd.nd rfl (by first | exact Or.inl rfl | exact Or.inr rfl) h)) (vs_cons (vs_set (ve_op op_addA ok_add pm_add (vb_slot (pv 1)) (vb_of (ve_lst (va_cons (vb_of (ve_tup (va_cons (vb_of (ve_str)) (va_nil) rfl))) (va_cons (vb_of (ve_tup (va_cons (vb_of (ve_tup (va_cons (vb_of (ve_str)) (va_nil) rfl))) (va_nil) rfl))) (va_nil) rfl) rfl)))) (fun te h => ps_set (i := 1) sc__law_odd.nd rfl (by first | exact Or.inl rfl | exact Or.inr rfl) h)) (vs_one (vs_ret (ve_callD D__law_of hr (by first | decide | omega) hg (va_cons (vb_slot (pv 0)) (va_cons (vb_of (ve_op op_addA ok_add pm_add (vb_slot (pv 1)) (vb_of (ve_lst (va_cons (vb_of (ve_tup (va_cons (vb_of (ve_str)) (va_cons (vb_of (ve_int)) (va_nil) rfl) rfl))) (va_cons (vb_of (ve_tup (va_cons (vb_of (ve_str)) (va_cons (vb_of (ve_none)) (va_nil) rfl) rfl))) (va_cons (vb_of (ve_tup (va_cons (vb_of (ve_str)) (va_cons (vb_of (ve_str)) (va_nil) rfl) rfl))) (va_cons (vb_of (ve_tup (va_cons (vb_of (ve_str)) (va_nil) rfl))) (va_cons (vb_of (ve_tup (va_cons (vb_of (ve_bool)) (va_nil) rfl))) (va_cons (vb_of (ve_lst (va_cons (vb_of (ve_tup (va_cons (vb_of (ve_str)) (va_nil) rfl))) (va_nil) rfl))) (va_nil) rfl) rfl) rfl) rfl) rfl) rfl))))) (va_nil) rfl) rfl) (by rfl) (by decide) rfl rfl))))
abbrev ms__law_bent : List Bool := [true, false, false]
abbrev kbs__law_bent : List (List Str × List Nat) := []
abbrev s__law_bent : Stmt := topS 28
abbrev N__law_bent : List Str := ["_law_box_here", "_law_matter", "_law_deep", "_law_way", "_law_some", "_law_spot"]
abbrev ps__law_bent : List Str := ["_law_box_here", "_law_matter", "_law_deep"]
theorem sc__law_bent : FnScope N__law_bent ps__law_bent (defScope s__law_bent) := ⟨rfl, rfl, rfl, by decide +kernel, rfl, by decide +kernel, by decide +kernel⟩
def t__law_bent (spec__law_bent : VSp) : VS := vSeq (vAsg (vCall ms__law_take spec__law_take (vConsA (vSlot 0) (vConsA (vSh (vC (.int 9))) (vNilA)))) 3) (vSeq (vIfS (vAnd (vTest (vUn (pIsi "int") (vSlot 1))) (vAnd (vNot (vTest (vUn (pIsi "bool") (vSlot 1)))) (vTest (vOp pdLt (vSlot 3) (vSh (vC (.int 5))))))) (vRet (vOp pdIx (vSh (vLst (vConsA (vSh (vOp pdAdd (vSlot 1) (vSh (vC (.int 1))))) (vConsA (vSh (vOp pdSub (vSlot 1) (vSh (vC (.int 1))))) (vConsA (vSh (vOp pdSub (vSh (vC (.int 0))) (vSlot 1))) (vConsA (vSh (vOp pdEq (vSlot 1) (vSh (vC (.int 1))))) (vConsA (vSh (vCB (pd1 pStr) (vConsA (vSlot 1) (vNilA)))) (vNilA)))))))) (vSlot 3))) (vNext)) (vSeq (vIfS (vAnd (vTest (vUn (pIsi "str") (vSlot 1))) (vTest (vOp pdLt (vSlot 3) (vSh (vC (.int 5)))))) (vRet (vOp pdIx (vSh (vLst (vConsA (vSh (vOp pdAdd (vSlot 1) (vSh (vC (.str ("a" : Str)))))) (vConsA (vSh (vSl pdSl (vSlot 1) (vPart (vC (.int 1))) (vNoPart))) (vConsA (vSh (vUn pUpper (vSlot 1))) (vConsA (vSh (vC (.str ("a1" : Str)))) (vConsA (vSh (vTup (vConsA (vSh (vVar 1)) (vNilA)))) (vNilA)))))))) (vSlot 3))) (vNext)) (vSeq (vIfS (vOr (vNot (vTest (vUn (pIsiT ["list", "tuple"]) (vSlot 1)))) (vOr (vTest (vOp pdEq (vSh (vCB (pd1 pLen) (vConsA (vSlot 1) (vNilA)))) (vSh (vC (.int 0))))) (vOr (vTest (vOp pdEq (vSlot 3) (vSh (vC (.int 0))))) (vTest (vOp pdEq (vSlot 2) (vSh (vC (.int 0)))))))) (vRet (vCall ms__law_odd spec__law_odd (vConsA (vSlot 0) (vNilA)))) (vNext)) (vSeq (vPar 4 5 (vCB (pd1 pList) (vConsA (vSlot 1) (vNilA))) (vCall ms__law_take spec__law_take (vConsA (vSlot 0) (vConsA (vSh (vCB (pd1 pLen) (vConsA (vSlot 1) (vNilA)))) (vNilA))))) (vSeq (vIfS (vTest (vOp pdEq (vSlot 3) (vSh (vC (.int 1))))) (vRet (vIf (vTest (vUn (pIsi "list") (vSlot 1))) (vCB (pd1 pTuple) (vConsA (vSlot 4) (vNilA))) (vVar 4))) (vNext)) (vSeq (vIfS (vTest (vOp pdEq (vSlot 3) (vSh (vC (.int 2))))) (vAsg (vOp pdAdd (vSh (vSl pdSl (vSlot 4) (vNoPart) (vPart (vVar 5)))) (vSh (vSl pdSl (vSlot 4) (vPart (vOp pdAdd (vSlot 5) (vSh (vC (.int 1))))) (vNoPart)))) 4) (vIfS (vTest (vOp pdEq (vSlot 3) (vSh (vC (.int 3))))) (vAsg (vOp pdAdd (vSh (vSl pdSl (vSlot 4) (vNoPart) (vPart (vOp pdAdd (vSlot 5) (vSh (vC (.int 1))))))) (vSh (vSl pdSl (vSlot 4) (vPart (vVar 5)) (vNoPart)))) 4) (vIfS (vTest (vOp pdEq (vSlot 3) (vSh (vC (.int 4))))) (vAsg (vUn pdRev (vSlot 4)) 4) (vSetIx 4 (vCall ms__law_bent spec__law_bent (vConsA (vSlot 0) (vConsA (vSh (vOp pdIx (vSlot 4) (vSlot 5))) (vConsA (vSh (vOp pdSub (vSlot 2) (vSh (vC (.int 1))))) (vNilA))))) (vVar 5))))) (vRet (vIf (vTest (vUn (pIsi "tuple") (vSlot 1))) (vCB (pd1 pTuple) (vConsA (vSlot 4) (vNilA))) (vVar 4)))))))))
theorem dv__law_bent [Wd] {K : PySem.W.Frag} {mg : Str → Option Value} {base : Heap} {f : Addr} {cdv : Value} {A : Around} {outer : List Env} {s : Shared} {H : Hp} {E : XK} (Bt : Bts mg) {kk : Nat} {spec__law_bent : VSp} (hkk : 3 ≤ kk) (D__law_bent : Df Wd.P Wd.w K mg base kk "_law_bent" ps__law_bent ms__law_bent kbs__law_bent spec__law_bent) (D__law_take : Df Wd.P Wd.w K mg base 1 "_law_take" ps__law_take ms__law_take kbs__law_take spec__law_take) (D__law_odd : Df Wd.P Wd.w K mg base 3 "_law_odd" ps__law_odd ms__law_odd kbs__law_odd spec__law_odd)
    (hr : Room kk (A.deeper (envOfC "_law_bent" (defScope s__law_bent) s.heap.objs.size f cdv))) (hg : A.guards = some []) :
    VSs ((cxOf CX0 Wd.P Wd.w K mg base N__law_bent "_law_bent" (defScope s__law_bent) f cdv A outer s H E).nox) (defBody s__law_bent) (t__law_bent spec__law_bent) :=
  vs_cons (vs_set (ve_callD D__law_take hr (by first | decide | omega) hg (va_cons (vb_slot (pv 0)) (va_cons (vb_of (ve_int)) (va_nil) rfl) rfl) (by rfl) (by decide) rfl rfl) (fun te h => ps_set (i := 3) sc__law_bent.nd rfl (by first | exact Or.inl rfl | exact Or.inr rfl) h)) (vs_cons (vs_if (PWv.vt (vw_and (vt_of (ve_isi (T := "int") (by decide) (vb_slot (pv 1)) (pe_callB call_isi (by rfl) Bt.n_isinstance (by first | exact PySem.boot_isinstance | exact PyProof.Rows.boot_isinstance | decide +kernel) (pa_cons (VB.pe (vb_slot (pv 1))) (pa_cons (pe_bltn (v := .ty "int") (by rfl) Bt.n_int (by first | exact PySem.boot_int | exact PyProof.Rows.boot_int | decide +kernel) rfl) pa_nil (by rfl)) (by rfl)))) (fun _ => rfl)) (vw_and (vt_not (vt_of (ve_isi (T := "bool") (by decide) (vb_slot (pv 1)) (pe_callB call_isi (by rfl) Bt.n_isinstance (by first | exact PySem.boot_isinstance | exact PyProof.Rows.boot_isinstance | decide +kernel) (pa_cons (VB.pe (vb_slot (pv 1))) (pa_cons (pe_bltn (v := .ty "bool") (by rfl) Bt.n_bool (by first | exact PySem.boot_bool | exact PyProof.Rows.boot_bool | decide +kernel) rfl) pa_nil (by rfl)) (by rfl)))) (fun _ => rfl))) (vw_and1 (vt_cmp op_ltA ok_ord pm_ord (vb_slot (pv 3)) (vb_of (ve_int)) (by first | rfl | exact nomark _)))))) (vs_one (vs_ret (ve_ix ix_seq ok_ix pm_ix (vb_of (ve_lst (va_cons (vb_of (ve_op op_addA ok_add pm_add (vb_slot (pv 1)) (vb_of (ve_int)))) (va_cons (vb_of (ve_op op_subT ok_sub pm_int (vb_slot (pv 1)) (vb_of (ve_int)))) (va_cons (vb_of (ve_op op_subT ok_sub pm_int (vb_of (ve_int)) (vb_slot (pv 1)))) (va_cons (vb_of (ve_cmp (op_eqZ hr.units) ok_eq pm_eq (vb_slot (pv 1)) (vb_of (ve_int)) (by first | rfl | exact nomark _))) (va_cons (vb_of (ve_cb ok_str lm_str (va_cons (vb_slot (pv 1)) (va_nil) rfl) (fun t h => pe_callTy call_strA (by rfl) Bt.n_str (by first | exact PySem.boot_str | exact PyProof.Rows.boot_str | decide +kernel) h))) (va_nil) rfl) rfl) rfl) rfl) rfl))) (vb_slot (pv 3)) (fun _ _ => rfl)))) (vs_nil)) (vs_cons (vs_if (PWv.vt (vw_and (vt_of (ve_isi (T := "str") (by decide) (vb_slot (pv 1)) (pe_callB call_isi (by rfl) Bt.n_isinstance (by first | exact PySem.boot_isinstance | exact PyProof.Rows.boot_isinstance | decide +kernel) (pa_cons (VB.pe (vb_slot (pv 1))) (pa_cons (pe_bltn (v := .ty "str") (by rfl) Bt.n_str (by first | exact PySem.boot_str | exact PyProof.Rows.boot_str | decide +kernel) rfl) pa_nil (by rfl)) (by rfl)))) (fun _ => rfl)) (vw_and1 (vt_cmp op_ltA ok_ord pm_ord (vb_slot (pv 3)) (vb_of (ve_int)) (by first | rfl | exact nomark _))))) (vs_one (vs_ret (ve_ix ix_seq ok_ix pm_ix (vb_of (ve_lst (va_cons (vb_of (ve_op op_addA ok_add pm_add (vb_slot (pv 1)) (vb_of (ve_str)))) (va_cons (vb_of (ve_slice sl_any ok_sl pm_sl (vb_slot (pv 1)) (vo_some (ve_int)) (vo_none))) (va_cons (vb_of (ve_upper (vb_slot (pv 1)) (fun h => pe_upper h))) (va_cons (vb_of (ve_str)) (va_cons (vb_of (ve_tup (va_cons (vb_of (ve_var (pv 1))) (va_nil) rfl))) (va_nil) rfl) rfl) rfl) rfl) rfl))) (vb_slot (pv 3)) (fun _ _ => rfl)))) (vs_nil)) (vs_cons (vs_if (PWv.vt (vw_or (vt_not (vt_of (ve_isiT (Ts := ["list", "tuple"]) (by decide) (by decide) (vb_slot (pv 1)) (pe_callB call_isiT (by rfl) Bt.n_isinstance (by first | exact PySem.boot_isinstance | exact PyProof.Rows.boot_isinstance | decide +kernel) (pa_cons (VB.pe (vb_slot (pv 1))) (pa_cons (pe_tup (pa_cons (pe_bltn (v := .ty "list") (by rfl) Bt.n_list (by first | exact PySem.boot_list | exact PyProof.Rows.boot_list | decide +kernel) rfl) (pa_cons (pe_bltn (v := .ty "tuple") (by rfl) Bt.n_tuple (by first | exact PySem.boot_tuple | exact PyProof.Rows.boot_tuple | decide +kernel) rfl) (pa_nil) (by rfl)) (by rfl))) pa_nil (by rfl)) (by rfl)))) (fun _ => rfl))) (vw_or (vt_cmp (op_eqZ hr.units) ok_eq pm_eq (vb_of (ve_cb ok_len lm_len (va_cons (vb_slot (pv 1)) (va_nil) rfl) (fun t h => pe_callB call_len (by rfl) Bt.n_len (by first | exact PySem.boot_len | exact PyProof.Rows.boot_len | decide +kernel) h))) (vb_of (ve_int)) (by first | rfl | exact nomark _)) (vw_or (vt_cmp (op_eqZ hr.units) ok_eq pm_eq (vb_slot (pv 3)) (vb_of (ve_int)) (by first | rfl | exact nomark _)) (vw_or1 (vt_cmp (op_eqZ hr.units) ok_eq pm_eq (vb_slot (pv 2)) (vb_of (ve_int)) (by first | rfl | exact nomark _))))))) (vs_one (vs_ret (ve_callD D__law_odd hr (by first | decide | omega) hg (va_cons (vb_slot (pv 0)) (va_nil) rfl) (by rfl) (by decide) rfl rfl))) (vs_nil)) (vs_cons ((by first | exact vs_par (i := 4) (j := 5) (ve_cb ok_list lm_list (va_cons (vb_slot (pv 1)) (va_nil) rfl) (fun t h => pe_callTy call_list_of (by rfl) Bt.n_list (by first | exact PySem.boot_list | exact PyProof.Rows.boot_list | decide +kernel) h)) (ve_callD D__law_take hr (by first | decide | omega) hg (va_cons (vb_slot (pv 0)) (va_cons (vb_of (ve_cb ok_len lm_len (va_cons (vb_slot (pv 1)) (va_nil) rfl) (fun t h => pe_callB call_len (by rfl) Bt.n_len (by first | exact PySem.boot_len | exact PyProof.Rows.boot_len | decide +kernel) h))) (va_nil) rfl) rfl) (by rfl) (by decide) rfl rfl) (fun ta tb h1 h2 => ps_par rfl sc__law_bent.nd rfl rfl (by decide) rfl rfl (pa_cons h1 (pa_cons h2 pa_nil)) (by rfl)) | exact vs_parC (i := 4) (j := 5) rfl (ve_cb ok_list lm_list (va_cons (vb_slot (pv 1)) (va_nil) rfl) (fun t h => pe_callTy call_list_of (by rfl) Bt.n_list (by first | exact PySem.boot_list | exact PyProof.Rows.boot_list | decide +kernel) h)) (ve_callD D__law_take hr (by first | decide | omega) hg (va_cons (vb_slot (pv 0)) (va_cons (vb_of (ve_cb ok_len lm_len (va_cons (vb_slot (pv 1)) (va_nil) rfl) (fun t h => pe_callB call_len (by rfl) Bt.n_len (by first | exact PySem.boot_len | exact PyProof.Rows.boot_len | decide +kernel) h))) (va_nil) rfl) rfl) (by rfl) (by decide) rfl rfl) (fun ta tb h1 h2 => ps_asg (pe_tup (pa_cons h1 (pa_cons h2 pa_nil))) (pg_tup rfl (pgs_cons (pg_name (i := 4) sc__law_bent.nd rfl (by first | exact Or.inl rfl | exact Or.inr rfl)) (pgs_cons (pg_name (i := 5) sc__law_bent.nd rfl (by first | exact Or.inl rfl | exact Or.inr rfl)) pgs_nil)))))) (vs_cons (vs_if (vt_cmp (op_eqZ hr.units) ok_eq pm_eq (vb_slot (pv 3)) (vb_of (ve_int)) (by first | rfl | exact nomark _)) (vs_one (vs_ret (ve_if (vt_of (ve_isi (T := "list") (by decide) (vb_slot (pv 1)) (pe_callB call_isi (by rfl) Bt.n_isinstance (by first | exact PySem.boot_isinstance | exact PyProof.Rows.boot_isinstance | decide +kernel) (pa_cons (VB.pe (vb_slot (pv 1))) (pa_cons (pe_bltn (v := .ty "list") (by rfl) Bt.n_list (by first | exact PySem.boot_list | exact PyProof.Rows.boot_list | decide +kernel) rfl) pa_nil (by rfl)) (by rfl)))) (fun _ => rfl)) (ve_cb ok_tuple lm_tuple (va_cons (vb_slot (pv 4)) (va_nil) rfl) (fun t h => pe_callTy call_tuple_of (by rfl) Bt.n_tuple (by first | exact PySem.boot_tuple | exact PyProof.Rows.boot_tuple | decide +kernel) h)) (ve_var (pv 4))))) (vs_nil)) (vs_cons (vs_if (vt_cmp (op_eqZ hr.units) ok_eq pm_eq (vb_slot (pv 3)) (vb_of (ve_int)) (by first | rfl | exact nomark _)) (vs_one (vs_set (ve_op op_addA ok_add pm_add (vb_of (ve_slice sl_any ok_sl pm_sl (vb_slot (pv 4)) (vo_none) (vo_some (ve_var (pv 5))))) (vb_of (ve_slice sl_any ok_sl pm_sl (vb_slot (pv 4)) (vo_some (ve_op op_addA ok_add pm_add (vb_slot (pv 5)) (vb_of (ve_int)))) (vo_none)))) (fun te h => ps_set (i := 4) sc__law_bent.nd rfl (by first | exact Or.inl rfl | exact Or.inr rfl) h))) (vs_one (vs_if (vt_cmp (op_eqZ hr.units) ok_eq pm_eq (vb_slot (pv 3)) (vb_of (ve_int)) (by first | rfl | exact nomark _)) (vs_one (vs_set (ve_op op_addA ok_add pm_add (vb_of (ve_slice sl_any ok_sl pm_sl (vb_slot (pv 4)) (vo_none) (vo_some (ve_op op_addA ok_add pm_add (vb_slot (pv 5)) (vb_of (ve_int)))))) (vb_of (ve_slice sl_any ok_sl pm_sl (vb_slot (pv 4)) (vo_some (ve_var (pv 5))) (vo_none)))) (fun te h => ps_set (i := 4) sc__law_bent.nd rfl (by first | exact Or.inl rfl | exact Or.inr rfl) h))) (vs_one (vs_if (vt_cmp (op_eqZ hr.units) ok_eq pm_eq (vb_slot (pv 3)) (vb_of (ve_int)) (by first | rfl | exact nomark _)) (vs_one (vs_set (ve_revS (vb_slot (pv 4))) (fun te h => ps_set (i := 4) sc__law_bent.nd rfl (by first | exact Or.inl rfl | exact Or.inr rfl) h))) (vs_one (vs_setIx (j := 4) (ve_callD D__law_bent hr (by first | decide | omega) hg (va_cons (vb_slot (pv 0)) (va_cons (vb_of (ve_ix ix_seq ok_ix pm_ix (vb_slot (pv 4)) (vb_slot (pv 5)) (fun _ _ => rfl))) (va_cons (vb_of (ve_op op_subT ok_sub pm_int (vb_slot (pv 2)) (vb_of (ve_int)))) (va_nil) rfl) rfl) rfl) (by rfl) (by decide) rfl rfl) (ve_var (pv 5)) (fun te ti h1 h2 => ps_asg h1 (pg_sub (pv 4) h2 set_list))))))))) (vs_one (vs_ret (ve_if (vt_of (ve_isi (T := "tuple") (by decide) (vb_slot (pv 1)) (pe_callB call_isi (by rfl) Bt.n_isinstance (by first | exact PySem.boot_isinstance | exact PyProof.Rows.boot_isinstance | decide +kernel) (pa_cons (VB.pe (vb_slot (pv 1))) (pa_cons (pe_bltn (v := .ty "tuple") (by rfl) Bt.n_tuple (by first | exact PySem.boot_tuple | exact PyProof.Rows.boot_tuple | decide +kernel) rfl) pa_nil (by rfl)) (by rfl)))) (fun _ => rfl)) (ve_cb ok_tuple lm_tuple (va_cons (vb_slot (pv 4)) (va_nil) rfl) (fun t h => pe_callTy call_tuple_of (by rfl) Bt.n_tuple (by first | exact PySem.boot_tuple | exact PyProof.Rows.boot_tuple | decide +kernel) h)) (ve_var (pv 4)))))))))))
abbrev ms__law_is_number : List Bool := [false]
abbrev kbs__law_is_number : List (List Str × List Nat) := []
abbrev s__law_is_number : Stmt := topS 29
abbrev N__law_is_number : List Str := ["_law_matter"]
abbrev ps__law_is_number : List Str := ["_law_matter"]
theorem sc__law_is_number : FnScope N__law_is_number ps__law_is_number (defScope s__law_is_number) := ⟨rfl, rfl, rfl, by decide +kernel, rfl, by decide +kernel, by decide +kernel⟩
def t__law_is_number : VS := vRet (vAndV (vUn (pIsi "int") (vSlot 0)) (vNotV (vUn (pIsi "bool") (vSlot 0))))
theorem dv__law_is_number [Wd] {K : PySem.W.Frag} {mg : Str → Option Value} {base : Heap} {f : Addr} {cdv : Value} {A : Around} {outer : List Env} {s : Shared} {H : Hp} {E : XK} (Bt : Bts mg)
    (hr : Room 0 (A.deeper (envOfC "_law_is_number" (defScope s__law_is_number) s.heap.objs.size f cdv))) (hg : A.guards = some []) :
    VSs ((cxOf CX0 Wd.P Wd.w K mg base N__law_is_number "_law_is_number" (defScope s__law_is_number) f cdv A outer s H E).nox) (defBody s__law_is_number) t__law_is_number :=
  vs_one (vs_ret (ve_and (ve_isi (T := "int") (by decide) (vb_slot (pv 0)) (pe_callB call_isi (by rfl) Bt.n_isinstance (by first | exact PySem.boot_isinstance | exact PyProof.Rows.boot_isinstance | decide +kernel) (pa_cons (VB.pe (vb_slot (pv 0))) (pa_cons (pe_bltn (v := .ty "int") (by rfl) Bt.n_int (by first | exact PySem.boot_int | exact PyProof.Rows.boot_int | decide +kernel) rfl) pa_nil (by rfl)) (by rfl)))) (ve_one (ve_not (ve_isi (T := "bool") (by decide) (vb_slot (pv 0)) (pe_callB call_isi (by rfl) Bt.n_isinstance (by first | exact PySem.boot_isinstance | exact PyProof.Rows.boot_isinstance | decide +kernel) (pa_cons (VB.pe (vb_slot (pv 0))) (pa_cons (pe_bltn (v := .ty "bool") (by rfl) Bt.n_bool (by first | exact PySem.boot_bool | exact PyProof.Rows.boot_bool | decide +kernel) rfl) pa_nil (by rfl)) (by rfl))))))))
abbrev ms__law_are_places : List Bool := [false, false, false, false]
abbrev kbs__law_are_places : List (List Str × List Nat) := []
abbrev s__law_are_places : Stmt := topS 30
abbrev N__law_are_places : List Str := ["_law_page_here", "_law_scroll_here", "_law_span_here", "_law_places", "_law_starts", "_law_end", "_law_term", "_law_start"]
abbrev ps__law_are_places : List Str := ["_law_page_here", "_law_scroll_here", "_law_span_here", "_law_places"]
theorem sc__law_are_places : FnScope N__law_are_places ps__law_are_places (defScope s__law_are_places) := ⟨rfl, rfl, rfl, by decide +kernel, rfl, by decide +kernel, by decide +kernel⟩
def t__law_are_places : VS := vSeq (vIfS (vOr (vTest (vOp pdNe (vSh (vCB (pd1 pLen) (vConsA (vSlot 3) (vNilA)))) (vSh (vCB (pd1 pLen) (vConsA (vSlot 0) (vNilA)))))) (vOr (vTest (vOp pdNe (vSh (vOp pdIx (vSlot 3) (vSh (vUn pdNeg (vSh (vC (.int 1))))))) (vSh (vOp pdSub (vSh (vCB (pd1 pLen) (vConsA (vSlot 1) (vNilA)))) (vSh (vC (.int 1))))))) (vTest (vOp pdNe (vSh (vCB (pd1 pList) (vConsA (vSlot 3) (vNilA)))) (vSh (vCB pSortedSetI (vConsA (vSlot 3) (vNilA)))))))) (vRet (vC (.bool false))) (vNext)) (vSeq (vAsg (vOp pdAdd (vSh (vLst (vConsA (vSh (vC (.int 0))) (vNilA)))) (vSh (vLc (vSeqI (vSl pdSl (vSlot 3) (vNoPart) (vPart (vUn pdNeg (vSh (vC (.int 1))))))) (gvName 5) (vYes) (vOp pdAdd (vSlot 5) (vSh (vC (.int 1)))) [5]))) 4) (vSeq (vIfS (vTest (vOp pdLt (vSh (vOp pdIx (vSlot 3) (vSh (vC (.int 0))))) (vSh (vC (.int 0))))) (vRet (vC (.bool false))) (vNext)) (vSeq (vIfS (vNot (vTest (vCB (pd1 (pAll false)) (vConsA (vSh (vLc (vZip2 (vConsA (vSh (vVar 4)) (vConsA (vSh (vVar 0)) (vNilA)))) (gvTup 2 (gvCons (gvName 7) (gvCons (gvName 6) (gvNil)))) (vYes) (vOp pdEq (vSh (vOp pdIx (vSlot 1) (vSlot 7))) (vSlot 6)) [7, 6])) (vNilA))))) (vRet (vC (.bool false))) (vNext)) (vRet (vCB (pd1 (pAll false)) (vConsA (vSh (vLc (vZip2 (vConsA (vSh (vVar 3)) (vConsA (vSh (vVar 0)) (vNilA)))) (gvTup 2 (gvCons (gvName 5) (gvCons (gvName 6) (gvNil)))) (vYes) (vCall ms__law_alike spec__law_alike (vConsA (vSh (vOp pdIx (vSlot 1) (vSlot 5))) (vConsA (vSh (vVar 6)) (vConsA (vSh (vVar 2)) (vNilA))))) [5, 6])) (vNilA)))))))
theorem dv__law_are_places [Wd] {K : PySem.W.Frag} {mg : Str → Option Value} {base : Heap} {f : Addr} {cdv : Value} {A : Around} {outer : List Env} {s : Shared} {H : Hp} {E : XK} (Bt : Bts mg) (D__law_alike : Df Wd.P Wd.w K mg base 1 "_law_alike" ps__law_alike ms__law_alike kbs__law_alike spec__law_alike)
    (hr : Room 1 (A.deeper (envOfC "_law_are_places" (defScope s__law_are_places) s.heap.objs.size f cdv))) (hg : A.guards = some []) :
    VSs ((cxOf CX0 Wd.P Wd.w K mg base N__law_are_places "_law_are_places" (defScope s__law_are_places) f cdv A outer s H E).nox) (defBody s__law_are_places) t__law_are_places :=
  vs_cons (vs_if (PWv.vt (vw_or (vt_cmp (op_neZ hr.units) ok_ne pm_ne (vb_of (ve_cb ok_len lm_len (va_cons (vb_slot (pv 3)) (va_nil) rfl) (fun t h => pe_callB call_len (by rfl) Bt.n_len (by first | exact PySem.boot_len | exact PyProof.Rows.boot_len | decide +kernel) h))) (vb_of (ve_cb ok_len lm_len (va_cons (vb_slot (pv 0)) (va_nil) rfl) (fun t h => pe_callB call_len (by rfl) Bt.n_len (by first | exact PySem.boot_len | exact PyProof.Rows.boot_len | decide +kernel) h))) (by first | rfl | exact nomark _)) (vw_or (vt_cmp (op_neZ hr.units) ok_ne pm_ne (vb_of (ve_ix ix_seq ok_ix pm_ix (vb_slot (pv 3)) (vb_of (ve_un un_neg ok_neg pm_neg (vb_of (ve_int)))) (fun _ _ => rfl))) (vb_of (ve_op op_subT ok_sub pm_int (vb_of (ve_cb ok_len lm_len (va_cons (vb_slot (pv 1)) (va_nil) rfl) (fun t h => pe_callB call_len (by rfl) Bt.n_len (by first | exact PySem.boot_len | exact PyProof.Rows.boot_len | decide +kernel) h))) (vb_of (ve_int)))) (by first | rfl | exact nomark _)) (vw_or1 (vt_cmp (op_neZ hr.units) ok_ne pm_ne (vb_of (ve_cb ok_list lm_list (va_cons (vb_slot (pv 3)) (va_nil) rfl) (fun t h => pe_callTy call_list_of (by rfl) Bt.n_list (by first | exact PySem.boot_list | exact PyProof.Rows.boot_list | decide +kernel) h))) (vb_of (ve_sortedSetI (by rfl) (by rfl) (by rfl) Bt.n_sorted Bt.n_set (va_cons (vb_slot (pv 3)) (va_nil) rfl) (by rfl) (by rfl))) (by first | rfl | exact nomark _)))))) (vs_one (vs_ret (ve_bool))) (vs_nil)) (vs_cons (vs_set (ve_op op_addA ok_add pm_add (vb_of (ve_lst (va_cons (vb_of (ve_int)) (va_nil) rfl))) (vb_of (ve_lc (own := [("_law_end", 5)]) rfl sc__law_are_places.nd (vi_seq (ve_slice sl_any ok_sl pm_sl (vb_slot (pv 3)) (vo_none) (vo_some (ve_un un_neg ok_neg pm_neg (vb_of (ve_int)))))) (blkOk_by (own := [("_law_end", 5)]) (N := N__law_are_places) (sc := defScope s__law_are_places) (by decide +kernel)) (fun _ _ _ _ _ => gv_name (is := [5]) (pg_name (i := 5) sc__law_are_places.nd rfl (by first | exact Or.inl rfl | exact Or.inr rfl)) (by decide)) (fun _ _ _ _ _ => vts_nil) (fun _ _ _ _ _ => ve_op op_addA ok_add pm_add (vb_slot (pv 5)) (vb_of (ve_int))) (fun _ => rfl) s))) (fun te h => ps_set (i := 4) sc__law_are_places.nd rfl (by first | exact Or.inl rfl | exact Or.inr rfl) h)) (vs_cons (vs_if (vt_cmp op_ltA ok_ord pm_ord (vb_of (ve_ix ix_seq ok_ix pm_ix (vb_slot (pv 3)) (vb_of (ve_int)) (fun _ _ => rfl))) (vb_of (ve_int)) (by first | rfl | exact nomark _)) (vs_one (vs_ret (ve_bool))) (vs_nil)) (vs_cons (vs_if (vt_not (vt_of (ve_cb ok_all lm_all (va_cons (vb_of (ve_lc (own := [("_law_start", 7), ("_law_term", 6)]) rfl sc__law_are_places.nd (vi_zip2 (va_cons (vb_of (ve_var (pv 4))) (va_cons (vb_of (ve_var (pv 0))) (va_nil) rfl) rfl) (fun t h => pi_zipN zipCall2 (by decide) (by decide) rfl Bt.n_zip h)) (blkOk_by (own := [("_law_start", 7), ("_law_term", 6)]) (N := N__law_are_places) (sc := defScope s__law_are_places) (by decide +kernel)) (fun _ _ _ _ _ => gv_tup (n := 2) rfl (gv_cons (gv_name (is := [7, 6]) (pg_name (i := 7) sc__law_are_places.nd rfl (by first | exact Or.inl rfl | exact Or.inr rfl)) (by decide)) (gv_cons (gv_name (is := [7, 6]) (pg_name (i := 6) sc__law_are_places.nd rfl (by first | exact Or.inl rfl | exact Or.inr rfl)) (by decide)) (gv_nil) rfl) rfl) rfl rfl) (fun _ _ _ _ _ => vts_nil) (fun _ _ _ _ _ => ve_cmp (op_eqZ hr.units) ok_eq pm_eq (vb_of (ve_ix ix_seq ok_ix pm_ix (vb_slot (pv 1)) (vb_slot (pv 7)) (fun _ _ => rfl))) (vb_slot (pv 6)) (by first | rfl | exact nomark _)) (fun _ => rfl) s)) (va_nil) rfl) (fun t h => pe_callB (cr_all rfl) (by rfl) Bt.n_all (by first | exact PySem.boot_all | exact PyProof.Rows.boot_all | decide +kernel) h)) (fun _ => rfl))) (vs_one (vs_ret (ve_bool))) (vs_nil)) (vs_one (vs_ret (ve_cb ok_all lm_all (va_cons (vb_of (ve_lc (own := [("_law_end", 5), ("_law_term", 6)]) rfl sc__law_are_places.nd (vi_zip2 (va_cons (vb_of (ve_var (pv 3))) (va_cons (vb_of (ve_var (pv 0))) (va_nil) rfl) rfl) (fun t h => pi_zipN zipCall2 (by decide) (by decide) rfl Bt.n_zip h)) (blkOk_by (own := [("_law_end", 5), ("_law_term", 6)]) (N := N__law_are_places) (sc := defScope s__law_are_places) (by decide +kernel)) (fun _ _ _ _ _ => gv_tup (n := 2) rfl (gv_cons (gv_name (is := [5, 6]) (pg_name (i := 5) sc__law_are_places.nd rfl (by first | exact Or.inl rfl | exact Or.inr rfl)) (by decide)) (gv_cons (gv_name (is := [5, 6]) (pg_name (i := 6) sc__law_are_places.nd rfl (by first | exact Or.inl rfl | exact Or.inr rfl)) (by decide)) (gv_nil) rfl) rfl) rfl rfl) (fun _ _ _ _ _ => vts_nil) (fun _ _ _ _ _ => ve_callD D__law_alike hr (by first | decide | omega) hg (va_cons (vb_of (ve_ix ix_seq ok_ix pm_ix (vb_slot (pv 1)) (vb_slot (pv 5)) (fun _ _ => rfl))) (va_cons (vb_of (ve_var (pv 6))) (va_cons (vb_of (ve_var (pv 2))) (va_nil) rfl) rfl) rfl) (by rfl) (by decide) rfl rfl) (fun _ => rfl) s)) (va_nil) rfl) (fun t h => pe_callB (cr_all rfl) (by rfl) Bt.n_all (by first | exact PySem.boot_all | exact PyProof.Rows.boot_all | decide +kernel) h)))))))
abbrev ms__law_is_it : List Bool := [false, false, false, false]
abbrev kbs__law_is_it : List (List Str × List Nat) := []
abbrev s__law_is_it : Stmt := topS 31
abbrev N__law_is_it : List Str := ["_law_page_here", "_law_scroll_here", "_law_span_here", "_law_matter", "_law_end"]
abbrev ps__law_is_it : List Str := ["_law_page_here", "_law_scroll_here", "_law_span_here", "_law_matter"]
theorem sc__law_is_it : FnScope N__law_is_it ps__law_is_it (defScope s__law_is_it) := ⟨rfl, rfl, rfl, by decide +kernel, rfl, by decide +kernel, by decide +kernel⟩
def t__law_is_it : VS := vSeq (vIfS (vOr (vNot (vTest (vUn (pIsi "tuple") (vSlot 3)))) (vNot (vTest (vCB (pd1 (pAll false)) (vConsA (vSh (vLc (vSeqI (vVar 3)) (gvName 4) (vYes) (vCall ms__law_is_number spec__law_is_number (vConsA (vSh (vVar 4)) (vNilA))) [4])) (vNilA)))))) (vRet (vC (.bool false))) (vNext)) (vRet (vCall ms__law_are_places spec__law_are_places (vConsA (vSh (vVar 0)) (vConsA (vSh (vVar 1)) (vConsA (vSh (vVar 2)) (vConsA (vSh (vVar 3)) (vNilA)))))))
theorem dv__law_is_it [Wd] {K : PySem.W.Frag} {mg : Str → Option Value} {base : Heap} {f : Addr} {cdv : Value} {A : Around} {outer : List Env} {s : Shared} {H : Hp} {E : XK} (Bt : Bts mg) (D__law_is_number : Df Wd.P Wd.w K mg base 1 "_law_is_number" ps__law_is_number ms__law_is_number kbs__law_is_number spec__law_is_number) (D__law_are_places : Df Wd.P Wd.w K mg base 2 "_law_are_places" ps__law_are_places ms__law_are_places kbs__law_are_places spec__law_are_places)
    (hr : Room 2 (A.deeper (envOfC "_law_is_it" (defScope s__law_is_it) s.heap.objs.size f cdv))) (hg : A.guards = some []) :
    VSs ((cxOf CX0 Wd.P Wd.w K mg base N__law_is_it "_law_is_it" (defScope s__law_is_it) f cdv A outer s H E).nox) (defBody s__law_is_it) t__law_is_it :=
  vs_cons (vs_if (PWv.vt (vw_or (vt_not (vt_of (ve_isi (T := "tuple") (by decide) (vb_slot (pv 3)) (pe_callB call_isi (by rfl) Bt.n_isinstance (by first | exact PySem.boot_isinstance | exact PyProof.Rows.boot_isinstance | decide +kernel) (pa_cons (VB.pe (vb_slot (pv 3))) (pa_cons (pe_bltn (v := .ty "tuple") (by rfl) Bt.n_tuple (by first | exact PySem.boot_tuple | exact PyProof.Rows.boot_tuple | decide +kernel) rfl) pa_nil (by rfl)) (by rfl)))) (fun _ => rfl))) (vw_or1 (vt_not (vt_of (ve_cb ok_all lm_all (va_cons (vb_of (ve_lc (own := [("_law_end", 4)]) rfl sc__law_is_it.nd (vi_seq (ve_var (pv 3))) (blkOk_by (own := [("_law_end", 4)]) (N := N__law_is_it) (sc := defScope s__law_is_it) (by decide +kernel)) (fun _ _ _ _ _ => gv_name (is := [4]) (pg_name (i := 4) sc__law_is_it.nd rfl (by first | exact Or.inl rfl | exact Or.inr rfl)) (by decide)) (fun _ _ _ _ _ => vts_nil) (fun _ _ _ _ _ => ve_callD D__law_is_number hr (by first | decide | omega) hg (va_cons (vb_of (ve_var (pv 4))) (va_nil) rfl) (by rfl) (by decide) rfl rfl) (fun _ => rfl) s)) (va_nil) rfl) (fun t h => pe_callB (cr_all rfl) (by rfl) Bt.n_all (by first | exact PySem.boot_all | exact PyProof.Rows.boot_all | decide +kernel) h)) (fun _ => rfl)))))) (vs_one (vs_ret (ve_bool))) (vs_nil)) (vs_one (vs_ret (ve_callD D__law_are_places hr (by first | decide | omega) hg (va_cons (vb_of (ve_var (pv 0))) (va_cons (vb_of (ve_var (pv 1))) (va_cons (vb_of (ve_var (pv 2))) (va_cons (vb_of (ve_var (pv 3))) (va_nil) rfl) rfl) rfl) rfl) (by rfl) (by decide) rfl rfl)))
abbrev ms__law_right : List Bool := [true]
abbrev kbs__law_right : List (List Str × List Nat) := []
abbrev s__law_right : Stmt := topS 32
abbrev N__law_right : List Str := ["_law_box_here", "_law_page_here", "_law_told", "_law_other_page", "_law_some", "_law_turn", "_law_matter", "_law_scroll_here", "_law_span_here", "_law_bent_here", "_law_mine", "_law_heard", "_law_kept", "_law_due"]
abbrev ps__law_right : List Str := ["_law_box_here"]
theorem sc__law_right : FnScope N__law_right ps__law_right (defScope s__law_right) := ⟨rfl, rfl, rfl, by decide +kernel, rfl, by decide +kernel, by decide +kernel⟩
def t__law_right : VS := vSeq (vPar 7 8 (vCall ms__law_scroll spec__law_scroll (vConsA (vSlot 0) (vConsA (vSh (vC (.int 14))) (vNilA)))) (vCall ms__law_span spec__law_span (vConsA (vSlot 0) (vNilA)))) (vSeq (vAsg (vCall ms__law_page spec__law_page (vConsA (vSlot 0) (vConsA (vSh (vVar 7)) (vConsA (vSh (vVar 8)) (vNilA))))) 1) (vSeq (vAsg (vCall ms_least_parting spec_least_parting (vConsA (vSh (vVar 1)) (vConsA (vSh (vVar 7)) (vConsA (vSh (vVar 8)) (vNilA))))) 2) (vSeq (vAsg (vCall ms__law_changed spec__law_changed (vConsA (vSlot 0) (vConsA (vSh (vVar 1)) (vNilA)))) 3) (vSeq (vAsg (vLst (vConsA (vSh (vVar 2)) (vConsA (vSh (vCB (pd1 pList) (vConsA (vSlot 2) (vNilA)))) (vConsA (vSh (vUn pdRev (vSlot 2))) (vConsA (vSh (vTup (vNilA))) (vConsA (vSh (vTup (vConsA (vSh (vOp pdSub (vSh (vCB (pd1 pLen) (vConsA (vSlot 7) (vNilA)))) (vSh (vC (.int 1))))) (vNilA)))) (vConsA (vSh (vUn pTupRg (vSh (vCB (pd1 pLen) (vConsA (vSlot 1) (vNilA)))))) (vConsA (vSh (vC .none)) (vConsA (vSh (vOp pdAdd (vSlot 2) (vSh (vSl pdSl (vSlot 2) (vPart (vUn pdNeg (vSh (vC (.int 1))))) (vNoPart))))) (vNilA)))))))))) 4) (vSeq (vFor (vRng1 (vConsA (vSh (vC (.int 14))) (vNilA))) (gvName 5) (vSeq (vAsg (vCall ms__law_bent spec__law_bent (vConsA (vSlot 0) (vConsA (vSh (vVar 2)) (vConsA (vSh (vC (.int 2))) (vNilA))))) 9) (vDrop (vMth pmAppend 4 (vConsA (vSh (vIf (vTest (vOp pdEq (vSh (vCall ms__law_take spec__law_take (vConsA (vSlot 0) (vConsA (vSh (vC (.int 3))) (vNilA))))) (vSh (vC (.int 0))))) (vCall ms__law_bent spec__law_bent (vConsA (vSlot 0) (vConsA (vSh (vVar 9)) (vConsA (vSh (vC (.int 2))) (vNilA))))) (vVar 9))) (vNilA)))))) (vSeq (vFor (vSeqI (vOp pdAdd (vSlot 4) (vSh (vLc (vRng1 (vConsA (vSh (vC (.int 4))) (vNilA))) (gvName 5) (vYes) (vCall ms__law_odd spec__law_odd (vConsA (vSlot 0) (vNilA))) [5])))) (gvName 6) (vFor (vSeqI (vTup (vConsA (vSh (vVar 1)) (vConsA (vSh (vVar 3)) (vNilA))))) (gvName 10) (vSeq (vPar 12 13 (vCB (pd1 pRepr) (vConsA (vSlot 6) (vNilA))) (vCall ms__law_is_it spec__law_is_it (vConsA (vSh (vVar 10)) (vConsA (vSh (vVar 7)) (vConsA (vSh (vVar 8)) (vConsA (vSh (vVar 6)) (vNilA))))))) (vSeq (vAsg (vLst (vConsA (vSh (vCall ms_shows_parting spec_shows_parting (vConsA (vSh (vVar 10)) (vConsA (vSh (vVar 7)) (vConsA (vSh (vVar 8)) (vConsA (vSh (vVar 6)) (vNilA))))))) (vNilA))) 11) (vSeq (vDrop (vMth pmAppend 11 (vConsA (vSh (vCallK ms_shows_parting spec_shows_parting [3, 2, 1, 0] 4 (vConsA (vSh (vVar 6)) (vConsA (vSh (vVar 8)) (vConsA (vSh (vCB (pd1 pList) (vConsA (vSlot 7) (vNilA)))) (vConsA (vSh (vCB (pd1 pList) (vConsA (vSlot 10) (vNilA)))) (vNilA))))))) (vNilA)))) (vIfS (vOr (vNot (vTest (vCall ms__law_same spec__law_same (vConsA (vSh (vVar 11)) (vConsA (vSh (vLst (vConsA (vSh (vVar 13)) (vConsA (vSh (vVar 13)) (vNilA))))) (vNilA)))))) (vTest (vOp pdNe (vSh (vCB (pd1 pRepr) (vConsA (vSlot 6) (vNilA)))) (vSlot 12)))) (vRet (vC (.bool false))) (vNext))))))) (vRet (vOp (pdIs false) (vSh (vCall ms_shows_parting spec_shows_parting (vConsA (vSh (vVar 1)) (vConsA (vSh (vVar 7)) (vConsA (vSh (vVar 8)) (vConsA (vSh (vVar 2)) (vNilA))))))) (vSh (vC (.bool true)))))))))))
theorem dv__law_right [Wd] {K : PySem.W.Frag} {mg : Str → Option Value} {base : Heap} {f : Addr} {cdv : Value} {A : Around} {outer : List Env} {s : Shared} {H : Hp} {E : XK} (Bt : Bts mg) (D__law_scroll : Df Wd.P Wd.w K mg base 4 "_law_scroll" ps__law_scroll ms__law_scroll kbs__law_scroll spec__law_scroll) (D__law_span : Df Wd.P Wd.w K mg base 3 "_law_span" ps__law_span ms__law_span kbs__law_span spec__law_span) (D__law_page : Df Wd.P Wd.w K mg base 3 "_law_page" ps__law_page ms__law_page kbs__law_page spec__law_page) (D_least_parting : Df Wd.P Wd.w K mg base 6 "least_parting" ps_least_parting ms_least_parting kbs_least_parting spec_least_parting) (D__law_changed : Df Wd.P Wd.w K mg base 3 "_law_changed" ps__law_changed ms__law_changed kbs__law_changed spec__law_changed) (D__law_bent : Df Wd.P Wd.w K mg base 7 "_law_bent" ps__law_bent ms__law_bent kbs__law_bent spec__law_bent) (D__law_take : Df Wd.P Wd.w K mg base 1 "_law_take" ps__law_take ms__law_take kbs__law_take spec__law_take) (D__law_odd : Df Wd.P Wd.w K mg base 3 "_law_odd" ps__law_odd ms__law_odd kbs__law_odd spec__law_odd) (D__law_is_it : Df Wd.P Wd.w K mg base 3 "_law_is_it" ps__law_is_it ms__law_is_it kbs__law_is_it spec__law_is_it) (D_shows_parting : Df Wd.P Wd.w K mg base 4 "shows_parting" ps_shows_parting ms_shows_parting kbs_shows_parting spec_shows_parting) (D__law_same : Df Wd.P Wd.w K mg base 1 "_law_same" ps__law_same ms__law_same kbs__law_same spec__law_same)
    (hr : Room 7 (A.deeper (envOfC "_law_right" (defScope s__law_right) s.heap.objs.size f cdv))) (hg : A.guards = some []) :
    VSs ((cxOf CX0 Wd.P Wd.w K mg base N__law_right "_law_right" (defScope s__law_right) f cdv A outer s H E).nox) (defBody s__law_right) t__law_right :=
  vs_cons ((by first | exact vs_par (i := 7) (j := 8) (ve_callD D__law_scroll hr (by first | decide | omega) hg (va_cons (vb_slot (pv 0)) (va_cons (vb_of (ve_int)) (va_nil) rfl) rfl) (by rfl) (by decide) rfl rfl) (ve_callD D__law_span hr (by first | decide | omega) hg (va_cons (vb_slot (pv 0)) (va_nil) rfl) (by rfl) (by decide) rfl rfl) (fun ta tb h1 h2 => ps_par rfl sc__law_right.nd rfl rfl (by decide) rfl rfl (pa_cons h1 (pa_cons h2 pa_nil)) (by rfl)) | exact vs_parC (i := 7) (j := 8) rfl (ve_callD D__law_scroll hr (by first | decide | omega) hg (va_cons (vb_slot (pv 0)) (va_cons (vb_of (ve_int)) (va_nil) rfl) rfl) (by rfl) (by decide) rfl rfl) (ve_callD D__law_span hr (by first | decide | omega) hg (va_cons (vb_slot (pv 0)) (va_nil) rfl) (by rfl) (by decide) rfl rfl) (fun ta tb h1 h2 => ps_asg (pe_tup (pa_cons h1 (pa_cons h2 pa_nil))) (pg_tup rfl (pgs_cons (pg_name (i := 7) sc__law_right.nd rfl (by first | exact Or.inl rfl | exact Or.inr rfl)) (pgs_cons (pg_name (i := 8) sc__law_right.nd rfl (by first | exact Or.inl rfl | exact Or.inr rfl)) pgs_nil)))))) (vs_cons (vs_set (ve_callD D__law_page hr (by first | decide | omega) hg (va_cons (vb_slot (pv 0)) (va_cons (vb_of (ve_var (pv 7))) (va_cons (vb_of (ve_var (pv 8))) (va_nil) rfl) rfl) rfl) (by rfl) (by decide) rfl rfl) (fun te h => ps_set (i := 1) sc__law_right.nd rfl (by first | exact Or.inl rfl | exact Or.inr rfl) h)) (vs_cons (vs_set (ve_callD D_least_parting hr (by first | decide | omega) hg (va_cons (vb_of (ve_var (pv 1))) (va_cons (vb_of (ve_var (pv 7))) (va_cons (vb_of (ve_var (pv 8))) (va_nil) rfl) rfl) rfl) (by rfl) (by decide) rfl rfl) (fun te h => ps_set (i := 2) sc__law_right.nd rfl (by first | exact Or.inl rfl | exact Or.inr rfl) h)) (vs_cons (vs_set (ve_callD D__law_changed hr (by first | decide | omega) hg (va_cons (vb_slot (pv 0)) (va_cons (vb_of (ve_var (pv 1))) (va_nil) rfl) rfl) (by rfl) (by decide) rfl rfl) (fun te h => ps_set (i := 3) sc__law_right.nd rfl (by first | exact Or.inl rfl | exact Or.inr rfl) h)) (vs_cons (vs_set (ve_lst (va_cons (vb_of (ve_var (pv 2))) (va_cons (vb_of (ve_cb ok_list lm_list (va_cons (vb_slot (pv 2)) (va_nil) rfl) (fun t h => pe_callTy call_list_of (by rfl) Bt.n_list (by first | exact PySem.boot_list | exact PyProof.Rows.boot_list | decide +kernel) h))) (va_cons (vb_of (ve_revS (vb_slot (pv 2)))) (va_cons (vb_of (ve_tup (va_nil))) (va_cons (vb_of (ve_tup (va_cons (vb_of (ve_op op_subT ok_sub pm_int (vb_of (ve_cb ok_len lm_len (va_cons (vb_slot (pv 7)) (va_nil) rfl) (fun t h => pe_callB call_len (by rfl) Bt.n_len (by first | exact PySem.boot_len | exact PyProof.Rows.boot_len | decide +kernel) h))) (vb_of (ve_int)))) (va_nil) rfl))) (va_cons (vb_of (ve_tupRg (by rfl) (by rfl) Bt.n_tuple (by rfl) Bt.n_range (vb_of (ve_cb ok_len lm_len (va_cons (vb_slot (pv 1)) (va_nil) rfl) (fun t h => pe_callB call_len (by rfl) Bt.n_len (by first | exact PySem.boot_len | exact PyProof.Rows.boot_len | decide +kernel) h))) (by rfl) (by rfl))) (va_cons (vb_of (ve_none)) (va_cons (vb_of (ve_op op_addA ok_add pm_add (vb_slot (pv 2)) (vb_of (ve_slice sl_any ok_sl pm_sl (vb_slot (pv 2)) (vo_some (ve_un un_neg ok_neg pm_neg (vb_of (ve_int)))) (vo_none))))) (va_nil) rfl) rfl) rfl) rfl) rfl) rfl) rfl) rfl)) (fun te h => ps_set (i := 4) sc__law_right.nd rfl (by first | exact Or.inl rfl | exact Or.inr rfl) h)) (vs_cons (vs_for PassesOwn.never rfl (vi_range1 (va_cons (vb_of (ve_int)) (va_nil) rfl) (fun t h => pi_range1 rfl Bt.n_range h)) (gv_name (is := [5]) (pg_name (i := 5) sc__law_right.nd rfl (by first | exact Or.inl rfl | exact Or.inr rfl)) (by decide)) (vs_cons (vs_set (ve_callD D__law_bent hr (by first | decide | omega) hg (va_cons (vb_slot (pv 0)) (va_cons (vb_of (ve_var (pv 2))) (va_cons (vb_of (ve_int)) (va_nil) rfl) rfl) rfl) (by rfl) (by decide) rfl rfl) (fun te h => ps_set (i := 9) sc__law_right.nd rfl (by first | exact Or.inl rfl | exact Or.inr rfl) h)) (vs_one (vs_expr (ve_mth mk_append mm_append (va_cons (vb_of (ve_if (vt_cmp (op_eqZ hr.units) ok_eq pm_eq (vb_of (ve_callD D__law_take hr (by first | decide | omega) hg (va_cons (vb_slot (pv 0)) (va_cons (vb_of (ve_int)) (va_nil) rfl) rfl) (by rfl) (by decide) rfl rfl)) (vb_of (ve_int)) (by first | rfl | exact nomark _)) (ve_callD D__law_bent hr (by first | decide | omega) hg (va_cons (vb_slot (pv 0)) (va_cons (vb_of (ve_var (pv 9))) (va_cons (vb_of (ve_int)) (va_nil) rfl) rfl) rfl) (by rfl) (by decide) rfl rfl) (ve_var (pv 9)))) (va_nil) rfl) (fun t h => pe_bm PySem.F.plainAttrs_list PySem.F.slot_list_append PySem.F.type_list_append mt_append (pv 4) h)) rfl))) (fun _ => rfl)) (vs_cons (vs_for PassesOwn.never rfl (vi_seq (ve_op op_addA ok_add pm_add (vb_slot (pv 4)) (vb_of (ve_lc (own := [("_law_turn", 5)]) rfl sc__law_right.nd (vi_range1 (va_cons (vb_of (ve_int)) (va_nil) rfl) (fun t h => pi_range1 rfl Bt.n_range h)) (blkOk_by (own := [("_law_turn", 5)]) (N := N__law_right) (sc := defScope s__law_right) (by decide +kernel)) (fun _ _ _ _ _ => gv_name (is := [5]) (pg_name (i := 5) sc__law_right.nd rfl (by first | exact Or.inl rfl | exact Or.inr rfl)) (by decide)) (fun _ _ _ _ _ => vts_nil) (fun _ _ _ _ _ => ve_callD D__law_odd hr (by first | decide | omega) hg (va_cons (vb_slot (pv 0)) (va_nil) rfl) (by rfl) (by decide) rfl rfl) (fun _ => rfl) s)))) (gv_name (is := [6]) (pg_name (i := 6) sc__law_right.nd rfl (by first | exact Or.inl rfl | exact Or.inr rfl)) (by decide)) (vs_one (vs_for PassesOwn.never rfl (vi_seq (ve_tup (va_cons (vb_of (ve_var (pv 1))) (va_cons (vb_of (ve_var (pv 3))) (va_nil) rfl) rfl))) (gv_name (is := [10]) (pg_name (i := 10) sc__law_right.nd rfl (by first | exact Or.inl rfl | exact Or.inr rfl)) (by decide)) (vs_cons ((by first | exact vs_par (i := 12) (j := 13) (ve_cb ok_repr lm_repr (va_cons (vb_slot (pv 6)) (va_nil) rfl) (fun t h => pe_callB (call_repr hg (units70 hr)) (by rfl) Bt.n_repr (by first | exact PySem.boot_repr | exact PyProof.Rows.boot_repr | decide +kernel) h)) (ve_callD D__law_is_it hr (by first | decide | omega) hg (va_cons (vb_of (ve_var (pv 10))) (va_cons (vb_of (ve_var (pv 7))) (va_cons (vb_of (ve_var (pv 8))) (va_cons (vb_of (ve_var (pv 6))) (va_nil) rfl) rfl) rfl) rfl) (by rfl) (by decide) rfl rfl) (fun ta tb h1 h2 => ps_par rfl sc__law_right.nd rfl rfl (by decide) rfl rfl (pa_cons h1 (pa_cons h2 pa_nil)) (by rfl)) | exact vs_parC (i := 12) (j := 13) rfl (ve_cb ok_repr lm_repr (va_cons (vb_slot (pv 6)) (va_nil) rfl) (fun t h => pe_callB (call_repr hg (units70 hr)) (by rfl) Bt.n_repr (by first | exact PySem.boot_repr | exact PyProof.Rows.boot_repr | decide +kernel) h)) (ve_callD D__law_is_it hr (by first | decide | omega) hg (va_cons (vb_of (ve_var (pv 10))) (va_cons (vb_of (ve_var (pv 7))) (va_cons (vb_of (ve_var (pv 8))) (va_cons (vb_of (ve_var (pv 6))) (va_nil) rfl) rfl) rfl) rfl) (by rfl) (by decide) rfl rfl) (fun ta tb h1 h2 => ps_asg (pe_tup (pa_cons h1 (pa_cons h2 pa_nil))) (pg_tup rfl (pgs_cons (pg_name (i := 12) sc__law_right.nd rfl (by first | exact Or.inl rfl | exact Or.inr rfl)) (pgs_cons (pg_name (i := 13) sc__law_right.nd rfl (by first | exact Or.inl rfl | exact Or.inr rfl)) pgs_nil)))))) (vs_cons (vs_set (ve_lst (va_cons (vb_of (ve_callD D_shows_parting hr (by first | decide | omega) hg (va_cons (vb_of (ve_var (pv 10))) (va_cons (vb_of (ve_var (pv 7))) (va_cons (vb_of (ve_var (pv 8))) (va_cons (vb_of (ve_var (pv 6))) (va_nil) rfl) rfl) rfl) rfl) (by rfl) (by decide) rfl rfl)) (va_nil) rfl)) (fun te h => ps_set (i := 11) sc__law_right.nd rfl (by first | exact Or.inl rfl | exact Or.inr rfl) h)) (vs_cons (vs_expr (ve_mth mk_append mm_append (va_cons (vb_of (ve_callKD (ks := ["thing", "tail", "original", "copy"]) (pm := [3, 2, 1, 0]) D_shows_parting (by simp [kbs_shows_parting]) hr (by first | decide | omega) hg (vk_cons (vb_of (ve_var (pv 6))) (vk_cons (vb_of (ve_var (pv 8))) (vk_cons (vb_of (ve_cb ok_list lm_list (va_cons (vb_slot (pv 7)) (va_nil) rfl) (fun t h => pe_callTy call_list_of (by rfl) Bt.n_list (by first | exact PySem.boot_list | exact PyProof.Rows.boot_list | decide +kernel) h))) (vk_cons (vb_of (ve_cb ok_list lm_list (va_cons (vb_slot (pv 10)) (va_nil) rfl) (fun t h => pe_callTy call_list_of (by rfl) Bt.n_list (by first | exact PySem.boot_list | exact PyProof.Rows.boot_list | decide +kernel) h))) (vk_nil))))) (by rfl) (by decide) rfl rfl rfl)) (va_nil) rfl) (fun t h => pe_bm PySem.F.plainAttrs_list PySem.F.slot_list_append PySem.F.type_list_append mt_append (pv 11) h)) rfl) (vs_one (vs_if (PWv.vt (vw_or (vt_not (vt_of (ve_callD D__law_same hr (by first | decide | omega) hg (va_cons (vb_of (ve_var (pv 11))) (va_cons (vb_of (ve_lst (va_cons (vb_of (ve_var (pv 13))) (va_cons (vb_of (ve_var (pv 13))) (va_nil) rfl) rfl))) (va_nil) rfl) rfl) (by rfl) (by decide) rfl rfl) (fun _ => rfl))) (vw_or1 (vt_cmp (op_neZ hr.units) ok_ne pm_ne (vb_of (ve_cb ok_repr lm_repr (va_cons (vb_slot (pv 6)) (va_nil) rfl) (fun t h => pe_callB (call_repr hg (units70 hr)) (by rfl) Bt.n_repr (by first | exact PySem.boot_repr | exact PyProof.Rows.boot_repr | decide +kernel) h))) (vb_slot (pv 12)) (by first | rfl | exact nomark _))))) (vs_one (vs_ret (ve_bool))) (vs_nil)))))) (fun _ => rfl))) (fun _ => rfl)) (vs_one (vs_ret (ve_cmp op_isA ok_is pm_is (vb_of (ve_callD D_shows_parting hr (by first | decide | omega) hg (va_cons (vb_of (ve_var (pv 1))) (va_cons (vb_of (ve_var (pv 7))) (va_cons (vb_of (ve_var (pv 8))) (va_cons (vb_of (ve_var (pv 2))) (va_nil) rfl) rfl) rfl) rfl) (by rfl) (by decide) rfl rfl)) (vb_of (ve_bool)) (by first | rfl | exact nomark _))))))))))
abbrev ms_law : List Bool := [false]
abbrev kbs_law : List (List Str × List Nat) := []
abbrev s_law : Stmt := topS 33
abbrev N_law : List Str := ["_law_script", "_law_cells_here", "_law_k", "_law_box_here", "_law_turn"]
abbrev ps_law : List Str := ["_law_script"]
theorem sc_law : FnScope N_law ps_law (defScope s_law) := ⟨rfl, rfl, rfl, by decide +kernel, rfl, by decide +kernel, by decide +kernel⟩
def t_law : VS := vSeq (vAsg (vCall ms__law_cells spec__law_cells (vConsA (vSh (vVar 0)) (vConsA (vSh (vC (.int 3))) (vNilA)))) 1) (vSeq (vFor (vRng1 (vConsA (vSh (vCB (pd1 pLen) (vConsA (vSlot 1) (vNilA)))) (vNilA))) (gvName 2) (vSeq (vAsg (vCall ms__law_box spec__law_box (vConsA (vSh (vVar 1)) (vConsA (vSh (vVar 2)) (vNilA)))) 3) (vIfS (vNot (vTest (vCB (pd1 (pAll false)) (vConsA (vSh (vLc (vRng1 (vConsA (vSh (vC (.int 3))) (vNilA))) (gvName 4) (vYes) (vCall ms__law_right spec__law_right (vConsA (vSlot 3) (vNilA))) [4])) (vNilA))))) (vRet (vC (.bool false))) (vNext)))) (vRet (vC (.bool true))))
theorem dv_law [Wd] {K : PySem.W.Frag} {mg : Str → Option Value} {base : Heap} {f : Addr} {cdv : Value} {A : Around} {outer : List Env} {s : Shared} {H : Hp} {E : XK} (Bt : Bts mg) (D__law_cells : Df Wd.P Wd.w K mg base 1 "_law_cells" ps__law_cells ms__law_cells kbs__law_cells spec__law_cells) (D__law_box : Df Wd.P Wd.w K mg base 1 "_law_box" ps__law_box ms__law_box kbs__law_box spec__law_box) (D__law_right : Df Wd.P Wd.w K mg base 8 "_law_right" ps__law_right ms__law_right kbs__law_right spec__law_right)
    (hr : Room 8 (A.deeper (envOfC "law" (defScope s_law) s.heap.objs.size f cdv))) (hg : A.guards = some []) :
    VSs ((cxOf CX0 Wd.P Wd.w K mg base N_law "law" (defScope s_law) f cdv A outer s H E).nox) (defBody s_law) t_law :=
  vs_cons (vs_set (ve_callD D__law_cells hr (by first | decide | omega) hg (va_cons (vb_of (ve_var (pv 0))) (va_cons (vb_of (ve_int)) (va_nil) rfl) rfl) (by rfl) (by decide) rfl rfl) (fun te h => ps_set (i := 1) sc_law.nd rfl (by first | exact Or.inl rfl | exact Or.inr rfl) h)) (vs_cons (vs_for PassesOwn.never rfl (vi_range1 (va_cons (vb_of (ve_cb ok_len lm_len (va_cons (vb_slot (pv 1)) (va_nil) rfl) (fun t h => pe_callB call_len (by rfl) Bt.n_len (by first | exact PySem.boot_len | exact PyProof.Rows.boot_len | decide +kernel) h))) (va_nil) rfl) (fun t h => pi_range1 rfl Bt.n_range h)) (gv_name (is := [2]) (pg_name (i := 2) sc_law.nd rfl (by first | exact Or.inl rfl | exact Or.inr rfl)) (by decide)) (vs_cons (vs_set (ve_callD D__law_box hr (by first | decide | omega) hg (va_cons (vb_of (ve_var (pv 1))) (va_cons (vb_of (ve_var (pv 2))) (va_nil) rfl) rfl) (by rfl) (by decide) rfl rfl) (fun te h => ps_set (i := 3) sc_law.nd rfl (by first | exact Or.inl rfl | exact Or.inr rfl) h)) (vs_one (vs_if (vt_not (vt_of (ve_cb ok_all lm_all (va_cons (vb_of (ve_lc (own := [("_law_turn", 4)]) rfl sc_law.nd (vi_range1 (va_cons (vb_of (ve_int)) (va_nil) rfl) (fun t h => pi_range1 rfl Bt.n_range h)) (blkOk_by (own := [("_law_turn", 4)]) (N := N_law) (sc := defScope s_law) (by decide +kernel)) (fun _ _ _ _ _ => gv_name (is := [4]) (pg_name (i := 4) sc_law.nd rfl (by first | exact Or.inl rfl | exact Or.inr rfl)) (by decide)) (fun _ _ _ _ _ => vts_nil) (fun _ _ _ _ _ => ve_callD D__law_right hr (by first | decide | omega) hg (va_cons (vb_slot (pv 3)) (va_nil) rfl) (by rfl) (by decide) rfl rfl) (fun _ => rfl) s)) (va_nil) rfl) (fun t h => pe_callB (cr_all rfl) (by rfl) Bt.n_all (by first | exact PySem.boot_all | exact PyProof.Rows.boot_all | decide +kernel) h)) (fun _ => rfl))) (vs_one (vs_ret (ve_bool))) (vs_nil)))) (fun _ => rfl)) (vs_one (vs_ret (ve_bool))))
end VL

set_option Elab.async false
set_option linter.all false
set_option maxRecDepth 100000
namespace VL
open PySem PySem.Spec PyProof.Rows L2
variable [Wd]
def Runs (ms : List Bool) (spec : VSp) (t : VS) (k : Nat) : Prop := ∀ (vs : List V) (os : List O) (R : O → List O → Prop), vs.length = ms.length → os.length = ms.length → ShOk ms os → spec os R → t (endsP ms vs os R) (slotsOf ms vs os ++ List.replicate k .em)
theorem len1 {α : Type} {l : List α} (h : l.length = 1) : ∃ a, l = [a] := by
  match l, h with
  | [a], _ => exact ⟨a, rfl⟩
theorem len2 {α : Type} {l : List α} (h : l.length = 2) : ∃ a b, l = [a, b] := by
  match l, h with
  | [a, b], _ => exact ⟨a, b, rfl⟩
theorem len3 {α : Type} {l : List α} (h : l.length = 3) : ∃ a b c, l = [a, b, c] := by
  match l, h with
  | [a, b, c], _ => exact ⟨a, b, c, rfl⟩
theorem len4 {α : Type} {l : List α} (h : l.length = 4) : ∃ a b c d, l = [a, b, c, d] := by
  match l, h with
  | [a, b, c, d], _ => exact ⟨a, b, c, d, rfl⟩
theorem run_ending : Runs ms_ending Ending t_ending 0 := by
  rintro vs os R h1 h2 sh ⟨w, n, rfl, hw, q⟩
  obtain ⟨v1, v2, rfl⟩ := len2 h1
  unfold t_ending
  simp (config := { maxSteps := 2000000 }) only [vNext, vSeq, vBreak, vCont, vIfS, vRet, vRetN, vDrop, canSet_eq, sf_em, sf_ow, Option.elim_some, vAsg, vPar, gvName, gvNil, gvCons, gvTup, vAsgG, vFor, vWhile, vYes, vC, vVar, vMove, vSlot, vSh, vOp, vTest, vAnd, vOr, vNot, vAndV, vOrV, vNotV, vIf, vNilA, vConsA, getA, valsA, vTup, vLst, vNoPart, vPart, vSl, vUn, vCB, vChain, pIsi, pIsiT, ioIdx, resolve, pb, callB, vCall, vCallK, permute, pd1, pLen, pAbs, pInt1, pTuple, pList, pRepr, vSeqI, vRng1, vRng2, vZip, vEnum, vMth, vMeth, pmAppend, pmExtend, pmPop, vSetIx, vAug, vOrT, truD, pdAdd, pdSub, pdMul, pdFdiv, pdMod, pdPow, pdInt, pdEq, pdNe, bothStr, true_or, or_true, pdOrd, pdLt, pdGt, pdLe, pdGe, pdIs, isNn, pdIx, pdNeg, pdRev, Bo.get, Sl.con, Sl.put, O.dat, datL, datF, O.rd, noD, wipeS, slotsOf, endsP, outs0, outs1, outs2, ioNil, ioOne, List.length_cons, List.length_nil, List.replicate, List.cons_append, List.nil_append, List.set_cons_zero, List.set_cons_succ, List.getElem?_cons_zero, List.getElem?_cons_succ, List.getElem?_nil, List.getD_cons_zero, List.getD_cons_succ, List.filterMap_cons, List.filterMap_nil, Option.map_some, Option.bind_some, Option.map, Option.some.injEq, List.cons.injEq, O.sh.injEq, O.lst.injEq, O.dct.injEq, false_and, and_false, Sl.ow.injEq, Sl.io.injEq, PyData.int.injEq, PyData.bool.injEq, PyData.str.injEq, PyData.list.injEq, PyData.tuple.injEq, reduceCtorEq, exists_eq_left, exists_eq_left', exists_eq', exists_const, exists_and_left, exists_and_right, and_assoc, false_or, or_false, Int.toNat_natCast, Bool.false_eq_true, and_true, true_and, and_self, ne_eq, not_false_eq_true, not_true_eq_false, if_true, if_false, ↓reduceIte, Nat.reduceSub, Nat.reduceAdd, Nat.reduceEqDiff, at30, at31, at32, ix30, ix32, Nat.succ_ne_zero, pdSl]
  exact ⟨hw.line, q⟩
theorem str_shaped {w : Str} (h : wOk w) : SeqAt.shaped (.str w) = true := h.nice.shaped (by decide)
theorem items_cases {d : PyData} {ds : List PyData} (h : itemsD d = some ds) : d = .list ds ∨ d = .tuple ds := by
  cases d with
  | list es => cases h; exact .inl rfl
  | tuple es => cases h; exact .inr rfl
  | none => cases h
  | bool _ => cases h
  | int _ => cases h
  | str _ => cases h
  | dict _ => cases h
theorem run_looks_alike : Runs ms_looks_alike Alike t_looks_alike 0 := by
  rintro vs os R h1 h2 sh ⟨a, b, n, rfl, ha, hb, q⟩
  obtain ⟨v1, v2, v3, rfl⟩ := len3 h1
  unfold t_looks_alike
  simp (config := { maxSteps := 2000000 }) only [vNext, vSeq, vBreak, vCont, vIfS, vRet, vRetN, vDrop, canSet_eq, sf_em, sf_ow, Option.elim_some, vAsg, vPar, gvName, gvNil, gvCons, gvTup, vAsgG, vFor, vWhile, vYes, vC, vVar, vMove, vSlot, vSh, vOp, vTest, vAnd, vOr, vNot, vAndV, vOrV, vNotV, vIf, vNilA, vConsA, getA, valsA, vTup, vLst, vNoPart, vPart, vSl, vUn, vCB, vChain, pIsi, pIsiT, ioIdx, resolve, pb, callB, vCall, vCallK, permute, pd1, pLen, pAbs, pInt1, pTuple, pList, pRepr, vSeqI, vRng1, vRng2, vZip, vEnum, vMth, vMeth, pmAppend, pmExtend, pmPop, vSetIx, vAug, vOrT, truD, pdAdd, pdSub, pdMul, pdFdiv, pdMod, pdPow, pdInt, pdEq, pdNe, bothStr, true_or, or_true, pdOrd, pdLt, pdGt, pdLe, pdGe, pdIs, isNn, pdIx, pdNeg, pdRev, Bo.get, Sl.con, Sl.put, O.dat, datL, datF, O.rd, noD, wipeS, slotsOf, endsP, outs0, outs1, outs2, ioNil, ioOne, List.length_cons, List.length_nil, List.replicate, List.cons_append, List.nil_append, List.set_cons_zero, List.set_cons_succ, List.getElem?_cons_zero, List.getElem?_cons_succ, List.getElem?_nil, List.getD_cons_zero, List.getD_cons_succ, List.filterMap_cons, List.filterMap_nil, Option.map_some, Option.bind_some, Option.map, Option.some.injEq, List.cons.injEq, O.sh.injEq, O.lst.injEq, O.dct.injEq, false_and, and_false, Sl.ow.injEq, Sl.io.injEq, PyData.int.injEq, PyData.bool.injEq, PyData.str.injEq, PyData.list.injEq, PyData.tuple.injEq, reduceCtorEq, exists_eq_left, exists_eq_left', exists_eq', exists_const, exists_and_left, exists_and_right, and_assoc, false_or, or_false, Int.toNat_natCast, Bool.false_eq_true, and_true, true_and, and_self, ne_eq, not_false_eq_true, not_true_eq_false, if_true, if_false, ↓reduceIte, Nat.reduceSub, Nat.reduceAdd, Nat.reduceEqDiff, at30, at31, at32, ix30, ix32, Nat.succ_ne_zero, spec_ending, Ending]
  exact ⟨ha, hb, q⟩
theorem run__law_alike : Runs ms__law_alike Alike t__law_alike 0 := by
  rintro vs os R h1 h2 sh ⟨a, b, n, rfl, ha, hb, q⟩
  obtain ⟨v1, v2, v3, rfl⟩ := len3 h1
  unfold t__law_alike
  simp (config := { maxSteps := 2000000 }) only [vNext, vSeq, vBreak, vCont, vIfS, vRet, vRetN, vDrop, canSet_eq, sf_em, sf_ow, Option.elim_some, vAsg, vPar, gvName, gvNil, gvCons, gvTup, vAsgG, vFor, vWhile, vYes, vC, vVar, vMove, vSlot, vSh, vOp, vTest, vAnd, vOr, vNot, vAndV, vOrV, vNotV, vIf, vNilA, vConsA, getA, valsA, vTup, vLst, vNoPart, vPart, vSl, vUn, vCB, vChain, pIsi, pIsiT, ioIdx, resolve, pb, callB, vCall, vCallK, permute, pd1, pLen, pAbs, pInt1, pTuple, pList, pRepr, vSeqI, vRng1, vRng2, vZip, vEnum, vMth, vMeth, pmAppend, pmExtend, pmPop, vSetIx, vAug, vOrT, truD, pdAdd, pdSub, pdMul, pdFdiv, pdMod, pdPow, pdInt, pdEq, pdNe, bothStr, true_or, or_true, pdOrd, pdLt, pdGt, pdLe, pdGe, pdIs, isNn, pdIx, pdNeg, pdRev, Bo.get, Sl.con, Sl.put, O.dat, datL, datF, O.rd, noD, wipeS, slotsOf, endsP, outs0, outs1, outs2, ioNil, ioOne, List.length_cons, List.length_nil, List.replicate, List.cons_append, List.nil_append, List.set_cons_zero, List.set_cons_succ, List.getElem?_cons_zero, List.getElem?_cons_succ, List.getElem?_nil, List.getD_cons_zero, List.getD_cons_succ, List.filterMap_cons, List.filterMap_nil, Option.map_some, Option.bind_some, Option.map, Option.some.injEq, List.cons.injEq, O.sh.injEq, O.lst.injEq, O.dct.injEq, false_and, and_false, Sl.ow.injEq, Sl.io.injEq, PyData.int.injEq, PyData.bool.injEq, PyData.str.injEq, PyData.list.injEq, PyData.tuple.injEq, reduceCtorEq, exists_eq_left, exists_eq_left', exists_eq', exists_const, exists_and_left, exists_and_right, and_assoc, false_or, or_false, Int.toNat_natCast, Bool.false_eq_true, and_true, true_and, and_self, ne_eq, not_false_eq_true, not_true_eq_false, if_true, if_false, ↓reduceIte, Nat.reduceSub, Nat.reduceAdd, Nat.reduceEqDiff, at30, at31, at32, ix30, ix32, Nat.succ_ne_zero, pdSl]
  exact ⟨ha.line, hb.line, q⟩
theorem run__law_same : Runs ms__law_same Same t__law_same 0 := by
  rintro vs os R h1 h2 sh ⟨d, rfl, ⟨k, w, hd, hk, hw⟩, q⟩
  obtain ⟨v1, v2, rfl⟩ := len2 h1
  unfold t__law_same
  simp (config := { maxSteps := 2000000 }) only [vNext, vSeq, vBreak, vCont, vIfS, vRet, vRetN, vDrop, canSet_eq, sf_em, sf_ow, Option.elim_some, vAsg, vPar, gvName, gvNil, gvCons, gvTup, vAsgG, vFor, vWhile, vYes, vC, vVar, vMove, vSlot, vSh, vOp, vTest, vAnd, vOr, vNot, vAndV, vOrV, vNotV, vIf, vNilA, vConsA, getA, valsA, vTup, vLst, vNoPart, vPart, vSl, vUn, vCB, vChain, pIsi, pIsiT, ioIdx, resolve, pb, callB, vCall, vCallK, permute, pd1, pLen, pAbs, pInt1, pTuple, pList, pRepr, vSeqI, vRng1, vRng2, vZip, vEnum, vMth, vMeth, pmAppend, pmExtend, pmPop, vSetIx, vAug, vOrT, truD, pdAdd, pdSub, pdMul, pdFdiv, pdMod, pdPow, pdInt, pdEq, pdNe, bothStr, true_or, or_true, pdOrd, pdLt, pdGt, pdLe, pdGe, pdIs, isNn, pdIx, pdNeg, pdRev, Bo.get, Sl.con, Sl.put, O.dat, datL, datF, O.rd, noD, wipeS, slotsOf, endsP, outs0, outs1, outs2, ioNil, ioOne, List.length_cons, List.length_nil, List.replicate, List.cons_append, List.nil_append, List.set_cons_zero, List.set_cons_succ, List.getElem?_cons_zero, List.getElem?_cons_succ, List.getElem?_nil, List.getD_cons_zero, List.getD_cons_succ, List.filterMap_cons, List.filterMap_nil, Option.map_some, Option.bind_some, Option.map, Option.some.injEq, List.cons.injEq, O.sh.injEq, O.lst.injEq, O.dct.injEq, false_and, and_false, Sl.ow.injEq, Sl.io.injEq, PyData.int.injEq, PyData.bool.injEq, PyData.str.injEq, PyData.list.injEq, PyData.tuple.injEq, reduceCtorEq, exists_eq_left, exists_eq_left', exists_eq', exists_const, exists_and_left, exists_and_right, and_assoc, false_or, or_false, Int.toNat_natCast, Bool.false_eq_true, and_true, true_and, and_self, ne_eq, not_false_eq_true, not_true_eq_false, if_true, if_false, ↓reduceIte, Nat.reduceSub, Nat.reduceAdd, Nat.reduceEqDiff, at30, at31, at32, ix30, ix32, Nat.succ_ne_zero]
  have l : d.shown.length ≤ sizeLine := Nat.le_trans hd.wt (by rw [sizeLine_eq]; omega)
  have e : PyData.eqv (.str d.shown) (.str d.shown) = true := by
    show (d.shown == d.shown) = true
    exact beq_self_eq_true _
  refine ⟨hd.sh, hd.shaped hk, l, hd.sh, hd.shaped hk, l, ?_⟩
  rw [e]
  exact q
theorem bit0 (p : Prop) [Decidable p] : (0 : Int) ≤ if p then 1 else 0 := by split <;> decide
theorem bit1 (p : Prop) [Decidable p] : (if p then (1 : Int) else 0) < 2 ^ 64 := by split <;> decide
theorem run__law_box : Runs ms__law_box BoxOf t__law_box 1 := by
  rintro vs os R h1 h2 sh ⟨cs, k, rfl, h0, hk, q⟩
  obtain ⟨v1, v2, rfl⟩ := len2 h1
  unfold t__law_box
  have e : atI (cs.map PyData.int) k = some (.int (cs[k.toNat]'(by omega))) := by
    rw [ix_int h0 (by rw [List.length_map]; exact hk), List.getElem?_map, List.getElem?_eq_getElem]
    rfl
  simp (config := { maxSteps := 2000000 }) only [vNext, vSeq, vBreak, vCont, vIfS, vRet, vRetN, vDrop, canSet_eq, sf_em, sf_ow, Option.elim_some, vAsg, vPar, gvName, gvNil, gvCons, gvTup, vAsgG, vFor, vWhile, vYes, vC, vVar, vMove, vSlot, vSh, vOp, vTest, vAnd, vOr, vNot, vAndV, vOrV, vNotV, vIf, vNilA, vConsA, getA, valsA, vTup, vLst, vNoPart, vPart, vSl, vUn, vCB, vChain, pIsi, pIsiT, ioIdx, resolve, pb, callB, vCall, vCallK, permute, pd1, pLen, pAbs, pInt1, pTuple, pList, pRepr, vSeqI, vRng1, vRng2, vZip, vEnum, vMth, vMeth, pmAppend, pmExtend, pmPop, vSetIx, vAug, vOrT, truD, pdAdd, pdSub, pdMul, pdFdiv, pdMod, pdPow, pdInt, pdEq, pdNe, bothStr, true_or, or_true, pdOrd, pdLt, pdGt, pdLe, pdGe, pdIs, isNn, pdIx, pdNeg, pdRev, Bo.get, Sl.con, Sl.put, O.dat, datL, datF, O.rd, noD, wipeS, slotsOf, endsP, outs0, outs1, outs2, ioNil, ioOne, List.length_cons, List.length_nil, List.replicate, List.cons_append, List.nil_append, List.set_cons_zero, List.set_cons_succ, List.getElem?_cons_zero, List.getElem?_cons_succ, List.getElem?_nil, List.getD_cons_zero, List.getD_cons_succ, List.filterMap_cons, List.filterMap_nil, Option.map_some, Option.bind_some, Option.map, Option.some.injEq, List.cons.injEq, O.sh.injEq, O.lst.injEq, O.dct.injEq, false_and, and_false, Sl.ow.injEq, Sl.io.injEq, PyData.int.injEq, PyData.bool.injEq, PyData.str.injEq, PyData.list.injEq, PyData.tuple.injEq, reduceCtorEq, exists_eq_left, exists_eq_left', exists_eq', exists_const, exists_and_left, exists_and_right, and_assoc, false_or, or_false, Int.toNat_natCast, Bool.false_eq_true, and_true, true_and, and_self, ne_eq, not_false_eq_true, not_true_eq_false, if_true, if_false, ↓reduceIte, Nat.reduceSub, Nat.reduceAdd, Nat.reduceEqDiff, at30, at31, at32, ix30, ix32, Nat.succ_ne_zero, e]
  refine ⟨⟨by decide, by decide, by decide⟩, cmulR (bit0 _) (bit1 _), by decide, cmulL (by decide) (by decide), by decide, q _ ⟨_, _, _, rfl⟩⟩
theorem run__law_take : Runs ms__law_take Take t__law_take 2 := by
  rintro vs os R h1 h2 sh ⟨bx, n, rfl, ⟨x, y, z, rfl⟩, n0, n1, q⟩
  obtain ⟨v1, v2, rfl⟩ := len2 h1
  unfold t__law_take
  simp (config := { maxSteps := 2000000 }) only [vNext, vSeq, vBreak, vCont, vIfS, vRet, vRetN, vDrop, canSet_eq, sf_em, sf_ow, Option.elim_some, vAsg, vPar, gvName, gvNil, gvCons, gvTup, vAsgG, vFor, vWhile, vYes, vC, vVar, vMove, vSlot, vSh, vOp, vTest, vAnd, vOr, vNot, vAndV, vOrV, vNotV, vIf, vNilA, vConsA, getA, valsA, vTup, vLst, vNoPart, vPart, vSl, vUn, vCB, vChain, pIsi, pIsiT, ioIdx, resolve, pb, callB, vCall, vCallK, permute, pd1, pLen, pAbs, pInt1, pTuple, pList, pRepr, vSeqI, vRng1, vRng2, vZip, vEnum, vMth, vMeth, pmAppend, pmExtend, pmPop, vSetIx, vAug, vOrT, truD, pdAdd, pdSub, pdMul, pdFdiv, pdMod, pdPow, pdInt, pdEq, pdNe, bothStr, true_or, or_true, pdOrd, pdLt, pdGt, pdLe, pdGe, pdIs, isNn, pdIx, pdNeg, pdRev, Bo.get, Sl.con, Sl.put, O.dat, datL, datF, O.rd, noD, wipeS, slotsOf, endsP, outs0, outs1, outs2, ioNil, ioOne, List.length_cons, List.length_nil, List.replicate, List.cons_append, List.nil_append, List.set_cons_zero, List.set_cons_succ, List.getElem?_cons_zero, List.getElem?_cons_succ, List.getElem?_nil, List.getD_cons_zero, List.getD_cons_succ, List.filterMap_cons, List.filterMap_nil, Option.map_some, Option.bind_some, Option.map, Option.some.injEq, List.cons.injEq, O.sh.injEq, O.lst.injEq, O.dct.injEq, false_and, and_false, Sl.ow.injEq, Sl.io.injEq, PyData.int.injEq, PyData.bool.injEq, PyData.str.injEq, PyData.list.injEq, PyData.tuple.injEq, reduceCtorEq, exists_eq_left, exists_eq_left', exists_eq', exists_const, exists_and_left, exists_and_right, and_assoc, false_or, or_false, Int.toNat_natCast, Bool.false_eq_true, and_true, true_and, and_self, ne_eq, not_false_eq_true, not_true_eq_false, if_true, if_false, ↓reduceIte, Nat.reduceSub, Nat.reduceAdd, Nat.reduceEqDiff, at30, at31, at32, ix30, ix32, Nat.succ_ne_zero]
  by_cases hx : 0 < x
  · rw [if_pos (decide_eq_true hx)]
    exact ⟨by omega, cdiv n0 n1, q _ _ (fm0 n0) (fm1 n0) ⟨_, _, _, rfl⟩⟩
  · rw [if_neg (by rw [decide_eq_false hx]; exact Bool.false_ne_true)]
    have b : ∀ {a c : Int}, CMul (a.fmod 2305843009213693951) c := cmulL (fm0 (by decide)) (Int.lt_trans (fm1 (by decide)) (by decide))
    have b2 : ∀ {a c : Int}, CMul (a.fmod 2305843009213693921) c := cmulL (fm0 (by decide)) (Int.lt_trans (fm1 (by decide)) (by decide))
    exact ⟨cmulL (by decide) (by decide), by decide, b, cmulL (by decide) (by decide), by decide, cdiv (by decide) (by decide), b2, by decide, cdiv (by decide) (by decide), by omega, q _ _ (fm0 n0) (fm1 n0) ⟨_, _, _, rfl⟩⟩
theorem len_pos {α : Type} {l : List α} (h : l ≠ []) : 0 < l.length := List.length_pos_iff.mpr h
theorem run__law_of : Runs ms__law_of OneOf t__law_of 0 := by
  rintro vs os R h1 h2 sh ⟨bx, d, ds, rfl, hb, hd, hn, hl, q⟩
  obtain ⟨v1, v2, rfl⟩ := len2 h1
  unfold t__law_of
  have p := len_pos hn
  rcases items_cases hd with rfl | rfl
  · simp (config := { maxSteps := 2000000 }) only [vNext, vSeq, vBreak, vCont, vIfS, vRet, vRetN, vDrop, canSet_eq, sf_em, sf_ow, Option.elim_some, vAsg, vPar, gvName, gvNil, gvCons, gvTup, vAsgG, vFor, vWhile, vYes, vC, vVar, vMove, vSlot, vSh, vOp, vTest, vAnd, vOr, vNot, vAndV, vOrV, vNotV, vIf, vNilA, vConsA, getA, valsA, vTup, vLst, vNoPart, vPart, vSl, vUn, vCB, vChain, pIsi, pIsiT, ioIdx, resolve, pb, callB, vCall, vCallK, permute, pd1, pLen, pAbs, pInt1, pTuple, pList, pRepr, vSeqI, vRng1, vRng2, vZip, vEnum, vMth, vMeth, pmAppend, pmExtend, pmPop, vSetIx, vAug, vOrT, truD, pdAdd, pdSub, pdMul, pdFdiv, pdMod, pdPow, pdInt, pdEq, pdNe, bothStr, true_or, or_true, pdOrd, pdLt, pdGt, pdLe, pdGe, pdIs, isNn, pdIx, pdNeg, pdRev, Bo.get, Sl.con, Sl.put, O.dat, datL, datF, O.rd, noD, wipeS, slotsOf, endsP, outs0, outs1, outs2, ioNil, ioOne, List.length_cons, List.length_nil, List.replicate, List.cons_append, List.nil_append, List.set_cons_zero, List.set_cons_succ, List.getElem?_cons_zero, List.getElem?_cons_succ, List.getElem?_nil, List.getD_cons_zero, List.getD_cons_succ, List.filterMap_cons, List.filterMap_nil, Option.map_some, Option.bind_some, Option.map, Option.some.injEq, List.cons.injEq, O.sh.injEq, O.lst.injEq, O.dct.injEq, false_and, and_false, Sl.ow.injEq, Sl.io.injEq, PyData.int.injEq, PyData.bool.injEq, PyData.str.injEq, PyData.list.injEq, PyData.tuple.injEq, reduceCtorEq, exists_eq_left, exists_eq_left', exists_eq', exists_const, exists_and_left, exists_and_right, and_assoc, false_or, or_false, Int.toNat_natCast, Bool.false_eq_true, and_true, true_and, and_self, ne_eq, not_false_eq_true, not_true_eq_false, if_true, if_false, ↓reduceIte, Nat.reduceSub, Nat.reduceAdd, Nat.reduceEqDiff, at30, at31, at32, ix30, ix32, Nat.succ_ne_zero, spec__law_take, Take]
    refine ⟨hb, by omega, by omega, fun k bx' k0 k1 hb' => ⟨ds[k.toNat]'(by omega), ?_, q _ _ (List.getElem_mem _) hb'⟩⟩
    rw [ix_int k0 k1, List.getElem?_eq_getElem]
  · simp (config := { maxSteps := 2000000 }) only [vNext, vSeq, vBreak, vCont, vIfS, vRet, vRetN, vDrop, canSet_eq, sf_em, sf_ow, Option.elim_some, vAsg, vPar, gvName, gvNil, gvCons, gvTup, vAsgG, vFor, vWhile, vYes, vC, vVar, vMove, vSlot, vSh, vOp, vTest, vAnd, vOr, vNot, vAndV, vOrV, vNotV, vIf, vNilA, vConsA, getA, valsA, vTup, vLst, vNoPart, vPart, vSl, vUn, vCB, vChain, pIsi, pIsiT, ioIdx, resolve, pb, callB, vCall, vCallK, permute, pd1, pLen, pAbs, pInt1, pTuple, pList, pRepr, vSeqI, vRng1, vRng2, vZip, vEnum, vMth, vMeth, pmAppend, pmExtend, pmPop, vSetIx, vAug, vOrT, truD, pdAdd, pdSub, pdMul, pdFdiv, pdMod, pdPow, pdInt, pdEq, pdNe, bothStr, true_or, or_true, pdOrd, pdLt, pdGt, pdLe, pdGe, pdIs, isNn, pdIx, pdNeg, pdRev, Bo.get, Sl.con, Sl.put, O.dat, datL, datF, O.rd, noD, wipeS, slotsOf, endsP, outs0, outs1, outs2, ioNil, ioOne, List.length_cons, List.length_nil, List.replicate, List.cons_append, List.nil_append, List.set_cons_zero, List.set_cons_succ, List.getElem?_cons_zero, List.getElem?_cons_succ, List.getElem?_nil, List.getD_cons_zero, List.getD_cons_succ, List.filterMap_cons, List.filterMap_nil, Option.map_some, Option.bind_some, Option.map, Option.some.injEq, List.cons.injEq, O.sh.injEq, O.lst.injEq, O.dct.injEq, false_and, and_false, Sl.ow.injEq, Sl.io.injEq, PyData.int.injEq, PyData.bool.injEq, PyData.str.injEq, PyData.list.injEq, PyData.tuple.injEq, reduceCtorEq, exists_eq_left, exists_eq_left', exists_eq', exists_const, exists_and_left, exists_and_right, and_assoc, false_or, or_false, Int.toNat_natCast, Bool.false_eq_true, and_true, true_and, and_self, ne_eq, not_false_eq_true, not_true_eq_false, if_true, if_false, ↓reduceIte, Nat.reduceSub, Nat.reduceAdd, Nat.reduceEqDiff, at30, at31, at32, ix30, ix32, Nat.succ_ne_zero, spec__law_take, Take]
    refine ⟨hb, by omega, by omega, fun k bx' k0 k1 hb' => ⟨ds[k.toNat]'(by omega), ?_, q _ _ (List.getElem_mem _) hb'⟩⟩
    rw [ix_int k0 k1, List.getElem?_eq_getElem]
/-- a place that a loop's name takes -/
def Free (s : Sl) : Prop := s = .em ∨ ∃ o, s = .ow o
theorem intsD_len {lo : Int} {n : Nat} : (intsD lo n).length = n := by
  unfold intsD
  rw [List.length_map, List.length_range]
theorem erase_perm {α : Type} : ∀ {l : List α} {k : Nat} (h : k < l.length), (l[k] :: l.eraseIdx k).Perm l
  | [], _, h => absurd h (Nat.not_lt_zero _)
  | x :: l, 0, _ => List.Perm.refl _
  | x :: l, k + 1, h => (List.Perm.swap x _ _).trans ((erase_perm (l := l) (k := k) (Nat.lt_of_succ_lt_succ h)).cons x)
theorem perm_pop {α : Type} {l r ds : List α} {k : Nat} (h : k < r.length) (p : (l ++ r).Perm ds) : (l ++ [r[k]] ++ r.eraseIdx k).Perm ds := by
  refine List.Perm.trans ?_ p
  rw [List.append_assoc]
  refine List.Perm.append_left l ?_
  rw [List.singleton_append]
  exact erase_perm h
theorem seq_at {k : Int} {n : Nat} (h0 : 0 ≤ k) (h1 : k < n) : seqIndex? k n = some k.toNat := by
  unfold seqIndex?
  dsimp only
  rw [if_neg (show ¬ k < 0 by omega), if_pos (by rw [Bool.and_eq_true, decide_eq_true_eq, decide_eq_true_eq]; exact ⟨h0, h1⟩)]
theorem strewn_loop {v1 : V} {d : PyData} {ds : List PyData} {D : VEnds} (hl : ds.length ≤ 2 ^ 20) (fin : ∀ bx es s2, isBox bx → es.Perm ds → D.nx [.io v1 bx, .ow (.sh d), s2, .ow (.lst []), .ow (.lst es)]) :
    ∀ rem S, (∃ bx left found s2, S = [Sl.io v1 bx, Sl.ow (.sh d), s2, .ow (.lst left), .ow (.lst found)] ∧ isBox bx ∧ (found ++ left).Perm ds ∧ left.length = rem.length ∧ Free s2) →
    forW (gvName 2) (vDrop (vMth pmAppend 4 (vConsA (vSh (vMth pmPop 3 (vConsA (vSh (vCall [true, false] Take (vConsA (vSlot 0) (vConsA (vSh (vCB (pd1 pLen) (vConsA (vSlot 3) vNilA))) vNilA)))) vNilA))) vNilA))) D rem S := by
  refine for_ind (fun rem S => ∃ bx left found s2, S = [Sl.io v1 bx, Sl.ow (.sh d), s2, .ow (.lst left), .ow (.lst found)] ∧ isBox bx ∧ (found ++ left).Perm ds ∧ left.length = rem.length ∧ Free s2) ?_ ?_
  · rintro x rem S K hK ⟨bx, left, found, s2, rfl, hb, pm, hlen, fr⟩
    rw [List.length_cons] at hlen
    have pl := pm.length_eq
    rw [List.length_append] at pl
    have fit : left.length ≤ 2 ^ 20 := by omega
    rcases fr with rfl | ⟨o, rfl⟩
    all_goals
      simp (config := { maxSteps := 2000000 }) only [vNext, vSeq, vBreak, vCont, vIfS, vRet, vRetN, vDrop, canSet_eq, sf_em, sf_ow, Option.elim_some, vAsg, vPar, gvName, gvNil, gvCons, gvTup, vAsgG, vFor, vWhile, vYes, vC, vVar, vMove, vSlot, vSh, vOp, vTest, vAnd, vOr, vNot, vAndV, vOrV, vNotV, vIf, vNilA, vConsA, getA, valsA, vTup, vLst, vNoPart, vPart, vSl, vUn, vCB, vChain, pIsi, pIsiT, ioIdx, resolve, pb, callB, vCall, vCallK, permute, pd1, pLen, pAbs, pInt1, pTuple, pList, pRepr, vSeqI, vRng1, vRng2, vZip, vEnum, vMth, vMeth, pmAppend, pmExtend, pmPop, vSetIx, vAug, vOrT, truD, pdAdd, pdSub, pdMul, pdFdiv, pdMod, pdPow, pdInt, pdEq, pdNe, bothStr, true_or, or_true, pdOrd, pdLt, pdGt, pdLe, pdGe, pdIs, isNn, pdIx, pdNeg, pdRev, Bo.get, Sl.con, Sl.put, O.dat, datL, datF, O.rd, noD, wipeS, slotsOf, endsP, outs0, outs1, outs2, ioNil, ioOne, List.length_cons, List.length_nil, List.replicate, List.cons_append, List.nil_append, List.set_cons_zero, List.set_cons_succ, List.getElem?_cons_zero, List.getElem?_cons_succ, List.getElem?_nil, List.getD_cons_zero, List.getD_cons_succ, List.filterMap_cons, List.filterMap_nil, Option.map_some, Option.bind_some, Option.map, Option.some.injEq, List.cons.injEq, O.sh.injEq, O.lst.injEq, O.dct.injEq, false_and, and_false, Sl.ow.injEq, Sl.io.injEq, PyData.int.injEq, PyData.bool.injEq, PyData.str.injEq, PyData.list.injEq, PyData.tuple.injEq, reduceCtorEq, exists_eq_left, exists_eq_left', exists_eq', exists_const, exists_and_left, exists_and_right, and_assoc, false_or, or_false, Int.toNat_natCast, Bool.false_eq_true, and_true, true_and, and_self, ne_eq, not_false_eq_true, not_true_eq_false, if_true, if_false, ↓reduceIte, Nat.reduceSub, Nat.reduceAdd, Nat.reduceEqDiff, at30, at31, at32, ix30, ix32, Nat.succ_ne_zero, Take]
      refine ⟨hb, by omega, by omega, fun k bx' k0 k1 hb' => ⟨by omega, by omega, k.toNat, seq_at k0 k1, left[k.toNat]'(by omega), List.getElem?_eq_getElem _, by rw [sizeLine_eq]; omega, hK _ ⟨_, _, _, _, rfl, hb', perm_pop _ pm, ?_, .inr ⟨_, rfl⟩⟩⟩⟩
      rw [List.length_eraseIdx_of_lt (by omega)]
      omega
  · rintro S ⟨bx, left, found, s2, rfl, hb, pm, hlen, fr⟩
    have e : left = [] := List.length_eq_zero_iff.mp hlen
    subst e
    rw [List.append_nil] at pm
    exact fin _ _ _ hb pm
theorem run__law_strewn : Runs ms__law_strewn Strewn t__law_strewn 3 := by
  rintro vs os R h1 h2 sh ⟨bx, d, ds, rfl, hb, hd, hl, q⟩
  obtain ⟨v1, v2, rfl⟩ := len2 h1
  unfold t__law_strewn
  rcases items_cases hd with rfl | rfl
  · simp (config := { maxSteps := 2000000 }) only [vNext, vSeq, vBreak, vCont, vIfS, vRet, vRetN, vDrop, canSet_eq, sf_em, sf_ow, Option.elim_some, vAsg, vPar, gvName, gvNil, gvCons, gvTup, vAsgG, vFor, vWhile, vYes, vC, vVar, vMove, vSlot, vSh, vOp, vTest, vAnd, vOr, vNot, vAndV, vOrV, vNotV, vIf, vNilA, vConsA, getA, valsA, vTup, vLst, vNoPart, vPart, vSl, vUn, vCB, vChain, pIsi, pIsiT, ioIdx, resolve, pb, callB, vCall, vCallK, permute, pd1, pLen, pAbs, pInt1, pTuple, pList, pRepr, vSeqI, vRng1, vRng2, vZip, vEnum, vMth, vMeth, pmAppend, pmExtend, pmPop, vSetIx, vAug, vOrT, truD, pdAdd, pdSub, pdMul, pdFdiv, pdMod, pdPow, pdInt, pdEq, pdNe, bothStr, true_or, or_true, pdOrd, pdLt, pdGt, pdLe, pdGe, pdIs, isNn, pdIx, pdNeg, pdRev, Bo.get, Sl.con, Sl.put, O.dat, datL, datF, O.rd, noD, wipeS, slotsOf, endsP, outs0, outs1, outs2, ioNil, ioOne, List.length_cons, List.length_nil, List.replicate, List.cons_append, List.nil_append, List.set_cons_zero, List.set_cons_succ, List.getElem?_cons_zero, List.getElem?_cons_succ, List.getElem?_nil, List.getD_cons_zero, List.getD_cons_succ, List.filterMap_cons, List.filterMap_nil, Option.map_some, Option.bind_some, Option.map, Option.some.injEq, List.cons.injEq, O.sh.injEq, O.lst.injEq, O.dct.injEq, false_and, and_false, Sl.ow.injEq, Sl.io.injEq, PyData.int.injEq, PyData.bool.injEq, PyData.str.injEq, PyData.list.injEq, PyData.tuple.injEq, reduceCtorEq, exists_eq_left, exists_eq_left', exists_eq', exists_const, exists_and_left, exists_and_right, and_assoc, false_or, or_false, Int.toNat_natCast, Bool.false_eq_true, and_true, true_and, and_self, ne_eq, not_false_eq_true, not_true_eq_false, if_true, if_false, ↓reduceIte, Nat.reduceSub, Nat.reduceAdd, Nat.reduceEqDiff, at30, at31, at32, ix30, ix32, Nat.succ_ne_zero]
    refine ⟨by rw [sizeLine_eq]; omega, by omega, by omega, strewn_loop hl (fun bx es s2 hb pm => ?_) _ _ ⟨bx, ds, [], .em, rfl, hb, List.Perm.refl _, intsD_len.symm, .inl rfl⟩⟩
    simp (config := { maxSteps := 2000000 }) only [vNext, vSeq, vBreak, vCont, vIfS, vRet, vRetN, vDrop, canSet_eq, sf_em, sf_ow, Option.elim_some, vAsg, vPar, gvName, gvNil, gvCons, gvTup, vAsgG, vFor, vWhile, vYes, vC, vVar, vMove, vSlot, vSh, vOp, vTest, vAnd, vOr, vNot, vAndV, vOrV, vNotV, vIf, vNilA, vConsA, getA, valsA, vTup, vLst, vNoPart, vPart, vSl, vUn, vCB, vChain, pIsi, pIsiT, ioIdx, resolve, pb, callB, vCall, vCallK, permute, pd1, pLen, pAbs, pInt1, pTuple, pList, pRepr, vSeqI, vRng1, vRng2, vZip, vEnum, vMth, vMeth, pmAppend, pmExtend, pmPop, vSetIx, vAug, vOrT, truD, pdAdd, pdSub, pdMul, pdFdiv, pdMod, pdPow, pdInt, pdEq, pdNe, bothStr, true_or, or_true, pdOrd, pdLt, pdGt, pdLe, pdGe, pdIs, isNn, pdIx, pdNeg, pdRev, Bo.get, Sl.con, Sl.put, O.dat, datL, datF, O.rd, noD, wipeS, slotsOf, endsP, outs0, outs1, outs2, ioNil, ioOne, List.length_cons, List.length_nil, List.replicate, List.cons_append, List.nil_append, List.set_cons_zero, List.set_cons_succ, List.getElem?_cons_zero, List.getElem?_cons_succ, List.getElem?_nil, List.getD_cons_zero, List.getD_cons_succ, List.filterMap_cons, List.filterMap_nil, Option.map_some, Option.bind_some, Option.map, Option.some.injEq, List.cons.injEq, O.sh.injEq, O.lst.injEq, O.dct.injEq, false_and, and_false, Sl.ow.injEq, Sl.io.injEq, PyData.int.injEq, PyData.bool.injEq, PyData.str.injEq, PyData.list.injEq, PyData.tuple.injEq, reduceCtorEq, exists_eq_left, exists_eq_left', exists_eq', exists_const, exists_and_left, exists_and_right, and_assoc, false_or, or_false, Int.toNat_natCast, Bool.false_eq_true, and_true, true_and, and_self, ne_eq, not_false_eq_true, not_true_eq_false, if_true, if_false, ↓reduceIte, Nat.reduceSub, Nat.reduceAdd, Nat.reduceEqDiff, at30, at31, at32, ix30, ix32, Nat.succ_ne_zero]
    exact q _ _ pm hb
  · simp (config := { maxSteps := 2000000 }) only [vNext, vSeq, vBreak, vCont, vIfS, vRet, vRetN, vDrop, canSet_eq, sf_em, sf_ow, Option.elim_some, vAsg, vPar, gvName, gvNil, gvCons, gvTup, vAsgG, vFor, vWhile, vYes, vC, vVar, vMove, vSlot, vSh, vOp, vTest, vAnd, vOr, vNot, vAndV, vOrV, vNotV, vIf, vNilA, vConsA, getA, valsA, vTup, vLst, vNoPart, vPart, vSl, vUn, vCB, vChain, pIsi, pIsiT, ioIdx, resolve, pb, callB, vCall, vCallK, permute, pd1, pLen, pAbs, pInt1, pTuple, pList, pRepr, vSeqI, vRng1, vRng2, vZip, vEnum, vMth, vMeth, pmAppend, pmExtend, pmPop, vSetIx, vAug, vOrT, truD, pdAdd, pdSub, pdMul, pdFdiv, pdMod, pdPow, pdInt, pdEq, pdNe, bothStr, true_or, or_true, pdOrd, pdLt, pdGt, pdLe, pdGe, pdIs, isNn, pdIx, pdNeg, pdRev, Bo.get, Sl.con, Sl.put, O.dat, datL, datF, O.rd, noD, wipeS, slotsOf, endsP, outs0, outs1, outs2, ioNil, ioOne, List.length_cons, List.length_nil, List.replicate, List.cons_append, List.nil_append, List.set_cons_zero, List.set_cons_succ, List.getElem?_cons_zero, List.getElem?_cons_succ, List.getElem?_nil, List.getD_cons_zero, List.getD_cons_succ, List.filterMap_cons, List.filterMap_nil, Option.map_some, Option.bind_some, Option.map, Option.some.injEq, List.cons.injEq, O.sh.injEq, O.lst.injEq, O.dct.injEq, false_and, and_false, Sl.ow.injEq, Sl.io.injEq, PyData.int.injEq, PyData.bool.injEq, PyData.str.injEq, PyData.list.injEq, PyData.tuple.injEq, reduceCtorEq, exists_eq_left, exists_eq_left', exists_eq', exists_const, exists_and_left, exists_and_right, and_assoc, false_or, or_false, Int.toNat_natCast, Bool.false_eq_true, and_true, true_and, and_self, ne_eq, not_false_eq_true, not_true_eq_false, if_true, if_false, ↓reduceIte, Nat.reduceSub, Nat.reduceAdd, Nat.reduceEqDiff, at30, at31, at32, ix30, ix32, Nat.succ_ne_zero]
    refine ⟨by rw [sizeLine_eq]; omega, by omega, by omega, strewn_loop hl (fun bx es s2 hb pm => ?_) _ _ ⟨bx, ds, [], .em, rfl, hb, List.Perm.refl _, intsD_len.symm, .inl rfl⟩⟩
    simp (config := { maxSteps := 2000000 }) only [vNext, vSeq, vBreak, vCont, vIfS, vRet, vRetN, vDrop, canSet_eq, sf_em, sf_ow, Option.elim_some, vAsg, vPar, gvName, gvNil, gvCons, gvTup, vAsgG, vFor, vWhile, vYes, vC, vVar, vMove, vSlot, vSh, vOp, vTest, vAnd, vOr, vNot, vAndV, vOrV, vNotV, vIf, vNilA, vConsA, getA, valsA, vTup, vLst, vNoPart, vPart, vSl, vUn, vCB, vChain, pIsi, pIsiT, ioIdx, resolve, pb, callB, vCall, vCallK, permute, pd1, pLen, pAbs, pInt1, pTuple, pList, pRepr, vSeqI, vRng1, vRng2, vZip, vEnum, vMth, vMeth, pmAppend, pmExtend, pmPop, vSetIx, vAug, vOrT, truD, pdAdd, pdSub, pdMul, pdFdiv, pdMod, pdPow, pdInt, pdEq, pdNe, bothStr, true_or, or_true, pdOrd, pdLt, pdGt, pdLe, pdGe, pdIs, isNn, pdIx, pdNeg, pdRev, Bo.get, Sl.con, Sl.put, O.dat, datL, datF, O.rd, noD, wipeS, slotsOf, endsP, outs0, outs1, outs2, ioNil, ioOne, List.length_cons, List.length_nil, List.replicate, List.cons_append, List.nil_append, List.set_cons_zero, List.set_cons_succ, List.getElem?_cons_zero, List.getElem?_cons_succ, List.getElem?_nil, List.getD_cons_zero, List.getD_cons_succ, List.filterMap_cons, List.filterMap_nil, Option.map_some, Option.bind_some, Option.map, Option.some.injEq, List.cons.injEq, O.sh.injEq, O.lst.injEq, O.dct.injEq, false_and, and_false, Sl.ow.injEq, Sl.io.injEq, PyData.int.injEq, PyData.bool.injEq, PyData.str.injEq, PyData.list.injEq, PyData.tuple.injEq, reduceCtorEq, exists_eq_left, exists_eq_left', exists_eq', exists_const, exists_and_left, exists_and_right, and_assoc, false_or, or_false, Int.toNat_natCast, Bool.false_eq_true, and_true, true_and, and_self, ne_eq, not_false_eq_true, not_true_eq_false, if_true, if_false, ↓reduceIte, Nat.reduceSub, Nat.reduceAdd, Nat.reduceEqDiff, at30, at31, at32, ix30, ix32, Nat.succ_ne_zero]
    exact q _ _ pm hb
/-- the pairs of a text -/
theorem pairs_lc {S : Ss} {R : List PyData → Ss → Prop} {xs : List Str} {n : Int} {s0 : Sl} (hS : S = [s0, Sl.ow (.sh (.int n)), .em, .em]) (hf : Fit xs) (h : R (pairsD xs n) S) :
    lcW (gvTup 2 (gvCons (gvName 2) (gvCons (gvName 3) gvNil))) vYes (vTup (vConsA (vSh (vCall [false, false] Ending (vConsA (vSh (vVar 2)) (vConsA (vSh (vVar 1)) vNilA)))) (vConsA (vSh (vVar 3)) vNilA))) [2, 3] R (zipD (xs.map .str) (xs.tail.map .str)) [] S := by
  subst hS
  rw [zipD_map]
  refine lc_pure _ (fun p => .tuple [.str (endW p.1 n), .str p.2]) (fun _ => true) (fun p => wOk p.1) (fun p K L ok k1 _ => ?_) _ [] (fun p hp => hf.wd _ (List.of_mem_zip hp).1) ?_ ?_
  · simp (config := { maxSteps := 2000000 }) only [vNext, vSeq, vBreak, vCont, vIfS, vRet, vRetN, vDrop, canSet_eq, sf_em, sf_ow, Option.elim_some, vAsg, vPar, gvName, gvNil, gvCons, gvTup, vAsgG, vFor, vWhile, vYes, vC, vVar, vMove, vSlot, vSh, vOp, vTest, vAnd, vOr, vNot, vAndV, vOrV, vNotV, vIf, vNilA, vConsA, getA, valsA, vTup, vLst, vNoPart, vPart, vSl, vUn, vCB, vChain, pIsi, pIsiT, ioIdx, resolve, pb, callB, vCall, vCallK, permute, pd1, pLen, pAbs, pInt1, pTuple, pList, pRepr, vSeqI, vRng1, vRng2, vZip, vEnum, vMth, vMeth, pmAppend, pmExtend, pmPop, vSetIx, vAug, vOrT, truD, pdAdd, pdSub, pdMul, pdFdiv, pdMod, pdPow, pdInt, pdEq, pdNe, bothStr, true_or, or_true, pdOrd, pdLt, pdGt, pdLe, pdGe, pdIs, isNn, pdIx, pdNeg, pdRev, Bo.get, Sl.con, Sl.put, O.dat, datL, datF, O.rd, noD, wipeS, slotsOf, endsP, outs0, outs1, outs2, ioNil, ioOne, List.length_cons, List.length_nil, List.replicate, List.cons_append, List.nil_append, List.set_cons_zero, List.set_cons_succ, List.getElem?_cons_zero, List.getElem?_cons_succ, List.getElem?_nil, List.getD_cons_zero, List.getD_cons_succ, List.filterMap_cons, List.filterMap_nil, Option.map_some, Option.bind_some, Option.map, Option.some.injEq, List.cons.injEq, O.sh.injEq, O.lst.injEq, O.dct.injEq, false_and, and_false, Sl.ow.injEq, Sl.io.injEq, PyData.int.injEq, PyData.bool.injEq, PyData.str.injEq, PyData.list.injEq, PyData.tuple.injEq, reduceCtorEq, exists_eq_left, exists_eq_left', exists_eq', exists_const, exists_and_left, exists_and_right, and_assoc, false_or, or_false, Int.toNat_natCast, Bool.false_eq_true, and_true, true_and, and_self, ne_eq, not_false_eq_true, not_true_eq_false, if_true, if_false, ↓reduceIte, Nat.reduceSub, Nat.reduceAdd, Nat.reduceEqDiff, at30, at31, at32, ix30, ix32, Nat.succ_ne_zero, Ending]
    exact ⟨ok, by rw [sizeLine_eq]; omega, k1 rfl⟩
  · have := hf.len
    rw [List.length_zip, List.length_nil, sizeLine_eq]
    omega
  · rw [List.filter_eq_self.mpr fun _ _ => rfl]
    exact h
theorem run_pairs : Runs ms_pairs Pairs t_pairs 2 := by
  rintro vs os R h1 h2 sh ⟨d, xs, n, rfl, hd, hf, q⟩
  obtain ⟨v1, v2, rfl⟩ := len2 h1
  unfold t_pairs
  rcases hd with rfl | rfl
  · simp (config := { maxSteps := 2000000 }) only [vNext, vSeq, vBreak, vCont, vIfS, vRet, vRetN, vDrop, canSet_eq, sf_em, sf_ow, Option.elim_some, vAsg, vPar, gvName, gvNil, gvCons, gvTup, vAsgG, vFor, vWhile, vYes, vC, vVar, vMove, vSlot, vSh, vOp, vTest, vAnd, vOr, vNot, vAndV, vOrV, vNotV, vIf, vNilA, vConsA, getA, valsA, vTup, vLst, vNoPart, vPart, vSl, vUn, vCB, vChain, pIsi, pIsiT, ioIdx, resolve, pb, callB, vCall, vCallK, permute, pd1, pLen, pAbs, pInt1, pTuple, pList, pRepr, vSeqI, vRng1, vRng2, vZip, vEnum, vMth, vMeth, pmAppend, pmExtend, pmPop, vSetIx, vAug, vOrT, truD, pdAdd, pdSub, pdMul, pdFdiv, pdMod, pdPow, pdInt, pdEq, pdNe, bothStr, true_or, or_true, pdOrd, pdLt, pdGt, pdLe, pdGe, pdIs, isNn, pdIx, pdNeg, pdRev, Bo.get, Sl.con, Sl.put, O.dat, datL, datF, O.rd, noD, wipeS, slotsOf, endsP, outs0, outs1, outs2, ioNil, ioOne, List.length_cons, List.length_nil, List.replicate, List.cons_append, List.nil_append, List.set_cons_zero, List.set_cons_succ, List.getElem?_cons_zero, List.getElem?_cons_succ, List.getElem?_nil, List.getD_cons_zero, List.getD_cons_succ, List.filterMap_cons, List.filterMap_nil, Option.map_some, Option.bind_some, Option.map, Option.some.injEq, List.cons.injEq, O.sh.injEq, O.lst.injEq, O.dct.injEq, false_and, and_false, Sl.ow.injEq, Sl.io.injEq, PyData.int.injEq, PyData.bool.injEq, PyData.str.injEq, PyData.list.injEq, PyData.tuple.injEq, reduceCtorEq, exists_eq_left, exists_eq_left', exists_eq', exists_const, exists_and_left, exists_and_right, and_assoc, false_or, or_false, Int.toNat_natCast, Bool.false_eq_true, and_true, true_and, and_self, ne_eq, not_false_eq_true, not_true_eq_false, if_true, if_false, ↓reduceIte, Nat.reduceSub, Nat.reduceAdd, Nat.reduceEqDiff, at30, at31, at32, ix30, ix32, Nat.succ_ne_zero, pdSl, vLc, cutD_cutL, cutL_tail]
    exact pairs_lc rfl hf (by simp (config := { maxSteps := 2000000 }) only [vNext, vSeq, vBreak, vCont, vIfS, vRet, vRetN, vDrop, canSet_eq, sf_em, sf_ow, Option.elim_some, vAsg, vPar, gvName, gvNil, gvCons, gvTup, vAsgG, vFor, vWhile, vYes, vC, vVar, vMove, vSlot, vSh, vOp, vTest, vAnd, vOr, vNot, vAndV, vOrV, vNotV, vIf, vNilA, vConsA, getA, valsA, vTup, vLst, vNoPart, vPart, vSl, vUn, vCB, vChain, pIsi, pIsiT, ioIdx, resolve, pb, callB, vCall, vCallK, permute, pd1, pLen, pAbs, pInt1, pTuple, pList, pRepr, vSeqI, vRng1, vRng2, vZip, vEnum, vMth, vMeth, pmAppend, pmExtend, pmPop, vSetIx, vAug, vOrT, truD, pdAdd, pdSub, pdMul, pdFdiv, pdMod, pdPow, pdInt, pdEq, pdNe, bothStr, true_or, or_true, pdOrd, pdLt, pdGt, pdLe, pdGe, pdIs, isNn, pdIx, pdNeg, pdRev, Bo.get, Sl.con, Sl.put, O.dat, datL, datF, O.rd, noD, wipeS, slotsOf, endsP, outs0, outs1, outs2, ioNil, ioOne, List.length_cons, List.length_nil, List.replicate, List.cons_append, List.nil_append, List.set_cons_zero, List.set_cons_succ, List.getElem?_cons_zero, List.getElem?_cons_succ, List.getElem?_nil, List.getD_cons_zero, List.getD_cons_succ, List.filterMap_cons, List.filterMap_nil, Option.map_some, Option.bind_some, Option.map, Option.some.injEq, List.cons.injEq, O.sh.injEq, O.lst.injEq, O.dct.injEq, false_and, and_false, Sl.ow.injEq, Sl.io.injEq, PyData.int.injEq, PyData.bool.injEq, PyData.str.injEq, PyData.list.injEq, PyData.tuple.injEq, reduceCtorEq, exists_eq_left, exists_eq_left', exists_eq', exists_const, exists_and_left, exists_and_right, and_assoc, false_or, or_false, Int.toNat_natCast, Bool.false_eq_true, and_true, true_and, and_self, ne_eq, not_false_eq_true, not_true_eq_false, if_true, if_false, ↓reduceIte, Nat.reduceSub, Nat.reduceAdd, Nat.reduceEqDiff, at30, at31, at32, ix30, ix32, Nat.succ_ne_zero]; exact q)
  · simp (config := { maxSteps := 2000000 }) only [vNext, vSeq, vBreak, vCont, vIfS, vRet, vRetN, vDrop, canSet_eq, sf_em, sf_ow, Option.elim_some, vAsg, vPar, gvName, gvNil, gvCons, gvTup, vAsgG, vFor, vWhile, vYes, vC, vVar, vMove, vSlot, vSh, vOp, vTest, vAnd, vOr, vNot, vAndV, vOrV, vNotV, vIf, vNilA, vConsA, getA, valsA, vTup, vLst, vNoPart, vPart, vSl, vUn, vCB, vChain, pIsi, pIsiT, ioIdx, resolve, pb, callB, vCall, vCallK, permute, pd1, pLen, pAbs, pInt1, pTuple, pList, pRepr, vSeqI, vRng1, vRng2, vZip, vEnum, vMth, vMeth, pmAppend, pmExtend, pmPop, vSetIx, vAug, vOrT, truD, pdAdd, pdSub, pdMul, pdFdiv, pdMod, pdPow, pdInt, pdEq, pdNe, bothStr, true_or, or_true, pdOrd, pdLt, pdGt, pdLe, pdGe, pdIs, isNn, pdIx, pdNeg, pdRev, Bo.get, Sl.con, Sl.put, O.dat, datL, datF, O.rd, noD, wipeS, slotsOf, endsP, outs0, outs1, outs2, ioNil, ioOne, List.length_cons, List.length_nil, List.replicate, List.cons_append, List.nil_append, List.set_cons_zero, List.set_cons_succ, List.getElem?_cons_zero, List.getElem?_cons_succ, List.getElem?_nil, List.getD_cons_zero, List.getD_cons_succ, List.filterMap_cons, List.filterMap_nil, Option.map_some, Option.bind_some, Option.map, Option.some.injEq, List.cons.injEq, O.sh.injEq, O.lst.injEq, O.dct.injEq, false_and, and_false, Sl.ow.injEq, Sl.io.injEq, PyData.int.injEq, PyData.bool.injEq, PyData.str.injEq, PyData.list.injEq, PyData.tuple.injEq, reduceCtorEq, exists_eq_left, exists_eq_left', exists_eq', exists_const, exists_and_left, exists_and_right, and_assoc, false_or, or_false, Int.toNat_natCast, Bool.false_eq_true, and_true, true_and, and_self, ne_eq, not_false_eq_true, not_true_eq_false, if_true, if_false, ↓reduceIte, Nat.reduceSub, Nat.reduceAdd, Nat.reduceEqDiff, at30, at31, at32, ix30, ix32, Nat.succ_ne_zero, pdSl, vLc, cutD_cutL, cutL_tail]
    exact pairs_lc rfl hf (by simp (config := { maxSteps := 2000000 }) only [vNext, vSeq, vBreak, vCont, vIfS, vRet, vRetN, vDrop, canSet_eq, sf_em, sf_ow, Option.elim_some, vAsg, vPar, gvName, gvNil, gvCons, gvTup, vAsgG, vFor, vWhile, vYes, vC, vVar, vMove, vSlot, vSh, vOp, vTest, vAnd, vOr, vNot, vAndV, vOrV, vNotV, vIf, vNilA, vConsA, getA, valsA, vTup, vLst, vNoPart, vPart, vSl, vUn, vCB, vChain, pIsi, pIsiT, ioIdx, resolve, pb, callB, vCall, vCallK, permute, pd1, pLen, pAbs, pInt1, pTuple, pList, pRepr, vSeqI, vRng1, vRng2, vZip, vEnum, vMth, vMeth, pmAppend, pmExtend, pmPop, vSetIx, vAug, vOrT, truD, pdAdd, pdSub, pdMul, pdFdiv, pdMod, pdPow, pdInt, pdEq, pdNe, bothStr, true_or, or_true, pdOrd, pdLt, pdGt, pdLe, pdGe, pdIs, isNn, pdIx, pdNeg, pdRev, Bo.get, Sl.con, Sl.put, O.dat, datL, datF, O.rd, noD, wipeS, slotsOf, endsP, outs0, outs1, outs2, ioNil, ioOne, List.length_cons, List.length_nil, List.replicate, List.cons_append, List.nil_append, List.set_cons_zero, List.set_cons_succ, List.getElem?_cons_zero, List.getElem?_cons_succ, List.getElem?_nil, List.getD_cons_zero, List.getD_cons_succ, List.filterMap_cons, List.filterMap_nil, Option.map_some, Option.bind_some, Option.map, Option.some.injEq, List.cons.injEq, O.sh.injEq, O.lst.injEq, O.dct.injEq, false_and, and_false, Sl.ow.injEq, Sl.io.injEq, PyData.int.injEq, PyData.bool.injEq, PyData.str.injEq, PyData.list.injEq, PyData.tuple.injEq, reduceCtorEq, exists_eq_left, exists_eq_left', exists_eq', exists_const, exists_and_left, exists_and_right, and_assoc, false_or, or_false, Int.toNat_natCast, Bool.false_eq_true, and_true, true_and, and_self, ne_eq, not_false_eq_true, not_true_eq_false, if_true, if_false, ↓reduceIte, Nat.reduceSub, Nat.reduceAdd, Nat.reduceEqDiff, at30, at31, at32, ix30, ix32, Nat.succ_ne_zero]; exact q)
end VL

set_option Elab.async false
set_option linter.all false
set_option maxRecDepth 100000
namespace VL
open PySem PySem.Spec PyProof.Rows L2
variable [Wd]
theorem cells_loop {d : PyData} {m : Nat} {D : VEnds} (hm : 0 < m) (fin : ∀ (cs : List Int) s3 s4, 0 < cs.length → cs.length ≤ m → D.nx [.ow (.sh d), .ow (.sh (.int (m : Nat))), .ow (.lst (cs.map .int)), s3, s4]) :
    ∀ rem S, (∃ (cs : List Int) (s3 s4 : Sl), S = [Sl.ow (.sh d), .ow (.sh (.int (m : Nat))), .ow (.lst (cs.map .int)), s3, s4] ∧ 0 < cs.length ∧ cs.length ≤ m ∧ (rem = [] ∨ cs.length = m) ∧ (∀ x ∈ rem, ∃ (k : Nat) (c : Int), x = .tuple [.int (k : Nat), .int c] ∧ k < 100) ∧ Free s3 ∧ Free s4) →
    forW (gvTup 2 (gvCons (gvName 3) (gvCons (gvName 4) gvNil))) (vSetIx 2 (vOp pdAdd (vSh (vOp pdIx (vSlot 2) (vSh (vOp pdMod (vSlot 3) (vSlot 1))))) (vSh (vOp pdMul (vSlot 4) (vSh (vOp pdAdd (vSlot 3) (vSh (vC (.int 2)))))))) (vOp pdMod (vSlot 3) (vSlot 1))) D rem S := by
  refine for_ind _ ?_ ?_
  · rintro x rem S K hK ⟨cs, s3, s4, rfl, h0, h1, h2, h3, f3, f4⟩
    obtain ⟨k, c, rfl, hk⟩ := h3 x List.mem_cons_self
    have e : cs.length = m := h2.resolve_left (by simp)
    have p0 := fm0 (a := (k : Int)) (n := (m : Int)) (by omega)
    have p1 := fm1 (a := (k : Int)) (n := (m : Int)) (by omega)
    have at1 : atI (cs.map PyData.int) ((k : Int).fmod m) = some (.int (cs[((k : Int).fmod m).toNat]'(by omega))) := by
      rw [ix_int p0 (by rw [List.length_map]; omega), List.getElem?_map, List.getElem?_eq_getElem]
      rfl
    have at2 : ixN (cs.map PyData.int).length ((k : Int).fmod m) = some ((k : Int).fmod m).toNat := by
      rw [List.length_map]
      unfold ixN
      rw [if_pos p0, if_pos (by omega)]
    rcases f3 with rfl | ⟨o3, rfl⟩
    all_goals
      rcases f4 with rfl | ⟨o4, rfl⟩
      all_goals
        simp (config := { maxSteps := 2000000 }) only [vNext, vSeq, vBreak, vCont, vIfS, vRet, vRetN, vDrop, canSet_eq, sf_em, sf_ow, Option.elim_some, vAsg, vPar, gvName, gvNil, gvCons, gvTup, vAsgG, vFor, vWhile, vYes, vC, vVar, vMove, vSlot, vSh, vOp, vTest, vAnd, vOr, vNot, vAndV, vOrV, vNotV, vIf, vNilA, vConsA, getA, valsA, vTup, vLst, vNoPart, vPart, vSl, vUn, vCB, vChain, pIsi, pIsiT, ioIdx, resolve, pb, callB, vCall, vCallK, permute, pd1, pLen, pAbs, pInt1, pTuple, pList, pRepr, vSeqI, vRng1, vRng2, vZip, vEnum, vMth, vMeth, pmAppend, pmExtend, pmPop, vSetIx, vAug, vOrT, truD, pdAdd, pdSub, pdMul, pdFdiv, pdMod, pdPow, pdInt, pdEq, pdNe, bothStr, true_or, or_true, pdOrd, pdLt, pdGt, pdLe, pdGe, pdIs, isNn, pdIx, pdNeg, pdRev, Bo.get, Sl.con, Sl.put, O.dat, datL, datF, O.rd, noD, wipeS, slotsOf, endsP, outs0, outs1, outs2, ioNil, ioOne, List.length_cons, List.length_nil, List.replicate, List.cons_append, List.nil_append, List.set_cons_zero, List.set_cons_succ, List.getElem?_cons_zero, List.getElem?_cons_succ, List.getElem?_nil, List.getD_cons_zero, List.getD_cons_succ, List.filterMap_cons, List.filterMap_nil, Option.map_some, Option.bind_some, Option.map, Option.some.injEq, List.cons.injEq, O.sh.injEq, O.lst.injEq, O.dct.injEq, false_and, and_false, Sl.ow.injEq, Sl.io.injEq, PyData.int.injEq, PyData.bool.injEq, PyData.str.injEq, PyData.list.injEq, PyData.tuple.injEq, reduceCtorEq, exists_eq_left, exists_eq_left', exists_eq', exists_const, exists_and_left, exists_and_right, and_assoc, false_or, or_false, Int.toNat_natCast, Bool.false_eq_true, and_true, true_and, and_self, ne_eq, not_false_eq_true, not_true_eq_false, if_true, if_false, ↓reduceIte, Nat.reduceSub, Nat.reduceAdd, Nat.reduceEqDiff, at30, at31, at32, ix30, ix32, Nat.succ_ne_zero, at1, at2]
        refine ⟨by omega, cmulR (by omega) (by omega), by omega, hK _ ⟨cs.set ((k : Int).fmod m).toNat (cs[((k : Int).fmod m).toNat]'(by omega) + c * ((k : Int) + 2)), _, _, by rw [List.map_set], by rw [List.length_set]; exact h0, by rw [List.length_set]; exact h1, .inr (by rw [List.length_set]; exact e), fun y hy => h3 y (List.mem_cons_of_mem _ hy), .inr ⟨_, rfl⟩, .inr ⟨_, rfl⟩⟩⟩
  · rintro S ⟨cs, s3, s4, rfl, h0, h1, _⟩
    exact fin cs s3 s4 h0 h1
theorem enumD_mem : ∀ {ds : List PyData} {n : Nat} {x : PyData}, x ∈ enumD n ds → ∃ (k : Nat) (y : PyData), x = .tuple [.int (k : Nat), y] ∧ n ≤ k ∧ k < n + ds.length ∧ y ∈ ds
  | d :: ds, n, x, h => by
    rcases List.mem_cons.mp h with h | h
    · exact ⟨n, d, h, Nat.le_refl _, by rw [List.length_cons]; omega, List.mem_cons_self⟩
    · obtain ⟨k, y, h1, h2, h3, h4⟩ := enumD_mem (ds := ds) h
      exact ⟨k, y, h1, by omega, by rw [List.length_cons]; omega, List.mem_cons_of_mem _ h4⟩
theorem run__law_cells : Runs ms__law_cells Cells t__law_cells 3 := by
  rintro vs os R h1 h2 sh ⟨ns, m', rfl, hn, m0, m1, q⟩
  obtain ⟨v1, v2, rfl⟩ := len2 h1
  obtain ⟨m, rfl⟩ : ∃ m : Nat, m' = (m : Nat) := ⟨m'.toNat, by omega⟩
  unfold t__law_cells
  have big : 63 ≤ sizeLine := by rw [sizeLine_eq]; omega
  have loop : ∀ (cs : List Int) (D : VEnds), 0 < cs.length → cs.length ≤ m → (ns.length ≤ m ∨ cs.length = m) → (∀ (cs : List Int) s3 s4, 0 < cs.length → cs.length ≤ m → D.nx [.ow (.sh (scrD ns)), .ow (.sh (.int (m : Nat))), .ow (.lst (cs.map .int)), s3, s4]) →
      forW (gvTup 2 (gvCons (gvName 3) (gvCons (gvName 4) gvNil))) (vSetIx 2 (vOp pdAdd (vSh (vOp pdIx (vSlot 2) (vSh (vOp pdMod (vSlot 3) (vSlot 1))))) (vSh (vOp pdMul (vSlot 4) (vSh (vOp pdAdd (vSlot 3) (vSh (vC (.int 2)))))))) (vOp pdMod (vSlot 3) (vSlot 1))) D (enumD 0 ((cutL ns (some (m : Nat)) (some 63)).map .int)) [Sl.ow (.sh (scrD ns)), .ow (.sh (.int (m : Nat))), .ow (.lst (cs.map .int)), .em, .em] := by
    intro cs D c0 c1 c2 hD
    refine cells_loop (by omega) hD _ _ ⟨cs, .em, .em, rfl, c0, c1, ?_, fun x hx => ?_, .inl rfl, .inl rfl⟩
    · rcases c2 with z | z
      · refine .inl ?_
        have e : cutL ns (some (m : Int)) (some 63) = [] := by
          unfold cutL
          rw [HT.sIx_nat, Nat.min_eq_right z, List.drop_length, List.take_nil]
        rw [e]
        rfl
      · exact .inr z
    · obtain ⟨k, y, rfl, a, b, c⟩ := enumD_mem hx
      obtain ⟨i, hi, rfl⟩ := List.mem_map.mp c
      refine ⟨k, i, rfl, ?_⟩
      rw [List.length_map] at b
      have := cutL_len (xs := ns) (lo := some (m : Int)) (hi := some 63)
      omega
  have cut : cutL ns none (some (m : Int)) = ns.take m := by
    unfold cutL
    rw [HT.sIx_nat]
    show (ns.drop 0).take (min m ns.length - 0) = ns.take m
    rw [List.drop_zero, Nat.sub_zero]
    by_cases h : m ≤ ns.length
    · rw [Nat.min_eq_left h]
    · rw [Nat.min_eq_right (by omega), List.take_length, List.take_of_length_le (by omega)]
  have fin : ∀ cs : List Int, 0 < cs.length → cs.length ≤ m → R (.lst (cs.map .int)) [.sh (scrD ns), .sh (.int (m : Nat))] := fun cs a b => q cs a (by omega)
  by_cases he : ns = []
  · have ht : ((ns.take m).map PyData.int).isEmpty = true := by
      rw [he, List.take_nil]
      rfl
    simp (config := { maxSteps := 2000000 }) only [vNext, vSeq, vBreak, vCont, vIfS, vRet, vRetN, vDrop, canSet_eq, sf_em, sf_ow, Option.elim_some, vAsg, vPar, gvName, gvNil, gvCons, gvTup, vAsgG, vFor, vWhile, vYes, vC, vVar, vMove, vSlot, vSh, vOp, vTest, vAnd, vOr, vNot, vAndV, vOrV, vNotV, vIf, vNilA, vConsA, getA, valsA, vTup, vLst, vNoPart, vPart, vSl, vUn, vCB, vChain, pIsi, pIsiT, ioIdx, resolve, pb, callB, vCall, vCallK, permute, pd1, pLen, pAbs, pInt1, pTuple, pList, pRepr, vSeqI, vRng1, vRng2, vZip, vEnum, vMth, vMeth, pmAppend, pmExtend, pmPop, vSetIx, vAug, vOrT, truD, pdAdd, pdSub, pdMul, pdFdiv, pdMod, pdPow, pdInt, pdEq, pdNe, bothStr, true_or, or_true, pdOrd, pdLt, pdGt, pdLe, pdGe, pdIs, isNn, pdIx, pdNeg, pdRev, Bo.get, Sl.con, Sl.put, O.dat, datL, datF, O.rd, noD, wipeS, slotsOf, endsP, outs0, outs1, outs2, ioNil, ioOne, List.length_cons, List.length_nil, List.replicate, List.cons_append, List.nil_append, List.set_cons_zero, List.set_cons_succ, List.getElem?_cons_zero, List.getElem?_cons_succ, List.getElem?_nil, List.getD_cons_zero, List.getD_cons_succ, List.filterMap_cons, List.filterMap_nil, Option.map_some, Option.bind_some, Option.map, Option.some.injEq, List.cons.injEq, O.sh.injEq, O.lst.injEq, O.dct.injEq, false_and, and_false, Sl.ow.injEq, Sl.io.injEq, PyData.int.injEq, PyData.bool.injEq, PyData.str.injEq, PyData.list.injEq, PyData.tuple.injEq, reduceCtorEq, exists_eq_left, exists_eq_left', exists_eq', exists_const, exists_and_left, exists_and_right, and_assoc, false_or, or_false, Int.toNat_natCast, Bool.false_eq_true, and_true, true_and, and_self, ne_eq, not_false_eq_true, not_true_eq_false, if_true, if_false, ↓reduceIte, Nat.reduceSub, Nat.reduceAdd, Nat.reduceEqDiff, at30, at31, at32, ix30, ix32, Nat.succ_ne_zero, scrD, pdSl, cutD_cutL, cut, ht, Bool.not_true, Bool.false_eq_true]
    refine ⟨fun _ z => z.elim, by rw [sizeLine_eq]; omega, ?_⟩
    refine loop [0] _ (by decide) (by show 1 ≤ m; omega) (.inl (by rw [he]; exact Nat.zero_le _)) fun cs s3 s4 a b => ?_
    simp (config := { maxSteps := 2000000 }) only [vNext, vSeq, vBreak, vCont, vIfS, vRet, vRetN, vDrop, canSet_eq, sf_em, sf_ow, Option.elim_some, vAsg, vPar, gvName, gvNil, gvCons, gvTup, vAsgG, vFor, vWhile, vYes, vC, vVar, vMove, vSlot, vSh, vOp, vTest, vAnd, vOr, vNot, vAndV, vOrV, vNotV, vIf, vNilA, vConsA, getA, valsA, vTup, vLst, vNoPart, vPart, vSl, vUn, vCB, vChain, pIsi, pIsiT, ioIdx, resolve, pb, callB, vCall, vCallK, permute, pd1, pLen, pAbs, pInt1, pTuple, pList, pRepr, vSeqI, vRng1, vRng2, vZip, vEnum, vMth, vMeth, pmAppend, pmExtend, pmPop, vSetIx, vAug, vOrT, truD, pdAdd, pdSub, pdMul, pdFdiv, pdMod, pdPow, pdInt, pdEq, pdNe, bothStr, true_or, or_true, pdOrd, pdLt, pdGt, pdLe, pdGe, pdIs, isNn, pdIx, pdNeg, pdRev, Bo.get, Sl.con, Sl.put, O.dat, datL, datF, O.rd, noD, wipeS, slotsOf, endsP, outs0, outs1, outs2, ioNil, ioOne, List.length_cons, List.length_nil, List.replicate, List.cons_append, List.nil_append, List.set_cons_zero, List.set_cons_succ, List.getElem?_cons_zero, List.getElem?_cons_succ, List.getElem?_nil, List.getD_cons_zero, List.getD_cons_succ, List.filterMap_cons, List.filterMap_nil, Option.map_some, Option.bind_some, Option.map, Option.some.injEq, List.cons.injEq, O.sh.injEq, O.lst.injEq, O.dct.injEq, false_and, and_false, Sl.ow.injEq, Sl.io.injEq, PyData.int.injEq, PyData.bool.injEq, PyData.str.injEq, PyData.list.injEq, PyData.tuple.injEq, reduceCtorEq, exists_eq_left, exists_eq_left', exists_eq', exists_const, exists_and_left, exists_and_right, and_assoc, false_or, or_false, Int.toNat_natCast, Bool.false_eq_true, and_true, true_and, and_self, ne_eq, not_false_eq_true, not_true_eq_false, if_true, if_false, ↓reduceIte, Nat.reduceSub, Nat.reduceAdd, Nat.reduceEqDiff, at30, at31, at32, ix30, ix32, Nat.succ_ne_zero, scrD]
    exact fin cs a b
  · have ht : ((ns.take m).map PyData.int).isEmpty = false := by
      cases ns with
      | nil => exact absurd rfl he
      | cons n ns =>
        obtain ⟨m, rfl⟩ : ∃ j, m = j + 1 := ⟨m - 1, by omega⟩
        rfl
    simp (config := { maxSteps := 2000000 }) only [vNext, vSeq, vBreak, vCont, vIfS, vRet, vRetN, vDrop, canSet_eq, sf_em, sf_ow, Option.elim_some, vAsg, vPar, gvName, gvNil, gvCons, gvTup, vAsgG, vFor, vWhile, vYes, vC, vVar, vMove, vSlot, vSh, vOp, vTest, vAnd, vOr, vNot, vAndV, vOrV, vNotV, vIf, vNilA, vConsA, getA, valsA, vTup, vLst, vNoPart, vPart, vSl, vUn, vCB, vChain, pIsi, pIsiT, ioIdx, resolve, pb, callB, vCall, vCallK, permute, pd1, pLen, pAbs, pInt1, pTuple, pList, pRepr, vSeqI, vRng1, vRng2, vZip, vEnum, vMth, vMeth, pmAppend, pmExtend, pmPop, vSetIx, vAug, vOrT, truD, pdAdd, pdSub, pdMul, pdFdiv, pdMod, pdPow, pdInt, pdEq, pdNe, bothStr, true_or, or_true, pdOrd, pdLt, pdGt, pdLe, pdGe, pdIs, isNn, pdIx, pdNeg, pdRev, Bo.get, Sl.con, Sl.put, O.dat, datL, datF, O.rd, noD, wipeS, slotsOf, endsP, outs0, outs1, outs2, ioNil, ioOne, List.length_cons, List.length_nil, List.replicate, List.cons_append, List.nil_append, List.set_cons_zero, List.set_cons_succ, List.getElem?_cons_zero, List.getElem?_cons_succ, List.getElem?_nil, List.getD_cons_zero, List.getD_cons_succ, List.filterMap_cons, List.filterMap_nil, Option.map_some, Option.bind_some, Option.map, Option.some.injEq, List.cons.injEq, O.sh.injEq, O.lst.injEq, O.dct.injEq, false_and, and_false, Sl.ow.injEq, Sl.io.injEq, PyData.int.injEq, PyData.bool.injEq, PyData.str.injEq, PyData.list.injEq, PyData.tuple.injEq, reduceCtorEq, exists_eq_left, exists_eq_left', exists_eq', exists_const, exists_and_left, exists_and_right, and_assoc, false_or, or_false, Int.toNat_natCast, Bool.false_eq_true, and_true, true_and, and_self, ne_eq, not_false_eq_true, not_true_eq_false, if_true, if_false, ↓reduceIte, Nat.reduceSub, Nat.reduceAdd, Nat.reduceEqDiff, at30, at31, at32, ix30, ix32, Nat.succ_ne_zero, scrD, pdSl, cutD_cutL, cut, ht, Bool.not_false]
    refine ⟨fun _ z => z.elim, ?_⟩
    have l1 : (ns.take m).length = min m ns.length := List.length_take
    have l2 := len_pos he
    refine loop (ns.take m) _ (by omega) (by omega) (by omega) fun cs s3 s4 a b => ?_
    simp (config := { maxSteps := 2000000 }) only [vNext, vSeq, vBreak, vCont, vIfS, vRet, vRetN, vDrop, canSet_eq, sf_em, sf_ow, Option.elim_some, vAsg, vPar, gvName, gvNil, gvCons, gvTup, vAsgG, vFor, vWhile, vYes, vC, vVar, vMove, vSlot, vSh, vOp, vTest, vAnd, vOr, vNot, vAndV, vOrV, vNotV, vIf, vNilA, vConsA, getA, valsA, vTup, vLst, vNoPart, vPart, vSl, vUn, vCB, vChain, pIsi, pIsiT, ioIdx, resolve, pb, callB, vCall, vCallK, permute, pd1, pLen, pAbs, pInt1, pTuple, pList, pRepr, vSeqI, vRng1, vRng2, vZip, vEnum, vMth, vMeth, pmAppend, pmExtend, pmPop, vSetIx, vAug, vOrT, truD, pdAdd, pdSub, pdMul, pdFdiv, pdMod, pdPow, pdInt, pdEq, pdNe, bothStr, true_or, or_true, pdOrd, pdLt, pdGt, pdLe, pdGe, pdIs, isNn, pdIx, pdNeg, pdRev, Bo.get, Sl.con, Sl.put, O.dat, datL, datF, O.rd, noD, wipeS, slotsOf, endsP, outs0, outs1, outs2, ioNil, ioOne, List.length_cons, List.length_nil, List.replicate, List.cons_append, List.nil_append, List.set_cons_zero, List.set_cons_succ, List.getElem?_cons_zero, List.getElem?_cons_succ, List.getElem?_nil, List.getD_cons_zero, List.getD_cons_succ, List.filterMap_cons, List.filterMap_nil, Option.map_some, Option.bind_some, Option.map, Option.some.injEq, List.cons.injEq, O.sh.injEq, O.lst.injEq, O.dct.injEq, false_and, and_false, Sl.ow.injEq, Sl.io.injEq, PyData.int.injEq, PyData.bool.injEq, PyData.str.injEq, PyData.list.injEq, PyData.tuple.injEq, reduceCtorEq, exists_eq_left, exists_eq_left', exists_eq', exists_const, exists_and_left, exists_and_right, and_assoc, false_or, or_false, Int.toNat_natCast, Bool.false_eq_true, and_true, true_and, and_self, ne_eq, not_false_eq_true, not_true_eq_false, if_true, if_false, ↓reduceIte, Nat.reduceSub, Nat.reduceAdd, Nat.reduceEqDiff, at30, at31, at32, ix30, ix32, Nat.succ_ne_zero, scrD]
    exact fin cs a b
theorem run__law_span : Runs ms__law_span Span t__law_span 0 := by
  rintro vs os R h1 h2 sh ⟨bx, rfl, hb, q⟩
  obtain ⟨v1, rfl⟩ := len1 h1
  unfold t__law_span
  simp (config := { maxSteps := 2000000 }) only [vNext, vSeq, vBreak, vCont, vIfS, vRet, vRetN, vDrop, canSet_eq, sf_em, sf_ow, Option.elim_some, vAsg, vPar, gvName, gvNil, gvCons, gvTup, vAsgG, vFor, vWhile, vYes, vC, vVar, vMove, vSlot, vSh, vOp, vTest, vAnd, vOr, vNot, vAndV, vOrV, vNotV, vIf, vNilA, vConsA, getA, valsA, vTup, vLst, vNoPart, vPart, vSl, vUn, vCB, vChain, pIsi, pIsiT, ioIdx, resolve, pb, callB, vCall, vCallK, permute, pd1, pLen, pAbs, pInt1, pTuple, pList, pRepr, vSeqI, vRng1, vRng2, vZip, vEnum, vMth, vMeth, pmAppend, pmExtend, pmPop, vSetIx, vAug, vOrT, truD, pdAdd, pdSub, pdMul, pdFdiv, pdMod, pdPow, pdInt, pdEq, pdNe, bothStr, true_or, or_true, pdOrd, pdLt, pdGt, pdLe, pdGe, pdIs, isNn, pdIx, pdNeg, pdRev, Bo.get, Sl.con, Sl.put, O.dat, datL, datF, O.rd, noD, wipeS, slotsOf, endsP, outs0, outs1, outs2, ioNil, ioOne, List.length_cons, List.length_nil, List.replicate, List.cons_append, List.nil_append, List.set_cons_zero, List.set_cons_succ, List.getElem?_cons_zero, List.getElem?_cons_succ, List.getElem?_nil, List.getD_cons_zero, List.getD_cons_succ, List.filterMap_cons, List.filterMap_nil, Option.map_some, Option.bind_some, Option.map, Option.some.injEq, List.cons.injEq, O.sh.injEq, O.lst.injEq, O.dct.injEq, false_and, and_false, Sl.ow.injEq, Sl.io.injEq, PyData.int.injEq, PyData.bool.injEq, PyData.str.injEq, PyData.list.injEq, PyData.tuple.injEq, reduceCtorEq, exists_eq_left, exists_eq_left', exists_eq', exists_const, exists_and_left, exists_and_right, and_assoc, false_or, or_false, Int.toNat_natCast, Bool.false_eq_true, and_true, true_and, and_self, ne_eq, not_false_eq_true, not_true_eq_false, if_true, if_false, ↓reduceIte, Nat.reduceSub, Nat.reduceAdd, Nat.reduceEqDiff, at30, at31, at32, ix30, ix32, Nat.succ_ne_zero, spec__law_of, OneOf, itemsD]
  refine ⟨by rw [sizeLine_eq]; omega, hb, by decide, fun x bx' hx hb' => ?_⟩
  simp only [List.mem_cons, List.not_mem_nil, or_false] at hx
  rcases hx with rfl | rfl | rfl | rfl | rfl
  · exact q 1 bx' (by decide) (by decide) hb'
  · exact q 1 bx' (by decide) (by decide) hb'
  · exact q 2 bx' (by decide) (by decide) hb'
  · exact q 3 bx' (by decide) (by decide) hb'
  · exact q 8 bx' (by decide) (by decide) hb'
theorem perm_map {α : Type} (f : α → PyData) : ∀ {es : List PyData} {xs : List α}, es.Perm (xs.map f) → ∃ ys : List α, es = ys.map f ∧ ys.Perm xs := by
  intro es xs h
  have key : ∀ {l1 l2 : List PyData}, l1.Perm l2 → ∀ xs : List α, l2 = xs.map f → ∃ ys : List α, l1 = ys.map f ∧ ys.Perm xs := by
    intro l1 l2 h
    induction h with
    | nil => exact fun xs e => ⟨xs, e, List.Perm.refl _⟩
    | cons x _ ih =>
      intro xs e
      cases xs with
      | nil => cases e
      | cons y xs =>
        obtain ⟨rfl, e2⟩ := List.cons.inj e
        obtain ⟨ys, rfl, p⟩ := ih xs e2
        exact ⟨y :: ys, rfl, p.cons y⟩
    | swap x y l =>
      intro xs e
      match xs, e with
      | a :: b :: xs, e =>
        obtain ⟨rfl, e2⟩ := List.cons.inj e
        obtain ⟨rfl, rfl⟩ := List.cons.inj e2
        exact ⟨b :: a :: xs, rfl, List.Perm.swap _ _ _⟩
    | trans _ _ ih1 ih2 =>
      intro xs e
      obtain ⟨ys, e1, p1⟩ := ih2 xs e
      obtain ⟨zs, e2, p2⟩ := ih1 ys e1
      exact ⟨zs, e2, p2.trans p1⟩
  exact key h xs rfl
def poolW : List Str := ["a", "b", "ca", "ba", "cab", "aab", "c", "bbbca", "abcabc"]
theorem poolW_ok : ∀ w ∈ poolW, PyData.strOk w = true ∧ w.length ≤ 8 := by decide +kernel
theorem cutL_take {α : Type} (xs : List α) (k : Nat) : cutL xs none (some (k : Int)) = xs.take k := by
  unfold cutL
  rw [HT.sIx_nat]
  show (xs.drop 0).take (min k xs.length - 0) = xs.take k
  rw [List.drop_zero, Nat.sub_zero]
  by_cases h : k ≤ xs.length
  · rw [Nat.min_eq_left h]
  · rw [Nat.min_eq_right (by omega), List.take_length, List.take_of_length_le (by omega)]
theorem cutL_drop {α : Type} (xs : List α) (k : Nat) : cutL xs (some (k : Int)) none = xs.drop k := by
  unfold cutL
  rw [HT.sIx_nat]
  show (xs.drop (min k xs.length)).take (xs.length - min k xs.length) = xs.drop k
  by_cases h : k ≤ xs.length
  · rw [Nat.min_eq_left h, ← List.length_drop, List.take_length]
  · rw [Nat.min_eq_right (by omega), Nat.sub_self, List.take_zero, List.drop_eq_nil_of_le (by omega)]
theorem run__law_terms : Runs ms__law_terms Terms t__law_terms 1 := by
  rintro vs os R h1 h2 sh ⟨bx, rfl, hb, q⟩
  obtain ⟨v1, rfl⟩ := len1 h1
  unfold t__law_terms
  simp (config := { maxSteps := 2000000 }) only [vNext, vSeq, vBreak, vCont, vIfS, vRet, vRetN, vDrop, canSet_eq, sf_em, sf_ow, Option.elim_some, vAsg, vPar, gvName, gvNil, gvCons, gvTup, vAsgG, vFor, vWhile, vYes, vC, vVar, vMove, vSlot, vSh, vOp, vTest, vAnd, vOr, vNot, vAndV, vOrV, vNotV, vIf, vNilA, vConsA, getA, valsA, vTup, vLst, vNoPart, vPart, vSl, vUn, vCB, vChain, pIsi, pIsiT, ioIdx, resolve, pb, callB, vCall, vCallK, permute, pd1, pLen, pAbs, pInt1, pTuple, pList, pRepr, vSeqI, vRng1, vRng2, vZip, vEnum, vMth, vMeth, pmAppend, pmExtend, pmPop, vSetIx, vAug, vOrT, truD, pdAdd, pdSub, pdMul, pdFdiv, pdMod, pdPow, pdInt, pdEq, pdNe, bothStr, true_or, or_true, pdOrd, pdLt, pdGt, pdLe, pdGe, pdIs, isNn, pdIx, pdNeg, pdRev, Bo.get, Sl.con, Sl.put, O.dat, datL, datF, O.rd, noD, wipeS, slotsOf, endsP, outs0, outs1, outs2, ioNil, ioOne, List.length_cons, List.length_nil, List.replicate, List.cons_append, List.nil_append, List.set_cons_zero, List.set_cons_succ, List.getElem?_cons_zero, List.getElem?_cons_succ, List.getElem?_nil, List.getD_cons_zero, List.getD_cons_succ, List.filterMap_cons, List.filterMap_nil, Option.map_some, Option.bind_some, Option.map, Option.some.injEq, List.cons.injEq, O.sh.injEq, O.lst.injEq, O.dct.injEq, false_and, and_false, Sl.ow.injEq, Sl.io.injEq, PyData.int.injEq, PyData.bool.injEq, PyData.str.injEq, PyData.list.injEq, PyData.tuple.injEq, reduceCtorEq, exists_eq_left, exists_eq_left', exists_eq', exists_const, exists_and_left, exists_and_right, and_assoc, false_or, or_false, Int.toNat_natCast, Bool.false_eq_true, and_true, true_and, and_self, ne_eq, not_false_eq_true, not_true_eq_false, if_true, if_false, ↓reduceIte, Nat.reduceSub, Nat.reduceAdd, Nat.reduceEqDiff, at30, at31, at32, ix30, ix32, Nat.succ_ne_zero, spec__law_strewn, Strewn, itemsD, spec__law_take, Take, pdSl]
  refine ⟨by rw [sizeLine_eq]; omega, hb, by decide, fun es b1 pm hb1 => ⟨hb1, by decide, by decide, fun k b2 k0 k1 hb2 => ?_⟩⟩
  obtain ⟨ys, rfl, py⟩ := perm_map PyData.str (xs := poolW) pm
  obtain ⟨j, rfl⟩ : ∃ j : Nat, k = (j : Nat) := ⟨k.toNat, by omega⟩
  have e : (2 : Int) + (j : Nat) = ((2 + j : Nat) : Int) := by omega
  rw [cutD_cutL, e, cutL_take]
  have len : ys.length = 9 := py.length_eq
  refine q _ _ ⟨fun z => ?_, ?_, fun w hw => poolW_ok w (py.mem_iff.mp (List.mem_of_mem_take hw))⟩ hb2
  · have := congrArg List.length z
    rw [List.length_take, List.length_nil] at this
    omega
  · rw [List.length_take]
    omega
theorem scroll_lc {m : Nat} {D : List PyData → Ss → Prop} {v1 : V} {s1 : Sl} {ts : List Str} (hts : Small ts 9) (fin : ∀ bx (ws : List Str), isBox bx → ws.length = m → (∀ w ∈ ws, w ∈ ts) → ∀ o, (o = O.lst (ts.map .str) ∨ o = .sh (.list (ts.map .str))) → D (ws.map .str) [.io v1 bx, s1, .ow o, .em]) (hm : m ≤ 1000) :
    ∀ rem acc S, (∃ (bx : O) (ws : List Str) (o : O), S = [Sl.io v1 bx, s1, .ow o, .em] ∧ (o = O.lst (ts.map .str) ∨ o = .sh (.list (ts.map .str))) ∧ isBox bx ∧ acc = ws.map .str ∧ ws.length + rem.length = m ∧ ∀ w ∈ ws, w ∈ ts) →
    lcW (gvName 3) vYes (vCall [true, false] OneOf (vConsA (vSlot 0) (vConsA (vSh (vVar 2)) vNilA))) [3] D rem acc S := by
  refine lc_ind _ ?_ ?_
  · rintro d ds acc S K hK ⟨bx, ws, o, rfl, ho, hb, rfl, hl, hw⟩
    rw [List.length_cons] at hl
    rcases ho with rfl | rfl
    all_goals
      simp (config := { maxSteps := 2000000 }) only [vNext, vSeq, vBreak, vCont, vIfS, vRet, vRetN, vDrop, canSet_eq, sf_em, sf_ow, Option.elim_some, vAsg, vPar, gvName, gvNil, gvCons, gvTup, vAsgG, vFor, vWhile, vYes, vC, vVar, vMove, vSlot, vSh, vOp, vTest, vAnd, vOr, vNot, vAndV, vOrV, vNotV, vIf, vNilA, vConsA, getA, valsA, vTup, vLst, vNoPart, vPart, vSl, vUn, vCB, vChain, pIsi, pIsiT, ioIdx, resolve, pb, callB, vCall, vCallK, permute, pd1, pLen, pAbs, pInt1, pTuple, pList, pRepr, vSeqI, vRng1, vRng2, vZip, vEnum, vMth, vMeth, pmAppend, pmExtend, pmPop, vSetIx, vAug, vOrT, truD, pdAdd, pdSub, pdMul, pdFdiv, pdMod, pdPow, pdInt, pdEq, pdNe, bothStr, true_or, or_true, pdOrd, pdLt, pdGt, pdLe, pdGe, pdIs, isNn, pdIx, pdNeg, pdRev, Bo.get, Sl.con, Sl.put, O.dat, datL, datF, O.rd, noD, wipeS, slotsOf, endsP, outs0, outs1, outs2, ioNil, ioOne, List.length_cons, List.length_nil, List.replicate, List.cons_append, List.nil_append, List.set_cons_zero, List.set_cons_succ, List.getElem?_cons_zero, List.getElem?_cons_succ, List.getElem?_nil, List.getD_cons_zero, List.getD_cons_succ, List.filterMap_cons, List.filterMap_nil, Option.map_some, Option.bind_some, Option.map, Option.some.injEq, List.cons.injEq, O.sh.injEq, O.lst.injEq, O.dct.injEq, false_and, and_false, Sl.ow.injEq, Sl.io.injEq, PyData.int.injEq, PyData.bool.injEq, PyData.str.injEq, PyData.list.injEq, PyData.tuple.injEq, reduceCtorEq, exists_eq_left, exists_eq_left', exists_eq', exists_const, exists_and_left, exists_and_right, and_assoc, false_or, or_false, Int.toNat_natCast, Bool.false_eq_true, and_true, true_and, and_self, ne_eq, not_false_eq_true, not_true_eq_false, if_true, if_false, ↓reduceIte, Nat.reduceSub, Nat.reduceAdd, Nat.reduceEqDiff, at30, at31, at32, ix30, ix32, Nat.succ_ne_zero, OneOf, itemsD]
      refine ⟨hb, ?_, ?_, fun x bx' hx hb' => ⟨?_, ?_⟩⟩
      · intro z
        exact hts.ne (List.map_eq_nil_iff.mp z)
      · have := hts.len
        rw [List.length_map]
        omega
      · rw [List.length_map, sizeLine_eq]
        omega
      · obtain ⟨w, hw1, rfl⟩ := List.mem_map.mp hx
        refine hK _ _ ⟨bx', ws ++ [w], _, rfl, .inr rfl, hb', by rw [List.map_append]; rfl, by rw [List.length_append, List.length_singleton]; omega, fun y hy => ?_⟩
        rcases List.mem_append.mp hy with z | z
        · exact hw y z
        · rw [List.mem_singleton.mp z]; exact hw1
  · rintro acc S ⟨bx, ws, o, rfl, ho, hb, rfl, hl, hw⟩
    exact fin bx ws hb hl hw o ho
theorem run__law_scroll : Runs ms__law_scroll Scroll t__law_scroll 2 := by
  rintro vs os R h1 h2 sh ⟨bx, m, rfl, hb, m0, m1, q⟩
  obtain ⟨v1, v2, rfl⟩ := len2 h1
  unfold t__law_scroll
  simp (config := { maxSteps := 2000000 }) only [vNext, vSeq, vBreak, vCont, vIfS, vRet, vRetN, vDrop, canSet_eq, sf_em, sf_ow, Option.elim_some, vAsg, vPar, gvName, gvNil, gvCons, gvTup, vAsgG, vFor, vWhile, vYes, vC, vVar, vMove, vSlot, vSh, vOp, vTest, vAnd, vOr, vNot, vAndV, vOrV, vNotV, vIf, vNilA, vConsA, getA, valsA, vTup, vLst, vNoPart, vPart, vSl, vUn, vCB, vChain, pIsi, pIsiT, ioIdx, resolve, pb, callB, vCall, vCallK, permute, pd1, pLen, pAbs, pInt1, pTuple, pList, pRepr, vSeqI, vRng1, vRng2, vZip, vEnum, vMth, vMeth, pmAppend, pmExtend, pmPop, vSetIx, vAug, vOrT, truD, pdAdd, pdSub, pdMul, pdFdiv, pdMod, pdPow, pdInt, pdEq, pdNe, bothStr, true_or, or_true, pdOrd, pdLt, pdGt, pdLe, pdGe, pdIs, isNn, pdIx, pdNeg, pdRev, Bo.get, Sl.con, Sl.put, O.dat, datL, datF, O.rd, noD, wipeS, slotsOf, endsP, outs0, outs1, outs2, ioNil, ioOne, List.length_cons, List.length_nil, List.replicate, List.cons_append, List.nil_append, List.set_cons_zero, List.set_cons_succ, List.getElem?_cons_zero, List.getElem?_cons_succ, List.getElem?_nil, List.getD_cons_zero, List.getD_cons_succ, List.filterMap_cons, List.filterMap_nil, Option.map_some, Option.bind_some, Option.map, Option.some.injEq, List.cons.injEq, O.sh.injEq, O.lst.injEq, O.dct.injEq, false_and, and_false, Sl.ow.injEq, Sl.io.injEq, PyData.int.injEq, PyData.bool.injEq, PyData.str.injEq, PyData.list.injEq, PyData.tuple.injEq, reduceCtorEq, exists_eq_left, exists_eq_left', exists_eq', exists_const, exists_and_left, exists_and_right, and_assoc, false_or, or_false, Int.toNat_natCast, Bool.false_eq_true, and_true, true_and, and_self, ne_eq, not_false_eq_true, not_true_eq_false, if_true, if_false, ↓reduceIte, Nat.reduceSub, Nat.reduceAdd, Nat.reduceEqDiff, at30, at31, at32, ix30, ix32, Nat.succ_ne_zero, spec__law_terms, Terms, spec__law_take, Take, vLc]
  refine ⟨hb, fun ts b1 hts hb1 => ⟨hb1, by omega, by omega, fun k b2 k0 k1 hb2 => ⟨by omega, by omega, ?_⟩⟩⟩
  refine scroll_lc (m := (1 + k).toNat) hts (fun bx ws hb hl hw o ho => ?_) (by omega) _ _ _ ⟨b2, [], _, rfl, .inl rfl, hb2, rfl, by rw [intsD_len, List.length_nil, Nat.zero_add], fun _ z => nomatch z⟩
  simp (config := { maxSteps := 2000000 }) only [vNext, vSeq, vBreak, vCont, vIfS, vRet, vRetN, vDrop, canSet_eq, sf_em, sf_ow, Option.elim_some, vAsg, vPar, gvName, gvNil, gvCons, gvTup, vAsgG, vFor, vWhile, vYes, vC, vVar, vMove, vSlot, vSh, vOp, vTest, vAnd, vOr, vNot, vAndV, vOrV, vNotV, vIf, vNilA, vConsA, getA, valsA, vTup, vLst, vNoPart, vPart, vSl, vUn, vCB, vChain, pIsi, pIsiT, ioIdx, resolve, pb, callB, vCall, vCallK, permute, pd1, pLen, pAbs, pInt1, pTuple, pList, pRepr, vSeqI, vRng1, vRng2, vZip, vEnum, vMth, vMeth, pmAppend, pmExtend, pmPop, vSetIx, vAug, vOrT, truD, pdAdd, pdSub, pdMul, pdFdiv, pdMod, pdPow, pdInt, pdEq, pdNe, bothStr, true_or, or_true, pdOrd, pdLt, pdGt, pdLe, pdGe, pdIs, isNn, pdIx, pdNeg, pdRev, Bo.get, Sl.con, Sl.put, O.dat, datL, datF, O.rd, noD, wipeS, slotsOf, endsP, outs0, outs1, outs2, ioNil, ioOne, List.length_cons, List.length_nil, List.replicate, List.cons_append, List.nil_append, List.set_cons_zero, List.set_cons_succ, List.getElem?_cons_zero, List.getElem?_cons_succ, List.getElem?_nil, List.getD_cons_zero, List.getD_cons_succ, List.filterMap_cons, List.filterMap_nil, Option.map_some, Option.bind_some, Option.map, Option.some.injEq, List.cons.injEq, O.sh.injEq, O.lst.injEq, O.dct.injEq, false_and, and_false, Sl.ow.injEq, Sl.io.injEq, PyData.int.injEq, PyData.bool.injEq, PyData.str.injEq, PyData.list.injEq, PyData.tuple.injEq, reduceCtorEq, exists_eq_left, exists_eq_left', exists_eq', exists_const, exists_and_left, exists_and_right, and_assoc, false_or, or_false, Int.toNat_natCast, Bool.false_eq_true, and_true, true_and, and_self, ne_eq, not_false_eq_true, not_true_eq_false, if_true, if_false, ↓reduceIte, Nat.reduceSub, Nat.reduceAdd, Nat.reduceEqDiff, at30, at31, at32, ix30, ix32, Nat.succ_ne_zero]
  refine q ws bx ⟨fun z => ?_, by omega, fun w hw' => hts.wd w (hw w hw')⟩ hb
  rw [z] at hl
  have : (1 + k).toNat = 0 := hl.symm
  omega
theorem run__law_leapt : Runs ms__law_leapt Leapt t__law_leapt 0 := by
  rintro vs os R h1 h2 sh ⟨xs, p, rfl, hf, p1, p2, q⟩
  obtain ⟨v1, v2, rfl⟩ := len2 h1
  unfold t__law_leapt
  have e1 : ((p.1 : Nat) : Int) + 1 = ((p.1 + 1 : Nat) : Int) := rfl
  have e2 : ((p.2 : Nat) : Int) + 1 = ((p.2 + 1 : Nat) : Int) := rfl
  simp (config := { maxSteps := 2000000 }) only [vNext, vSeq, vBreak, vCont, vIfS, vRet, vRetN, vDrop, canSet_eq, sf_em, sf_ow, Option.elim_some, vAsg, vPar, gvName, gvNil, gvCons, gvTup, vAsgG, vFor, vWhile, vYes, vC, vVar, vMove, vSlot, vSh, vOp, vTest, vAnd, vOr, vNot, vAndV, vOrV, vNotV, vIf, vNilA, vConsA, getA, valsA, vTup, vLst, vNoPart, vPart, vSl, vUn, vCB, vChain, pIsi, pIsiT, ioIdx, resolve, pb, callB, vCall, vCallK, permute, pd1, pLen, pAbs, pInt1, pTuple, pList, pRepr, vSeqI, vRng1, vRng2, vZip, vEnum, vMth, vMeth, pmAppend, pmExtend, pmPop, vSetIx, vAug, vOrT, truD, pdAdd, pdSub, pdMul, pdFdiv, pdMod, pdPow, pdInt, pdEq, pdNe, bothStr, true_or, or_true, pdOrd, pdLt, pdGt, pdLe, pdGe, pdIs, isNn, pdIx, pdNeg, pdRev, Bo.get, Sl.con, Sl.put, O.dat, datL, datF, O.rd, noD, wipeS, slotsOf, endsP, outs0, outs1, outs2, ioNil, ioOne, List.length_cons, List.length_nil, List.replicate, List.cons_append, List.nil_append, List.set_cons_zero, List.set_cons_succ, List.getElem?_cons_zero, List.getElem?_cons_succ, List.getElem?_nil, List.getD_cons_zero, List.getD_cons_succ, List.filterMap_cons, List.filterMap_nil, Option.map_some, Option.bind_some, Option.map, Option.some.injEq, List.cons.injEq, O.sh.injEq, O.lst.injEq, O.dct.injEq, false_and, and_false, Sl.ow.injEq, Sl.io.injEq, PyData.int.injEq, PyData.bool.injEq, PyData.str.injEq, PyData.list.injEq, PyData.tuple.injEq, reduceCtorEq, exists_eq_left, exists_eq_left', exists_eq', exists_const, exists_and_left, exists_and_right, and_assoc, false_or, or_false, Int.toNat_natCast, Bool.false_eq_true, and_true, true_and, and_self, ne_eq, not_false_eq_true, not_true_eq_false, if_true, if_false, ↓reduceIte, Nat.reduceSub, Nat.reduceAdd, Nat.reduceEqDiff, at30, at31, at32, ix30, ix32, Nat.succ_ne_zero, leapD, pdSl, at20, at21, cutD_cutL, e1, e2, cutL_take, cutL_drop]
  have := hf.len
  refine ⟨?_, ?_⟩
  · rw [List.length_map, List.length_map, List.length_take, List.length_drop, sizeLine_eq]
    omega
  · rw [← List.map_append]
    exact q
theorem lawpairs_lc {S : Ss} {R : List PyData → Ss → Prop} {xs : List Str} {n : Int} {s0 : Sl} (hS : S = [s0, Sl.ow (.sh (.int n)), .em, .em]) (hf : Fit xs) (h : R (pairsD xs n) S) :
    lcW (gvTup 2 (gvCons (gvName 2) (gvCons (gvName 3) gvNil))) vYes (vTup (vConsA (vSh (vSl pdSl (vSlot 2) (vPart (vUn pdNeg (vSlot 1))) vNoPart)) (vConsA (vSh (vVar 3)) vNilA))) [2, 3] R (zipD (xs.map .str) (xs.tail.map .str)) [] S := by
  subst hS
  rw [zipD_map]
  refine lc_pure _ (fun p => .tuple [.str (endW p.1 n), .str p.2]) (fun _ => true) (fun p => wOk p.1) (fun p K L ok k1 _ => ?_) _ [] (fun p hp => hf.wd _ (List.of_mem_zip hp).1) ?_ ?_
  · simp (config := { maxSteps := 2000000 }) only [vNext, vSeq, vBreak, vCont, vIfS, vRet, vRetN, vDrop, canSet_eq, sf_em, sf_ow, Option.elim_some, vAsg, vPar, gvName, gvNil, gvCons, gvTup, vAsgG, vFor, vWhile, vYes, vC, vVar, vMove, vSlot, vSh, vOp, vTest, vAnd, vOr, vNot, vAndV, vOrV, vNotV, vIf, vNilA, vConsA, getA, valsA, vTup, vLst, vNoPart, vPart, vSl, vUn, vCB, vChain, pIsi, pIsiT, ioIdx, resolve, pb, callB, vCall, vCallK, permute, pd1, pLen, pAbs, pInt1, pTuple, pList, pRepr, vSeqI, vRng1, vRng2, vZip, vEnum, vMth, vMeth, pmAppend, pmExtend, pmPop, vSetIx, vAug, vOrT, truD, pdAdd, pdSub, pdMul, pdFdiv, pdMod, pdPow, pdInt, pdEq, pdNe, bothStr, true_or, or_true, pdOrd, pdLt, pdGt, pdLe, pdGe, pdIs, isNn, pdIx, pdNeg, pdRev, Bo.get, Sl.con, Sl.put, O.dat, datL, datF, O.rd, noD, wipeS, slotsOf, endsP, outs0, outs1, outs2, ioNil, ioOne, List.length_cons, List.length_nil, List.replicate, List.cons_append, List.nil_append, List.set_cons_zero, List.set_cons_succ, List.getElem?_cons_zero, List.getElem?_cons_succ, List.getElem?_nil, List.getD_cons_zero, List.getD_cons_succ, List.filterMap_cons, List.filterMap_nil, Option.map_some, Option.bind_some, Option.map, Option.some.injEq, List.cons.injEq, O.sh.injEq, O.lst.injEq, O.dct.injEq, false_and, and_false, Sl.ow.injEq, Sl.io.injEq, PyData.int.injEq, PyData.bool.injEq, PyData.str.injEq, PyData.list.injEq, PyData.tuple.injEq, reduceCtorEq, exists_eq_left, exists_eq_left', exists_eq', exists_const, exists_and_left, exists_and_right, and_assoc, false_or, or_false, Int.toNat_natCast, Bool.false_eq_true, and_true, true_and, and_self, ne_eq, not_false_eq_true, not_true_eq_false, if_true, if_false, ↓reduceIte, Nat.reduceSub, Nat.reduceAdd, Nat.reduceEqDiff, at30, at31, at32, ix30, ix32, Nat.succ_ne_zero, pdSl]
    exact ⟨ok.line, by rw [sizeLine_eq]; omega, k1 rfl⟩
  · have := hf.len
    rw [List.length_zip, List.length_nil, sizeLine_eq]
    omega
  · rw [List.filter_eq_self.mpr fun _ _ => rfl]
    exact h
theorem enumD_zip : ∀ (ds : List PyData) (n : Nat), enumD n ds = (ds.zipIdx n).map fun p => .tuple [.int (p.2 : Nat), p.1]
  | [], _ => rfl
  | d :: ds, n => by
    show PyData.tuple [.int (n : Nat), d] :: enumD (n + 1) ds = _
    rw [enumD_zip ds (n + 1)]
    rfl
/-- the places of the pairs that are not there -/
theorem bad_lc {g : VG} {tt : VTT} {te : VT} {is : List Nat} {S : Ss} {R : List PyData → Ss → Prop} {ys xs : List Str} {n : Int} (hy : Fit ys) (hx : Fit xs)
    (step : ∀ (k : Nat) (d : PyData) (K : PyData → Ss → Prop) (L : Ss → Prop), SeqAt.shaped d = true → SeqAt.shaped (.list (pairsD xs n)) = true → ((!((pairsD xs n).any fun z => PyData.eqv z d)) = true → K (.int (k : Nat)) S) → ((!((pairsD xs n).any fun z => PyData.eqv z d)) = false → L S) →
      g (.tuple [.int (k : Nat), d]) S fun S1 => tt S1 fun k S2 => if k = true then te S2 fun o S3 => K o.dat (wipeS S3 is) else L (wipeS S2 is)) (h : R ((bad ys xs n).map fun k => .int (k : Nat)) S) :
    lcW g tt te is R (enumD 0 (pairsD ys n)) [] S := by
  rw [enumD_zip]
  refine lc_pure _ (fun p => .int (p.2 : Nat)) (fun p => !((pairsD xs n).any fun z => PyData.eqv z p.1)) (fun p => SeqAt.shaped p.1 = true) (fun p K L ok k1 k2 => step p.2 p.1 K L ok (list_shaped (pairsD_nice hx) (by decide)) k1 k2) _ [] (fun p hp => ?_) ?_ ?_
  · have hm : p.1 ∈ pairsD ys n := by
      obtain ⟨x, i⟩ := p
      exact List.fst_mem_of_mem_zipIdx hp
    exact (pairsD_nice hy _ hm).shaped (by decide)
  · have := hy.len
    have := pairsD_len (xs := ys) (n := n)
    rw [List.length_zipIdx, List.length_nil, sizeLine_eq]
    omega
  · unfold bad at h
    rw [List.map_map] at h
    exact h
theorem at_head {xs : List Str} (h : xs ≠ []) : atI (xs.map PyData.str) 0 = some (.str (headW xs)) := by
  cases xs with
  | nil => exact absurd rfl h
  | cons x xs => exact ixhead
theorem at_last {xs : List Str} (h : xs ≠ []) : atI (xs.map PyData.str) (-1) = some (.str (lastW xs)) := by
  rw [ixlast (by simpa using h), List.getLast_map]
  unfold lastW
  rw [List.getLastD_eq_getLast?, List.getLast?_eq_some_getLast h]
  rfl
theorem headW_mem {xs : List Str} (h : xs ≠ []) : headW xs ∈ xs := by
  cases xs with
  | nil => exact absurd rfl h
  | cons x xs => exact List.mem_cons_self
theorem lastW_mem {xs : List Str} (h : xs ≠ []) : lastW xs ∈ xs := by
  unfold lastW
  rw [List.getLastD_eq_getLast?, List.getLast?_eq_some_getLast h]
  exact List.getLast_mem h
theorem gapN (l : List Nat) : (match gap l with | .none => true | _ => false) = l.isEmpty := by cases l <;> rfl
end VL

set_option Elab.async false
set_option linter.all false
set_option maxRecDepth 100000
namespace VL
open PySem PySem.Spec PyProof.Rows L2
variable [Wd]
/-! ### a text without a passage comes both ways -/
theorem alk_iff {a b : Str} {n : Int} : alk a b n = true ↔ endW a n = endW b n := by
  show (endW a n == endW b n) = true ↔ _
  exact beq_iff_eq
theorem eqv_str_iff {a b : Str} : PyData.eqv (.str a) (.str b) = true ↔ a = b := by
  show (a == b) = true ↔ _
  exact beq_iff_eq
theorem mem_pairsD {xs : List Str} {n : Int} {d : PyData} : d ∈ pairsD xs n ↔ ∃ i x y, xs[i]? = some x ∧ xs[i + 1]? = some y ∧ d = .tuple [.str (endW x n), .str y] := by
  unfold pairsD
  rw [List.mem_map]
  constructor
  · rintro ⟨⟨x, y⟩, hp, rfl⟩
    obtain ⟨i, hi⟩ := List.mem_iff_getElem?.mp hp
    rw [List.getElem?_zip_eq_some] at hi
    refine ⟨i, x, y, hi.1, ?_, rfl⟩
    have q := hi.2
    rw [List.getElem?_tail] at q
    exact q
  · rintro ⟨i, x, y, h1, h2, rfl⟩
    refine ⟨(x, y), List.mem_iff_getElem?.mpr ⟨i, ?_⟩, rfl⟩
    rw [List.getElem?_zip_eq_some, List.getElem?_tail]
    exact ⟨h1, h2⟩
theorem bad_nil {ys xs : List Str} {n : Int} : (bad ys xs n).isEmpty = true ↔ ∀ d ∈ pairsD ys n, (pairsD xs n).any (fun z => PyData.eqv z d) = true := by
  unfold bad
  rw [List.isEmpty_iff, List.map_eq_nil_iff, List.filter_eq_nil_iff]
  constructor
  · intro h d hd
    obtain ⟨i, hi⟩ := List.mem_iff_getElem?.mp hd
    have q := h (d, i) (by rw [List.mem_zipIdx_iff_getElem?]; exact hi)
    cases e : (pairsD xs n).any fun z => PyData.eqv z d
    · rw [e] at q; exact absurd rfl q
    · rfl
  · rintro h ⟨d, i⟩ hp q
    have := h d (List.fst_mem_of_mem_zipIdx hp)
    rw [this] at q
    cases q
theorem leapt_at {xs : List Str} {p : Nat × Nat} (h1 : p.1 < p.2) (h2 : p.2 < xs.length) (i : Nat) : (leapt xs p)[i]? = if i ≤ p.1 then xs[i]? else xs[i + (p.2 - p.1)]? := by
  unfold leapt
  rw [List.getElem?_append, List.length_take]
  have e : min (p.1 + 1) xs.length = p.1 + 1 := by omega
  rw [e]
  by_cases h : i ≤ p.1
  · rw [if_pos (by omega), if_pos h, List.getElem?_take, if_pos (by omega)]
  · rw [if_neg (by omega), if_neg h, List.getElem?_drop]
    congr 1
    omega
theorem leapt_len {xs : List Str} {p : Nat × Nat} (h1 : p.1 < p.2) (h2 : p.2 < xs.length) : (leapt xs p).length = xs.length - (p.2 - p.1) := by
  unfold leapt
  rw [List.length_append, List.length_take, List.length_drop]
  omega
theorem leapt_pairs {xs : List Str} {n : Int} {p : Nat × Nat} (hp : LeapOk xs n p) {d : PyData} (h : d ∈ pairsD (leapt xs p) n) : d ∈ pairsD xs n := by
  obtain ⟨p1, p2, al⟩ := hp
  rw [alk_iff] at al
  obtain ⟨i, x, y, h1, h2, rfl⟩ := mem_pairsD.mp h
  rw [leapt_at p1 p2] at h1 h2
  rw [mem_pairsD]
  by_cases a : i ≤ p.1
  · rw [if_pos a] at h1
    by_cases b : i + 1 ≤ p.1
    · rw [if_pos b] at h2
      exact ⟨i, x, y, h1, h2, rfl⟩
    · rw [if_neg b] at h2
      have e : i = p.1 := by omega
      subst e
      rw [List.getElem?_eq_getElem (by omega)] at h1
      cases h1
      refine ⟨p.2, xs[p.2], y, List.getElem?_eq_getElem p2, ?_, by rw [al]⟩
      rw [← h2]
      congr 1
      omega
  · rw [if_neg a] at h1
    rw [if_neg (by omega)] at h2
    refine ⟨i + (p.2 - p.1), x, y, h1, ?_, rfl⟩
    rw [← h2]
    congr 1
    omega
theorem headW_at {xs : List Str} : headW xs = (xs[0]?).getD Str.empty := by cases xs <;> rfl
theorem lastW_at {xs : List Str} : lastW xs = (xs[xs.length - 1]?).getD Str.empty := by
  unfold lastW
  rw [List.getLastD_eq_getLast?, List.getLast?_eq_getElem?]
theorem both_leap {ys xs : List Str} {n : Int} {p : Nat × Nat} (h : bothB ys xs n = true) (hp : LeapOk ys n p) : bothB (leapt ys p) xs n = true := by
  unfold bothB at h ⊢
  rw [Bool.and_eq_true, Bool.and_eq_true] at h ⊢
  obtain ⟨h1, h2, h3⟩ := h
  have hp' := hp
  obtain ⟨p1, p2, al⟩ := hp'
  refine ⟨bad_nil.mpr fun d hd => bad_nil.mp h1 d (leapt_pairs hp hd), ?_, ?_⟩
  · rw [eqv_str_iff] at h2 ⊢
    rw [← h2, headW_at, headW_at, leapt_at p1 p2, if_pos (Nat.zero_le _)]
  · rw [alk_iff] at h3 al ⊢
    rw [← h3, lastW_at, lastW_at, leapt_at p1 p2, leapt_len p1 p2]
    by_cases a : ys.length - (p.2 - p.1) - 1 ≤ p.1
    · rw [if_pos a]
      have e1 : ys.length - (p.2 - p.1) - 1 = p.1 := by omega
      have e2 : ys.length - 1 = p.2 := by omega
      rw [e1, e2, List.getElem?_eq_getElem (by omega), List.getElem?_eq_getElem p2]
      exact al
    · rw [if_neg a]
      congr 3
      omega
theorem both_self {xs : List Str} {n : Int} (hf : Fit xs) : bothB xs xs n = true := by
  unfold bothB
  rw [Bool.and_eq_true, Bool.and_eq_true]
  refine ⟨bad_nil.mpr fun d hd => ?_, eqv_str_iff.mpr rfl, alk_iff.mpr rfl⟩
  rw [List.any_eq_true]
  exact ⟨d, hd, SeqAt.eqv_refl d (pairsD_nice hf d hd).la⟩
theorem leapt_small {xs : List Str} {m : Nat} {p : Nat × Nat} (h : Small xs m) (p1 : p.1 < p.2) (p2 : p.2 < xs.length) : Small (leapt xs p) m := by
  have l := leapt_len p1 p2
  refine ⟨fun z => ?_, ?_, fun w hw => ?_⟩
  · rw [z, List.length_nil] at l
    omega
  · have := h.len
    omega
  · unfold leapt at hw
    rcases List.mem_append.mp hw with q | q
    · exact h.wd w (List.mem_of_mem_take q)
    · exact h.wd w (List.mem_of_mem_drop q)
/-! ### the leaps of a text -/
theorem intsD_mem {lo : Nat} {n : Nat} {x : PyData} (h : x ∈ intsD (lo : Int) n) : ∃ k : Nat, x = .int (k : Nat) ∧ lo ≤ k ∧ k < lo + n := by
  unfold intsD at h
  obtain ⟨i, hi, rfl⟩ := List.mem_map.mp h
  have := List.mem_range.mp hi
  exact ⟨lo + i, rfl, by omega, by omega⟩
theorem alkAt_iff {xs : List Str} {n : Int} {i j : Nat} : alkAt xs n i j = true ↔ ∃ (h1 : i < xs.length) (h2 : j < xs.length), alk xs[i] xs[j] n = true := by
  unfold alkAt
  constructor
  · intro h
    split at h
    · rename_i a b e1 e2
      obtain ⟨h1, rfl⟩ := List.getElem?_eq_some_iff.mp e1
      obtain ⟨h2, rfl⟩ := List.getElem?_eq_some_iff.mp e2
      exact ⟨h1, h2, h⟩
    · cases h
  · rintro ⟨h1, h2, h⟩
    rw [List.getElem?_eq_getElem h1, List.getElem?_eq_getElem h2]
    exact h
theorem mem_leapsL {xs : List Str} {n : Int} {p : Nat × Nat} : p ∈ leapsL xs n ↔ LeapOk xs n p := by
  unfold leapsL outerL innerL
  rw [List.mem_flatMap]
  constructor
  · rintro ⟨i, hi, h⟩
    obtain ⟨j, hj, rfl⟩ := List.mem_map.mp h
    obtain ⟨h1, h2⟩ := List.mem_filter.mp hj
    obtain ⟨a, b, c⟩ := alkAt_iff.mp h2
    rw [List.mem_range'_1] at h1
    exact ⟨by show i < j; omega, b, c⟩
  · rintro ⟨h1, h2, h⟩
    refine ⟨p.1, List.mem_range.mpr (by omega), List.mem_map.mpr ⟨p.2, List.mem_filter.mpr ⟨?_, alkAt_iff.mpr ⟨by omega, h2, h⟩⟩, rfl⟩⟩
    rw [List.mem_range'_1]
    omega
theorem outerL_len {xs : List Str} {n : Int} : ∀ (is : List Nat), (outerL xs n is).length ≤ is.length * xs.length
  | [] => Nat.zero_le _
  | i :: is => by
    unfold outerL
    rw [List.flatMap_cons, List.length_append, List.length_cons, Nat.succ_mul]
    have h := outerL_len (xs := xs) (n := n) is
    unfold outerL at h
    have : (innerL xs n i (List.range' (i + 1) (xs.length - (i + 1)))).length ≤ xs.length := by
      unfold innerL
      rw [List.length_map]
      have := List.length_filter_le (alkAt xs n i) (List.range' (i + 1) (xs.length - (i + 1)))
      rw [List.length_range'] at this
      omega
    omega
theorem ints_range' {lo n : Nat} : intsD (lo : Int) n = (List.range' lo n).map fun j => .int (j : Nat) := by
  unfold intsD
  rw [List.range'_eq_map_range, List.map_map]
  rfl
theorem leaps_in {xs : List Str} {n : Int} {k : Nat} {total : List (Nat × Nat)} {D : VEnds} (hf : Fit xs) (hk : k < xs.length) (hB : total.length ≤ 1000000) (fin : ∀ s4 : Sl, Free s4 → D.nx [.ow (.sh (.tuple (xs.map .str))), .ow (.sh (.int n)), .ow (.lst (total.map leapD)), .ow (.sh (.int (k : Nat))), s4]) :
    ∀ rem S, (∃ (js : List Nat) (ls : List (Nat × Nat)) (s4 : Sl), rem = js.map (fun j => .int (j : Nat)) ∧ S = [Sl.ow (.sh (.tuple (xs.map .str))), .ow (.sh (.int n)), .ow (.lst (ls.map leapD)), .ow (.sh (.int (k : Nat))), s4] ∧ ls ++ innerL xs n k js = total ∧ Free s4 ∧ ∀ j ∈ js, j < xs.length) →
    forW (gvName 4) (vIfS (vTest (vCall [false, false, false] Alike (vConsA (vSh (vOp pdIx (vSlot 0) (vSlot 3))) (vConsA (vSh (vOp pdIx (vSlot 0) (vSlot 4))) (vConsA (vSh (vVar 1)) vNilA))))) (vDrop (vMth pmAppend 2 (vConsA (vSh (vTup (vConsA (vSh (vVar 3)) (vConsA (vSh (vVar 4)) vNilA)))) vNilA))) vNext) D rem S := by
  refine for_ind _ ?_ ?_
  · rintro x rem S K hK ⟨js, ls, s4, hr, rfl, ht, f4, h3⟩
    cases js with
    | nil => cases hr
    | cons j js =>
    obtain ⟨rfl, rfl⟩ := List.cons.inj hr
    have j2 := h3 j List.mem_cons_self
    have a1 : atI (xs.map PyData.str) (k : Int) = some (.str xs[k]) := by rw [ix_nat (by rw [List.length_map]; exact hk), List.getElem_map]
    have a2 : atI (xs.map PyData.str) (j : Int) = some (.str xs[j]) := by rw [ix_nat (by rw [List.length_map]; exact j2), List.getElem_map]
    have al : alkAt xs n k j = alk xs[k] xs[j] n := by
      unfold alkAt
      rw [List.getElem?_eq_getElem hk, List.getElem?_eq_getElem j2]
    rcases f4 with rfl | ⟨o4, rfl⟩
    all_goals
      simp (config := { maxSteps := 2000000 }) only [vNext, vSeq, vBreak, vCont, vIfS, vRet, vRetN, vDrop, canSet_eq, sf_em, sf_ow, Option.elim_some, vAsg, vPar, gvName, gvNil, gvCons, gvTup, vAsgG, vFor, vWhile, vYes, vC, vVar, vMove, vSlot, vSh, vOp, vTest, vAnd, vOr, vNot, vAndV, vOrV, vNotV, vIf, vNilA, vConsA, getA, valsA, vTup, vLst, vNoPart, vPart, vSl, vUn, vCB, vChain, pIsi, pIsiT, ioIdx, resolve, pb, callB, vCall, vCallK, permute, pd1, pLen, pAbs, pInt1, pTuple, pList, pRepr, vSeqI, vRng1, vRng2, vZip, vEnum, vMth, vMeth, pmAppend, pmExtend, pmPop, vSetIx, vAug, vOrT, truD, pdAdd, pdSub, pdMul, pdFdiv, pdMod, pdPow, pdInt, pdEq, pdNe, bothStr, true_or, or_true, pdOrd, pdLt, pdGt, pdLe, pdGe, pdIs, isNn, pdIx, pdNeg, pdRev, Bo.get, Sl.con, Sl.put, O.dat, datL, datF, O.rd, noD, wipeS, slotsOf, endsP, outs0, outs1, outs2, ioNil, ioOne, List.length_cons, List.length_nil, List.replicate, List.cons_append, List.nil_append, List.set_cons_zero, List.set_cons_succ, List.getElem?_cons_zero, List.getElem?_cons_succ, List.getElem?_nil, List.getD_cons_zero, List.getD_cons_succ, List.filterMap_cons, List.filterMap_nil, Option.map_some, Option.bind_some, Option.map, Option.some.injEq, List.cons.injEq, O.sh.injEq, O.lst.injEq, O.dct.injEq, false_and, and_false, Sl.ow.injEq, Sl.io.injEq, PyData.int.injEq, PyData.bool.injEq, PyData.str.injEq, PyData.list.injEq, PyData.tuple.injEq, reduceCtorEq, exists_eq_left, exists_eq_left', exists_eq', exists_const, exists_and_left, exists_and_right, and_assoc, false_or, or_false, Int.toNat_natCast, Bool.false_eq_true, and_true, true_and, and_self, ne_eq, not_false_eq_true, not_true_eq_false, if_true, if_false, ↓reduceIte, Nat.reduceSub, Nat.reduceAdd, Nat.reduceEqDiff, at30, at31, at32, ix30, ix32, Nat.succ_ne_zero, a1, a2, Alike]
      refine ⟨hf.wd _ (List.getElem_mem _), hf.wd _ (List.getElem_mem _), ?_⟩
      cases e : alk xs[k] xs[j] n
      · refine hK _ ⟨js, ls, _, rfl, rfl, ?_, .inr ⟨_, rfl⟩, fun y hy => h3 y (List.mem_cons_of_mem _ hy)⟩
        rw [← ht]
        unfold innerL
        rw [List.filter_cons_of_neg (by rw [al, e]; exact Bool.false_ne_true)]
      · have ht2 : (ls ++ [(k, j)]) ++ innerL xs n k js = total := by
          rw [← ht]
          unfold innerL
          rw [List.filter_cons_of_pos (by rw [al, e]), List.map_cons, List.append_assoc]
          rfl
        have ll : ls.length + 1 ≤ total.length := by rw [← ht2, List.length_append, List.length_append, List.length_singleton]; omega
        exact ⟨by rw [sizeLine_eq]; omega, by rw [List.length_map, sizeLine_eq]; omega, hK _ ⟨js, ls ++ [(k, j)], _, rfl, by rw [List.map_append]; rfl, ht2, .inr ⟨_, rfl⟩, fun y hy => h3 y (List.mem_cons_of_mem _ hy)⟩⟩
  · rintro S ⟨js, ls, s4, hr, rfl, ht, f4, _⟩
    cases js with
    | cons _ _ => cases hr
    | nil =>
      have e : ls = total := by rw [← ht]; exact (List.append_nil _).symm
      rw [e]
      exact fin s4 f4
theorem leaps_out {xs : List Str} {n : Int} {total : List (Nat × Nat)} {D : VEnds} (hf : Fit xs) (hB : total.length ≤ 1000000) (fin : ∀ s3 s4 : Sl, D.nx [.ow (.sh (.tuple (xs.map .str))), .ow (.sh (.int n)), .ow (.lst (total.map leapD)), s3, s4]) :
    ∀ rem S, (∃ (is : List Nat) (ls : List (Nat × Nat)) (s3 s4 : Sl), rem = is.map (fun j => .int (j : Nat)) ∧ S = [Sl.ow (.sh (.tuple (xs.map .str))), .ow (.sh (.int n)), .ow (.lst (ls.map leapD)), s3, s4] ∧ ls ++ outerL xs n is = total ∧ Free s3 ∧ Free s4 ∧ ∀ j ∈ is, j < xs.length) →
    forW (gvName 3) (vFor (vRng2 (vConsA (vSh (vOp pdAdd (vSlot 3) (vSh (vC (.int 1))))) (vConsA (vSh (vCB (pd1 pLen) (vConsA (vSlot 0) vNilA))) vNilA))) (gvName 4) (vIfS (vTest (vCall [false, false, false] Alike (vConsA (vSh (vOp pdIx (vSlot 0) (vSlot 3))) (vConsA (vSh (vOp pdIx (vSlot 0) (vSlot 4))) (vConsA (vSh (vVar 1)) vNilA))))) (vDrop (vMth pmAppend 2 (vConsA (vSh (vTup (vConsA (vSh (vVar 3)) (vConsA (vSh (vVar 4)) vNilA)))) vNilA))) vNext)) D rem S := by
  have big := hf.len
  refine for_ind _ ?_ ?_
  · rintro x rem S K hK ⟨is, ls, s3, s4, hr, rfl, ht, f3, f4, h3⟩
    cases is with
    | nil => cases hr
    | cons k is =>
    obtain ⟨rfl, rfl⟩ := List.cons.inj hr
    have k1 := h3 k List.mem_cons_self
    have ht2 : (ls ++ innerL xs n k (List.range' (k + 1) (xs.length - (k + 1)))) ++ outerL xs n is = total := by
      rw [← ht, List.append_assoc]
      rfl
    have lb : (ls ++ innerL xs n k (List.range' (k + 1) (xs.length - (k + 1)))).length ≤ total.length := by rw [← ht2, List.length_append (bs := outerL xs n is)]; omega
    have e1 : ((xs.length : Int) - ((k : Int) + 1)).toNat = xs.length - (k + 1) := by omega
    rcases f3 with rfl | ⟨o3, rfl⟩
    all_goals
      simp (config := { maxSteps := 2000000 }) only [vNext, vSeq, vBreak, vCont, vIfS, vRet, vRetN, vDrop, canSet_eq, sf_em, sf_ow, Option.elim_some, vAsg, vPar, gvName, gvNil, gvCons, gvTup, vAsgG, vFor, vWhile, vYes, vC, vVar, vMove, vSlot, vSh, vOp, vTest, vAnd, vOr, vNot, vAndV, vOrV, vNotV, vIf, vNilA, vConsA, getA, valsA, vTup, vLst, vNoPart, vPart, vSl, vUn, vCB, vChain, pIsi, pIsiT, ioIdx, resolve, pb, callB, vCall, vCallK, permute, pd1, pLen, pAbs, pInt1, pTuple, pList, pRepr, vSeqI, vRng1, vRng2, vZip, vEnum, vMth, vMeth, pmAppend, pmExtend, pmPop, vSetIx, vAug, vOrT, truD, pdAdd, pdSub, pdMul, pdFdiv, pdMod, pdPow, pdInt, pdEq, pdNe, bothStr, true_or, or_true, pdOrd, pdLt, pdGt, pdLe, pdGe, pdIs, isNn, pdIx, pdNeg, pdRev, Bo.get, Sl.con, Sl.put, O.dat, datL, datF, O.rd, noD, wipeS, slotsOf, endsP, outs0, outs1, outs2, ioNil, ioOne, List.length_cons, List.length_nil, List.replicate, List.cons_append, List.nil_append, List.set_cons_zero, List.set_cons_succ, List.getElem?_cons_zero, List.getElem?_cons_succ, List.getElem?_nil, List.getD_cons_zero, List.getD_cons_succ, List.filterMap_cons, List.filterMap_nil, Option.map_some, Option.bind_some, Option.map, Option.some.injEq, List.cons.injEq, O.sh.injEq, O.lst.injEq, O.dct.injEq, false_and, and_false, Sl.ow.injEq, Sl.io.injEq, PyData.int.injEq, PyData.bool.injEq, PyData.str.injEq, PyData.list.injEq, PyData.tuple.injEq, reduceCtorEq, exists_eq_left, exists_eq_left', exists_eq', exists_const, exists_and_left, exists_and_right, and_assoc, false_or, or_false, Int.toNat_natCast, Bool.false_eq_true, and_true, true_and, and_self, ne_eq, not_false_eq_true, not_true_eq_false, if_true, if_false, ↓reduceIte, Nat.reduceSub, Nat.reduceAdd, Nat.reduceEqDiff, at30, at31, at32, ix30, ix32, Nat.succ_ne_zero, List.length_map]
      refine ⟨by omega, by omega, by omega, by omega, ?_⟩
      refine leaps_in (k := k) hf k1 (Nat.le_trans lb hB) (fun s4' g => hK _ ⟨is, _, _, s4', rfl, rfl, ht2, .inr ⟨_, rfl⟩, g, fun y hy => h3 y (List.mem_cons_of_mem _ hy)⟩) _ _ ⟨List.range' (k + 1) (xs.length - (k + 1)), ls, s4, ?_, rfl, rfl, f4, fun j hj => ?_⟩
      · rw [e1]
        exact ints_range' (lo := k + 1)
      · rw [List.mem_range'_1] at hj
        omega
  · rintro S ⟨is, ls, s3, s4, hr, rfl, ht, _⟩
    cases is with
    | cons _ _ => cases hr
    | nil =>
      have e : ls = total := by rw [← ht]; exact (List.append_nil _).symm
      rw [e]
      exact fin s3 s4
theorem leapsL_len {xs : List Str} {n : Int} : (leapsL xs n).length ≤ xs.length * xs.length := by
  have h := outerL_len (xs := xs) (n := n) (List.range xs.length)
  rw [List.length_range] at h
  exact h
theorem run__law_leaps : Runs ms__law_leaps Leaps t__law_leaps 3 := by
  rintro vs os R h1 h2 sh ⟨xs, n, rfl, hf, q⟩
  obtain ⟨v1, v2, rfl⟩ := len2 h1
  unfold t__law_leaps
  have big := hf.len
  have sq : xs.length * xs.length ≤ 1000 * 1000 := Nat.mul_le_mul big big
  have ll := leapsL_len (xs := xs) (n := n)
  simp (config := { maxSteps := 2000000 }) only [vNext, vSeq, vBreak, vCont, vIfS, vRet, vRetN, vDrop, canSet_eq, sf_em, sf_ow, Option.elim_some, vAsg, vPar, gvName, gvNil, gvCons, gvTup, vAsgG, vFor, vWhile, vYes, vC, vVar, vMove, vSlot, vSh, vOp, vTest, vAnd, vOr, vNot, vAndV, vOrV, vNotV, vIf, vNilA, vConsA, getA, valsA, vTup, vLst, vNoPart, vPart, vSl, vUn, vCB, vChain, pIsi, pIsiT, ioIdx, resolve, pb, callB, vCall, vCallK, permute, pd1, pLen, pAbs, pInt1, pTuple, pList, pRepr, vSeqI, vRng1, vRng2, vZip, vEnum, vMth, vMeth, pmAppend, pmExtend, pmPop, vSetIx, vAug, vOrT, truD, pdAdd, pdSub, pdMul, pdFdiv, pdMod, pdPow, pdInt, pdEq, pdNe, bothStr, true_or, or_true, pdOrd, pdLt, pdGt, pdLe, pdGe, pdIs, isNn, pdIx, pdNeg, pdRev, Bo.get, Sl.con, Sl.put, O.dat, datL, datF, O.rd, noD, wipeS, slotsOf, endsP, outs0, outs1, outs2, ioNil, ioOne, List.length_cons, List.length_nil, List.replicate, List.cons_append, List.nil_append, List.set_cons_zero, List.set_cons_succ, List.getElem?_cons_zero, List.getElem?_cons_succ, List.getElem?_nil, List.getD_cons_zero, List.getD_cons_succ, List.filterMap_cons, List.filterMap_nil, Option.map_some, Option.bind_some, Option.map, Option.some.injEq, List.cons.injEq, O.sh.injEq, O.lst.injEq, O.dct.injEq, false_and, and_false, Sl.ow.injEq, Sl.io.injEq, PyData.int.injEq, PyData.bool.injEq, PyData.str.injEq, PyData.list.injEq, PyData.tuple.injEq, reduceCtorEq, exists_eq_left, exists_eq_left', exists_eq', exists_const, exists_and_left, exists_and_right, and_assoc, false_or, or_false, Int.toNat_natCast, Bool.false_eq_true, and_true, true_and, and_self, ne_eq, not_false_eq_true, not_true_eq_false, if_true, if_false, ↓reduceIte, Nat.reduceSub, Nat.reduceAdd, Nat.reduceEqDiff, at30, at31, at32, ix30, ix32, Nat.succ_ne_zero, List.length_map]
  refine ⟨by rw [sizeLine_eq]; omega, by omega, by omega, leaps_out (total := leapsL xs n) hf (by omega) (fun s3 s4 => ?_) _ _ ⟨List.range xs.length, [], .em, .em, ?_, rfl, rfl, .inl rfl, .inl rfl, fun y hy => List.mem_range.mp hy⟩⟩
  · simp (config := { maxSteps := 2000000 }) only [vNext, vSeq, vBreak, vCont, vIfS, vRet, vRetN, vDrop, canSet_eq, sf_em, sf_ow, Option.elim_some, vAsg, vPar, gvName, gvNil, gvCons, gvTup, vAsgG, vFor, vWhile, vYes, vC, vVar, vMove, vSlot, vSh, vOp, vTest, vAnd, vOr, vNot, vAndV, vOrV, vNotV, vIf, vNilA, vConsA, getA, valsA, vTup, vLst, vNoPart, vPart, vSl, vUn, vCB, vChain, pIsi, pIsiT, ioIdx, resolve, pb, callB, vCall, vCallK, permute, pd1, pLen, pAbs, pInt1, pTuple, pList, pRepr, vSeqI, vRng1, vRng2, vZip, vEnum, vMth, vMeth, pmAppend, pmExtend, pmPop, vSetIx, vAug, vOrT, truD, pdAdd, pdSub, pdMul, pdFdiv, pdMod, pdPow, pdInt, pdEq, pdNe, bothStr, true_or, or_true, pdOrd, pdLt, pdGt, pdLe, pdGe, pdIs, isNn, pdIx, pdNeg, pdRev, Bo.get, Sl.con, Sl.put, O.dat, datL, datF, O.rd, noD, wipeS, slotsOf, endsP, outs0, outs1, outs2, ioNil, ioOne, List.length_cons, List.length_nil, List.replicate, List.cons_append, List.nil_append, List.set_cons_zero, List.set_cons_succ, List.getElem?_cons_zero, List.getElem?_cons_succ, List.getElem?_nil, List.getD_cons_zero, List.getD_cons_succ, List.filterMap_cons, List.filterMap_nil, Option.map_some, Option.bind_some, Option.map, Option.some.injEq, List.cons.injEq, O.sh.injEq, O.lst.injEq, O.dct.injEq, false_and, and_false, Sl.ow.injEq, Sl.io.injEq, PyData.int.injEq, PyData.bool.injEq, PyData.str.injEq, PyData.list.injEq, PyData.tuple.injEq, reduceCtorEq, exists_eq_left, exists_eq_left', exists_eq', exists_const, exists_and_left, exists_and_right, and_assoc, false_or, or_false, Int.toNat_natCast, Bool.false_eq_true, and_true, true_and, and_self, ne_eq, not_false_eq_true, not_true_eq_false, if_true, if_false, ↓reduceIte, Nat.reduceSub, Nat.reduceAdd, Nat.reduceEqDiff, at30, at31, at32, ix30, ix32, Nat.succ_ne_zero]
    exact q
  · have e := ints_range' (lo := 0) (n := ((xs.length : Int)).toNat)
    rw [Int.toNat_natCast, ← List.range_eq_range'] at e
    exact e
end VL

set_option Elab.async false
set_option linter.all false
set_option maxRecDepth 100000
namespace VL
open PySem PySem.Spec PyProof.Rows L2
variable [Wd]
theorem shaped_int {i : Int} : SeqAt.shaped (.int i) = true := rfl
theorem shaped_bool {i : Bool} : SeqAt.shaped (.bool i) = true := rfl
theorem shaped_nil : SeqAt.shaped (.list []) = true := rfl
theorem eqv_int {i j : Int} : PyData.eqv (.int i) (.int j) = decide (i = j) := by
  show (i == j) = _
  rw [Bool.eq_iff_iff, beq_iff_eq, decide_eq_true_eq]
theorem eqv_empty {ds : List PyData} : PyData.eqv (.list ds) (.list []) = ds.isEmpty := by cases ds <;> rfl
theorem leapD_nice {xs : List Str} {n : Int} {ls : List (Nat × Nat)} (hf : Fit xs) (h : ∀ p ∈ ls, LeapOk xs n p) : ∀ d ∈ ls.map leapD, Nice 1 1000 d := by
  intro d hd
  obtain ⟨p, hp, rfl⟩ := List.mem_map.mp hd
  obtain ⟨p1, p2, _⟩ := h p hp
  have := hf.len
  refine (nice_tup (n := 2) (k := 0) (w := 50) (fun d hd => ?_) (Nat.le_refl _)).mono (Nat.le_refl _) (by decide)
  rcases List.mem_cons.mp hd with z | z
  · rw [z]; exact nice_small (by omega)
  · rw [List.mem_singleton.mp z]; exact nice_small (by omega)
theorem page_loop {v1 : V} {xs : List Str} {m : Nat} {n : Int} {D : VEnds} (hm : m ≤ 100) (fin : ∀ bx ys s3 s4, isBox bx → Small ys m → From n xs ys → D.nx [.io v1 bx, .ow (.sh (.tuple (ys.map .str))), .ow (.sh (.int n)), s3, s4]) :
    ∀ rem S, (∃ (bx : O) (ys : List Str) (s3 s4 : Sl), S = [Sl.io v1 bx, .ow (.sh (.tuple (ys.map .str))), .ow (.sh (.int n)), s3, s4] ∧ isBox bx ∧ Small ys m ∧ From n xs ys ∧ Free s3 ∧ Free s4) →
    forW (gvName 3) (vSeq (vAsg (vCall [false, false] Leaps (vConsA (vSh (vVar 1)) (vConsA (vSh (vVar 2)) vNilA))) 4) (vAsg (vIf (vTest (vOp pdEq (vSlot 4) (vSh (vLst vNilA)))) (vVar 1) (vCall [false, false] Leapt (vConsA (vSh (vVar 1)) (vConsA (vSh (vCall [true, false] OneOf (vConsA (vSlot 0) (vConsA (vSh (vVar 4)) vNilA)))) vNilA)))) 1)) D rem S := by
  refine for_ind _ ?_ ?_
  · rintro x rem S K hK ⟨bx, ys, s3, s4, rfl, hb, hy, hB, f3, f4⟩
    have fy := hy.fit (by omega)
    have ly := hy.len
    rcases f3 with rfl | ⟨o3, rfl⟩
    all_goals
      rcases f4 with rfl | ⟨o4, rfl⟩
      all_goals
        simp (config := { maxSteps := 2000000 }) only [vNext, vSeq, vBreak, vCont, vIfS, vRet, vRetN, vDrop, canSet_eq, sf_em, sf_ow, Option.elim_some, vAsg, vPar, gvName, gvNil, gvCons, gvTup, vAsgG, vFor, vWhile, vYes, vC, vVar, vMove, vSlot, vSh, vOp, vTest, vAnd, vOr, vNot, vAndV, vOrV, vNotV, vIf, vNilA, vConsA, getA, valsA, vTup, vLst, vNoPart, vPart, vSl, vUn, vCB, vChain, pIsi, pIsiT, ioIdx, resolve, pb, callB, vCall, vCallK, permute, pd1, pLen, pAbs, pInt1, pTuple, pList, pRepr, vSeqI, vRng1, vRng2, vZip, vEnum, vMth, vMeth, pmAppend, pmExtend, pmPop, vSetIx, vAug, vOrT, truD, pdAdd, pdSub, pdMul, pdFdiv, pdMod, pdPow, pdInt, pdEq, pdNe, bothStr, true_or, or_true, pdOrd, pdLt, pdGt, pdLe, pdGe, pdIs, isNn, pdIx, pdNeg, pdRev, Bo.get, Sl.con, Sl.put, O.dat, datL, datF, O.rd, noD, wipeS, slotsOf, endsP, outs0, outs1, outs2, ioNil, ioOne, List.length_cons, List.length_nil, List.replicate, List.cons_append, List.nil_append, List.set_cons_zero, List.set_cons_succ, List.getElem?_cons_zero, List.getElem?_cons_succ, List.getElem?_nil, List.getD_cons_zero, List.getD_cons_succ, List.filterMap_cons, List.filterMap_nil, Option.map_some, Option.bind_some, Option.map, Option.some.injEq, List.cons.injEq, O.sh.injEq, O.lst.injEq, O.dct.injEq, false_and, and_false, Sl.ow.injEq, Sl.io.injEq, PyData.int.injEq, PyData.bool.injEq, PyData.str.injEq, PyData.list.injEq, PyData.tuple.injEq, reduceCtorEq, exists_eq_left, exists_eq_left', exists_eq', exists_const, exists_and_left, exists_and_right, and_assoc, false_or, or_false, Int.toNat_natCast, Bool.false_eq_true, and_true, true_and, and_self, ne_eq, not_false_eq_true, not_true_eq_false, if_true, if_false, ↓reduceIte, Nat.reduceSub, Nat.reduceAdd, Nat.reduceEqDiff, at30, at31, at32, ix30, ix32, Nat.succ_ne_zero, Leaps]
        refine ⟨ys, rfl, fy, ?_⟩
        have g1 : ∀ p ∈ leapsL ys n, LeapOk ys n p := fun p hp => mem_leapsL.mp hp
        have g2 := leapsL_len (xs := ys) (n := n)
        have sq : ys.length * ys.length ≤ 100 * 100 := Nat.mul_le_mul (by omega) (by omega)
        simp (config := { maxSteps := 2000000 }) only [vNext, vSeq, vBreak, vCont, vIfS, vRet, vRetN, vDrop, canSet_eq, sf_em, sf_ow, Option.elim_some, vAsg, vPar, gvName, gvNil, gvCons, gvTup, vAsgG, vFor, vWhile, vYes, vC, vVar, vMove, vSlot, vSh, vOp, vTest, vAnd, vOr, vNot, vAndV, vOrV, vNotV, vIf, vNilA, vConsA, getA, valsA, vTup, vLst, vNoPart, vPart, vSl, vUn, vCB, vChain, pIsi, pIsiT, ioIdx, resolve, pb, callB, vCall, vCallK, permute, pd1, pLen, pAbs, pInt1, pTuple, pList, pRepr, vSeqI, vRng1, vRng2, vZip, vEnum, vMth, vMeth, pmAppend, pmExtend, pmPop, vSetIx, vAug, vOrT, truD, pdAdd, pdSub, pdMul, pdFdiv, pdMod, pdPow, pdInt, pdEq, pdNe, bothStr, true_or, or_true, pdOrd, pdLt, pdGt, pdLe, pdGe, pdIs, isNn, pdIx, pdNeg, pdRev, Bo.get, Sl.con, Sl.put, O.dat, datL, datF, O.rd, noD, wipeS, slotsOf, endsP, outs0, outs1, outs2, ioNil, ioOne, List.length_cons, List.length_nil, List.replicate, List.cons_append, List.nil_append, List.set_cons_zero, List.set_cons_succ, List.getElem?_cons_zero, List.getElem?_cons_succ, List.getElem?_nil, List.getD_cons_zero, List.getD_cons_succ, List.filterMap_cons, List.filterMap_nil, Option.map_some, Option.bind_some, Option.map, Option.some.injEq, List.cons.injEq, O.sh.injEq, O.lst.injEq, O.dct.injEq, false_and, and_false, Sl.ow.injEq, Sl.io.injEq, PyData.int.injEq, PyData.bool.injEq, PyData.str.injEq, PyData.list.injEq, PyData.tuple.injEq, reduceCtorEq, exists_eq_left, exists_eq_left', exists_eq', exists_const, exists_and_left, exists_and_right, and_assoc, false_or, or_false, Int.toNat_natCast, Bool.false_eq_true, and_true, true_and, and_self, ne_eq, not_false_eq_true, not_true_eq_false, if_true, if_false, ↓reduceIte, Nat.reduceSub, Nat.reduceAdd, Nat.reduceEqDiff, at30, at31, at32, ix30, ix32, Nat.succ_ne_zero, shaped_nil, eqv_empty, OneOf, itemsD, Leapt]
        refine ⟨by rw [sizeLine_eq]; omega, list_shaped (leapD_nice fy g1) (by decide), ?_⟩
        cases e : ((leapsL ys n).map leapD).isEmpty
        · rw [if_neg Bool.false_ne_true]
          refine ⟨hb, fun z => ?_, by rw [List.length_map]; omega, fun x1 b2 hx1 hb2 => ?_⟩
          · rw [z] at e
            cases e
          · obtain ⟨p, hp, rfl⟩ := List.mem_map.mp hx1
            obtain ⟨p1, p2, _⟩ := g1 p hp
            exact ⟨ys, rfl, p, rfl, fy, p1, p2, hK _ ⟨b2, leapt ys p, _, _, rfl, hb2, leapt_small hy p1 p2, hB.leap (g1 p hp), .inr ⟨_, rfl⟩, .inr ⟨_, rfl⟩⟩⟩
        · rw [if_pos rfl]
          exact hK _ ⟨bx, ys, _, _, rfl, hb, hy, hB, .inr ⟨_, rfl⟩, .inr ⟨_, rfl⟩⟩
  · rintro S ⟨bx, ys, s3, s4, rfl, hb, hy, hB, _⟩
    exact fin bx ys s3 s4 hb hy hB
theorem run__law_page : Runs ms__law_page Page t__law_page 2 := by
  rintro vs os R h1 h2 sh ⟨bx, xs, m, n, rfl, hb, hx, hm, q⟩
  obtain ⟨v1, v2, v3, rfl⟩ := len3 h1
  unfold t__law_page
  simp (config := { maxSteps := 2000000 }) only [vNext, vSeq, vBreak, vCont, vIfS, vRet, vRetN, vDrop, canSet_eq, sf_em, sf_ow, Option.elim_some, vAsg, vPar, gvName, gvNil, gvCons, gvTup, vAsgG, vFor, vWhile, vYes, vC, vVar, vMove, vSlot, vSh, vOp, vTest, vAnd, vOr, vNot, vAndV, vOrV, vNotV, vIf, vNilA, vConsA, getA, valsA, vTup, vLst, vNoPart, vPart, vSl, vUn, vCB, vChain, pIsi, pIsiT, ioIdx, resolve, pb, callB, vCall, vCallK, permute, pd1, pLen, pAbs, pInt1, pTuple, pList, pRepr, vSeqI, vRng1, vRng2, vZip, vEnum, vMth, vMeth, pmAppend, pmExtend, pmPop, vSetIx, vAug, vOrT, truD, pdAdd, pdSub, pdMul, pdFdiv, pdMod, pdPow, pdInt, pdEq, pdNe, bothStr, true_or, or_true, pdOrd, pdLt, pdGt, pdLe, pdGe, pdIs, isNn, pdIx, pdNeg, pdRev, Bo.get, Sl.con, Sl.put, O.dat, datL, datF, O.rd, noD, wipeS, slotsOf, endsP, outs0, outs1, outs2, ioNil, ioOne, List.length_cons, List.length_nil, List.replicate, List.cons_append, List.nil_append, List.set_cons_zero, List.set_cons_succ, List.getElem?_cons_zero, List.getElem?_cons_succ, List.getElem?_nil, List.getD_cons_zero, List.getD_cons_succ, List.filterMap_cons, List.filterMap_nil, Option.map_some, Option.bind_some, Option.map, Option.some.injEq, List.cons.injEq, O.sh.injEq, O.lst.injEq, O.dct.injEq, false_and, and_false, Sl.ow.injEq, Sl.io.injEq, PyData.int.injEq, PyData.bool.injEq, PyData.str.injEq, PyData.list.injEq, PyData.tuple.injEq, reduceCtorEq, exists_eq_left, exists_eq_left', exists_eq', exists_const, exists_and_left, exists_and_right, and_assoc, false_or, or_false, Int.toNat_natCast, Bool.false_eq_true, and_true, true_and, and_self, ne_eq, not_false_eq_true, not_true_eq_false, if_true, if_false, ↓reduceIte, Nat.reduceSub, Nat.reduceAdd, Nat.reduceEqDiff, at30, at31, at32, ix30, ix32, Nat.succ_ne_zero, spec__law_take, Take]
  refine ⟨hb, by decide, by decide, fun k b1 k0 k1 hb1 => ⟨by omega, by omega, page_loop (xs := xs) hm (fun b2 ys s3 s4 g1 g2 g3 => ?_) _ _ ⟨b1, xs, .em, .em, rfl, hb1, hx, .self, .inl rfl, .inl rfl⟩⟩⟩
  simp (config := { maxSteps := 2000000 }) only [vNext, vSeq, vBreak, vCont, vIfS, vRet, vRetN, vDrop, canSet_eq, sf_em, sf_ow, Option.elim_some, vAsg, vPar, gvName, gvNil, gvCons, gvTup, vAsgG, vFor, vWhile, vYes, vC, vVar, vMove, vSlot, vSh, vOp, vTest, vAnd, vOr, vNot, vAndV, vOrV, vNotV, vIf, vNilA, vConsA, getA, valsA, vTup, vLst, vNoPart, vPart, vSl, vUn, vCB, vChain, pIsi, pIsiT, ioIdx, resolve, pb, callB, vCall, vCallK, permute, pd1, pLen, pAbs, pInt1, pTuple, pList, pRepr, vSeqI, vRng1, vRng2, vZip, vEnum, vMth, vMeth, pmAppend, pmExtend, pmPop, vSetIx, vAug, vOrT, truD, pdAdd, pdSub, pdMul, pdFdiv, pdMod, pdPow, pdInt, pdEq, pdNe, bothStr, true_or, or_true, pdOrd, pdLt, pdGt, pdLe, pdGe, pdIs, isNn, pdIx, pdNeg, pdRev, Bo.get, Sl.con, Sl.put, O.dat, datL, datF, O.rd, noD, wipeS, slotsOf, endsP, outs0, outs1, outs2, ioNil, ioOne, List.length_cons, List.length_nil, List.replicate, List.cons_append, List.nil_append, List.set_cons_zero, List.set_cons_succ, List.getElem?_cons_zero, List.getElem?_cons_succ, List.getElem?_nil, List.getD_cons_zero, List.getD_cons_succ, List.filterMap_cons, List.filterMap_nil, Option.map_some, Option.bind_some, Option.map, Option.some.injEq, List.cons.injEq, O.sh.injEq, O.lst.injEq, O.dct.injEq, false_and, and_false, Sl.ow.injEq, Sl.io.injEq, PyData.int.injEq, PyData.bool.injEq, PyData.str.injEq, PyData.list.injEq, PyData.tuple.injEq, reduceCtorEq, exists_eq_left, exists_eq_left', exists_eq', exists_const, exists_and_left, exists_and_right, and_assoc, false_or, or_false, Int.toNat_natCast, Bool.false_eq_true, and_true, true_and, and_self, ne_eq, not_false_eq_true, not_true_eq_false, if_true, if_false, ↓reduceIte, Nat.reduceSub, Nat.reduceAdd, Nat.reduceEqDiff, at30, at31, at32, ix30, ix32, Nat.succ_ne_zero]
  exact q ys b2 g2 g3 g1
end VL

set_option Elab.async false
set_option linter.all false
set_option maxRecDepth 100000
set_option maxHeartbeats 1000000
namespace VL
open PySem PySem.Spec PyProof.Rows L2
variable [Wd]
theorem seq_cut {t u : VS} {D : VEnds} {S : Ss} (I : Ss → Prop) (h1 : ∀ K : Ss → Prop, (∀ S', I S' → K S') → t { D with nx := K } S) (h2 : ∀ S', I S' → u D S') : vSeq t u D S := h1 (u D) h2
theorem nodup_len {α : Type} [BEq α] [LawfulBEq α] : ∀ {l xs : List α}, l.Nodup → (∀ z ∈ l, z ∈ xs) → l.length ≤ xs.length
  | [], _, _, _ => Nat.zero_le _
  | x :: l, xs, nd, sub => by
    obtain ⟨n1, n2⟩ := List.nodup_cons.mp nd
    have hx : x ∈ xs := sub x List.mem_cons_self
    have q := nodup_len (xs := xs.erase x) n2 fun z hz => (List.mem_erase_of_ne (fun e : z = x => n1 (by rw [← e]; exact hz))).mpr (sub z (List.mem_cons_of_mem _ hz))
    rw [List.length_erase_of_mem hx] at q
    have := List.length_pos_of_mem hx
    rw [List.length_cons]
    omega
def twoW : List Str := ["zz", "a"]
theorem twoW_ok : ∀ w ∈ twoW, PyData.strOk w = true ∧ w.length ≤ 8 := by decide +kernel
theorem run__law_changed : Runs ms__law_changed Changed t__law_changed 4 := by
  rintro vs os R h1 h2 sh ⟨bx, xs, m, rfl, hb, hx, hm, q⟩
  obtain ⟨v1, v2, rfl⟩ := len2 h1
  unfold t__law_changed
  have lx := hx.len
  have px := len_pos hx.ne
  have fin : ∀ (bx' : O) (ys : List Str), isBox bx' → ys ≠ [] → ys.length ≤ xs.length + 1 → (∀ w ∈ ys, PyData.strOk w = true ∧ w.length ≤ 8) → ∀ ds, ds = ys.map PyData.str → R (.sh (.tuple ds)) [bx', .sh (.tuple (xs.map .str))] := by
    rintro bx' ys b n l w ds rfl
    exact q ys bx' ⟨n, by omega, w⟩ b
  refine seq_cut (fun S' => ∃ zs : List Str, S' = [Sl.io v1 bx, .ow (.sh (.tuple (xs.map .str))), .ow (.lst (zs.map .str)), .em, .em, .em] ∧ zs ≠ [] ∧ zs.length ≤ 103 ∧ ∀ w ∈ zs, PyData.strOk w = true ∧ w.length ≤ 8) ?_ ?_
  · intro K hK
    simp (config := { maxSteps := 2000000 }) only [vNext, vSeq, vBreak, vCont, vIfS, vRet, vRetN, vDrop, canSet_eq, sf_em, sf_ow, Option.elim_some, vAsg, vPar, gvName, gvNil, gvCons, gvTup, vAsgG, vFor, vWhile, vYes, vC, vVar, vMove, vSlot, vSh, vOp, vTest, vAnd, vOr, vNot, vAndV, vOrV, vNotV, vIf, vNilA, vConsA, getA, valsA, vTup, vLst, vNoPart, vPart, vSl, vUn, vCB, vChain, pIsi, pIsiT, ioIdx, resolve, pb, callB, vCall, vCallK, permute, pd1, pLen, pAbs, pInt1, pTuple, pList, pRepr, vSeqI, vRng1, vRng2, vZip, vEnum, vMth, vMeth, pmAppend, pmExtend, pmPop, vSetIx, vAug, vOrT, truD, pdAdd, pdSub, pdMul, pdFdiv, pdMod, pdPow, pdInt, pdEq, pdNe, bothStr, true_or, or_true, pdOrd, pdLt, pdGt, pdLe, pdGe, pdIs, isNn, pdIx, pdNeg, pdRev, Bo.get, Sl.con, Sl.put, O.dat, datL, datF, O.rd, noD, wipeS, slotsOf, endsP, outs0, outs1, outs2, ioNil, ioOne, List.length_cons, List.length_nil, List.replicate, List.cons_append, List.nil_append, List.set_cons_zero, List.set_cons_succ, List.getElem?_cons_zero, List.getElem?_cons_succ, List.getElem?_nil, List.getD_cons_zero, List.getD_cons_succ, List.filterMap_cons, List.filterMap_nil, Option.map_some, Option.bind_some, Option.map, Option.some.injEq, List.cons.injEq, O.sh.injEq, O.lst.injEq, O.dct.injEq, false_and, and_false, Sl.ow.injEq, Sl.io.injEq, PyData.int.injEq, PyData.bool.injEq, PyData.str.injEq, PyData.list.injEq, PyData.tuple.injEq, reduceCtorEq, exists_eq_left, exists_eq_left', exists_eq', exists_const, exists_and_left, exists_and_right, and_assoc, false_or, or_false, Int.toNat_natCast, Bool.false_eq_true, and_true, true_and, and_self, ne_eq, not_false_eq_true, not_true_eq_false, if_true, if_false, ↓reduceIte, Nat.reduceSub, Nat.reduceAdd, Nat.reduceEqDiff, at30, at31, at32, ix30, ix32, Nat.succ_ne_zero, pSortedSet, itemsD]
    refine ⟨xs, rfl, by omega, fun zs nd mem _ => ⟨by rw [sizeLine_eq]; omega, ?_, hK _ ⟨zs ++ twoW, by rw [List.map_append]; rfl, by simp [twoW], ?_, fun w hw => ?_⟩⟩⟩
    · have := nodup_len nd fun z hz => (mem z).mp hz
      rw [List.length_map, sizeLine_eq]
      omega
    · have := nodup_len nd fun z hz => (mem z).mp hz
      rw [List.length_append]
      show zs.length + 2 ≤ 103
      omega
    · rcases List.mem_append.mp hw with z | z
      · exact hx.wd w ((mem w).mp z)
      · exact twoW_ok w z
  rintro S1 ⟨zs, rfl, nz, lz, wz⟩
  refine seq_cut (fun S' => ∃ (b2 : O) (j k : Nat), S' = [Sl.io v1 b2, .ow (.sh (.tuple (xs.map .str))), .ow (.lst (zs.map .str)), .em, .ow (.sh (.int (j : Nat))), .ow (.sh (.int (k : Nat)))] ∧ isBox b2 ∧ j < xs.length) ?_ ?_
  · intro K hK
    simp (config := { maxSteps := 2000000 }) only [vNext, vSeq, vBreak, vCont, vIfS, vRet, vRetN, vDrop, canSet_eq, sf_em, sf_ow, Option.elim_some, vAsg, vPar, gvName, gvNil, gvCons, gvTup, vAsgG, vFor, vWhile, vYes, vC, vVar, vMove, vSlot, vSh, vOp, vTest, vAnd, vOr, vNot, vAndV, vOrV, vNotV, vIf, vNilA, vConsA, getA, valsA, vTup, vLst, vNoPart, vPart, vSl, vUn, vCB, vChain, pIsi, pIsiT, ioIdx, resolve, pb, callB, vCall, vCallK, permute, pd1, pLen, pAbs, pInt1, pTuple, pList, pRepr, vSeqI, vRng1, vRng2, vZip, vEnum, vMth, vMeth, pmAppend, pmExtend, pmPop, vSetIx, vAug, vOrT, truD, pdAdd, pdSub, pdMul, pdFdiv, pdMod, pdPow, pdInt, pdEq, pdNe, bothStr, true_or, or_true, pdOrd, pdLt, pdGt, pdLe, pdGe, pdIs, isNn, pdIx, pdNeg, pdRev, Bo.get, Sl.con, Sl.put, O.dat, datL, datF, O.rd, noD, wipeS, slotsOf, endsP, outs0, outs1, outs2, ioNil, ioOne, List.length_cons, List.length_nil, List.replicate, List.cons_append, List.nil_append, List.set_cons_zero, List.set_cons_succ, List.getElem?_cons_zero, List.getElem?_cons_succ, List.getElem?_nil, List.getD_cons_zero, List.getD_cons_succ, List.filterMap_cons, List.filterMap_nil, Option.map_some, Option.bind_some, Option.map, Option.some.injEq, List.cons.injEq, O.sh.injEq, O.lst.injEq, O.dct.injEq, false_and, and_false, Sl.ow.injEq, Sl.io.injEq, PyData.int.injEq, PyData.bool.injEq, PyData.str.injEq, PyData.list.injEq, PyData.tuple.injEq, reduceCtorEq, exists_eq_left, exists_eq_left', exists_eq', exists_const, exists_and_left, exists_and_right, and_assoc, false_or, or_false, Int.toNat_natCast, Bool.false_eq_true, and_true, true_and, and_self, ne_eq, not_false_eq_true, not_true_eq_false, if_true, if_false, ↓reduceIte, Nat.reduceSub, Nat.reduceAdd, Nat.reduceEqDiff, at30, at31, at32, ix30, ix32, Nat.succ_ne_zero, spec__law_take, Take, List.length_map]
    refine ⟨hb, by omega, by omega, fun j b1 j0 j1 hb1 => ⟨hb1, by decide, by decide, fun k b2 k0 k1 hb2 => ?_⟩⟩
    refine hK _ ⟨b2, j.toNat, k.toNat, ?_, hb2, by omega⟩
    rw [Int.toNat_of_nonneg j0, Int.toNat_of_nonneg k0]
  rintro S2 ⟨b2, j, k, rfl, hb2, hj⟩
  have e1 : ((j : Nat) : Int) + 1 = ((j + 1 : Nat) : Int) := rfl
  have e2 : ((j : Nat) : Int) + 2 = ((j + 2 : Nat) : Int) := rfl
  have wt : ∀ {n : Nat} {w : Str}, w ∈ xs.take n → PyData.strOk w = true ∧ w.length ≤ 8 := fun h => hx.wd _ (List.mem_of_mem_take h)
  have wd : ∀ {n : Nat} {w : Str}, w ∈ xs.drop n → PyData.strOk w = true ∧ w.length ≤ 8 := fun h => hx.wd _ (List.mem_of_mem_drop h)
  refine seq_cut (fun S' => S' = [Sl.io v1 b2, .ow (.sh (.tuple (xs.map .str))), .ow (.lst (zs.map .str)), .em, .ow (.sh (.int (j : Nat))), .ow (.sh (.int (k : Nat)))]) ?_ ?_
  · intro K hK
    simp (config := { maxSteps := 2000000 }) only [vNext, vSeq, vBreak, vCont, vIfS, vRet, vRetN, vDrop, canSet_eq, sf_em, sf_ow, Option.elim_some, vAsg, vPar, gvName, gvNil, gvCons, gvTup, vAsgG, vFor, vWhile, vYes, vC, vVar, vMove, vSlot, vSh, vOp, vTest, vAnd, vOr, vNot, vAndV, vOrV, vNotV, vIf, vNilA, vConsA, getA, valsA, vTup, vLst, vNoPart, vPart, vSl, vUn, vCB, vChain, pIsi, pIsiT, ioIdx, resolve, pb, callB, vCall, vCallK, permute, pd1, pLen, pAbs, pInt1, pTuple, pList, pRepr, vSeqI, vRng1, vRng2, vZip, vEnum, vMth, vMeth, pmAppend, pmExtend, pmPop, vSetIx, vAug, vOrT, truD, pdAdd, pdSub, pdMul, pdFdiv, pdMod, pdPow, pdInt, pdEq, pdNe, bothStr, true_or, or_true, pdOrd, pdLt, pdGt, pdLe, pdGe, pdIs, isNn, pdIx, pdNeg, pdRev, Bo.get, Sl.con, Sl.put, O.dat, datL, datF, O.rd, noD, wipeS, slotsOf, endsP, outs0, outs1, outs2, ioNil, ioOne, List.length_cons, List.length_nil, List.replicate, List.cons_append, List.nil_append, List.set_cons_zero, List.set_cons_succ, List.getElem?_cons_zero, List.getElem?_cons_succ, List.getElem?_nil, List.getD_cons_zero, List.getD_cons_succ, List.filterMap_cons, List.filterMap_nil, Option.map_some, Option.bind_some, Option.map, Option.some.injEq, List.cons.injEq, O.sh.injEq, O.lst.injEq, O.dct.injEq, false_and, and_false, Sl.ow.injEq, Sl.io.injEq, PyData.int.injEq, PyData.bool.injEq, PyData.str.injEq, PyData.list.injEq, PyData.tuple.injEq, reduceCtorEq, exists_eq_left, exists_eq_left', exists_eq', exists_const, exists_and_left, exists_and_right, and_assoc, false_or, or_false, Int.toNat_natCast, Bool.false_eq_true, and_true, true_and, and_self, ne_eq, not_false_eq_true, not_true_eq_false, if_true, if_false, ↓reduceIte, Nat.reduceSub, Nat.reduceAdd, Nat.reduceEqDiff, at30, at31, at32, ix30, ix32, Nat.succ_ne_zero, shaped_int, eqv_int, pdSl, cutD_cutL, e1, cutL_take, cutL_drop, spec__law_of, OneOf, itemsD, List.length_map, List.length_append, List.length_take, List.length_drop]
    split
    · refine ⟨hb2, fun z => nz (List.map_eq_nil_iff.mp z), by omega, fun x b3 hx3 hb3 => ?_⟩
      obtain ⟨w, hw, rfl⟩ := List.mem_map.mp hx3
      refine ⟨by rw [sizeLine_eq]; omega, by rw [sizeLine_eq]; omega, by rw [sizeLine_eq]; omega, ?_⟩
      refine fin b3 (xs.take j ++ [w] ++ xs.drop (j + 1)) hb3 (by simp) ?_ (fun y hy => ?_) _ (by simp)
      · rw [List.length_append, List.length_append, List.length_take, List.length_drop, List.length_singleton]
        omega
      · rcases List.mem_append.mp hy with z | z
        · rcases List.mem_append.mp z with z | z
          · exact wt z
          · rw [List.mem_singleton.mp z]; exact wz w hw
        · exact wd z
    · exact hK _ rfl
  rintro S3 rfl
  refine seq_cut (fun S' => S' = [Sl.io v1 b2, .ow (.sh (.tuple (xs.map .str))), .ow (.lst (zs.map .str)), .em, .ow (.sh (.int (j : Nat))), .ow (.sh (.int (k : Nat)))]) ?_ ?_
  · intro K hK
    simp (config := { maxSteps := 2000000 }) only [vNext, vSeq, vBreak, vCont, vIfS, vRet, vRetN, vDrop, canSet_eq, sf_em, sf_ow, Option.elim_some, vAsg, vPar, gvName, gvNil, gvCons, gvTup, vAsgG, vFor, vWhile, vYes, vC, vVar, vMove, vSlot, vSh, vOp, vTest, vAnd, vOr, vNot, vAndV, vOrV, vNotV, vIf, vNilA, vConsA, getA, valsA, vTup, vLst, vNoPart, vPart, vSl, vUn, vCB, vChain, pIsi, pIsiT, ioIdx, resolve, pb, callB, vCall, vCallK, permute, pd1, pLen, pAbs, pInt1, pTuple, pList, pRepr, vSeqI, vRng1, vRng2, vZip, vEnum, vMth, vMeth, pmAppend, pmExtend, pmPop, vSetIx, vAug, vOrT, truD, pdAdd, pdSub, pdMul, pdFdiv, pdMod, pdPow, pdInt, pdEq, pdNe, bothStr, true_or, or_true, pdOrd, pdLt, pdGt, pdLe, pdGe, pdIs, isNn, pdIx, pdNeg, pdRev, Bo.get, Sl.con, Sl.put, O.dat, datL, datF, O.rd, noD, wipeS, slotsOf, endsP, outs0, outs1, outs2, ioNil, ioOne, List.length_cons, List.length_nil, List.replicate, List.cons_append, List.nil_append, List.set_cons_zero, List.set_cons_succ, List.getElem?_cons_zero, List.getElem?_cons_succ, List.getElem?_nil, List.getD_cons_zero, List.getD_cons_succ, List.filterMap_cons, List.filterMap_nil, Option.map_some, Option.bind_some, Option.map, Option.some.injEq, List.cons.injEq, O.sh.injEq, O.lst.injEq, O.dct.injEq, false_and, and_false, Sl.ow.injEq, Sl.io.injEq, PyData.int.injEq, PyData.bool.injEq, PyData.str.injEq, PyData.list.injEq, PyData.tuple.injEq, reduceCtorEq, exists_eq_left, exists_eq_left', exists_eq', exists_const, exists_and_left, exists_and_right, and_assoc, false_or, or_false, Int.toNat_natCast, Bool.false_eq_true, and_true, true_and, and_self, ne_eq, not_false_eq_true, not_true_eq_false, if_true, if_false, ↓reduceIte, Nat.reduceSub, Nat.reduceAdd, Nat.reduceEqDiff, at30, at31, at32, ix30, ix32, Nat.succ_ne_zero, shaped_int, eqv_int, pdSl, cutD_cutL, e1, cutL_take, cutL_drop, List.length_map, List.length_append, List.length_take, List.length_drop]
    by_cases hk : (k : Int) = 1
    · rw [if_pos (decide_eq_true hk)]
      by_cases hl : (1 : Int) < xs.length
      · rw [if_pos (decide_eq_true hl)]
        refine ⟨by rw [sizeLine_eq]; omega, fin b2 (xs.take j ++ xs.drop (j + 1)) hb2 (fun z => ?_) ?_ (fun y hy => ?_) _ (by simp)⟩
        · have := congrArg List.length z
          rw [List.length_append, List.length_take, List.length_drop, List.length_nil] at this
          omega
        · rw [List.length_append, List.length_take, List.length_drop]
          omega
        · rcases List.mem_append.mp hy with z | z
          · exact wt z
          · exact wd z
      · rw [if_neg (by rw [decide_eq_false hl]; exact Bool.false_ne_true)]
        exact hK _ rfl
    · rw [if_neg (by rw [decide_eq_false hk]; exact Bool.false_ne_true)]
      exact hK _ rfl
  rintro S4 rfl
  refine seq_cut (fun S' => S' = [Sl.io v1 b2, .ow (.sh (.tuple (xs.map .str))), .ow (.lst (zs.map .str)), .em, .ow (.sh (.int (j : Nat))), .ow (.sh (.int (k : Nat)))]) ?_ ?_
  · intro K hK
    simp (config := { maxSteps := 2000000 }) only [vNext, vSeq, vBreak, vCont, vIfS, vRet, vRetN, vDrop, canSet_eq, sf_em, sf_ow, Option.elim_some, vAsg, vPar, gvName, gvNil, gvCons, gvTup, vAsgG, vFor, vWhile, vYes, vC, vVar, vMove, vSlot, vSh, vOp, vTest, vAnd, vOr, vNot, vAndV, vOrV, vNotV, vIf, vNilA, vConsA, getA, valsA, vTup, vLst, vNoPart, vPart, vSl, vUn, vCB, vChain, pIsi, pIsiT, ioIdx, resolve, pb, callB, vCall, vCallK, permute, pd1, pLen, pAbs, pInt1, pTuple, pList, pRepr, vSeqI, vRng1, vRng2, vZip, vEnum, vMth, vMeth, pmAppend, pmExtend, pmPop, vSetIx, vAug, vOrT, truD, pdAdd, pdSub, pdMul, pdFdiv, pdMod, pdPow, pdInt, pdEq, pdNe, bothStr, true_or, or_true, pdOrd, pdLt, pdGt, pdLe, pdGe, pdIs, isNn, pdIx, pdNeg, pdRev, Bo.get, Sl.con, Sl.put, O.dat, datL, datF, O.rd, noD, wipeS, slotsOf, endsP, outs0, outs1, outs2, ioNil, ioOne, List.length_cons, List.length_nil, List.replicate, List.cons_append, List.nil_append, List.set_cons_zero, List.set_cons_succ, List.getElem?_cons_zero, List.getElem?_cons_succ, List.getElem?_nil, List.getD_cons_zero, List.getD_cons_succ, List.filterMap_cons, List.filterMap_nil, Option.map_some, Option.bind_some, Option.map, Option.some.injEq, List.cons.injEq, O.sh.injEq, O.lst.injEq, O.dct.injEq, false_and, and_false, Sl.ow.injEq, Sl.io.injEq, PyData.int.injEq, PyData.bool.injEq, PyData.str.injEq, PyData.list.injEq, PyData.tuple.injEq, reduceCtorEq, exists_eq_left, exists_eq_left', exists_eq', exists_const, exists_and_left, exists_and_right, and_assoc, false_or, or_false, Int.toNat_natCast, Bool.false_eq_true, and_true, true_and, and_self, ne_eq, not_false_eq_true, not_true_eq_false, if_true, if_false, ↓reduceIte, Nat.reduceSub, Nat.reduceAdd, Nat.reduceEqDiff, at30, at31, at32, ix30, ix32, Nat.succ_ne_zero, shaped_int, eqv_int, pdSl, cutD_cutL, cutL_take, cutL_drop, spec__law_of, OneOf, itemsD, List.length_map, List.length_append, List.length_take, List.length_drop]
    split
    · refine ⟨hb2, fun z => nz (List.map_eq_nil_iff.mp z), by omega, fun x b3 hx3 hb3 => ?_⟩
      obtain ⟨w, hw, rfl⟩ := List.mem_map.mp hx3
      refine ⟨by rw [sizeLine_eq]; omega, by rw [sizeLine_eq]; omega, by rw [sizeLine_eq]; omega, ?_⟩
      refine fin b3 (xs.take j ++ [w] ++ xs.drop j) hb3 (by simp) ?_ (fun y hy => ?_) _ (by simp)
      · rw [List.length_append, List.length_append, List.length_take, List.length_drop, List.length_singleton]
        omega
      · rcases List.mem_append.mp hy with z | z
        · rcases List.mem_append.mp z with z | z
          · exact wt z
          · rw [List.mem_singleton.mp z]; exact wz w hw
        · exact wd z
    · exact hK _ rfl
  rintro S5 rfl
  simp (config := { maxSteps := 2000000 }) only [vNext, vSeq, vBreak, vCont, vIfS, vRet, vRetN, vDrop, canSet_eq, sf_em, sf_ow, Option.elim_some, vAsg, vPar, gvName, gvNil, gvCons, gvTup, vAsgG, vFor, vWhile, vYes, vC, vVar, vMove, vSlot, vSh, vOp, vTest, vAnd, vOr, vNot, vAndV, vOrV, vNotV, vIf, vNilA, vConsA, getA, valsA, vTup, vLst, vNoPart, vPart, vSl, vUn, vCB, vChain, pIsi, pIsiT, ioIdx, resolve, pb, callB, vCall, vCallK, permute, pd1, pLen, pAbs, pInt1, pTuple, pList, pRepr, vSeqI, vRng1, vRng2, vZip, vEnum, vMth, vMeth, pmAppend, pmExtend, pmPop, vSetIx, vAug, vOrT, truD, pdAdd, pdSub, pdMul, pdFdiv, pdMod, pdPow, pdInt, pdEq, pdNe, bothStr, true_or, or_true, pdOrd, pdLt, pdGt, pdLe, pdGe, pdIs, isNn, pdIx, pdNeg, pdRev, Bo.get, Sl.con, Sl.put, O.dat, datL, datF, O.rd, noD, wipeS, slotsOf, endsP, outs0, outs1, outs2, ioNil, ioOne, List.length_cons, List.length_nil, List.replicate, List.cons_append, List.nil_append, List.set_cons_zero, List.set_cons_succ, List.getElem?_cons_zero, List.getElem?_cons_succ, List.getElem?_nil, List.getD_cons_zero, List.getD_cons_succ, List.filterMap_cons, List.filterMap_nil, Option.map_some, Option.bind_some, Option.map, Option.some.injEq, List.cons.injEq, O.sh.injEq, O.lst.injEq, O.dct.injEq, false_and, and_false, Sl.ow.injEq, Sl.io.injEq, PyData.int.injEq, PyData.bool.injEq, PyData.str.injEq, PyData.list.injEq, PyData.tuple.injEq, reduceCtorEq, exists_eq_left, exists_eq_left', exists_eq', exists_const, exists_and_left, exists_and_right, and_assoc, false_or, or_false, Int.toNat_natCast, Bool.false_eq_true, and_true, true_and, and_self, ne_eq, not_false_eq_true, not_true_eq_false, if_true, if_false, ↓reduceIte, Nat.reduceSub, Nat.reduceAdd, Nat.reduceEqDiff, at30, at31, at32, ix30, ix32, Nat.succ_ne_zero, pdSl, cutD_cutL, e2, cutL_take, cutL_drop, List.length_map, List.length_append, List.length_take, List.length_drop, List.length_reverse]
  have lc : (cutL xs (some (j : Int)) (some ((j + 2 : Nat) : Int))).length = min (j + 2) xs.length - j := by
    unfold cutL
    rw [HT.sIx_nat, HT.sIx_nat, List.length_take, List.length_drop]
    omega
  rw [lc]
  refine ⟨by rw [sizeLine_eq]; omega, by rw [sizeLine_eq]; omega, ?_⟩
  refine fin b2 (xs.take j ++ (cutL xs (some (j : Int)) (some ((j + 2 : Nat) : Int))).reverse ++ xs.drop (j + 2)) hb2 (fun z => ?_) ?_ (fun y hy => ?_) _ (by simp)
  · have := congrArg List.length z
    rw [List.length_append, List.length_append, List.length_reverse, lc, List.length_take, List.length_drop, List.length_nil] at this
    omega
  · rw [List.length_append, List.length_append, List.length_reverse, lc, List.length_take, List.length_drop]
    omega
  · rcases List.mem_append.mp hy with z | z
    · rcases List.mem_append.mp z with z | z
      · exact wt z
      · exact hx.wd _ (cutL_sub (List.mem_reverse.mp z))
    · exact wd z
end VL

set_option Elab.async false
set_option linter.all false
set_option maxRecDepth 100000
set_option maxHeartbeats 1000000
namespace VL
open PySem PySem.Spec PyProof.Rows L2
variable [Wd]
theorem strs_nice {xs : List Str} (h : ∀ w ∈ xs, wOk w) : ∀ d ∈ xs.map PyData.str, Nice 0 10002 d := by
  intro d hd
  obtain ⟨w, hw, rfl⟩ := List.mem_map.mp hd
  exact (h w hw).nice
theorem walk_loop {v1 : V} {xs : List Str} {n : Int} {k : Nat} {D : VEnds} (hf : Fit xs) (h100 : xs.length ≤ 100) (hk : k ≤ 100) (fin : ∀ b (ws : List Str) s5 s6, isBox b → ws ≠ [] → ws.length ≤ k + 1 → (∀ w ∈ ws, w ∈ xs) → D.nx [.io v1 b, .ow (.sh (.tuple (xs.map .str))), .ow (.sh (.int n)), .ow (.sh (.int (k : Nat))), .ow (.lst (ws.map .str)), s5, s6, .em, .em]) :
    ∀ rem S, (∃ (b : O) (ws : List Str) (s5 s6 : Sl), S = [Sl.io v1 b, .ow (.sh (.tuple (xs.map .str))), .ow (.sh (.int n)), .ow (.sh (.int (k : Nat))), .ow (.lst (ws.map .str)), s5, s6, .em, .em] ∧ isBox b ∧ ws ≠ [] ∧ ws.length + rem.length ≤ k + 1 ∧ (∀ w ∈ ws, w ∈ xs) ∧ Free s5 ∧ Free s6) →
    forW (gvName 5) (vSeq (vAsg (vLc (vZip (vConsA (vSh (vVar 1)) (vConsA (vSh (vSl pdSl (vSlot 1) (vPart (vC (.int 1))) vNoPart)) vNilA))) (gvTup 2 (gvCons (gvName 7) (gvCons (gvName 8) gvNil))) (vTest (vCall [false, false, false] Alike (vConsA (vSh (vVar 7)) (vConsA (vSh (vOp pdIx (vSlot 4) (vSh (vUn pdNeg (vSh (vC (.int 1))))))) (vConsA (vSh (vVar 2)) vNilA))))) (vVar 8) [7, 8]) 6) (vIfS (vTest (vOp pdNe (vSlot 6) (vSh (vLst vNilA)))) (vDrop (vMth pmAppend 4 (vConsA (vSh (vCall [true, false] OneOf (vConsA (vSlot 0) (vConsA (vSh (vVar 6)) vNilA)))) vNilA))) vNext)) D rem S := by
  refine for_ind _ ?_ ?_
  · rintro x rem S K hK ⟨b, ws, s5, s6, rfl, hb, nw, hl, hw, f5, f6⟩
    rw [List.length_cons] at hl
    have wl : wOk (lastW ws) := hf.wd _ (hw _ (lastW_mem nw))
    have two : ∀ (s6 : Sl), Free s6 → vSeq (vAsg (vLc (vZip (vConsA (vSh (vVar 1)) (vConsA (vSh (vSl pdSl (vSlot 1) (vPart (vC (.int 1))) vNoPart)) vNilA))) (gvTup 2 (gvCons (gvName 7) (gvCons (gvName 8) gvNil))) (vTest (vCall [false, false, false] Alike (vConsA (vSh (vVar 7)) (vConsA (vSh (vOp pdIx (vSlot 4) (vSh (vUn pdNeg (vSh (vC (.int 1))))))) (vConsA (vSh (vVar 2)) vNilA))))) (vVar 8) [7, 8]) 6) (vIfS (vTest (vOp pdNe (vSlot 6) (vSh (vLst vNilA)))) (vDrop (vMth pmAppend 4 (vConsA (vSh (vCall [true, false] OneOf (vConsA (vSlot 0) (vConsA (vSh (vVar 6)) vNilA)))) vNilA))) vNext) { D with nx := K, ct := K, bk := D.nx } [Sl.io v1 b, .ow (.sh (.tuple (xs.map .str))), .ow (.sh (.int n)), .ow (.sh (.int (k : Nat))), .ow (.lst (ws.map .str)), .ow (.sh x), s6, .em, .em] := by
      intro s6 f6
      refine seq_cut (fun S' => ∃ us : List Str, S' = [Sl.io v1 b, .ow (.sh (.tuple (xs.map .str))), .ow (.sh (.int n)), .ow (.sh (.int (k : Nat))), .ow (.lst (ws.map .str)), .ow (.sh x), .ow (.lst (us.map .str)), .em, .em] ∧ us.length ≤ 100 ∧ ∀ w ∈ us, w ∈ xs) ?_ ?_
      · intro K' hK'
        simp (config := { maxSteps := 2000000 }) only [vNext, vSeq, vBreak, vCont, vIfS, vRet, vRetN, vDrop, canSet_eq, sf_em, sf_ow, Option.elim_some, vAsg, vPar, gvName, gvNil, gvCons, gvTup, vAsgG, vFor, vWhile, vYes, vC, vVar, vMove, vSlot, vSh, vOp, vTest, vAnd, vOr, vNot, vAndV, vOrV, vNotV, vIf, vNilA, vConsA, getA, valsA, vTup, vLst, vNoPart, vPart, vSl, vUn, vCB, vChain, pIsi, pIsiT, ioIdx, resolve, pb, callB, vCall, vCallK, permute, pd1, pLen, pAbs, pInt1, pTuple, pList, pRepr, vSeqI, vRng1, vRng2, vZip, vEnum, vMth, vMeth, pmAppend, pmExtend, pmPop, vSetIx, vAug, vOrT, truD, pdAdd, pdSub, pdMul, pdFdiv, pdMod, pdPow, pdInt, pdEq, pdNe, bothStr, true_or, or_true, pdOrd, pdLt, pdGt, pdLe, pdGe, pdIs, isNn, pdIx, pdNeg, pdRev, Bo.get, Sl.con, Sl.put, O.dat, datL, datF, O.rd, noD, wipeS, slotsOf, endsP, outs0, outs1, outs2, ioNil, ioOne, List.length_cons, List.length_nil, List.replicate, List.cons_append, List.nil_append, List.set_cons_zero, List.set_cons_succ, List.getElem?_cons_zero, List.getElem?_cons_succ, List.getElem?_nil, List.getD_cons_zero, List.getD_cons_succ, List.filterMap_cons, List.filterMap_nil, Option.map_some, Option.bind_some, Option.map, Option.some.injEq, List.cons.injEq, O.sh.injEq, O.lst.injEq, O.dct.injEq, false_and, and_false, Sl.ow.injEq, Sl.io.injEq, PyData.int.injEq, PyData.bool.injEq, PyData.str.injEq, PyData.list.injEq, PyData.tuple.injEq, reduceCtorEq, exists_eq_left, exists_eq_left', exists_eq', exists_const, exists_and_left, exists_and_right, and_assoc, false_or, or_false, Int.toNat_natCast, Bool.false_eq_true, and_true, true_and, and_self, ne_eq, not_false_eq_true, not_true_eq_false, if_true, if_false, ↓reduceIte, Nat.reduceSub, Nat.reduceAdd, Nat.reduceEqDiff, at30, at31, at32, ix30, ix32, Nat.succ_ne_zero, vLc, pdSl, cutD_cutL, cutL_tail]
        rw [zipD_map]
        refine lc_pure _ (fun p => .str p.2) (fun p => alk p.1 (lastW ws) n) (fun p => wOk p.1) (fun p K L ok k1 k2 => ?_) _ [] (fun p hp => hf.wd _ (List.of_mem_zip hp).1) ?_ ?_
        · simp (config := { maxSteps := 2000000 }) only [vNext, vSeq, vBreak, vCont, vIfS, vRet, vRetN, vDrop, canSet_eq, sf_em, sf_ow, Option.elim_some, vAsg, vPar, gvName, gvNil, gvCons, gvTup, vAsgG, vFor, vWhile, vYes, vC, vVar, vMove, vSlot, vSh, vOp, vTest, vAnd, vOr, vNot, vAndV, vOrV, vNotV, vIf, vNilA, vConsA, getA, valsA, vTup, vLst, vNoPart, vPart, vSl, vUn, vCB, vChain, pIsi, pIsiT, ioIdx, resolve, pb, callB, vCall, vCallK, permute, pd1, pLen, pAbs, pInt1, pTuple, pList, pRepr, vSeqI, vRng1, vRng2, vZip, vEnum, vMth, vMeth, pmAppend, pmExtend, pmPop, vSetIx, vAug, vOrT, truD, pdAdd, pdSub, pdMul, pdFdiv, pdMod, pdPow, pdInt, pdEq, pdNe, bothStr, true_or, or_true, pdOrd, pdLt, pdGt, pdLe, pdGe, pdIs, isNn, pdIx, pdNeg, pdRev, Bo.get, Sl.con, Sl.put, O.dat, datL, datF, O.rd, noD, wipeS, slotsOf, endsP, outs0, outs1, outs2, ioNil, ioOne, List.length_cons, List.length_nil, List.replicate, List.cons_append, List.nil_append, List.set_cons_zero, List.set_cons_succ, List.getElem?_cons_zero, List.getElem?_cons_succ, List.getElem?_nil, List.getD_cons_zero, List.getD_cons_succ, List.filterMap_cons, List.filterMap_nil, Option.map_some, Option.bind_some, Option.map, Option.some.injEq, List.cons.injEq, O.sh.injEq, O.lst.injEq, O.dct.injEq, false_and, and_false, Sl.ow.injEq, Sl.io.injEq, PyData.int.injEq, PyData.bool.injEq, PyData.str.injEq, PyData.list.injEq, PyData.tuple.injEq, reduceCtorEq, exists_eq_left, exists_eq_left', exists_eq', exists_const, exists_and_left, exists_and_right, and_assoc, false_or, or_false, Int.toNat_natCast, Bool.false_eq_true, and_true, true_and, and_self, ne_eq, not_false_eq_true, not_true_eq_false, if_true, if_false, ↓reduceIte, Nat.reduceSub, Nat.reduceAdd, Nat.reduceEqDiff, at30, at31, at32, ix30, ix32, Nat.succ_ne_zero, Alike, at_last nw]
          refine ⟨ok, wl, ?_⟩
          cases e : alk p.1 (lastW ws) n
          · exact k2 e
          · exact k1 e
        · rw [List.length_zip, List.length_nil, sizeLine_eq]
          omega
        · rw [show (fun p : Str × Str => PyData.str p.2) = PyData.str ∘ Prod.snd from rfl, ← List.map_map]
          rcases f6 with rfl | ⟨o6, rfl⟩
          all_goals
            simp (config := { maxSteps := 2000000 }) only [vNext, vSeq, vBreak, vCont, vIfS, vRet, vRetN, vDrop, canSet_eq, sf_em, sf_ow, Option.elim_some, vAsg, vPar, gvName, gvNil, gvCons, gvTup, vAsgG, vFor, vWhile, vYes, vC, vVar, vMove, vSlot, vSh, vOp, vTest, vAnd, vOr, vNot, vAndV, vOrV, vNotV, vIf, vNilA, vConsA, getA, valsA, vTup, vLst, vNoPart, vPart, vSl, vUn, vCB, vChain, pIsi, pIsiT, ioIdx, resolve, pb, callB, vCall, vCallK, permute, pd1, pLen, pAbs, pInt1, pTuple, pList, pRepr, vSeqI, vRng1, vRng2, vZip, vEnum, vMth, vMeth, pmAppend, pmExtend, pmPop, vSetIx, vAug, vOrT, truD, pdAdd, pdSub, pdMul, pdFdiv, pdMod, pdPow, pdInt, pdEq, pdNe, bothStr, true_or, or_true, pdOrd, pdLt, pdGt, pdLe, pdGe, pdIs, isNn, pdIx, pdNeg, pdRev, Bo.get, Sl.con, Sl.put, O.dat, datL, datF, O.rd, noD, wipeS, slotsOf, endsP, outs0, outs1, outs2, ioNil, ioOne, List.length_cons, List.length_nil, List.replicate, List.cons_append, List.nil_append, List.set_cons_zero, List.set_cons_succ, List.getElem?_cons_zero, List.getElem?_cons_succ, List.getElem?_nil, List.getD_cons_zero, List.getD_cons_succ, List.filterMap_cons, List.filterMap_nil, Option.map_some, Option.bind_some, Option.map, Option.some.injEq, List.cons.injEq, O.sh.injEq, O.lst.injEq, O.dct.injEq, false_and, and_false, Sl.ow.injEq, Sl.io.injEq, PyData.int.injEq, PyData.bool.injEq, PyData.str.injEq, PyData.list.injEq, PyData.tuple.injEq, reduceCtorEq, exists_eq_left, exists_eq_left', exists_eq', exists_const, exists_and_left, exists_and_right, and_assoc, false_or, or_false, Int.toNat_natCast, Bool.false_eq_true, and_true, true_and, and_self, ne_eq, not_false_eq_true, not_true_eq_false, if_true, if_false, ↓reduceIte, Nat.reduceSub, Nat.reduceAdd, Nat.reduceEqDiff, at30, at31, at32, ix30, ix32, Nat.succ_ne_zero]
            refine hK' _ ⟨_, rfl, ?_, fun w hw' => ?_⟩
            · rw [List.length_map]
              have := List.length_filter_le (fun p : Str × Str => alk p.1 (lastW ws) n) (xs.zip xs.tail)
              rw [List.length_zip] at this
              omega
            · obtain ⟨p, hp, rfl⟩ := List.mem_map.mp hw'
              exact List.mem_of_mem_tail (List.of_mem_zip (List.mem_filter.mp hp).1).2
      · rintro S' ⟨us, rfl, lu, wu⟩
        simp (config := { maxSteps := 2000000 }) only [vNext, vSeq, vBreak, vCont, vIfS, vRet, vRetN, vDrop, canSet_eq, sf_em, sf_ow, Option.elim_some, vAsg, vPar, gvName, gvNil, gvCons, gvTup, vAsgG, vFor, vWhile, vYes, vC, vVar, vMove, vSlot, vSh, vOp, vTest, vAnd, vOr, vNot, vAndV, vOrV, vNotV, vIf, vNilA, vConsA, getA, valsA, vTup, vLst, vNoPart, vPart, vSl, vUn, vCB, vChain, pIsi, pIsiT, ioIdx, resolve, pb, callB, vCall, vCallK, permute, pd1, pLen, pAbs, pInt1, pTuple, pList, pRepr, vSeqI, vRng1, vRng2, vZip, vEnum, vMth, vMeth, pmAppend, pmExtend, pmPop, vSetIx, vAug, vOrT, truD, pdAdd, pdSub, pdMul, pdFdiv, pdMod, pdPow, pdInt, pdEq, pdNe, bothStr, true_or, or_true, pdOrd, pdLt, pdGt, pdLe, pdGe, pdIs, isNn, pdIx, pdNeg, pdRev, Bo.get, Sl.con, Sl.put, O.dat, datL, datF, O.rd, noD, wipeS, slotsOf, endsP, outs0, outs1, outs2, ioNil, ioOne, List.length_cons, List.length_nil, List.replicate, List.cons_append, List.nil_append, List.set_cons_zero, List.set_cons_succ, List.getElem?_cons_zero, List.getElem?_cons_succ, List.getElem?_nil, List.getD_cons_zero, List.getD_cons_succ, List.filterMap_cons, List.filterMap_nil, Option.map_some, Option.bind_some, Option.map, Option.some.injEq, List.cons.injEq, O.sh.injEq, O.lst.injEq, O.dct.injEq, false_and, and_false, Sl.ow.injEq, Sl.io.injEq, PyData.int.injEq, PyData.bool.injEq, PyData.str.injEq, PyData.list.injEq, PyData.tuple.injEq, reduceCtorEq, exists_eq_left, exists_eq_left', exists_eq', exists_const, exists_and_left, exists_and_right, and_assoc, false_or, or_false, Int.toNat_natCast, Bool.false_eq_true, and_true, true_and, and_self, ne_eq, not_false_eq_true, not_true_eq_false, if_true, if_false, ↓reduceIte, Nat.reduceSub, Nat.reduceAdd, Nat.reduceEqDiff, at30, at31, at32, ix30, ix32, Nat.succ_ne_zero, shaped_nil, eqv_empty, OneOf, itemsD]
        refine ⟨by rw [sizeLine_eq]; omega, list_shaped (strs_nice fun w hw => hf.wd w (wu w hw)) (by decide), ?_⟩
        cases e : (us.map PyData.str).isEmpty
        · rw [if_pos (show (!false) = true from rfl)]
          refine ⟨hb, fun z => ?_, by rw [List.length_map]; omega, fun y b2 hy hb2 => ⟨by rw [List.length_map, sizeLine_eq]; omega, ?_⟩⟩
          · rw [z] at e
            cases e
          · obtain ⟨w, hw2, rfl⟩ := List.mem_map.mp hy
            refine hK _ ⟨b2, ws ++ [w], _, _, by rw [List.map_append]; rfl, hb2, by simp, by rw [List.length_append, List.length_singleton]; omega, fun z hz => ?_, .inr ⟨_, rfl⟩, .inr ⟨_, rfl⟩⟩
            rcases List.mem_append.mp hz with q | q
            · exact hw z q
            · rw [List.mem_singleton.mp q]; exact wu w hw2
        · rw [if_neg (by decide)]
          exact hK _ ⟨b, ws, _, _, rfl, hb, nw, by omega, hw, .inr ⟨_, rfl⟩, .inr ⟨_, rfl⟩⟩
    rcases f5 with rfl | ⟨o5, rfl⟩
    · exact ⟨rfl, two s6 f6⟩
    · exact ⟨rfl, two s6 f6⟩
  · rintro S ⟨b, ws, s5, s6, rfl, hb, nw, hl, hw, _⟩
    exact fin b ws s5 s6 hb nw (by omega) hw
end VL

set_option Elab.async false
set_option linter.all false
set_option maxRecDepth 100000
set_option maxHeartbeats 1000000
namespace VL
open PySem PySem.Spec PyProof.Rows L2
variable [Wd]
theorem cutL_init {α : Type} (xs : List α) : cutL xs none (some (-1)) = xs.dropLast := by
  unfold cutL
  show (xs.drop 0).take (((-1 : Int) + (xs.length : Int)).toNat - 0) = xs.dropLast
  rw [List.drop_zero, Nat.sub_zero, List.dropLast_eq_take]
  congr 1
  omega
theorem at_head_i {es : List Int} (h : es ≠ []) : atI (es.map PyData.int) 0 = some (.int (es.headD 0)) := by
  cases es with
  | nil => exact absurd rfl h
  | cons x xs => exact ixhead
theorem at_last_i {es : List Int} (h : es ≠ []) : atI (es.map PyData.int) (-1) = some (.int (es.getLast h)) := by
  rw [ixlast (by simpa using h), List.getLast_map]
theorem incr_pair : ∀ {es : List Int}, incr es = true ↔ es.Pairwise (· < ·)
  | [] => ⟨fun _ => .nil, fun _ => rfl⟩
  | [a] => ⟨fun _ => List.pairwise_singleton _ _, fun _ => rfl⟩
  | a :: b :: es => by
    have e : incr (a :: b :: es) = (decide (a < b) && incr (b :: es)) := rfl
    rw [e, Bool.and_eq_true, decide_eq_true_eq, incr_pair, List.pairwise_cons (a := a)]
    constructor
    · rintro ⟨h1, h2⟩
      refine ⟨fun c hc => ?_, h2⟩
      rcases List.mem_cons.mp hc with rfl | hc
      · exact h1
      · have := (List.pairwise_cons.mp h2).1 c hc
        omega
    · rintro ⟨h1, h2⟩
      exact ⟨h1 b List.mem_cons_self, h2⟩
theorem strict_eq : ∀ {a b : List Int}, a.Pairwise (· < ·) → b.Pairwise (· < ·) → (∀ z, z ∈ a ↔ z ∈ b) → a = b
  | [], [], _, _, _ => rfl
  | [], y :: b, _, _, h => by have := (h y).mpr List.mem_cons_self; simp at this
  | x :: a, [], _, _, h => by have := (h x).mp List.mem_cons_self; simp at this
  | x :: a, y :: b, ha, hb, h => by
    obtain ⟨a1, a2⟩ := List.pairwise_cons.mp ha
    obtain ⟨b1, b2⟩ := List.pairwise_cons.mp hb
    have e : x = y := by
      have h1 := (h x).mp List.mem_cons_self
      have h2 := (h y).mpr List.mem_cons_self
      rcases List.mem_cons.mp h1 with z | z
      · exact z
      · rcases List.mem_cons.mp h2 with z' | z'
        · exact z'.symm
        · have := a1 y z'; have := b1 x z; omega
    subst e
    refine congrArg _ (strict_eq a2 b2 fun z => ⟨fun hz => ?_, fun hz => ?_⟩)
    · rcases List.mem_cons.mp ((h z).mp (List.mem_cons_of_mem _ hz)) with rfl | q
      · have := a1 z hz; omega
      · exact q
    · rcases List.mem_cons.mp ((h z).mpr (List.mem_cons_of_mem _ hz)) with rfl | q
      · have := b1 z hz; omega
      · exact q
theorem eqv_ints : ∀ {a b : List Int}, PyData.eqv (.list (a.map .int)) (.list (b.map .int)) = decide (a = b) := by
  intro a b
  have h : ∀ (a b : List Int), PyData.eqvAll (a.map .int) (b.map .int) = decide (a = b) := by
    intro a
    induction a with
    | nil => intro b; cases b <;> rfl
    | cons x a ih =>
      intro b
      cases b with
      | nil => rfl
      | cons y b =>
        show ((x == y) && PyData.eqvAll (a.map .int) (b.map .int)) = _
        rw [ih b, Bool.eq_iff_iff, Bool.and_eq_true, beq_iff_eq, decide_eq_true_eq, decide_eq_true_eq, List.cons.injEq]
  exact h a b
theorem sorted_is {es zs : List Int} (hs : zs.Pairwise (· < ·)) (hm : ∀ z, z ∈ zs ↔ z ∈ es) : PyData.eqv (.list (es.map .int)) (.list (zs.map .int)) = incr es := by
  rw [eqv_ints, Bool.eq_iff_iff, decide_eq_true_eq, incr_pair]
  exact ⟨fun e => by rw [e]; exact hs, fun h => strict_eq h hs fun z => (hm z).symm⟩
theorem word_at {xs : List Str} {i : Int} (h0 : 0 ≤ i) (h1 : i < xs.length) : atI (xs.map PyData.str) i = some (.str (wordAt xs i)) := by
  rw [ix_int h0 (by rw [List.length_map]; exact h1), List.getElem?_map]
  have h : i.toNat < xs.length := by omega
  unfold wordAt
  rw [List.getD_eq_getElem?_getD, List.getElem?_eq_getElem h]
  rfl
theorem word_ok {xs : List Str} {i : Int} (fx : Fit xs) (h0 : 0 ≤ i) (h1 : i < xs.length) : wOk (wordAt xs i) := by
  have h : i.toNat < xs.length := by omega
  unfold wordAt
  rw [List.getD_eq_getElem?_getD, List.getElem?_eq_getElem h]
  exact fx.wd _ (List.getElem_mem h)
theorem ends_in {es : List Int} {m : Int} (hi : incr es = true) (h0 : 0 ≤ es.headD 0) (hl : es.getLast? = some (m - 1)) : (∀ e ∈ es, 0 ≤ e ∧ e < m) ∧ ∀ b ∈ begsOf es, 0 ≤ b ∧ b < m := by
  have hp := incr_pair.mp hi
  have ne : es ≠ [] := fun e => by rw [e] at hl; cases hl
  have hl' : es.getLast ne = m - 1 := by rw [List.getLast?_eq_some_getLast ne] at hl; exact Option.some.inj hl
  have lo : ∀ e ∈ es, 0 ≤ e := by
    cases es with
    | nil => exact absurd rfl ne
    | cons x es =>
      intro e he
      have h0 : 0 ≤ x := h0
      rcases List.mem_cons.mp he with rfl | he
      · exact h0
      · have := (List.pairwise_cons.mp hp).1 e he
        omega
  have sp : es.dropLast ++ [es.getLast ne] = es := List.dropLast_concat_getLast ne
  have hi2 : ∀ e ∈ es.dropLast, e < m - 1 := by
    intro e he
    rw [← sp, List.pairwise_append] at hp
    rw [← hl']
    exact hp.2.2 e he _ (by simp)
  have up : ∀ e ∈ es, e < m := by
    intro e he
    rw [← sp] at he
    rcases List.mem_append.mp he with z | z
    · have := hi2 e z; omega
    · have := List.mem_singleton.mp z; omega
  refine ⟨fun e he => ⟨lo e he, up e he⟩, fun b hb => ?_⟩
  rcases List.mem_cons.mp hb with rfl | hb
  · have h1 := lo _ (List.getLast_mem ne)
    omega
  · obtain ⟨e, he, rfl⟩ := List.mem_map.mp hb
    have := lo e (List.dropLast_subset _ he)
    have := hi2 e he
    omega
theorem begs_len {es : List Int} (h : es ≠ []) : (begsOf es).length = es.length := by
  have := List.length_pos_iff.mpr h
  unfold begsOf
  rw [List.length_cons, List.length_map, List.length_dropLast]
  omega
/-- the rows of the program's loop -/
def rowsOf (ys : List Str) (es : List Int) : List (Str × Int × Int) := ys.zip ((begsOf es).zip es)
def rowOk (xs : List Str) (n : Int) (r : Str × Int × Int) : Bool := PyData.eqv (.str (wordAt xs r.2.1)) (.str r.1) && alk (wordAt xs r.2.2) r.1 n
theorem zip_all {ys : List Str} {f : Int × Str → Bool} {g : Int × Str → Bool} : ∀ {ys : List Str} {bs es : List Int}, bs.length = ys.length → es.length = ys.length → ((bs.zip ys).all f && (es.zip ys).all g) = (ys.zip (bs.zip es)).all fun r => f (r.2.1, r.1) && g (r.2.2, r.1)
  | [], bs, es, h1, h2 => by
    cases bs with
    | cons _ _ => simp at h1
    | nil =>
      cases es with
      | cons _ _ => simp at h2
      | nil => rfl
  | y :: ys, bs, es, h1, h2 => by
    cases bs with
    | nil => simp at h1
    | cons b bs =>
      cases es with
      | nil => simp at h2
      | cons e es =>
        have ih := zip_all (ys := ys) (f := f) (g := g) (bs := bs) (es := es) (by simpa using h1) (by simpa using h2)
        rw [List.zip_cons_cons, List.zip_cons_cons, List.zip_cons_cons, List.zip_cons_cons, List.all_cons, List.all_cons, List.all_cons, ← ih]
        cases f (b, y) <;> cases g (e, y) <;> simp
theorem rows_all {ys xs : List Str} {n : Int} {es : List Int} (hl : es.length = ys.length) (ne : es ≠ []) : (firstsOk ys xs es && lastsOk ys xs n es) = (rowsOf ys es).all (rowOk xs n) :=
  zip_all (ys := ys) (f := fun p => PyData.eqv (.str (wordAt xs p.1)) (.str p.2)) (g := fun p => alk (wordAt xs p.1) p.2 n) (by rw [begs_len ne, hl]) hl
def encR (r : Str × Int × Int) : PyData := .tuple [.str r.1, .int r.2.1, .int r.2.2]
theorem zip3_rows : ∀ (ys : List Str) (bs es : List Int), zip3D (ys.map .str) (bs.map .int) (es.map .int) = (ys.zip (bs.zip es)).map encR
  | [], _, _ => rfl
  | _ :: _, [], _ => rfl
  | _ :: _, _ :: _, [] => rfl
  | y :: ys, b :: bs, e :: es => by
    rw [List.zip_cons_cons, List.zip_cons_cons, List.map_cons, List.map_cons, List.map_cons, List.map_cons, zip3D, zip3_rows ys bs es]
    rfl
theorem rows_mem {ys : List Str} {es : List Int} {r : Str × Int × Int} (h : r ∈ rowsOf ys es) : r.1 ∈ ys ∧ r.2.1 ∈ begsOf es ∧ r.2.2 ∈ es := by
  have h1 := List.of_mem_zip h
  have h2 := List.of_mem_zip h1.2
  exact ⟨h1.1, h2.1, h2.2⟩
end VL

set_option Elab.async false
set_option linter.all false
set_option maxRecDepth 100000
set_option maxHeartbeats 1000000
namespace VL
open PySem PySem.Spec PyProof.Rows L2
variable [Wd]
theorem run_is_integer : Runs ms_is_integer IsNumber t_is_integer 0 := by
  rintro vs os R h1 h2 sh ⟨d, rfl, nd, q⟩
  obtain ⟨v1, rfl⟩ := len1 h1
  unfold t_is_integer
  unfold isNum at q
  unfold noD at nd
  simp (config := { maxSteps := 2000000 }) only [vNext, vSeq, vBreak, vCont, vIfS, vRet, vRetN, vDrop, canSet_eq, sf_em, sf_ow, Option.elim_some, vAsg, vPar, gvName, gvNil, gvCons, gvTup, vAsgG, vFor, vWhile, vYes, vC, vVar, vMove, vSlot, vSh, vOp, vTest, vAnd, vOr, vNot, vAndV, vOrV, vNotV, vIf, vNilA, vConsA, getA, valsA, vTup, vLst, vNoPart, vPart, vSl, vUn, vCB, vChain, pIsi, pIsiT, ioIdx, resolve, pb, callB, vCall, vCallK, permute, pd1, pLen, pAbs, pInt1, pTuple, pList, pRepr, vSeqI, vRng1, vRng2, vZip, vEnum, vMth, vMeth, pmAppend, pmExtend, pmPop, vSetIx, vAug, vOrT, truD, pdAdd, pdSub, pdMul, pdFdiv, pdMod, pdPow, pdInt, pdEq, pdNe, bothStr, true_or, or_true, pdOrd, pdLt, pdGt, pdLe, pdGe, pdIs, isNn, pdIx, pdNeg, pdRev, Bo.get, Sl.con, Sl.put, O.dat, datL, datF, O.rd, noD, wipeS, slotsOf, endsP, outs0, outs1, outs2, ioNil, ioOne, List.length_cons, List.length_nil, List.replicate, List.cons_append, List.nil_append, List.set_cons_zero, List.set_cons_succ, List.getElem?_cons_zero, List.getElem?_cons_succ, List.getElem?_nil, List.getD_cons_zero, List.getD_cons_succ, List.filterMap_cons, List.filterMap_nil, Option.map_some, Option.bind_some, Option.map, Option.some.injEq, List.cons.injEq, O.sh.injEq, O.lst.injEq, O.dct.injEq, false_and, and_false, Sl.ow.injEq, Sl.io.injEq, PyData.int.injEq, PyData.bool.injEq, PyData.str.injEq, PyData.list.injEq, PyData.tuple.injEq, reduceCtorEq, exists_eq_left, exists_eq_left', exists_eq', exists_const, exists_and_left, exists_and_right, and_assoc, false_or, or_false, Int.toNat_natCast, Bool.false_eq_true, and_true, true_and, and_self, ne_eq, not_false_eq_true, not_true_eq_false, if_true, if_false, ↓reduceIte, Nat.reduceSub, Nat.reduceAdd, Nat.reduceEqDiff, at30, at31, at32, ix30, ix32, Nat.succ_ne_zero, nd]
  cases e : isiD "int" d
  · rw [e, Bool.false_and] at q
    rw [if_neg Bool.false_ne_true]
    exact q
  · rw [e, Bool.true_and] at q
    rw [if_pos rfl]
    exact q
theorem run__law_is_number : Runs ms__law_is_number IsNumber t__law_is_number 0 := by
  rintro vs os R h1 h2 sh ⟨d, rfl, nd, q⟩
  obtain ⟨v1, rfl⟩ := len1 h1
  unfold t__law_is_number
  unfold isNum at q
  unfold noD at nd
  simp (config := { maxSteps := 2000000 }) only [vNext, vSeq, vBreak, vCont, vIfS, vRet, vRetN, vDrop, canSet_eq, sf_em, sf_ow, Option.elim_some, vAsg, vPar, gvName, gvNil, gvCons, gvTup, vAsgG, vFor, vWhile, vYes, vC, vVar, vMove, vSlot, vSh, vOp, vTest, vAnd, vOr, vNot, vAndV, vOrV, vNotV, vIf, vNilA, vConsA, getA, valsA, vTup, vLst, vNoPart, vPart, vSl, vUn, vCB, vChain, pIsi, pIsiT, ioIdx, resolve, pb, callB, vCall, vCallK, permute, pd1, pLen, pAbs, pInt1, pTuple, pList, pRepr, vSeqI, vRng1, vRng2, vZip, vEnum, vMth, vMeth, pmAppend, pmExtend, pmPop, vSetIx, vAug, vOrT, truD, pdAdd, pdSub, pdMul, pdFdiv, pdMod, pdPow, pdInt, pdEq, pdNe, bothStr, true_or, or_true, pdOrd, pdLt, pdGt, pdLe, pdGe, pdIs, isNn, pdIx, pdNeg, pdRev, Bo.get, Sl.con, Sl.put, O.dat, datL, datF, O.rd, noD, wipeS, slotsOf, endsP, outs0, outs1, outs2, ioNil, ioOne, List.length_cons, List.length_nil, List.replicate, List.cons_append, List.nil_append, List.set_cons_zero, List.set_cons_succ, List.getElem?_cons_zero, List.getElem?_cons_succ, List.getElem?_nil, List.getD_cons_zero, List.getD_cons_succ, List.filterMap_cons, List.filterMap_nil, Option.map_some, Option.bind_some, Option.map, Option.some.injEq, List.cons.injEq, O.sh.injEq, O.lst.injEq, O.dct.injEq, false_and, and_false, Sl.ow.injEq, Sl.io.injEq, PyData.int.injEq, PyData.bool.injEq, PyData.str.injEq, PyData.list.injEq, PyData.tuple.injEq, reduceCtorEq, exists_eq_left, exists_eq_left', exists_eq', exists_const, exists_and_left, exists_and_right, and_assoc, false_or, or_false, Int.toNat_natCast, Bool.false_eq_true, and_true, true_and, and_self, ne_eq, not_false_eq_true, not_true_eq_false, if_true, if_false, ↓reduceIte, Nat.reduceSub, Nat.reduceAdd, Nat.reduceEqDiff, at30, at31, at32, ix30, ix32, Nat.succ_ne_zero, nd]
  cases e : isiD "int" d
  · rw [e, Bool.false_and] at q
    rw [if_neg Bool.false_ne_true]
    exact q
  · rw [e, Bool.true_and] at q
    rw [if_pos rfl]
    exact q
theorem match_loop {s0 s1 s2 : Sl} {W : List PyData} {total : List Nat} {D : VEnds} (hW : ∀ d ∈ W, SeqAt.shaped d = true) (fin : ∀ s5 s6, D.nx [s0, s1, s2, .ow (.lst W), .ow (.lst (total.map fun k => .int (k : Nat))), s5, s6]) :
    ∀ rem S, (∃ (ps : List (PyData × Nat)) (f : List Nat) (s5 s6 : Sl), rem = ps.map (fun p => .tuple [.int (p.2 : Nat), p.1]) ∧ S = [s0, s1, s2, .ow (.lst W), .ow (.lst (f.map fun k => .int (k : Nat))), s5, s6] ∧ ps.foldl (stepM W) f = total ∧ (∀ p ∈ ps, SeqAt.shaped p.1 = true) ∧ f.length + ps.length ≤ 2000 ∧ Free s5 ∧ Free s6) →
    forW (gvTup 2 (gvCons (gvName 5) (gvCons (gvName 6) gvNil))) (vIfS (vAnd (vTest (vOp pdLt (vSh (vCB (pd1 pLen) (vConsA (vSlot 4) vNilA))) (vSh (vCB (pd1 pLen) (vConsA (vSlot 3) vNilA))))) (vTest (vOp pdEq (vSlot 6) (vSh (vOp pdIx (vSlot 3) (vSh (vCB (pd1 pLen) (vConsA (vSlot 4) vNilA)))))))) (vDrop (vMth pmAppend 4 (vConsA (vSh (vVar 5)) vNilA))) vNext) D rem S := by
  refine for_ind _ ?_ ?_
  · rintro x rem S K hK ⟨ps, f, s5, s6, hr, rfl, hf, hs, hl, f5, f6⟩
    cases ps with
    | nil => cases hr
    | cons p ps =>
      obtain ⟨rfl, rfl⟩ := List.cons.inj hr
      rw [List.length_cons] at hl
      have next : ∀ (f' : List Nat), f' = stepM W f p → f'.length ≤ f.length + 1 → ∀ s5 s6, Free s5 → Free s6 → K [s0, s1, s2, .ow (.lst W), .ow (.lst (f'.map fun k => .int (k : Nat))), s5, s6] := fun f' e l s5 s6 a b =>
        hK _ ⟨ps, f', s5, s6, rfl, rfl, by rw [e]; exact hf, fun q hq => hs q (List.mem_cons_of_mem _ hq), by omega, a, b⟩
      have sp := hs p List.mem_cons_self
      rcases f5 with rfl | ⟨o5, rfl⟩
      all_goals
        rcases f6 with rfl | ⟨o6, rfl⟩
        all_goals
          simp (config := { maxSteps := 2000000 }) only [vNext, vSeq, vBreak, vCont, vIfS, vRet, vRetN, vDrop, canSet_eq, sf_em, sf_ow, Option.elim_some, vAsg, vPar, gvName, gvNil, gvCons, gvTup, vAsgG, vFor, vWhile, vYes, vC, vVar, vMove, vSlot, vSh, vOp, vTest, vAnd, vOr, vNot, vAndV, vOrV, vNotV, vIf, vNilA, vConsA, getA, valsA, vTup, vLst, vNoPart, vPart, vSl, vUn, vCB, vChain, pIsi, pIsiT, ioIdx, resolve, pb, callB, vCall, vCallK, permute, pd1, pLen, pAbs, pInt1, pTuple, pList, pRepr, vSeqI, vRng1, vRng2, vZip, vEnum, vMth, vMeth, pmAppend, pmExtend, pmPop, vSetIx, vAug, vOrT, truD, pdAdd, pdSub, pdMul, pdFdiv, pdMod, pdPow, pdInt, pdEq, pdNe, bothStr, true_or, or_true, pdOrd, pdLt, pdGt, pdLe, pdGe, pdIs, isNn, pdIx, pdNeg, pdRev, Bo.get, Sl.con, Sl.put, O.dat, datL, datF, O.rd, noD, wipeS, slotsOf, endsP, outs0, outs1, outs2, ioNil, ioOne, List.length_cons, List.length_nil, List.replicate, List.cons_append, List.nil_append, List.set_cons_zero, List.set_cons_succ, List.getElem?_cons_zero, List.getElem?_cons_succ, List.getElem?_nil, List.getD_cons_zero, List.getD_cons_succ, List.filterMap_cons, List.filterMap_nil, Option.map_some, Option.bind_some, Option.map, Option.some.injEq, List.cons.injEq, O.sh.injEq, O.lst.injEq, O.dct.injEq, false_and, and_false, Sl.ow.injEq, Sl.io.injEq, PyData.int.injEq, PyData.bool.injEq, PyData.str.injEq, PyData.list.injEq, PyData.tuple.injEq, reduceCtorEq, exists_eq_left, exists_eq_left', exists_eq', exists_const, exists_and_left, exists_and_right, and_assoc, false_or, or_false, Int.toNat_natCast, Bool.false_eq_true, and_true, true_and, and_self, ne_eq, not_false_eq_true, not_true_eq_false, if_true, if_false, ↓reduceIte, Nat.reduceSub, Nat.reduceAdd, Nat.reduceEqDiff, at30, at31, at32, ix30, ix32, Nat.succ_ne_zero, List.length_map]
          by_cases h : f.length < W.length
          · rw [if_pos (decide_eq_true (by omega))]
            refine ⟨W[f.length], ix_nat h, .inr ⟨sp, hW _ (List.getElem_mem _)⟩, ?_⟩
            cases e : PyData.eqv p.1 W[f.length]
            · rw [if_neg Bool.false_ne_true]
              exact next f (by unfold stepM; rw [List.getElem?_eq_getElem h]; dsimp only; rw [e, if_neg Bool.false_ne_true]) (by omega) _ _ (.inr ⟨_, rfl⟩) (.inr ⟨_, rfl⟩)
            · rw [if_pos rfl]
              refine ⟨by rw [sizeLine_eq]; omega, ?_⟩
              have := next (f ++ [p.2]) (by unfold stepM; rw [List.getElem?_eq_getElem h]; dsimp only; rw [e, if_pos rfl]) (by rw [List.length_append, List.length_singleton]; omega) (.ow (.sh (.int (p.2 : Nat)))) (.ow (.sh p.1)) (.inr ⟨_, rfl⟩) (.inr ⟨_, rfl⟩)
              rw [List.map_append] at this
              exact this
          · have h' : ¬ ((f.length : Int) < (W.length : Int)) := by omega
            rw [if_neg (by rw [decide_eq_false h']; exact Bool.false_ne_true)]
            exact next f (by unfold stepM; rw [List.getElem?_eq_none (by omega)]) (by omega) _ _ (.inr ⟨_, rfl⟩) (.inr ⟨_, rfl⟩)
  · rintro S ⟨ps, f, s5, s6, hr, rfl, hf, _⟩
    cases ps with
    | nil =>
      have e : f = total := hf
      rw [e]
      exact fin s5 s6
    | cons p ps => cases hr
end VL

set_option Elab.async false
set_option linter.all false
set_option maxRecDepth 100000
set_option maxHeartbeats 1000000
namespace VL
open PySem PySem.Spec PyProof.Rows L2
variable [Wd]
theorem run_matched_pairs : Runs ms_matched_pairs MatchedPairs t_matched_pairs 4 := by
  rintro vs os R h1 h2 sh ⟨dc, d, ys, xs, n, rfl, hc, hd, fy, fx, q⟩
  obtain ⟨v1, v2, v3, rfl⟩ := len3 h1
  unfold t_matched_pairs
  have sy : ∀ d ∈ pairsD ys n, SeqAt.shaped d = true := fun d h => (pairsD_nice fy d h).shaped (by decide)
  have sx : ∀ d ∈ pairsD xs n, SeqAt.shaped d = true := fun d h => (pairsD_nice fx d h).shaped (by decide)
  refine seq_cut (fun S' => S' = [Sl.ow (.sh dc), .ow (.sh d), .ow (.sh (.int n)), .ow (.lst (pairsD ys n)), .ow (.lst []), .em, .em]) ?_ ?_
  · intro K hK
    simp (config := { maxSteps := 2000000 }) only [vNext, vSeq, vBreak, vCont, vIfS, vRet, vRetN, vDrop, canSet_eq, sf_em, sf_ow, Option.elim_some, vAsg, vPar, gvName, gvNil, gvCons, gvTup, vAsgG, vFor, vWhile, vYes, vC, vVar, vMove, vSlot, vSh, vOp, vTest, vAnd, vOr, vNot, vAndV, vOrV, vNotV, vIf, vNilA, vConsA, getA, valsA, vTup, vLst, vNoPart, vPart, vSl, vUn, vCB, vChain, pIsi, pIsiT, ioIdx, resolve, pb, callB, vCall, vCallK, permute, pd1, pLen, pAbs, pInt1, pTuple, pList, pRepr, vSeqI, vRng1, vRng2, vZip, vEnum, vMth, vMeth, pmAppend, pmExtend, pmPop, vSetIx, vAug, vOrT, truD, pdAdd, pdSub, pdMul, pdFdiv, pdMod, pdPow, pdInt, pdEq, pdNe, bothStr, true_or, or_true, pdOrd, pdLt, pdGt, pdLe, pdGe, pdIs, isNn, pdIx, pdNeg, pdRev, Bo.get, Sl.con, Sl.put, O.dat, datL, datF, O.rd, noD, wipeS, slotsOf, endsP, outs0, outs1, outs2, ioNil, ioOne, List.length_cons, List.length_nil, List.replicate, List.cons_append, List.nil_append, List.set_cons_zero, List.set_cons_succ, List.getElem?_cons_zero, List.getElem?_cons_succ, List.getElem?_nil, List.getD_cons_zero, List.getD_cons_succ, List.filterMap_cons, List.filterMap_nil, Option.map_some, Option.bind_some, Option.map, Option.some.injEq, List.cons.injEq, O.sh.injEq, O.lst.injEq, O.dct.injEq, false_and, and_false, Sl.ow.injEq, Sl.io.injEq, PyData.int.injEq, PyData.bool.injEq, PyData.str.injEq, PyData.list.injEq, PyData.tuple.injEq, reduceCtorEq, exists_eq_left, exists_eq_left', exists_eq', exists_const, exists_and_left, exists_and_right, and_assoc, false_or, or_false, Int.toNat_natCast, Bool.false_eq_true, and_true, true_and, and_self, ne_eq, not_false_eq_true, not_true_eq_false, if_true, if_false, ↓reduceIte, Nat.reduceSub, Nat.reduceAdd, Nat.reduceEqDiff, at30, at31, at32, ix30, ix32, Nat.succ_ne_zero, spec_pairs, Pairs]
    exact ⟨ys, hc, fy, Nat.zero_le _, hK _ rfl⟩
  rintro S1 rfl
  simp (config := { maxSteps := 2000000 }) only [vNext, vSeq, vBreak, vCont, vIfS, vRet, vRetN, vDrop, canSet_eq, sf_em, sf_ow, Option.elim_some, vAsg, vPar, gvName, gvNil, gvCons, gvTup, vAsgG, vFor, vWhile, vYes, vC, vVar, vMove, vSlot, vSh, vOp, vTest, vAnd, vOr, vNot, vAndV, vOrV, vNotV, vIf, vNilA, vConsA, getA, valsA, vTup, vLst, vNoPart, vPart, vSl, vUn, vCB, vChain, pIsi, pIsiT, ioIdx, resolve, pb, callB, vCall, vCallK, permute, pd1, pLen, pAbs, pInt1, pTuple, pList, pRepr, vSeqI, vRng1, vRng2, vZip, vEnum, vMth, vMeth, pmAppend, pmExtend, pmPop, vSetIx, vAug, vOrT, truD, pdAdd, pdSub, pdMul, pdFdiv, pdMod, pdPow, pdInt, pdEq, pdNe, bothStr, true_or, or_true, pdOrd, pdLt, pdGt, pdLe, pdGe, pdIs, isNn, pdIx, pdNeg, pdRev, Bo.get, Sl.con, Sl.put, O.dat, datL, datF, O.rd, noD, wipeS, slotsOf, endsP, outs0, outs1, outs2, ioNil, ioOne, List.length_cons, List.length_nil, List.replicate, List.cons_append, List.nil_append, List.set_cons_zero, List.set_cons_succ, List.getElem?_cons_zero, List.getElem?_cons_succ, List.getElem?_nil, List.getD_cons_zero, List.getD_cons_succ, List.filterMap_cons, List.filterMap_nil, Option.map_some, Option.bind_some, Option.map, Option.some.injEq, List.cons.injEq, O.sh.injEq, O.lst.injEq, O.dct.injEq, false_and, and_false, Sl.ow.injEq, Sl.io.injEq, PyData.int.injEq, PyData.bool.injEq, PyData.str.injEq, PyData.list.injEq, PyData.tuple.injEq, reduceCtorEq, exists_eq_left, exists_eq_left', exists_eq', exists_const, exists_and_left, exists_and_right, and_assoc, false_or, or_false, Int.toNat_natCast, Bool.false_eq_true, and_true, true_and, and_self, ne_eq, not_false_eq_true, not_true_eq_false, if_true, if_false, ↓reduceIte, Nat.reduceSub, Nat.reduceAdd, Nat.reduceEqDiff, at30, at31, at32, ix30, ix32, Nat.succ_ne_zero, spec_pairs, Pairs]
  refine ⟨xs, hd, fx, ?_⟩
  rw [enumD_zip]
  refine match_loop (total := matched (pairsD ys n) (pairsD xs n)) sy (fun s5 s6 => ?_) _ _ ⟨_, [], .em, .em, rfl, rfl, rfl, fun p hp => ?_, ?_, .inl rfl, .inl rfl⟩
  · simp (config := { maxSteps := 2000000 }) only [vNext, vSeq, vBreak, vCont, vIfS, vRet, vRetN, vDrop, canSet_eq, sf_em, sf_ow, Option.elim_some, vAsg, vPar, gvName, gvNil, gvCons, gvTup, vAsgG, vFor, vWhile, vYes, vC, vVar, vMove, vSlot, vSh, vOp, vTest, vAnd, vOr, vNot, vAndV, vOrV, vNotV, vIf, vNilA, vConsA, getA, valsA, vTup, vLst, vNoPart, vPart, vSl, vUn, vCB, vChain, pIsi, pIsiT, ioIdx, resolve, pb, callB, vCall, vCallK, permute, pd1, pLen, pAbs, pInt1, pTuple, pList, pRepr, vSeqI, vRng1, vRng2, vZip, vEnum, vMth, vMeth, pmAppend, pmExtend, pmPop, vSetIx, vAug, vOrT, truD, pdAdd, pdSub, pdMul, pdFdiv, pdMod, pdPow, pdInt, pdEq, pdNe, bothStr, true_or, or_true, pdOrd, pdLt, pdGt, pdLe, pdGe, pdIs, isNn, pdIx, pdNeg, pdRev, Bo.get, Sl.con, Sl.put, O.dat, datL, datF, O.rd, noD, wipeS, slotsOf, endsP, outs0, outs1, outs2, ioNil, ioOne, List.length_cons, List.length_nil, List.replicate, List.cons_append, List.nil_append, List.set_cons_zero, List.set_cons_succ, List.getElem?_cons_zero, List.getElem?_cons_succ, List.getElem?_nil, List.getD_cons_zero, List.getD_cons_succ, List.filterMap_cons, List.filterMap_nil, Option.map_some, Option.bind_some, Option.map, Option.some.injEq, List.cons.injEq, O.sh.injEq, O.lst.injEq, O.dct.injEq, false_and, and_false, Sl.ow.injEq, Sl.io.injEq, PyData.int.injEq, PyData.bool.injEq, PyData.str.injEq, PyData.list.injEq, PyData.tuple.injEq, reduceCtorEq, exists_eq_left, exists_eq_left', exists_eq', exists_const, exists_and_left, exists_and_right, and_assoc, false_or, or_false, Int.toNat_natCast, Bool.false_eq_true, and_true, true_and, and_self, ne_eq, not_false_eq_true, not_true_eq_false, if_true, if_false, ↓reduceIte, Nat.reduceSub, Nat.reduceAdd, Nat.reduceEqDiff, at30, at31, at32, ix30, ix32, Nat.succ_ne_zero]
    exact q
  · obtain ⟨x, i⟩ := p
    exact sx _ (List.fst_mem_of_mem_zipIdx hp)
  · have := pairsD_len (xs := xs) (n := n)
    have := fx.len
    rw [List.length_zipIdx, List.length_nil]
    omega
end VL

set_option Elab.async false
set_option linter.all false
set_option maxRecDepth 100000
set_option maxHeartbeats 1000000
namespace VL
open PySem PySem.Spec PyProof.Rows L2
variable [Wd]
theorem match_loopR {s0 s1 s2 : Sl} {W : List PyData} {total : List Nat} {D : VEnds} (hW : ∀ d ∈ W, SeqAt.shaped d = true) (fin : ∀ s5 s6, D.nx [s0, s1, s2, .ow (.lst W), .ow (.lst (total.map fun k => .int (k : Nat))), s5, s6]) :
    ∀ rem S, (∃ (ps : List (PyData × Nat)) (f : List Nat) (s5 s6 : Sl), rem = ps.map (fun p => .tuple [.int (p.2 : Nat), p.1]) ∧ S = [s0, s1, s2, .ow (.lst W), .ow (.lst (f.map fun k => .int (k : Nat))), s5, s6] ∧ ps.foldl (stepM W) f = total ∧ (∀ p ∈ ps, SeqAt.shaped p.1 = true ∧ ∀ w ∈ W, PyData.eqv w p.1 = PyData.eqv p.1 w) ∧ f.length + ps.length ≤ 2000 ∧ Free s5 ∧ Free s6) →
    forW (gvTup 2 (gvCons (gvName 5) (gvCons (gvName 6) gvNil))) (vIfS (vAnd (vTest (vOp pdLt (vSh (vCB (pd1 pLen) (vConsA (vSlot 4) vNilA))) (vSh (vCB (pd1 pLen) (vConsA (vSlot 3) vNilA))))) (vTest (vOp pdEq (vSh (vOp pdIx (vSlot 3) (vSh (vCB (pd1 pLen) (vConsA (vSlot 4) vNilA))))) (vSlot 6)))) (vDrop (vMth pmAppend 4 (vConsA (vSh (vVar 5)) vNilA))) vNext) D rem S := by
  refine for_ind _ ?_ ?_
  · rintro x rem S K hK ⟨ps, f, s5, s6, hr, rfl, hf, hs, hl, f5, f6⟩
    cases ps with
    | nil => cases hr
    | cons p ps =>
      obtain ⟨rfl, rfl⟩ := List.cons.inj hr
      rw [List.length_cons] at hl
      have next : ∀ (f' : List Nat), f' = stepM W f p → f'.length ≤ f.length + 1 → ∀ s5 s6, Free s5 → Free s6 → K [s0, s1, s2, .ow (.lst W), .ow (.lst (f'.map fun k => .int (k : Nat))), s5, s6] := fun f' e l s5 s6 a b =>
        hK _ ⟨ps, f', s5, s6, rfl, rfl, by rw [e]; exact hf, fun q hq => hs q (List.mem_cons_of_mem _ hq), by omega, a, b⟩
      have sp := (hs p List.mem_cons_self).1
      have sw := (hs p List.mem_cons_self).2
      rcases f5 with rfl | ⟨o5, rfl⟩
      all_goals
        rcases f6 with rfl | ⟨o6, rfl⟩
        all_goals
          simp (config := { maxSteps := 2000000 }) only [vNext, vSeq, vBreak, vCont, vIfS, vRet, vRetN, vDrop, canSet_eq, sf_em, sf_ow, Option.elim_some, vAsg, vPar, gvName, gvNil, gvCons, gvTup, vAsgG, vFor, vWhile, vYes, vC, vVar, vMove, vSlot, vSh, vOp, vTest, vAnd, vOr, vNot, vAndV, vOrV, vNotV, vIf, vNilA, vConsA, getA, valsA, vTup, vLst, vNoPart, vPart, vSl, vUn, vCB, vChain, pIsi, pIsiT, ioIdx, resolve, pb, callB, vCall, vCallK, permute, pd1, pLen, pAbs, pInt1, pTuple, pList, pRepr, vSeqI, vRng1, vRng2, vZip, vEnum, vMth, vMeth, pmAppend, pmExtend, pmPop, vSetIx, vAug, vOrT, truD, pdAdd, pdSub, pdMul, pdFdiv, pdMod, pdPow, pdInt, pdEq, pdNe, bothStr, true_or, or_true, pdOrd, pdLt, pdGt, pdLe, pdGe, pdIs, isNn, pdIx, pdNeg, pdRev, Bo.get, Sl.con, Sl.put, O.dat, datL, datF, O.rd, noD, wipeS, slotsOf, endsP, outs0, outs1, outs2, ioNil, ioOne, List.length_cons, List.length_nil, List.replicate, List.cons_append, List.nil_append, List.set_cons_zero, List.set_cons_succ, List.getElem?_cons_zero, List.getElem?_cons_succ, List.getElem?_nil, List.getD_cons_zero, List.getD_cons_succ, List.filterMap_cons, List.filterMap_nil, Option.map_some, Option.bind_some, Option.map, Option.some.injEq, List.cons.injEq, O.sh.injEq, O.lst.injEq, O.dct.injEq, false_and, and_false, Sl.ow.injEq, Sl.io.injEq, PyData.int.injEq, PyData.bool.injEq, PyData.str.injEq, PyData.list.injEq, PyData.tuple.injEq, reduceCtorEq, exists_eq_left, exists_eq_left', exists_eq', exists_const, exists_and_left, exists_and_right, and_assoc, false_or, or_false, Int.toNat_natCast, Bool.false_eq_true, and_true, true_and, and_self, ne_eq, not_false_eq_true, not_true_eq_false, if_true, if_false, ↓reduceIte, Nat.reduceSub, Nat.reduceAdd, Nat.reduceEqDiff, at30, at31, at32, ix30, ix32, Nat.succ_ne_zero, List.length_map]
          by_cases h : f.length < W.length
          · rw [if_pos (decide_eq_true (by omega))]
            refine ⟨W[f.length], ix_nat h, .inr ⟨hW _ (List.getElem_mem _), sp⟩, ?_⟩
            rw [sw _ (List.getElem_mem _)]
            cases e : PyData.eqv p.1 W[f.length]
            · rw [if_neg Bool.false_ne_true]
              exact next f (by unfold stepM; rw [List.getElem?_eq_getElem h]; dsimp only; rw [e, if_neg Bool.false_ne_true]) (by omega) _ _ (.inr ⟨_, rfl⟩) (.inr ⟨_, rfl⟩)
            · rw [if_pos rfl]
              refine ⟨by rw [sizeLine_eq]; omega, ?_⟩
              have := next (f ++ [p.2]) (by unfold stepM; rw [List.getElem?_eq_getElem h]; dsimp only; rw [e, if_pos rfl]) (by rw [List.length_append, List.length_singleton]; omega) (.ow (.sh (.int (p.2 : Nat)))) (.ow (.sh p.1)) (.inr ⟨_, rfl⟩) (.inr ⟨_, rfl⟩)
              rw [List.map_append] at this
              exact this
          · have h' : ¬ ((f.length : Int) < (W.length : Int)) := by omega
            rw [if_neg (by rw [decide_eq_false h']; exact Bool.false_ne_true)]
            exact next f (by unfold stepM; rw [List.getElem?_eq_none (by omega)]) (by omega) _ _ (.inr ⟨_, rfl⟩) (.inr ⟨_, rfl⟩)
  · rintro S ⟨ps, f, s5, s6, hr, rfl, hf, _⟩
    cases ps with
    | nil =>
      have e : f = total := hf
      rw [e]
      exact fin s5 s6
    | cons p ps => cases hr
theorem pair_comm {ys xs : List Str} {n : Int} {d e : PyData} (hd : d ∈ pairsD ys n) (he : e ∈ pairsD xs n) : PyData.eqv d e = PyData.eqv e d := by
  obtain ⟨_, x, y, _, _, rfl⟩ := mem_pairsD.mp hd
  obtain ⟨_, z, w, _, _, rfl⟩ := mem_pairsD.mp he
  show ((endW x n == endW z n) && ((y == w) && true)) = ((endW z n == endW x n) && ((w == y) && true))
  rw [BEq.comm (a := endW x n), BEq.comm (a := y)]
end VL

set_option Elab.async false
set_option linter.all false
set_option maxRecDepth 100000
set_option maxHeartbeats 1000000
namespace VL
open PySem PySem.Spec PyProof.Rows L2
variable [Wd]
theorem obs_fin {ys xs : List Str} {n : Int} {R : O → List O → Prop} {dc d : PyData} (hc : Txt dc ys) (hd : Txt d xs) (fy : Fit ys) (fx : Fit xs) (ny : ys ≠ []) (nx : xs ≠ []) (q : R (.sh (optD (obs ys xs n))) [.sh dc, .sh d, .sh (.int n)]) :
    if (!(PyData.str (headW ys)).eqv (PyData.str (headW xs))) = true then R (O.sh (PyData.int 0)) [.sh dc, .sh d, .sh (.int n)]
    else ∃ x, Txt dc x ∧ ∃ x_1, Txt d x_1 ∧ Fit x ∧ Fit x_1 ∧ SeqAt.shaped (PyData.int (↑(matched (pairsD x n) (pairsD x_1 n)).length + 1)) = true ∧ SeqAt.shaped (PyData.int ↑ys.length) = true ∧
      if (PyData.int (↑(matched (pairsD x n) (pairsD x_1 n)).length + 1)).eqv (PyData.int ↑ys.length) = true then
        wOk (lastW ys) ∧ wOk (lastW xs) ∧ if alk (lastW ys) (lastW xs) n = true then R (O.sh PyData.none) [.sh dc, .sh d, .sh (.int n)] else R (O.sh (PyData.int (↑(matched (pairsD x n) (pairsD x_1 n)).length + 1))) [.sh dc, .sh d, .sh (.int n)]
      else R (O.sh (PyData.int (↑(matched (pairsD x n) (pairsD x_1 n)).length + 1))) [.sh dc, .sh d, .sh (.int n)] := by
  unfold obs at q
  cases e1 : PyData.eqv (.str (headW ys)) (.str (headW xs))
  · rw [e1, if_neg Bool.false_ne_true] at q
    exact q
  · rw [e1, if_pos rfl] at q
    refine ⟨ys, hc, xs, hd, fy, fx, rfl, rfl, ?_⟩
    rw [eqv_int]
    by_cases h : (matched (pairsD ys n) (pairsD xs n)).length + 1 = ys.length
    · rw [if_pos (decide_eq_true (by omega))]
      refine ⟨fy.wd _ (lastW_mem ny), fx.wd _ (lastW_mem nx), ?_⟩
      cases e2 : alk (lastW ys) (lastW xs) n
      · rw [if_neg (by rw [e2]; exact fun z => Bool.false_ne_true z.2)] at q
        exact q
      · rw [if_pos ⟨h, e2⟩] at q
        exact q
    · rw [if_neg (fun z => h z.1)] at q
      rw [if_neg (by rw [decide_eq_false (by omega)]; exact Bool.false_ne_true)]
      exact q
theorem run_obstacle : Runs ms_obstacle Obstacle t_obstacle 1 := by
  rintro vs os R h1 h2 sh ⟨dc, d, ys, xs, n, rfl, hc, hd, fy, fx, ny, nx, q⟩
  obtain ⟨v1, v2, v3, rfl⟩ := len3 h1
  unfold t_obstacle
  have hc' := hc
  have hd' := hd
  rcases hc with rfl | rfl
  all_goals
    rcases hd with rfl | rfl
    all_goals
      simp (config := { maxSteps := 2000000 }) only [vNext, vSeq, vBreak, vCont, vIfS, vRet, vRetN, vDrop, canSet_eq, sf_em, sf_ow, Option.elim_some, vAsg, vPar, gvName, gvNil, gvCons, gvTup, vAsgG, vFor, vWhile, vYes, vC, vVar, vMove, vSlot, vSh, vOp, vTest, vAnd, vOr, vNot, vAndV, vOrV, vNotV, vIf, vNilA, vConsA, getA, valsA, vTup, vLst, vNoPart, vPart, vSl, vUn, vCB, vChain, pIsi, pIsiT, ioIdx, resolve, pb, callB, vCall, vCallK, permute, pd1, pLen, pAbs, pInt1, pTuple, pList, pRepr, vSeqI, vRng1, vRng2, vZip, vEnum, vMth, vMeth, pmAppend, pmExtend, pmPop, vSetIx, vAug, vOrT, truD, pdAdd, pdSub, pdMul, pdFdiv, pdMod, pdPow, pdInt, pdEq, pdNe, bothStr, true_or, or_true, pdOrd, pdLt, pdGt, pdLe, pdGe, pdIs, isNn, pdIx, pdNeg, pdRev, Bo.get, Sl.con, Sl.put, O.dat, datL, datF, O.rd, noD, wipeS, slotsOf, endsP, outs0, outs1, outs2, ioNil, ioOne, List.length_cons, List.length_nil, List.replicate, List.cons_append, List.nil_append, List.set_cons_zero, List.set_cons_succ, List.getElem?_cons_zero, List.getElem?_cons_succ, List.getElem?_nil, List.getD_cons_zero, List.getD_cons_succ, List.filterMap_cons, List.filterMap_nil, Option.map_some, Option.bind_some, Option.map, Option.some.injEq, List.cons.injEq, O.sh.injEq, O.lst.injEq, O.dct.injEq, false_and, and_false, Sl.ow.injEq, Sl.io.injEq, PyData.int.injEq, PyData.bool.injEq, PyData.str.injEq, PyData.list.injEq, PyData.tuple.injEq, reduceCtorEq, exists_eq_left, exists_eq_left', exists_eq', exists_const, exists_and_left, exists_and_right, and_assoc, false_or, or_false, Int.toNat_natCast, Bool.false_eq_true, and_true, true_and, and_self, ne_eq, not_false_eq_true, not_true_eq_false, if_true, if_false, ↓reduceIte, Nat.reduceSub, Nat.reduceAdd, Nat.reduceEqDiff, at30, at31, at32, ix30, ix32, Nat.succ_ne_zero, at_head ny, at_head nx, at_last ny, at_last nx, spec_looks_alike, Alike, spec_matched_pairs, MatchedPairs, List.length_map]
      exact obs_fin hc' hd' fy fx ny nx q
end VL

set_option Elab.async false
set_option linter.all false
set_option maxRecDepth 100000
set_option maxHeartbeats 1000000
namespace VL
open PySem PySem.Spec PyProof.Rows L2
variable [Wd]
/-! ### what comes of what: leaps and pairs -/
/-- the pairs, plain -/
def prs (xs : List Str) (n : Int) : List (Str × Str) := (xs.zip xs.tail).map fun p => (endW p.1 n, p.2)
def prD (p : Str × Str) : PyData := .tuple [.str p.1, .str p.2]
theorem pairsD_prs {xs : List Str} {n : Int} : pairsD xs n = (prs xs n).map prD := by
  unfold pairsD prs
  rw [List.map_map]
  rfl
theorem eqv_prD {p q : Str × Str} : PyData.eqv (prD p) (prD q) = decide (p = q) := by
  obtain ⟨a, b⟩ := p
  obtain ⟨c, d⟩ := q
  show ((a == c) && ((b == d) && true)) = _
  rw [Bool.and_true]
  by_cases h1 : a = c
  · by_cases h2 : b = d
    · rw [h1, h2, decide_eq_true rfl, beq_self_eq_true, beq_self_eq_true]
      rfl
    · rw [decide_eq_false (fun e => h2 (Prod.mk.inj e).2), beq_eq_false_iff_ne.mpr h2, Bool.and_false]
  · rw [decide_eq_false (fun e => h1 (Prod.mk.inj e).1), beq_eq_false_iff_ne.mpr h1, Bool.false_and]
/-- how many are matched greedily -/
def gm {α : Type} [DecidableEq α] : List α → List α → Nat
  | [], _ => 0
  | _ :: _, [] => 0
  | w :: W, p :: P => if p = w then gm W P + 1 else gm (w :: W) P
theorem gm_nil {α : Type} [DecidableEq α] (P : List α) : gm [] P = 0 := by unfold gm; rfl
theorem gm_pos {α : Type} [DecidableEq α] {w p : α} {W P : List α} (e : p = w) : gm (w :: W) (p :: P) = gm W P + 1 := by
  conv => lhs; unfold gm
  rw [if_pos e]
theorem gm_neg {α : Type} [DecidableEq α] {w p : α} {W P : List α} (e : ¬ p = w) : gm (w :: W) (p :: P) = gm (w :: W) P := by
  conv => lhs; unfold gm
  rw [if_neg e]
theorem gm_le {α : Type} [DecidableEq α] : ∀ (P W : List α), gm W P ≤ W.length
  | [], W => by cases W <;> exact Nat.zero_le _
  | p :: P, [] => Nat.zero_le _
  | p :: P, w :: W => by
    unfold gm
    split
    · exact Nat.succ_le_succ (gm_le P W)
    · exact gm_le P (w :: W)
theorem gm_all {α : Type} [DecidableEq α] : ∀ (P W : List α), gm W P = W.length ↔ W.Sublist P
  | [], W => by
    cases W with
    | nil => exact ⟨fun _ => List.Sublist.refl _, fun _ => rfl⟩
    | cons w W => exact ⟨fun h => absurd h (by show ¬ 0 = W.length + 1; omega), fun h => by cases h⟩
  | p :: P, [] => ⟨fun _ => List.nil_sublist _, fun _ => rfl⟩
  | p :: P, w :: W => by
    unfold gm
    split
    · rename_i e
      rw [e, List.length_cons, Nat.succ.injEq, gm_all P W]
      exact ⟨fun h => h.cons_cons w, fun h => by
        cases h with
        | cons _ h => exact (List.sublist_cons_self w W).trans h
        | cons_cons _ h => exact h⟩
    · rename_i e
      rw [gm_all P (w :: W)]
      exact ⟨fun h => h.cons p, fun h => by
        cases h with
        | cons _ h => exact h
        | cons_cons _ h => exact absurd rfl e⟩
theorem fold_gm {W : List (Str × Str)} : ∀ (P : List (Str × Str)) (k : Nat) (f : List Nat), f.length ≤ W.length → (((P.map prD).zipIdx k).foldl (stepM (W.map prD)) f).length = f.length + gm (W.drop f.length) P
  | [], k, f, h => by
    show f.length = _
    cases W.drop f.length <;> rfl
  | p :: P, k, f, h => by
    rw [List.map_cons, List.zipIdx_cons, List.foldl_cons]
    by_cases hl : f.length < W.length
    · have e1 : (W.map prD)[f.length]? = some (prD W[f.length]) := by rw [List.getElem?_map, List.getElem?_eq_getElem hl]; rfl
      have e2 : W.drop f.length = W[f.length] :: W.drop (f.length + 1) := List.drop_eq_getElem_cons hl
      have st : stepM (W.map prD) f (prD p, k) = if p = W[f.length] then f ++ [k] else f := by
        unfold stepM
        rw [e1]
        show (if PyData.eqv (prD p) (prD W[f.length]) = true then f ++ [k] else f) = _
        rw [eqv_prD]
        by_cases e : p = W[f.length]
        · rw [if_pos (decide_eq_true e), if_pos e]
        · rw [if_neg (by rw [decide_eq_false e]; exact Bool.false_ne_true), if_neg e]
      rw [st, e2]
      by_cases e : p = W[f.length]
      · rw [if_pos e, fold_gm P (k + 1) (f ++ [k]) (by rw [List.length_append, List.length_singleton]; omega)]
        rw [gm_pos e, List.length_append, List.length_singleton]
        omega
      · rw [if_neg e, fold_gm P (k + 1) f h, e2, gm_neg e]
    · have e1 : (W.map prD)[f.length]? = none := List.getElem?_eq_none (by rw [List.length_map]; omega)
      have e2 : W.drop f.length = [] := List.drop_eq_nil_of_le (by omega)
      have st : stepM (W.map prD) f (prD p, k) = f := by
        unfold stepM
        rw [e1]
      rw [st, fold_gm P (k + 1) f h, e2, gm_nil, gm_nil]
theorem matched_len {ys xs : List Str} {n : Int} : (matched (pairsD ys n) (pairsD xs n)).length = gm (prs ys n) (prs xs n) := by
  unfold matched
  rw [pairsD_prs, pairsD_prs]
  have h := fold_gm (W := prs ys n) (prs xs n) 0 [] (Nat.zero_le _)
  rw [List.length_nil, Nat.zero_add] at h
  exact h
theorem prs_len {xs : List Str} {n : Int} : (prs xs n).length = xs.length - 1 := by
  unfold prs
  rw [List.length_map, List.length_zip, List.length_tail]
  omega
/-- the pairs decide -/
structure Dec (ys xs : List Str) (n : Int) : Prop where
  hd : headW ys = headW xs
  la : endW (lastW ys) n = endW (lastW xs) n
  pr : (prs ys n).Sublist (prs xs n)
theorem obs_dec {ys xs : List Str} {n : Int} (ny : ys ≠ []) : obs ys xs n = none ↔ Dec ys xs n := by
  have py := len_pos ny
  unfold obs
  rw [matched_len]
  have q := gm_all (prs xs n) (prs ys n)
  rw [prs_len] at q
  constructor
  · intro h
    split at h
    · rename_i e
      split at h
      · rename_i e2
        exact ⟨eqv_str_iff.mp e, alk_iff.mp e2.2, q.mp (by omega)⟩
      · cases h
    · cases h
  · intro ⟨h1, h2, h3⟩
    rw [if_pos (eqv_str_iff.mpr h1), if_pos ⟨by have := q.mpr h3; omega, alk_iff.mpr h2⟩]
theorem prs_cons {x y : Str} {xs : List Str} {n : Int} : prs (x :: y :: xs) n = (endW x n, y) :: prs (y :: xs) n := rfl
theorem prs_at {xs : List Str} {n : Int} {i : Nat} : (prs xs n)[i]? = (xs[i]?).bind fun a => (xs[i + 1]?).map fun b => (endW a n, b) := by
  unfold prs
  rw [List.getElem?_map]
  cases h1 : xs[i]? with
  | none =>
    have : (xs.zip xs.tail)[i]? = none := List.getElem?_eq_none (by have := List.getElem?_eq_none_iff.mp h1; rw [List.length_zip]; omega)
    rw [this]
    rfl
  | some a =>
    cases h2 : xs[i + 1]? with
    | none =>
      have : (xs.zip xs.tail)[i]? = none := List.getElem?_eq_none (by have := List.getElem?_eq_none_iff.mp h2; rw [List.length_zip, List.length_tail]; omega)
      rw [this]
      rfl
    | some b =>
      have : (xs.zip xs.tail)[i]? = some (a, b) := by rw [List.getElem?_zip_eq_some, List.getElem?_tail]; exact ⟨h1, h2⟩
      rw [this]
      rfl
theorem leapt_prs {xs : List Str} {n : Int} {p : Nat × Nat} (hp : LeapOk xs n p) : prs (leapt xs p) n = (prs xs n).take p.1 ++ (prs xs n).drop p.2 := by
  obtain ⟨p1, p2, al⟩ := hp
  rw [alk_iff] at al
  apply List.ext_getElem?
  intro i
  rw [prs_at, leapt_at p1 p2, leapt_at p1 p2, List.getElem?_append, List.length_take, prs_len]
  have em : min p.1 (xs.length - 1) = p.1 := by omega
  rw [em]
  by_cases a : i < p.1
  · rw [if_pos (by omega), if_pos (by omega), if_pos a, List.getElem?_take, if_pos a, prs_at]
  · rw [if_neg a, List.getElem?_drop, prs_at]
    by_cases b : i = p.1
    · subst b
      rw [if_pos (Nat.le_refl _), if_neg (by omega), show p.2 + (p.1 - p.1) = p.2 by omega, List.getElem?_eq_getElem (show p.1 < xs.length by omega), List.getElem?_eq_getElem p2, show p.1 + 1 + (p.2 - p.1) = p.2 + 1 by omega]
      show (xs[p.2 + 1]?).map _ = (xs[p.2 + 1]?).map _
      rw [al]
    · rw [if_neg (by omega), if_neg (by omega), show p.2 + (i - p.1) = i + (p.2 - p.1) by omega, show i + 1 + (p.2 - p.1) = i + (p.2 - p.1) + 1 by omega]
theorem leap_dec {ys xs : List Str} {n : Int} {p : Nat × Nat} (h : Dec ys xs n) (hp : LeapOk ys n p) : Dec (leapt ys p) xs n := by
  have hp' := hp
  obtain ⟨p1, p2, al⟩ := hp'
  refine ⟨?_, ?_, ?_⟩
  · rw [← h.hd, headW_at, headW_at, leapt_at p1 p2, if_pos (Nat.zero_le _)]
  · rw [alk_iff] at al
    rw [← h.la, lastW_at, lastW_at, leapt_at p1 p2, leapt_len p1 p2]
    by_cases a : ys.length - (p.2 - p.1) - 1 ≤ p.1
    · rw [if_pos a]
      have e1 : ys.length - (p.2 - p.1) - 1 = p.1 := by omega
      have e2 : ys.length - 1 = p.2 := by omega
      rw [e1, e2, List.getElem?_eq_getElem (by omega), List.getElem?_eq_getElem p2]
      exact al
    · rw [if_neg a]
      congr 3
      omega
  · rw [leapt_prs hp]
    refine List.Sublist.trans ?_ h.pr
    have e : prs ys n = (prs ys n).take p.1 ++ (prs ys n).drop p.1 := (List.take_append_drop _ _).symm
    conv => rhs; rw [e]
    refine List.Sublist.append (List.Sublist.refl _) ?_
    rw [show p.2 = p.1 + (p.2 - p.1) by omega, ← List.drop_drop]
    exact List.drop_sublist _ _
theorem dec_self {xs : List Str} {n : Int} : Dec xs xs n := ⟨rfl, rfl, List.Sublist.refl _⟩
theorem from_dec {ys xs : List Str} {n : Int} (h : From n xs ys) : Dec ys xs n := by
  induction h with
  | self => exact dec_self
  | leap _ hp ih => exact leap_dec ih hp
theorem from_trans {n : Int} {xs ys zs : List Str} (h1 : From n xs ys) (h2 : From n ys zs) : From n xs zs := by
  induction h2 with
  | self => exact h1
  | leap _ hp ih => exact ih.leap hp
theorem from_cons {n : Int} {w : Str} {xs ys : List Str} (h : From n xs ys) : From n (w :: xs) (w :: ys) := by
  induction h with
  | self => exact .self
  | @leap zs p _ hp ih =>
    have e : leapt (w :: zs) (p.1 + 1, p.2 + 1) = w :: leapt zs p := rfl
    rw [← e]
    refine ih.leap ?_
    obtain ⟨p1, p2, al⟩ := hp
    exact ⟨by show p.1 + 1 < p.2 + 1; omega, by rw [List.length_cons]; show p.2 + 1 < _; omega, al⟩
theorem from_ne {n : Int} {xs ys : List Str} (h : From n xs ys) (nx : xs ≠ []) : ys ≠ [] := by
  induction h with
  | self => exact nx
  | @leap zs p _ hp ih =>
    obtain ⟨p1, p2, _⟩ := hp
    intro e
    have l := leapt_len p1 p2
    rw [e, List.length_nil] at l
    omega
theorem dec_from {n : Int} : ∀ {ys xs : List Str}, ys ≠ [] → xs ≠ [] → Dec ys xs n → From n xs ys
  | [], _, h, _, _ => absurd rfl h
  | [y], xs, _, nx, d => by
    cases xs with
    | nil => exact absurd rfl nx
    | cons x xs =>
      have e : y = x := d.hd
      subst e
      cases xs with
      | nil => exact .self
      | cons z zs =>
        have hl : LeapOk (y :: z :: zs) n (0, zs.length + 1) := by
          refine ⟨Nat.succ_pos _, by rw [List.length_cons, List.length_cons]; show zs.length + 1 < _; omega, alk_iff.mpr ?_⟩
          have la : endW y n = endW (lastW (y :: z :: zs)) n := d.la
          rw [lastW_at, List.length_cons, List.length_cons, show zs.length + 1 + 1 - 1 = zs.length + 1 by omega, List.getElem?_eq_getElem (by rw [List.length_cons, List.length_cons]; omega)] at la
          exact la
        have e : leapt (y :: z :: zs) (0, zs.length + 1) = [y] := by
          unfold leapt
          show (y :: z :: zs).take 1 ++ (y :: z :: zs).drop (zs.length + 1 + 1) = [y]
          rw [List.drop_eq_nil_of_le (by rw [List.length_cons, List.length_cons]; omega)]
          rfl
        have q := From.leap From.self hl
        rw [e] at q
        exact q
  | y :: y' :: ys, xs, _, nx, d => by
    cases xs with
    | nil => exact absurd rfl nx
    | cons x xs =>
      have e : y = x := d.hd
      subst e
      have sub := d.pr
      rw [prs_cons] at sub
      obtain ⟨A, B, eAB, hA, hB⟩ := List.cons_sublist_iff.mp sub
      obtain ⟨j, hj⟩ := List.mem_iff_getElem?.mp hA
      have hjl : j < A.length := (List.getElem?_eq_some_iff.mp hj).1
      have hP : (prs (y :: xs) n)[j]? = some (endW y n, y') := by rw [eAB, List.getElem?_append_left hjl]; exact hj
      rw [prs_at] at hP
      obtain ⟨a, h1, hP⟩ := Option.bind_eq_some_iff.mp hP
      obtain ⟨b, h2, hP⟩ := Option.map_eq_some_iff.mp hP
      have ea : endW a n = endW y n := (Prod.mk.inj hP).1
      have eb : b = y' := (Prod.mk.inj hP).2
      subst eb
      obtain ⟨l1, g1⟩ := List.getElem?_eq_some_iff.mp h1
      obtain ⟨l2, g2⟩ := List.getElem?_eq_some_iff.mp h2
      have ed : (y :: xs).drop (j + 1) = b :: (y :: xs).drop (j + 2) := by
        rw [List.drop_eq_getElem_cons l2, g2]
      have pd : ∀ (k : Nat) (l : List Str), prs (l.drop k) n = (prs l n).drop k := by
        intro k l
        apply List.ext_getElem?
        intro i
        rw [prs_at, List.getElem?_drop, List.getElem?_drop, List.getElem?_drop, prs_at]
        rfl
      have d2 : Dec (b :: ys) ((y :: xs).drop (j + 1)) n := by
        refine ⟨by rw [ed]; rfl, ?_, ?_⟩
        · have e1 : lastW (y :: b :: ys) = lastW (b :: ys) := rfl
          have e2 : lastW ((y :: xs).drop (j + 1)) = lastW (y :: xs) := by
            rw [lastW_at, lastW_at, List.getElem?_drop, List.length_drop]
            congr 2
            omega
          rw [e2, ← e1]
          exact d.la
        · rw [pd, eAB, List.drop_append_of_le_length (by omega)]
          exact hB.trans (List.sublist_append_right _ _)
      have f1 := from_cons (w := y) (dec_from (by simp) (by rw [ed]; simp) d2)
      refine from_trans ?_ f1
      by_cases hj0 : j = 0
      · subst hj0
        exact .self
      · have hl : LeapOk (y :: xs) n (0, j) := ⟨by show 0 < j; omega, l1, alk_iff.mpr (by show endW y n = endW ((y :: xs)[j]) n; rw [g1, ea])⟩
        have e : leapt (y :: xs) (0, j) = y :: (y :: xs).drop (j + 1) := rfl
        have q := From.leap From.self hl
        rw [e] at q
        exact q
theorem from_iff {n : Int} {ys xs : List Str} (ny : ys ≠ []) (nx : xs ≠ []) : From n xs ys ↔ obs ys xs n = none := by
  rw [obs_dec ny]
  exact ⟨from_dec, dec_from ny nx⟩
end VL

set_option Elab.async false
set_option linter.all false
set_option maxRecDepth 100000
set_option maxHeartbeats 1000000
namespace VL
open PySem PySem.Spec PyProof.Rows L2
variable [Wd]
theorem lnum {n : Nat} (h : n ≤ 10000000) : n ≤ sizeLine := by rw [sizeLine_eq]; omega
theorem found_small {ys xs : List Str} {n : Int} (fy : Fit ys) : (matched (pairsD ys n) (pairsD xs n)).length ≤ 2000 := by
  rw [matched_len]
  have h1 := gm_le (prs xs n) (prs ys n)
  have h2 := prs_len (xs := ys) (n := n)
  have := fy.len
  omega
theorem run_comes_from : Runs ms_comes_from ComesFrom t_comes_from 0 := by
  rintro vs os R h1 h2 sh ⟨dc, d, ys, xs, n, rfl, hc, hd, fy, fx, ny, nx, q⟩
  obtain ⟨v1, v2, v3, rfl⟩ := len3 h1
  unfold t_comes_from
  simp (config := { maxSteps := 2000000 }) only [vNext, vSeq, vBreak, vCont, vIfS, vRet, vRetN, vDrop, canSet_eq, sf_em, sf_ow, Option.elim_some, vAsg, vPar, gvName, gvNil, gvCons, gvTup, vAsgG, vFor, vWhile, vYes, vC, vVar, vMove, vSlot, vSh, vOp, vTest, vAnd, vOr, vNot, vAndV, vOrV, vNotV, vIf, vNilA, vConsA, getA, valsA, vTup, vLst, vNoPart, vPart, vSl, vUn, vCB, vChain, pIsi, pIsiT, ioIdx, resolve, pb, callB, vCall, vCallK, permute, pd1, pLen, pAbs, pInt1, pTuple, pList, pRepr, vSeqI, vRng1, vRng2, vZip, vEnum, vMth, vMeth, pmAppend, pmExtend, pmPop, vSetIx, vAug, vOrT, truD, pdAdd, pdSub, pdMul, pdFdiv, pdMod, pdPow, pdInt, pdEq, pdNe, bothStr, true_or, or_true, pdOrd, pdLt, pdGt, pdLe, pdGe, pdIs, isNn, pdIx, pdNeg, pdRev, Bo.get, Sl.con, Sl.put, O.dat, datL, datF, O.rd, noD, wipeS, slotsOf, endsP, outs0, outs1, outs2, ioNil, ioOne, List.length_cons, List.length_nil, List.replicate, List.cons_append, List.nil_append, List.set_cons_zero, List.set_cons_succ, List.getElem?_cons_zero, List.getElem?_cons_succ, List.getElem?_nil, List.getD_cons_zero, List.getD_cons_succ, List.filterMap_cons, List.filterMap_nil, Option.map_some, Option.bind_some, Option.map, Option.some.injEq, List.cons.injEq, O.sh.injEq, O.lst.injEq, O.dct.injEq, false_and, and_false, Sl.ow.injEq, Sl.io.injEq, PyData.int.injEq, PyData.bool.injEq, PyData.str.injEq, PyData.list.injEq, PyData.tuple.injEq, reduceCtorEq, exists_eq_left, exists_eq_left', exists_eq', exists_const, exists_and_left, exists_and_right, and_assoc, false_or, or_false, Int.toNat_natCast, Bool.false_eq_true, and_true, true_and, and_self, ne_eq, not_false_eq_true, not_true_eq_false, if_true, if_false, ↓reduceIte, Nat.reduceSub, Nat.reduceAdd, Nat.reduceEqDiff, at30, at31, at32, ix30, ix32, Nat.succ_ne_zero, spec_obstacle, Obstacle]
  refine ⟨ys, hc, xs, hd, fy, fx, ny, nx, ?_⟩
  cases e : obs ys xs n with
  | none => rw [e] at q; exact q
  | some k => rw [e] at q; exact q
theorem run_least_parting : Runs ms_least_parting LeastParting t_least_parting 0 := by
  rintro vs os R h1 h2 sh ⟨dc, d, ys, xs, n, rfl, hc, hd, fy, fx, ny, nx, q⟩
  obtain ⟨v1, v2, v3, rfl⟩ := len3 h1
  unfold t_least_parting
  have hd' := hd
  unfold leastD at q
  rcases hd with rfl | rfl
  all_goals
    simp (config := { maxSteps := 2000000 }) only [vNext, vSeq, vBreak, vCont, vIfS, vRet, vRetN, vDrop, canSet_eq, sf_em, sf_ow, Option.elim_some, vAsg, vPar, gvName, gvNil, gvCons, gvTup, vAsgG, vFor, vWhile, vYes, vC, vVar, vMove, vSlot, vSh, vOp, vTest, vAnd, vOr, vNot, vAndV, vOrV, vNotV, vIf, vNilA, vConsA, getA, valsA, vTup, vLst, vNoPart, vPart, vSl, vUn, vCB, vChain, pIsi, pIsiT, ioIdx, resolve, pb, callB, vCall, vCallK, permute, pd1, pLen, pAbs, pInt1, pTuple, pList, pRepr, vSeqI, vRng1, vRng2, vZip, vEnum, vMth, vMeth, pmAppend, pmExtend, pmPop, vSetIx, vAug, vOrT, truD, pdAdd, pdSub, pdMul, pdFdiv, pdMod, pdPow, pdInt, pdEq, pdNe, bothStr, true_or, or_true, pdOrd, pdLt, pdGt, pdLe, pdGe, pdIs, isNn, pdIx, pdNeg, pdRev, Bo.get, Sl.con, Sl.put, O.dat, datL, datF, O.rd, noD, wipeS, slotsOf, endsP, outs0, outs1, outs2, ioNil, ioOne, List.length_cons, List.length_nil, List.replicate, List.cons_append, List.nil_append, List.set_cons_zero, List.set_cons_succ, List.getElem?_cons_zero, List.getElem?_cons_succ, List.getElem?_nil, List.getD_cons_zero, List.getD_cons_succ, List.filterMap_cons, List.filterMap_nil, Option.map_some, Option.bind_some, Option.map, Option.some.injEq, List.cons.injEq, O.sh.injEq, O.lst.injEq, O.dct.injEq, false_and, and_false, Sl.ow.injEq, Sl.io.injEq, PyData.int.injEq, PyData.bool.injEq, PyData.str.injEq, PyData.list.injEq, PyData.tuple.injEq, reduceCtorEq, exists_eq_left, exists_eq_left', exists_eq', exists_const, exists_and_left, exists_and_right, and_assoc, false_or, or_false, Int.toNat_natCast, Bool.false_eq_true, and_true, true_and, and_self, ne_eq, not_false_eq_true, not_true_eq_false, if_true, if_false, ↓reduceIte, Nat.reduceSub, Nat.reduceAdd, Nat.reduceEqDiff, at30, at31, at32, ix30, ix32, Nat.succ_ne_zero, spec_comes_from, ComesFrom, spec_matched_pairs, MatchedPairs]
    refine ⟨ys, hc, xs, hd', fy, fx, ny, nx, ?_⟩
    cases e : obs ys xs n with
    | some k => rw [e] at q; exact q
    | none =>
      rw [e] at q
      rw [if_neg (by decide)]
      refine ⟨ys, hc, xs, hd', fy, fx, ?_⟩
      have ml : (matched (pairsD ys n) (pairsD xs n)).length ≤ 2000 := found_small fy
      refine ⟨lnum (by decide), lnum (by rw [List.length_map]; omega), ?_⟩
      rw [List.length_map]
      unfold leastP at q
      rw [List.map_append, List.map_map] at q
      exact q
theorem bang_f : (!false) = true := rfl
theorem bang_t : ¬ (!true) = true := by decide
theorem all_map {α : Type} (p : α → Bool) (l : List α) : (l.map p).all id = l.all p := by
  rw [List.all_map]
  rfl
theorem begs_lc {i : Nat} {es : List Int} {R : List PyData → Ss → Prop} {S : Ss} (hi : ∀ (k : Int) (K : PyData → Ss → Prop), K (.int (k + 1)) S → gvName i (.int k) S fun S1 => vOp pdAdd (vSlot i) (vSh (vC (.int 1))) S1 fun o S3 => K o.dat (wipeS S3 [i])) (hl : es.length ≤ sizeLine) (h : R ((es.map (· + 1)).map .int) S) :
    lcW (gvName i) vYes (vOp pdAdd (vSlot i) (vSh (vC (.int 1)))) [i] R (es.map .int) [] S := by
  refine lc_pure (α := Int) .int (fun k => .int (k + 1)) (fun _ => true) (fun _ => True) (fun d K L _ k1 _ => ?_) _ [] (fun _ _ => trivial) (by rw [List.length_nil, Nat.zero_add]; exact hl) ?_
  · exact hi d K (k1 rfl)
  · rw [List.filter_eq_self.mpr fun _ _ => rfl]
    rw [List.map_map] at h
    exact h
theorem rows_loop {d : PyData} {xs : List Str} {n : Int} (hd : Txt d xs) (fx : Fit xs) {D : VEnds} {s0 s3 s4 s8 : Sl} {all : Bool} (hn : ∀ s5 s6 s7, all = true → D.nx [s0, .ow (.sh d), .ow (.sh (.int n)), s3, s4, s5, s6, s7, s8])
    (hr : ∀ s5 s6 s7, all = false → D.rt (.sh (.bool false)) [s0, .ow (.sh d), .ow (.sh (.int n)), s3, s4, s5, s6, s7, s8]) :
    ∀ rem S, (∃ (rows : List (Str × Int × Int)) (s5 s6 s7 : Sl), rem = rows.map encR ∧ S = [s0, .ow (.sh d), .ow (.sh (.int n)), s3, s4, s5, s6, s7, s8] ∧ rows.all (rowOk xs n) = all ∧
      (∀ r ∈ rows, wOk r.1 ∧ (0 ≤ r.2.1 ∧ r.2.1 < xs.length) ∧ (0 ≤ r.2.2 ∧ r.2.2 < xs.length)) ∧ slotFree s5 = true ∧ slotFree s6 = true ∧ slotFree s7 = true) →
    forW (gvTup 3 (gvCons (gvName 5) (gvCons (gvName 6) (gvCons (gvName 7) (gvNil))))) (vIfS (vOr (vTest (vOp pdNe (vSh (vOp pdIx (vSlot 1) (vSlot 6))) (vSlot 5))) (vNot (vTest (vCall ms_looks_alike spec_looks_alike (vConsA (vSh (vOp pdIx (vSlot 1) (vSlot 7))) (vConsA (vSh (vVar 5)) (vConsA (vSh (vVar 2)) (vNilA)))))))) (vRet (vC (.bool false))) (vNext)) D rem S := by
  refine for_ind _ ?_ ?_
  · rintro x rem S K hK ⟨rows, s5, s6, s7, hr2, rfl, ha, ho, f5, f6, f7⟩
    cases rows with
    | nil => cases hr2
    | cons r rows =>
      obtain ⟨rfl, rfl⟩ := List.cons.inj hr2
      obtain ⟨⟨w1, w2⟩, ⟨b1, b2⟩, e1, e2⟩ := ho r List.mem_cons_self
      have ho' : ∀ r ∈ rows, wOk r.1 ∧ (0 ≤ r.2.1 ∧ r.2.1 < xs.length) ∧ (0 ≤ r.2.2 ∧ r.2.2 < xs.length) := fun q hq => ho q (List.mem_cons_of_mem _ hq)
      rw [List.all_cons] at ha
      have x1 := word_at b1 b2
      have x2 := word_at e1 e2
      have o2 := word_ok fx e1 e2
      obtain ⟨w, b, e⟩ := r
      rcases hd with rfl | rfl
      all_goals
        unfold encR
        simp (config := { maxSteps := 2000000 }) only [vNext, vSeq, vBreak, vCont, vIfS, vRet, vRetN, vDrop, canSet_eq, sf_em, sf_ow, Option.elim_some, vAsg, vPar, gvName, gvNil, gvCons, gvTup, vAsgG, vFor, vWhile, vYes, vC, vVar, vMove, vSlot, vSh, vOp, vTest, vAnd, vOr, vNot, vAndV, vOrV, vNotV, vIf, vNilA, vConsA, getA, valsA, vTup, vLst, vNoPart, vPart, vSl, vUn, vCB, vChain, pIsi, pIsiT, ioIdx, resolve, pb, callB, vCall, vCallK, permute, pd1, pLen, pAbs, pInt1, pTuple, pList, pRepr, vSeqI, vRng1, vRng2, vZip, vEnum, vMth, vMeth, pmAppend, pmExtend, pmPop, vSetIx, vAug, vOrT, truD, pdAdd, pdSub, pdMul, pdFdiv, pdMod, pdPow, pdInt, pdEq, pdNe, bothStr, true_or, or_true, pdOrd, pdLt, pdGt, pdLe, pdGe, pdIs, isNn, pdIx, pdNeg, pdRev, Bo.get, Sl.con, Sl.put, O.dat, datL, datF, O.rd, noD, wipeS, slotsOf, endsP, outs0, outs1, outs2, ioNil, ioOne, List.length_cons, List.length_nil, List.replicate, List.cons_append, List.nil_append, List.set_cons_zero, List.set_cons_succ, List.getElem?_cons_zero, List.getElem?_cons_succ, List.getElem?_nil, List.getD_cons_zero, List.getD_cons_succ, List.filterMap_cons, List.filterMap_nil, Option.map_some, Option.bind_some, Option.map, Option.some.injEq, List.cons.injEq, O.sh.injEq, O.lst.injEq, O.dct.injEq, false_and, and_false, Sl.ow.injEq, Sl.io.injEq, PyData.int.injEq, PyData.bool.injEq, PyData.str.injEq, PyData.list.injEq, PyData.tuple.injEq, reduceCtorEq, exists_eq_left, exists_eq_left', exists_eq', exists_const, exists_and_left, exists_and_right, and_assoc, false_or, or_false, Int.toNat_natCast, Bool.false_eq_true, and_true, true_and, and_self, ne_eq, not_false_eq_true, not_true_eq_false, if_true, if_false, ↓reduceIte, Nat.reduceSub, Nat.reduceAdd, Nat.reduceEqDiff, at30, at31, at32, ix30, ix32, Nat.succ_ne_zero, f5, f6, f7, x1, x2, spec_looks_alike, Alike, canSet_eq]
        unfold rowOk at ha
        dsimp only at ha
        cases g1 : PyData.eqv (.str (wordAt xs b)) (.str w)
        · rw [if_pos bang_f]
          rw [g1, Bool.false_and, Bool.false_and] at ha
          exact hr _ _ _ ha.symm
        · rw [if_neg bang_t]
          refine ⟨o2, ⟨w1, w2⟩, ?_⟩
          cases g2 : alk (wordAt xs e) w n
          · rw [if_pos bang_f]
            rw [g1, g2, Bool.and_false, Bool.false_and] at ha
            exact hr _ _ _ ha.symm
          · rw [if_neg bang_t]
            rw [g1, g2, Bool.true_and, Bool.true_and] at ha
            exact hK _ ⟨rows, _, _, _, rfl, rfl, ha, ho', rfl, rfl, rfl⟩
  · rintro S ⟨rows, s5, s6, s7, hr2, rfl, ha, _⟩
    cases rows with
    | nil => exact hn _ _ _ ha.symm
    | cons _ _ => cases hr2
theorem run_is_parting : Runs ms_is_parting IsParting t_is_parting 5 := by
  rintro vs os R h1 h2 sh ⟨dc, d, ys, xs, n, es, rfl, hc, hd, fy, fx, ny, nx, sy, q⟩
  obtain ⟨v1, v2, v3, v4, rfl⟩ := len4 h1
  unfold t_is_parting
  have out : part ys xs n es = false → R (.sh (.bool false)) [.sh dc, .sh d, .sh (.int n), .sh (.tuple (es.map .int))] := fun e => by rw [e] at q; exact q
  have p1 : ¬ es.length = ys.length → part ys xs n es = false := fun h => by unfold part; rw [decide_eq_false h]; rfl
  have p2 : ∀ h : es ≠ [], ¬ es.getLast h = (xs.length : Int) - 1 → part ys xs n es = false := fun h e => by
    unfold part
    rw [show decide (es.getLast? = some ((xs.length : Int) - 1)) = false from decide_eq_false (by rw [List.getLast?_eq_some_getLast h]; exact fun z => e (Option.some.inj z)), Bool.false_and, Bool.and_false]
  have p3 : ¬ 0 ≤ es.headD 0 → part ys xs n es = false := fun h => by
    unfold part
    rw [decide_eq_false h, Bool.false_and, Bool.and_false, Bool.and_false]
  have p4 : incr es = false → part ys xs n es = false := fun h => by
    unfold part
    rw [h, Bool.false_and, Bool.and_false, Bool.and_false, Bool.and_false]
  refine seq_cut (fun S' => S' = [Sl.ow (.sh dc), .ow (.sh d), .ow (.sh (.int n)), .ow (.sh (.tuple (es.map .int))), .em, .em, .em, .em, .em] ∧ es.length = ys.length ∧ es.getLast? = some ((xs.length : Int) - 1) ∧ 0 ≤ es.headD 0) ?_ ?_
  · intro K hK
    rcases hc with rfl | rfl
    all_goals
      rcases hd with rfl | rfl
      all_goals
        simp (config := { maxSteps := 2000000 }) only [vNext, vSeq, vBreak, vCont, vIfS, vRet, vRetN, vDrop, canSet_eq, sf_em, sf_ow, Option.elim_some, vAsg, vPar, gvName, gvNil, gvCons, gvTup, vAsgG, vFor, vWhile, vYes, vC, vVar, vMove, vSlot, vSh, vOp, vTest, vAnd, vOr, vNot, vAndV, vOrV, vNotV, vIf, vNilA, vConsA, getA, valsA, vTup, vLst, vNoPart, vPart, vSl, vUn, vCB, vChain, pIsi, pIsiT, ioIdx, resolve, pb, callB, vCall, vCallK, permute, pd1, pLen, pAbs, pInt1, pTuple, pList, pRepr, vSeqI, vRng1, vRng2, vZip, vEnum, vMth, vMeth, pmAppend, pmExtend, pmPop, vSetIx, vAug, vOrT, truD, pdAdd, pdSub, pdMul, pdFdiv, pdMod, pdPow, pdInt, pdEq, pdNe, bothStr, true_or, or_true, pdOrd, pdLt, pdGt, pdLe, pdGe, pdIs, isNn, pdIx, pdNeg, pdRev, Bo.get, Sl.con, Sl.put, O.dat, datL, datF, O.rd, noD, wipeS, slotsOf, endsP, outs0, outs1, outs2, ioNil, ioOne, List.length_cons, List.length_nil, List.replicate, List.cons_append, List.nil_append, List.set_cons_zero, List.set_cons_succ, List.getElem?_cons_zero, List.getElem?_cons_succ, List.getElem?_nil, List.getD_cons_zero, List.getD_cons_succ, List.filterMap_cons, List.filterMap_nil, Option.map_some, Option.bind_some, Option.map, Option.some.injEq, List.cons.injEq, O.sh.injEq, O.lst.injEq, O.dct.injEq, false_and, and_false, Sl.ow.injEq, Sl.io.injEq, PyData.int.injEq, PyData.bool.injEq, PyData.str.injEq, PyData.list.injEq, PyData.tuple.injEq, reduceCtorEq, exists_eq_left, exists_eq_left', exists_eq', exists_const, exists_and_left, exists_and_right, and_assoc, false_or, or_false, Int.toNat_natCast, Bool.false_eq_true, and_true, true_and, and_self, ne_eq, not_false_eq_true, not_true_eq_false, if_true, if_false, ↓reduceIte, Nat.reduceSub, Nat.reduceAdd, Nat.reduceEqDiff, at30, at31, at32, ix30, ix32, Nat.succ_ne_zero, List.length_map, shaped_int, eqv_int]
        by_cases h : es.length = ys.length
        · have ne : es ≠ [] := fun e => by
            rw [e] at h
            exact ny (List.length_eq_zero_iff.mp h.symm)
          rw [if_neg (by rw [decide_eq_true (by omega)]; exact Bool.false_ne_true)]
          refine ⟨_, at_last_i ne, rfl, ?_⟩
          rw [eqv_int]
          by_cases h2 : es.getLast ne = (xs.length : Int) - 1
          · rw [if_neg (by rw [decide_eq_true h2]; exact Bool.false_ne_true)]
            refine ⟨_, at_head_i ne, ?_⟩
            dsimp only
            by_cases h3 : es.headD 0 < 0
            · rw [if_pos (decide_eq_true h3)]
              exact out (p3 (by omega))
            · rw [if_neg (by rw [decide_eq_false h3]; exact Bool.false_ne_true)]
              exact hK _ ⟨rfl, h, by rw [List.getLast?_eq_some_getLast ne, h2], by omega⟩
          · rw [if_pos (by rw [decide_eq_false h2]; rfl)]
            exact out (p2 ne h2)
        · rw [if_pos (by rw [decide_eq_false (by omega)]; rfl)]
          exact out (p1 h)
  rintro S1 ⟨rfl, e1, e2, e3⟩
  have ne : es ≠ [] := fun e => by
    rw [e] at e1
    exact ny (List.length_eq_zero_iff.mp e1.symm)
  have el : es.length ≤ 1000 := by have := fy.len; omega
  refine seq_cut (fun S' => S' = [Sl.ow (.sh dc), .ow (.sh d), .ow (.sh (.int n)), .ow (.sh (.tuple (es.map .int))), .em, .em, .em, .em, .em] ∧ incr es = true) ?_ ?_
  · intro K hK
    simp (config := { maxSteps := 2000000 }) only [vNext, vSeq, vBreak, vCont, vIfS, vRet, vRetN, vDrop, canSet_eq, sf_em, sf_ow, Option.elim_some, vAsg, vPar, gvName, gvNil, gvCons, gvTup, vAsgG, vFor, vWhile, vYes, vC, vVar, vMove, vSlot, vSh, vOp, vTest, vAnd, vOr, vNot, vAndV, vOrV, vNotV, vIf, vNilA, vConsA, getA, valsA, vTup, vLst, vNoPart, vPart, vSl, vUn, vCB, vChain, pIsi, pIsiT, ioIdx, resolve, pb, callB, vCall, vCallK, permute, pd1, pLen, pAbs, pInt1, pTuple, pList, pRepr, vSeqI, vRng1, vRng2, vZip, vEnum, vMth, vMeth, pmAppend, pmExtend, pmPop, vSetIx, vAug, vOrT, truD, pdAdd, pdSub, pdMul, pdFdiv, pdMod, pdPow, pdInt, pdEq, pdNe, bothStr, true_or, or_true, pdOrd, pdLt, pdGt, pdLe, pdGe, pdIs, isNn, pdIx, pdNeg, pdRev, Bo.get, Sl.con, Sl.put, O.dat, datL, datF, O.rd, noD, wipeS, slotsOf, endsP, outs0, outs1, outs2, ioNil, ioOne, List.length_cons, List.length_nil, List.replicate, List.cons_append, List.nil_append, List.set_cons_zero, List.set_cons_succ, List.getElem?_cons_zero, List.getElem?_cons_succ, List.getElem?_nil, List.getD_cons_zero, List.getD_cons_succ, List.filterMap_cons, List.filterMap_nil, Option.map_some, Option.bind_some, Option.map, Option.some.injEq, List.cons.injEq, O.sh.injEq, O.lst.injEq, O.dct.injEq, false_and, and_false, Sl.ow.injEq, Sl.io.injEq, PyData.int.injEq, PyData.bool.injEq, PyData.str.injEq, PyData.list.injEq, PyData.tuple.injEq, reduceCtorEq, exists_eq_left, exists_eq_left', exists_eq', exists_const, exists_and_left, exists_and_right, and_assoc, false_or, or_false, Int.toNat_natCast, Bool.false_eq_true, and_true, true_and, and_self, ne_eq, not_false_eq_true, not_true_eq_false, if_true, if_false, ↓reduceIte, Nat.reduceSub, Nat.reduceAdd, Nat.reduceEqDiff, at30, at31, at32, ix30, ix32, Nat.succ_ne_zero, pdSl, cutD_cutL, cutL_tail, zipD_map, vLc]
    refine lc_pure (α := Int × Int) (fun p => .tuple [.int p.1, .int p.2]) (fun p => .bool (decide (p.1 < p.2))) (fun _ => true) (fun _ => True) (fun d K L _ k1 _ => ?_) (es.zip es.tail) [] (fun _ _ => trivial) (lnum (by rw [List.length_nil, Nat.zero_add, List.length_zip]; omega)) ?_
    · simp (config := { maxSteps := 2000000 }) only [vNext, vSeq, vBreak, vCont, vIfS, vRet, vRetN, vDrop, canSet_eq, sf_em, sf_ow, Option.elim_some, vAsg, vPar, gvName, gvNil, gvCons, gvTup, vAsgG, vFor, vWhile, vYes, vC, vVar, vMove, vSlot, vSh, vOp, vTest, vAnd, vOr, vNot, vAndV, vOrV, vNotV, vIf, vNilA, vConsA, getA, valsA, vTup, vLst, vNoPart, vPart, vSl, vUn, vCB, vChain, pIsi, pIsiT, ioIdx, resolve, pb, callB, vCall, vCallK, permute, pd1, pLen, pAbs, pInt1, pTuple, pList, pRepr, vSeqI, vRng1, vRng2, vZip, vEnum, vMth, vMeth, pmAppend, pmExtend, pmPop, vSetIx, vAug, vOrT, truD, pdAdd, pdSub, pdMul, pdFdiv, pdMod, pdPow, pdInt, pdEq, pdNe, bothStr, true_or, or_true, pdOrd, pdLt, pdGt, pdLe, pdGe, pdIs, isNn, pdIx, pdNeg, pdRev, Bo.get, Sl.con, Sl.put, O.dat, datL, datF, O.rd, noD, wipeS, slotsOf, endsP, outs0, outs1, outs2, ioNil, ioOne, List.length_cons, List.length_nil, List.replicate, List.cons_append, List.nil_append, List.set_cons_zero, List.set_cons_succ, List.getElem?_cons_zero, List.getElem?_cons_succ, List.getElem?_nil, List.getD_cons_zero, List.getD_cons_succ, List.filterMap_cons, List.filterMap_nil, Option.map_some, Option.bind_some, Option.map, Option.some.injEq, List.cons.injEq, O.sh.injEq, O.lst.injEq, O.dct.injEq, false_and, and_false, Sl.ow.injEq, Sl.io.injEq, PyData.int.injEq, PyData.bool.injEq, PyData.str.injEq, PyData.list.injEq, PyData.tuple.injEq, reduceCtorEq, exists_eq_left, exists_eq_left', exists_eq', exists_const, exists_and_left, exists_and_right, and_assoc, false_or, or_false, Int.toNat_natCast, Bool.false_eq_true, and_true, true_and, and_self, ne_eq, not_false_eq_true, not_true_eq_false, if_true, if_false, ↓reduceIte, Nat.reduceSub, Nat.reduceAdd, Nat.reduceEqDiff, at30, at31, at32, ix30, ix32, Nat.succ_ne_zero]
      exact k1 rfl
    · rw [List.filter_eq_self.mpr fun _ _ => rfl, List.nil_append]
      refine ⟨(es.zip es.tail).map fun p => decide (p.1 < p.2), by rw [List.map_map]; rfl, ?_⟩
      rw [if_neg Bool.false_ne_true, all_map]
      refine ⟨_, rfl, ?_⟩
      show if (!incr es) = true then _ else _
      cases e : incr es
      · rw [if_pos bang_f]
        simp (config := { maxSteps := 2000000 }) only [vNext, vSeq, vBreak, vCont, vIfS, vRet, vRetN, vDrop, canSet_eq, sf_em, sf_ow, Option.elim_some, vAsg, vPar, gvName, gvNil, gvCons, gvTup, vAsgG, vFor, vWhile, vYes, vC, vVar, vMove, vSlot, vSh, vOp, vTest, vAnd, vOr, vNot, vAndV, vOrV, vNotV, vIf, vNilA, vConsA, getA, valsA, vTup, vLst, vNoPart, vPart, vSl, vUn, vCB, vChain, pIsi, pIsiT, ioIdx, resolve, pb, callB, vCall, vCallK, permute, pd1, pLen, pAbs, pInt1, pTuple, pList, pRepr, vSeqI, vRng1, vRng2, vZip, vEnum, vMth, vMeth, pmAppend, pmExtend, pmPop, vSetIx, vAug, vOrT, truD, pdAdd, pdSub, pdMul, pdFdiv, pdMod, pdPow, pdInt, pdEq, pdNe, bothStr, true_or, or_true, pdOrd, pdLt, pdGt, pdLe, pdGe, pdIs, isNn, pdIx, pdNeg, pdRev, Bo.get, Sl.con, Sl.put, O.dat, datL, datF, O.rd, noD, wipeS, slotsOf, endsP, outs0, outs1, outs2, ioNil, ioOne, List.length_cons, List.length_nil, List.replicate, List.cons_append, List.nil_append, List.set_cons_zero, List.set_cons_succ, List.getElem?_cons_zero, List.getElem?_cons_succ, List.getElem?_nil, List.getD_cons_zero, List.getD_cons_succ, List.filterMap_cons, List.filterMap_nil, Option.map_some, Option.bind_some, Option.map, Option.some.injEq, List.cons.injEq, O.sh.injEq, O.lst.injEq, O.dct.injEq, false_and, and_false, Sl.ow.injEq, Sl.io.injEq, PyData.int.injEq, PyData.bool.injEq, PyData.str.injEq, PyData.list.injEq, PyData.tuple.injEq, reduceCtorEq, exists_eq_left, exists_eq_left', exists_eq', exists_const, exists_and_left, exists_and_right, and_assoc, false_or, or_false, Int.toNat_natCast, Bool.false_eq_true, and_true, true_and, and_self, ne_eq, not_false_eq_true, not_true_eq_false, if_true, if_false, ↓reduceIte, Nat.reduceSub, Nat.reduceAdd, Nat.reduceEqDiff, at30, at31, at32, ix30, ix32, Nat.succ_ne_zero]
        exact out (p4 e)
      · rw [if_neg bang_t]
        exact hK _ ⟨rfl, e⟩
  rintro S2 ⟨rfl, e4⟩
  have e5 : part ys xs n es = (rowsOf ys es).all (rowOk xs n) := by
    unfold part
    rw [decide_eq_true e1, decide_eq_true e2, decide_eq_true e3, e4, Bool.true_and, Bool.true_and, Bool.true_and, Bool.true_and, rows_all e1 ne]
  obtain ⟨i1, i2⟩ := ends_in e4 e3 e2
  refine seq_cut (fun S' => S' = [Sl.ow (.sh dc), .ow (.sh d), .ow (.sh (.int n)), .ow (.sh (.tuple (es.map .int))), .ow (.lst ((begsOf es).map .int)), .em, .em, .em, .em]) ?_ ?_
  · intro K hK
    simp (config := { maxSteps := 2000000 }) only [vNext, vSeq, vBreak, vCont, vIfS, vRet, vRetN, vDrop, canSet_eq, sf_em, sf_ow, Option.elim_some, vAsg, vPar, gvName, gvNil, gvCons, gvTup, vAsgG, vFor, vWhile, vYes, vC, vVar, vMove, vSlot, vSh, vOp, vTest, vAnd, vOr, vNot, vAndV, vOrV, vNotV, vIf, vNilA, vConsA, getA, valsA, vTup, vLst, vNoPart, vPart, vSl, vUn, vCB, vChain, pIsi, pIsiT, ioIdx, resolve, pb, callB, vCall, vCallK, permute, pd1, pLen, pAbs, pInt1, pTuple, pList, pRepr, vSeqI, vRng1, vRng2, vZip, vEnum, vMth, vMeth, pmAppend, pmExtend, pmPop, vSetIx, vAug, vOrT, truD, pdAdd, pdSub, pdMul, pdFdiv, pdMod, pdPow, pdInt, pdEq, pdNe, bothStr, true_or, or_true, pdOrd, pdLt, pdGt, pdLe, pdGe, pdIs, isNn, pdIx, pdNeg, pdRev, Bo.get, Sl.con, Sl.put, O.dat, datL, datF, O.rd, noD, wipeS, slotsOf, endsP, outs0, outs1, outs2, ioNil, ioOne, List.length_cons, List.length_nil, List.replicate, List.cons_append, List.nil_append, List.set_cons_zero, List.set_cons_succ, List.getElem?_cons_zero, List.getElem?_cons_succ, List.getElem?_nil, List.getD_cons_zero, List.getD_cons_succ, List.filterMap_cons, List.filterMap_nil, Option.map_some, Option.bind_some, Option.map, Option.some.injEq, List.cons.injEq, O.sh.injEq, O.lst.injEq, O.dct.injEq, false_and, and_false, Sl.ow.injEq, Sl.io.injEq, PyData.int.injEq, PyData.bool.injEq, PyData.str.injEq, PyData.list.injEq, PyData.tuple.injEq, reduceCtorEq, exists_eq_left, exists_eq_left', exists_eq', exists_const, exists_and_left, exists_and_right, and_assoc, false_or, or_false, Int.toNat_natCast, Bool.false_eq_true, and_true, true_and, and_self, ne_eq, not_false_eq_true, not_true_eq_false, if_true, if_false, ↓reduceIte, Nat.reduceSub, Nat.reduceAdd, Nat.reduceEqDiff, at30, at31, at32, ix30, ix32, Nat.succ_ne_zero, cutD_cutL, cutL_init, vLc, pdSl]
    refine ⟨by decide, ?_⟩
    have el2 : es.dropLast.length ≤ 1000 := by rw [List.length_dropLast]; omega
    refine begs_lc (fun k K h => by simp (config := { maxSteps := 2000000 }) only [vNext, vSeq, vBreak, vCont, vIfS, vRet, vRetN, vDrop, canSet_eq, sf_em, sf_ow, Option.elim_some, vAsg, vPar, gvName, gvNil, gvCons, gvTup, vAsgG, vFor, vWhile, vYes, vC, vVar, vMove, vSlot, vSh, vOp, vTest, vAnd, vOr, vNot, vAndV, vOrV, vNotV, vIf, vNilA, vConsA, getA, valsA, vTup, vLst, vNoPart, vPart, vSl, vUn, vCB, vChain, pIsi, pIsiT, ioIdx, resolve, pb, callB, vCall, vCallK, permute, pd1, pLen, pAbs, pInt1, pTuple, pList, pRepr, vSeqI, vRng1, vRng2, vZip, vEnum, vMth, vMeth, pmAppend, pmExtend, pmPop, vSetIx, vAug, vOrT, truD, pdAdd, pdSub, pdMul, pdFdiv, pdMod, pdPow, pdInt, pdEq, pdNe, bothStr, true_or, or_true, pdOrd, pdLt, pdGt, pdLe, pdGe, pdIs, isNn, pdIx, pdNeg, pdRev, Bo.get, Sl.con, Sl.put, O.dat, datL, datF, O.rd, noD, wipeS, slotsOf, endsP, outs0, outs1, outs2, ioNil, ioOne, List.length_cons, List.length_nil, List.replicate, List.cons_append, List.nil_append, List.set_cons_zero, List.set_cons_succ, List.getElem?_cons_zero, List.getElem?_cons_succ, List.getElem?_nil, List.getD_cons_zero, List.getD_cons_succ, List.filterMap_cons, List.filterMap_nil, Option.map_some, Option.bind_some, Option.map, Option.some.injEq, List.cons.injEq, O.sh.injEq, O.lst.injEq, O.dct.injEq, false_and, and_false, Sl.ow.injEq, Sl.io.injEq, PyData.int.injEq, PyData.bool.injEq, PyData.str.injEq, PyData.list.injEq, PyData.tuple.injEq, reduceCtorEq, exists_eq_left, exists_eq_left', exists_eq', exists_const, exists_and_left, exists_and_right, and_assoc, false_or, or_false, Int.toNat_natCast, Bool.false_eq_true, and_true, true_and, and_self, ne_eq, not_false_eq_true, not_true_eq_false, if_true, if_false, ↓reduceIte, Nat.reduceSub, Nat.reduceAdd, Nat.reduceEqDiff, at30, at31, at32, ix30, ix32, Nat.succ_ne_zero]; exact h) (lnum (by omega)) ⟨lnum (by rw [List.length_map, List.length_map]; omega), ?_⟩
    simp (config := { maxSteps := 2000000 }) only [vNext, vSeq, vBreak, vCont, vIfS, vRet, vRetN, vDrop, canSet_eq, sf_em, sf_ow, Option.elim_some, vAsg, vPar, gvName, gvNil, gvCons, gvTup, vAsgG, vFor, vWhile, vYes, vC, vVar, vMove, vSlot, vSh, vOp, vTest, vAnd, vOr, vNot, vAndV, vOrV, vNotV, vIf, vNilA, vConsA, getA, valsA, vTup, vLst, vNoPart, vPart, vSl, vUn, vCB, vChain, pIsi, pIsiT, ioIdx, resolve, pb, callB, vCall, vCallK, permute, pd1, pLen, pAbs, pInt1, pTuple, pList, pRepr, vSeqI, vRng1, vRng2, vZip, vEnum, vMth, vMeth, pmAppend, pmExtend, pmPop, vSetIx, vAug, vOrT, truD, pdAdd, pdSub, pdMul, pdFdiv, pdMod, pdPow, pdInt, pdEq, pdNe, bothStr, true_or, or_true, pdOrd, pdLt, pdGt, pdLe, pdGe, pdIs, isNn, pdIx, pdNeg, pdRev, Bo.get, Sl.con, Sl.put, O.dat, datL, datF, O.rd, noD, wipeS, slotsOf, endsP, outs0, outs1, outs2, ioNil, ioOne, List.length_cons, List.length_nil, List.replicate, List.cons_append, List.nil_append, List.set_cons_zero, List.set_cons_succ, List.getElem?_cons_zero, List.getElem?_cons_succ, List.getElem?_nil, List.getD_cons_zero, List.getD_cons_succ, List.filterMap_cons, List.filterMap_nil, Option.map_some, Option.bind_some, Option.map, Option.some.injEq, List.cons.injEq, O.sh.injEq, O.lst.injEq, O.dct.injEq, false_and, and_false, Sl.ow.injEq, Sl.io.injEq, PyData.int.injEq, PyData.bool.injEq, PyData.str.injEq, PyData.list.injEq, PyData.tuple.injEq, reduceCtorEq, exists_eq_left, exists_eq_left', exists_eq', exists_const, exists_and_left, exists_and_right, and_assoc, false_or, or_false, Int.toNat_natCast, Bool.false_eq_true, and_true, true_and, and_self, ne_eq, not_false_eq_true, not_true_eq_false, if_true, if_false, ↓reduceIte, Nat.reduceSub, Nat.reduceAdd, Nat.reduceEqDiff, at30, at31, at32, ix30, ix32, Nat.succ_ne_zero]
    exact hK _ rfl
  rintro S3 rfl
  rw [e5] at q
  simp (config := { maxSteps := 2000000 }) only [vNext, vSeq, vBreak, vCont, vIfS, vRet, vRetN, vDrop, canSet_eq, sf_em, sf_ow, Option.elim_some, vAsg, vPar, gvName, gvNil, gvCons, gvTup, vAsgG, vFor, vWhile, vYes, vC, vVar, vMove, vSlot, vSh, vOp, vTest, vAnd, vOr, vNot, vAndV, vOrV, vNotV, vIf, vNilA, vConsA, getA, valsA, vTup, vLst, vNoPart, vPart, vSl, vUn, vCB, vChain, pIsi, pIsiT, ioIdx, resolve, pb, callB, vCall, vCallK, permute, pd1, pLen, pAbs, pInt1, pTuple, pList, pRepr, vSeqI, vRng1, vRng2, vZip, vEnum, vMth, vMeth, pmAppend, pmExtend, pmPop, vSetIx, vAug, vOrT, truD, pdAdd, pdSub, pdMul, pdFdiv, pdMod, pdPow, pdInt, pdEq, pdNe, bothStr, true_or, or_true, pdOrd, pdLt, pdGt, pdLe, pdGe, pdIs, isNn, pdIx, pdNeg, pdRev, Bo.get, Sl.con, Sl.put, O.dat, datL, datF, O.rd, noD, wipeS, slotsOf, endsP, outs0, outs1, outs2, ioNil, ioOne, List.length_cons, List.length_nil, List.replicate, List.cons_append, List.nil_append, List.set_cons_zero, List.set_cons_succ, List.getElem?_cons_zero, List.getElem?_cons_succ, List.getElem?_nil, List.getD_cons_zero, List.getD_cons_succ, List.filterMap_cons, List.filterMap_nil, Option.map_some, Option.bind_some, Option.map, Option.some.injEq, List.cons.injEq, O.sh.injEq, O.lst.injEq, O.dct.injEq, false_and, and_false, Sl.ow.injEq, Sl.io.injEq, PyData.int.injEq, PyData.bool.injEq, PyData.str.injEq, PyData.list.injEq, PyData.tuple.injEq, reduceCtorEq, exists_eq_left, exists_eq_left', exists_eq', exists_const, exists_and_left, exists_and_right, and_assoc, false_or, or_false, Int.toNat_natCast, Bool.false_eq_true, and_true, true_and, and_self, ne_eq, not_false_eq_true, not_true_eq_false, if_true, if_false, ↓reduceIte, Nat.reduceSub, Nat.reduceAdd, Nat.reduceEqDiff, at30, at31, at32, ix30, ix32, Nat.succ_ne_zero, vZip3]
  have itc : itemsD dc = some (ys.map .str) := by rcases hc with rfl | rfl <;> rfl
  refine ⟨_, itc, _, rfl, _, rfl, ?_⟩
  rw [zip3_rows]
  refine rows_loop hd fx (all := (rowsOf ys es).all (rowOk xs n)) (fun s5 s6 s7 e => ?_) (fun s5 s6 s7 e => ?_) _ _ ⟨rowsOf ys es, .em, .em, .em, rfl, rfl, rfl, fun r hr => ?_, rfl, rfl, rfl⟩
  · rw [e] at q
    simp (config := { maxSteps := 2000000 }) only [vNext, vSeq, vBreak, vCont, vIfS, vRet, vRetN, vDrop, canSet_eq, sf_em, sf_ow, Option.elim_some, vAsg, vPar, gvName, gvNil, gvCons, gvTup, vAsgG, vFor, vWhile, vYes, vC, vVar, vMove, vSlot, vSh, vOp, vTest, vAnd, vOr, vNot, vAndV, vOrV, vNotV, vIf, vNilA, vConsA, getA, valsA, vTup, vLst, vNoPart, vPart, vSl, vUn, vCB, vChain, pIsi, pIsiT, ioIdx, resolve, pb, callB, vCall, vCallK, permute, pd1, pLen, pAbs, pInt1, pTuple, pList, pRepr, vSeqI, vRng1, vRng2, vZip, vEnum, vMth, vMeth, pmAppend, pmExtend, pmPop, vSetIx, vAug, vOrT, truD, pdAdd, pdSub, pdMul, pdFdiv, pdMod, pdPow, pdInt, pdEq, pdNe, bothStr, true_or, or_true, pdOrd, pdLt, pdGt, pdLe, pdGe, pdIs, isNn, pdIx, pdNeg, pdRev, Bo.get, Sl.con, Sl.put, O.dat, datL, datF, O.rd, noD, wipeS, slotsOf, endsP, outs0, outs1, outs2, ioNil, ioOne, List.length_cons, List.length_nil, List.replicate, List.cons_append, List.nil_append, List.set_cons_zero, List.set_cons_succ, List.getElem?_cons_zero, List.getElem?_cons_succ, List.getElem?_nil, List.getD_cons_zero, List.getD_cons_succ, List.filterMap_cons, List.filterMap_nil, Option.map_some, Option.bind_some, Option.map, Option.some.injEq, List.cons.injEq, O.sh.injEq, O.lst.injEq, O.dct.injEq, false_and, and_false, Sl.ow.injEq, Sl.io.injEq, PyData.int.injEq, PyData.bool.injEq, PyData.str.injEq, PyData.list.injEq, PyData.tuple.injEq, reduceCtorEq, exists_eq_left, exists_eq_left', exists_eq', exists_const, exists_and_left, exists_and_right, and_assoc, false_or, or_false, Int.toNat_natCast, Bool.false_eq_true, and_true, true_and, and_self, ne_eq, not_false_eq_true, not_true_eq_false, if_true, if_false, ↓reduceIte, Nat.reduceSub, Nat.reduceAdd, Nat.reduceEqDiff, at30, at31, at32, ix30, ix32, Nat.succ_ne_zero]
    exact q
  · rw [e] at q
    simp (config := { maxSteps := 2000000 }) only [vNext, vSeq, vBreak, vCont, vIfS, vRet, vRetN, vDrop, canSet_eq, sf_em, sf_ow, Option.elim_some, vAsg, vPar, gvName, gvNil, gvCons, gvTup, vAsgG, vFor, vWhile, vYes, vC, vVar, vMove, vSlot, vSh, vOp, vTest, vAnd, vOr, vNot, vAndV, vOrV, vNotV, vIf, vNilA, vConsA, getA, valsA, vTup, vLst, vNoPart, vPart, vSl, vUn, vCB, vChain, pIsi, pIsiT, ioIdx, resolve, pb, callB, vCall, vCallK, permute, pd1, pLen, pAbs, pInt1, pTuple, pList, pRepr, vSeqI, vRng1, vRng2, vZip, vEnum, vMth, vMeth, pmAppend, pmExtend, pmPop, vSetIx, vAug, vOrT, truD, pdAdd, pdSub, pdMul, pdFdiv, pdMod, pdPow, pdInt, pdEq, pdNe, bothStr, true_or, or_true, pdOrd, pdLt, pdGt, pdLe, pdGe, pdIs, isNn, pdIx, pdNeg, pdRev, Bo.get, Sl.con, Sl.put, O.dat, datL, datF, O.rd, noD, wipeS, slotsOf, endsP, outs0, outs1, outs2, ioNil, ioOne, List.length_cons, List.length_nil, List.replicate, List.cons_append, List.nil_append, List.set_cons_zero, List.set_cons_succ, List.getElem?_cons_zero, List.getElem?_cons_succ, List.getElem?_nil, List.getD_cons_zero, List.getD_cons_succ, List.filterMap_cons, List.filterMap_nil, Option.map_some, Option.bind_some, Option.map, Option.some.injEq, List.cons.injEq, O.sh.injEq, O.lst.injEq, O.dct.injEq, false_and, and_false, Sl.ow.injEq, Sl.io.injEq, PyData.int.injEq, PyData.bool.injEq, PyData.str.injEq, PyData.list.injEq, PyData.tuple.injEq, reduceCtorEq, exists_eq_left, exists_eq_left', exists_eq', exists_const, exists_and_left, exists_and_right, and_assoc, false_or, or_false, Int.toNat_natCast, Bool.false_eq_true, and_true, true_and, and_self, ne_eq, not_false_eq_true, not_true_eq_false, if_true, if_false, ↓reduceIte, Nat.reduceSub, Nat.reduceAdd, Nat.reduceEqDiff, at30, at31, at32, ix30, ix32, Nat.succ_ne_zero]
    exact q
  · obtain ⟨r1, r2, r3⟩ := rows_mem hr
    exact ⟨fy.wd _ r1, i2 _ r2, i1 _ r3⟩
end VL

set_option Elab.async false
set_option linter.all false
set_option maxRecDepth 100000
set_option maxHeartbeats 1000000
namespace VL
open PySem PySem.Spec PyProof.Rows L2
variable [Wd]
theorem ints_shaped (l : List Int) : SeqAt.shaped (.list (l.map .int)) = true := by
  have h : PyData.canLayAll0 (l.map .int) = true ∧ PyData.depthAll (l.map .int) = 0 := by
    induction l with
    | nil => exact ⟨rfl, rfl⟩
    | cons x l ih =>
      refine ⟨?_, ?_⟩
      · show (true && PyData.canLayAll0 (l.map .int)) = true
        rw [ih.1]; rfl
      · show max 0 (PyData.depthAll (l.map .int)) = 0
        rw [ih.2]; rfl
  unfold SeqAt.shaped
  rw [Bool.and_eq_true, decide_eq_true_eq]
  refine ⟨h.1, ?_⟩
  show PyData.depthAll (l.map .int) + 1 ≤ 64
  rw [h.2]
  decide
theorem run__law_are_places : Runs ms__law_are_places IsParting t__law_are_places 4 := by
  rintro vs os R h1 h2 sh ⟨dc, d, ys, xs, n, es, rfl, hc, hd, fy, fx, ny, nx, sy, q⟩
  obtain ⟨v1, v2, v3, v4, rfl⟩ := len4 h1
  unfold t__law_are_places
  have out : part ys xs n es = false → R (.sh (.bool false)) [.sh dc, .sh d, .sh (.int n), .sh (.tuple (es.map .int))] := fun e => by rw [e] at q; exact q
  have p1 : ¬ es.length = ys.length → part ys xs n es = false := fun h => by unfold part; rw [decide_eq_false h]; rfl
  have p2 : ∀ h : es ≠ [], ¬ es.getLast h = (xs.length : Int) - 1 → part ys xs n es = false := fun h e => by
    unfold part
    rw [show decide (es.getLast? = some ((xs.length : Int) - 1)) = false from decide_eq_false (by rw [List.getLast?_eq_some_getLast h]; exact fun z => e (Option.some.inj z)), Bool.false_and, Bool.and_false]
  have p3 : ¬ 0 ≤ es.headD 0 → part ys xs n es = false := fun h => by
    unfold part
    rw [decide_eq_false h, Bool.false_and, Bool.and_false, Bool.and_false]
  have p4 : incr es = false → part ys xs n es = false := fun h => by
    unfold part
    rw [h, Bool.false_and, Bool.and_false, Bool.and_false, Bool.and_false]
  refine seq_cut (fun S' => S' = [Sl.ow (.sh dc), .ow (.sh d), .ow (.sh (.int n)), .ow (.sh (.tuple (es.map .int))), .em, .em, .em, .em] ∧ es.length = ys.length ∧ es.getLast? = some ((xs.length : Int) - 1) ∧ incr es = true) ?_ ?_
  · intro K hK
    rcases hc with rfl | rfl
    all_goals
      rcases hd with rfl | rfl
      all_goals
        simp (config := { maxSteps := 2000000 }) only [vNext, vSeq, vBreak, vCont, vIfS, vRet, vRetN, vDrop, canSet_eq, sf_em, sf_ow, Option.elim_some, vAsg, vPar, gvName, gvNil, gvCons, gvTup, vAsgG, vFor, vWhile, vYes, vC, vVar, vMove, vSlot, vSh, vOp, vTest, vAnd, vOr, vNot, vAndV, vOrV, vNotV, vIf, vNilA, vConsA, getA, valsA, vTup, vLst, vNoPart, vPart, vSl, vUn, vCB, vChain, pIsi, pIsiT, ioIdx, resolve, pb, callB, vCall, vCallK, permute, pd1, pLen, pAbs, pInt1, pTuple, pList, pRepr, vSeqI, vRng1, vRng2, vZip, vEnum, vMth, vMeth, pmAppend, pmExtend, pmPop, vSetIx, vAug, vOrT, truD, pdAdd, pdSub, pdMul, pdFdiv, pdMod, pdPow, pdInt, pdEq, pdNe, bothStr, true_or, or_true, pdOrd, pdLt, pdGt, pdLe, pdGe, pdIs, isNn, pdIx, pdNeg, pdRev, Bo.get, Sl.con, Sl.put, O.dat, datL, datF, O.rd, noD, wipeS, slotsOf, endsP, outs0, outs1, outs2, ioNil, ioOne, List.length_cons, List.length_nil, List.replicate, List.cons_append, List.nil_append, List.set_cons_zero, List.set_cons_succ, List.getElem?_cons_zero, List.getElem?_cons_succ, List.getElem?_nil, List.getD_cons_zero, List.getD_cons_succ, List.filterMap_cons, List.filterMap_nil, Option.map_some, Option.bind_some, Option.map, Option.some.injEq, List.cons.injEq, O.sh.injEq, O.lst.injEq, O.dct.injEq, false_and, and_false, Sl.ow.injEq, Sl.io.injEq, PyData.int.injEq, PyData.bool.injEq, PyData.str.injEq, PyData.list.injEq, PyData.tuple.injEq, reduceCtorEq, exists_eq_left, exists_eq_left', exists_eq', exists_const, exists_and_left, exists_and_right, and_assoc, false_or, or_false, Int.toNat_natCast, Bool.false_eq_true, and_true, true_and, and_self, ne_eq, not_false_eq_true, not_true_eq_false, if_true, if_false, ↓reduceIte, Nat.reduceSub, Nat.reduceAdd, Nat.reduceEqDiff, at30, at31, at32, ix30, ix32, Nat.succ_ne_zero, List.length_map, shaped_int, eqv_int, pSortedSetI]
        by_cases h : es.length = ys.length
        · have ne : es ≠ [] := fun e => by
            rw [e] at h
            exact ny (List.length_eq_zero_iff.mp h.symm)
          rw [if_neg (by rw [decide_eq_true (by omega)]; exact Bool.false_ne_true)]
          refine ⟨_, at_last_i ne, rfl, ?_⟩
          rw [eqv_int]
          by_cases h2 : es.getLast ne = (xs.length : Int) - 1
          · rw [if_neg (by rw [decide_eq_true h2]; exact Bool.false_ne_true)]
            refine ⟨es, rfl, by omega, fun zs hs hm => ⟨ints_shaped es, ints_shaped zs, ?_⟩⟩
            rw [sorted_is hs hm]
            cases g : incr es
            · rw [if_pos bang_f]
              exact out (p4 g)
            · rw [if_neg bang_t]
              exact hK _ ⟨rfl, h, by rw [List.getLast?_eq_some_getLast ne, h2], g⟩
          · rw [if_pos (by rw [decide_eq_false h2]; rfl)]
            exact out (p2 ne h2)
        · rw [if_pos (by rw [decide_eq_false (by omega)]; rfl)]
          exact out (p1 h)
  rintro S1 ⟨rfl, e1, e2, e4⟩
  have ne : es ≠ [] := fun e => by
    rw [e] at e1
    exact ny (List.length_eq_zero_iff.mp e1.symm)
  have el : es.length ≤ 1000 := by have := fy.len; omega
  refine seq_cut (fun S' => S' = [Sl.ow (.sh dc), .ow (.sh d), .ow (.sh (.int n)), .ow (.sh (.tuple (es.map .int))), .ow (.lst ((begsOf es).map .int)), .em, .em, .em]) ?_ ?_
  · intro K hK
    simp (config := { maxSteps := 2000000 }) only [vNext, vSeq, vBreak, vCont, vIfS, vRet, vRetN, vDrop, canSet_eq, sf_em, sf_ow, Option.elim_some, vAsg, vPar, gvName, gvNil, gvCons, gvTup, vAsgG, vFor, vWhile, vYes, vC, vVar, vMove, vSlot, vSh, vOp, vTest, vAnd, vOr, vNot, vAndV, vOrV, vNotV, vIf, vNilA, vConsA, getA, valsA, vTup, vLst, vNoPart, vPart, vSl, vUn, vCB, vChain, pIsi, pIsiT, ioIdx, resolve, pb, callB, vCall, vCallK, permute, pd1, pLen, pAbs, pInt1, pTuple, pList, pRepr, vSeqI, vRng1, vRng2, vZip, vEnum, vMth, vMeth, pmAppend, pmExtend, pmPop, vSetIx, vAug, vOrT, truD, pdAdd, pdSub, pdMul, pdFdiv, pdMod, pdPow, pdInt, pdEq, pdNe, bothStr, true_or, or_true, pdOrd, pdLt, pdGt, pdLe, pdGe, pdIs, isNn, pdIx, pdNeg, pdRev, Bo.get, Sl.con, Sl.put, O.dat, datL, datF, O.rd, noD, wipeS, slotsOf, endsP, outs0, outs1, outs2, ioNil, ioOne, List.length_cons, List.length_nil, List.replicate, List.cons_append, List.nil_append, List.set_cons_zero, List.set_cons_succ, List.getElem?_cons_zero, List.getElem?_cons_succ, List.getElem?_nil, List.getD_cons_zero, List.getD_cons_succ, List.filterMap_cons, List.filterMap_nil, Option.map_some, Option.bind_some, Option.map, Option.some.injEq, List.cons.injEq, O.sh.injEq, O.lst.injEq, O.dct.injEq, false_and, and_false, Sl.ow.injEq, Sl.io.injEq, PyData.int.injEq, PyData.bool.injEq, PyData.str.injEq, PyData.list.injEq, PyData.tuple.injEq, reduceCtorEq, exists_eq_left, exists_eq_left', exists_eq', exists_const, exists_and_left, exists_and_right, and_assoc, false_or, or_false, Int.toNat_natCast, Bool.false_eq_true, and_true, true_and, and_self, ne_eq, not_false_eq_true, not_true_eq_false, if_true, if_false, ↓reduceIte, Nat.reduceSub, Nat.reduceAdd, Nat.reduceEqDiff, at30, at31, at32, ix30, ix32, Nat.succ_ne_zero, cutD_cutL, cutL_init, vLc, pdSl]
    refine ⟨by decide, ?_⟩
    have el2 : es.dropLast.length ≤ 1000 := by rw [List.length_dropLast]; omega
    refine begs_lc (fun k K h => by simp (config := { maxSteps := 2000000 }) only [vNext, vSeq, vBreak, vCont, vIfS, vRet, vRetN, vDrop, canSet_eq, sf_em, sf_ow, Option.elim_some, vAsg, vPar, gvName, gvNil, gvCons, gvTup, vAsgG, vFor, vWhile, vYes, vC, vVar, vMove, vSlot, vSh, vOp, vTest, vAnd, vOr, vNot, vAndV, vOrV, vNotV, vIf, vNilA, vConsA, getA, valsA, vTup, vLst, vNoPart, vPart, vSl, vUn, vCB, vChain, pIsi, pIsiT, ioIdx, resolve, pb, callB, vCall, vCallK, permute, pd1, pLen, pAbs, pInt1, pTuple, pList, pRepr, vSeqI, vRng1, vRng2, vZip, vEnum, vMth, vMeth, pmAppend, pmExtend, pmPop, vSetIx, vAug, vOrT, truD, pdAdd, pdSub, pdMul, pdFdiv, pdMod, pdPow, pdInt, pdEq, pdNe, bothStr, true_or, or_true, pdOrd, pdLt, pdGt, pdLe, pdGe, pdIs, isNn, pdIx, pdNeg, pdRev, Bo.get, Sl.con, Sl.put, O.dat, datL, datF, O.rd, noD, wipeS, slotsOf, endsP, outs0, outs1, outs2, ioNil, ioOne, List.length_cons, List.length_nil, List.replicate, List.cons_append, List.nil_append, List.set_cons_zero, List.set_cons_succ, List.getElem?_cons_zero, List.getElem?_cons_succ, List.getElem?_nil, List.getD_cons_zero, List.getD_cons_succ, List.filterMap_cons, List.filterMap_nil, Option.map_some, Option.bind_some, Option.map, Option.some.injEq, List.cons.injEq, O.sh.injEq, O.lst.injEq, O.dct.injEq, false_and, and_false, Sl.ow.injEq, Sl.io.injEq, PyData.int.injEq, PyData.bool.injEq, PyData.str.injEq, PyData.list.injEq, PyData.tuple.injEq, reduceCtorEq, exists_eq_left, exists_eq_left', exists_eq', exists_const, exists_and_left, exists_and_right, and_assoc, false_or, or_false, Int.toNat_natCast, Bool.false_eq_true, and_true, true_and, and_self, ne_eq, not_false_eq_true, not_true_eq_false, if_true, if_false, ↓reduceIte, Nat.reduceSub, Nat.reduceAdd, Nat.reduceEqDiff, at30, at31, at32, ix30, ix32, Nat.succ_ne_zero]; exact h) (lnum (by omega)) ⟨lnum (by rw [List.length_map, List.length_map]; omega), ?_⟩
    simp (config := { maxSteps := 2000000 }) only [vNext, vSeq, vBreak, vCont, vIfS, vRet, vRetN, vDrop, canSet_eq, sf_em, sf_ow, Option.elim_some, vAsg, vPar, gvName, gvNil, gvCons, gvTup, vAsgG, vFor, vWhile, vYes, vC, vVar, vMove, vSlot, vSh, vOp, vTest, vAnd, vOr, vNot, vAndV, vOrV, vNotV, vIf, vNilA, vConsA, getA, valsA, vTup, vLst, vNoPart, vPart, vSl, vUn, vCB, vChain, pIsi, pIsiT, ioIdx, resolve, pb, callB, vCall, vCallK, permute, pd1, pLen, pAbs, pInt1, pTuple, pList, pRepr, vSeqI, vRng1, vRng2, vZip, vEnum, vMth, vMeth, pmAppend, pmExtend, pmPop, vSetIx, vAug, vOrT, truD, pdAdd, pdSub, pdMul, pdFdiv, pdMod, pdPow, pdInt, pdEq, pdNe, bothStr, true_or, or_true, pdOrd, pdLt, pdGt, pdLe, pdGe, pdIs, isNn, pdIx, pdNeg, pdRev, Bo.get, Sl.con, Sl.put, O.dat, datL, datF, O.rd, noD, wipeS, slotsOf, endsP, outs0, outs1, outs2, ioNil, ioOne, List.length_cons, List.length_nil, List.replicate, List.cons_append, List.nil_append, List.set_cons_zero, List.set_cons_succ, List.getElem?_cons_zero, List.getElem?_cons_succ, List.getElem?_nil, List.getD_cons_zero, List.getD_cons_succ, List.filterMap_cons, List.filterMap_nil, Option.map_some, Option.bind_some, Option.map, Option.some.injEq, List.cons.injEq, O.sh.injEq, O.lst.injEq, O.dct.injEq, false_and, and_false, Sl.ow.injEq, Sl.io.injEq, PyData.int.injEq, PyData.bool.injEq, PyData.str.injEq, PyData.list.injEq, PyData.tuple.injEq, reduceCtorEq, exists_eq_left, exists_eq_left', exists_eq', exists_const, exists_and_left, exists_and_right, and_assoc, false_or, or_false, Int.toNat_natCast, Bool.false_eq_true, and_true, true_and, and_self, ne_eq, not_false_eq_true, not_true_eq_false, if_true, if_false, ↓reduceIte, Nat.reduceSub, Nat.reduceAdd, Nat.reduceEqDiff, at30, at31, at32, ix30, ix32, Nat.succ_ne_zero]
    exact hK _ rfl
  rintro S3 rfl
  refine seq_cut (fun S' => S' = [Sl.ow (.sh dc), .ow (.sh d), .ow (.sh (.int n)), .ow (.sh (.tuple (es.map .int))), .ow (.lst ((begsOf es).map .int)), .em, .em, .em] ∧ 0 ≤ es.headD 0) ?_ ?_
  · intro K hK
    simp (config := { maxSteps := 2000000 }) only [vNext, vSeq, vBreak, vCont, vIfS, vRet, vRetN, vDrop, canSet_eq, sf_em, sf_ow, Option.elim_some, vAsg, vPar, gvName, gvNil, gvCons, gvTup, vAsgG, vFor, vWhile, vYes, vC, vVar, vMove, vSlot, vSh, vOp, vTest, vAnd, vOr, vNot, vAndV, vOrV, vNotV, vIf, vNilA, vConsA, getA, valsA, vTup, vLst, vNoPart, vPart, vSl, vUn, vCB, vChain, pIsi, pIsiT, ioIdx, resolve, pb, callB, vCall, vCallK, permute, pd1, pLen, pAbs, pInt1, pTuple, pList, pRepr, vSeqI, vRng1, vRng2, vZip, vEnum, vMth, vMeth, pmAppend, pmExtend, pmPop, vSetIx, vAug, vOrT, truD, pdAdd, pdSub, pdMul, pdFdiv, pdMod, pdPow, pdInt, pdEq, pdNe, bothStr, true_or, or_true, pdOrd, pdLt, pdGt, pdLe, pdGe, pdIs, isNn, pdIx, pdNeg, pdRev, Bo.get, Sl.con, Sl.put, O.dat, datL, datF, O.rd, noD, wipeS, slotsOf, endsP, outs0, outs1, outs2, ioNil, ioOne, List.length_cons, List.length_nil, List.replicate, List.cons_append, List.nil_append, List.set_cons_zero, List.set_cons_succ, List.getElem?_cons_zero, List.getElem?_cons_succ, List.getElem?_nil, List.getD_cons_zero, List.getD_cons_succ, List.filterMap_cons, List.filterMap_nil, Option.map_some, Option.bind_some, Option.map, Option.some.injEq, List.cons.injEq, O.sh.injEq, O.lst.injEq, O.dct.injEq, false_and, and_false, Sl.ow.injEq, Sl.io.injEq, PyData.int.injEq, PyData.bool.injEq, PyData.str.injEq, PyData.list.injEq, PyData.tuple.injEq, reduceCtorEq, exists_eq_left, exists_eq_left', exists_eq', exists_const, exists_and_left, exists_and_right, and_assoc, false_or, or_false, Int.toNat_natCast, Bool.false_eq_true, and_true, true_and, and_self, ne_eq, not_false_eq_true, not_true_eq_false, if_true, if_false, ↓reduceIte, Nat.reduceSub, Nat.reduceAdd, Nat.reduceEqDiff, at30, at31, at32, ix30, ix32, Nat.succ_ne_zero, at_head_i ne]
    by_cases h3 : es.headD 0 < 0
    · rw [if_pos (decide_eq_true h3)]
      exact out (p3 (by omega))
    · rw [if_neg (by rw [decide_eq_false h3]; exact Bool.false_ne_true)]
      exact hK _ ⟨rfl, by omega⟩
  rintro S4 ⟨rfl, e3⟩
  have e5 : part ys xs n es = (firstsOk ys xs es && lastsOk ys xs n es) := by
    unfold part
    rw [decide_eq_true e1, decide_eq_true e2, decide_eq_true e3, e4, Bool.true_and, Bool.true_and, Bool.true_and, Bool.true_and]
  obtain ⟨i1, i2⟩ := ends_in e4 e3 e2
  have itc : itemsD dc = some (ys.map .str) := by rcases hc with rfl | rfl <;> rfl
  have bl := begs_len ne
  refine seq_cut (fun S' => S' = [Sl.ow (.sh dc), .ow (.sh d), .ow (.sh (.int n)), .ow (.sh (.tuple (es.map .int))), .ow (.sh (.list ((begsOf es).map .int))), .em, .em, .em] ∧ firstsOk ys xs es = true) ?_ ?_
  · intro K hK
    simp (config := { maxSteps := 2000000 }) only [vNext, vSeq, vBreak, vCont, vIfS, vRet, vRetN, vDrop, canSet_eq, sf_em, sf_ow, Option.elim_some, vAsg, vPar, gvName, gvNil, gvCons, gvTup, vAsgG, vFor, vWhile, vYes, vC, vVar, vMove, vSlot, vSh, vOp, vTest, vAnd, vOr, vNot, vAndV, vOrV, vNotV, vIf, vNilA, vConsA, getA, valsA, vTup, vLst, vNoPart, vPart, vSl, vUn, vCB, vChain, pIsi, pIsiT, ioIdx, resolve, pb, callB, vCall, vCallK, permute, pd1, pLen, pAbs, pInt1, pTuple, pList, pRepr, vSeqI, vRng1, vRng2, vZip, vEnum, vMth, vMeth, pmAppend, pmExtend, pmPop, vSetIx, vAug, vOrT, truD, pdAdd, pdSub, pdMul, pdFdiv, pdMod, pdPow, pdInt, pdEq, pdNe, bothStr, true_or, or_true, pdOrd, pdLt, pdGt, pdLe, pdGe, pdIs, isNn, pdIx, pdNeg, pdRev, Bo.get, Sl.con, Sl.put, O.dat, datL, datF, O.rd, noD, wipeS, slotsOf, endsP, outs0, outs1, outs2, ioNil, ioOne, List.length_cons, List.length_nil, List.replicate, List.cons_append, List.nil_append, List.set_cons_zero, List.set_cons_succ, List.getElem?_cons_zero, List.getElem?_cons_succ, List.getElem?_nil, List.getD_cons_zero, List.getD_cons_succ, List.filterMap_cons, List.filterMap_nil, Option.map_some, Option.bind_some, Option.map, Option.some.injEq, List.cons.injEq, O.sh.injEq, O.lst.injEq, O.dct.injEq, false_and, and_false, Sl.ow.injEq, Sl.io.injEq, PyData.int.injEq, PyData.bool.injEq, PyData.str.injEq, PyData.list.injEq, PyData.tuple.injEq, reduceCtorEq, exists_eq_left, exists_eq_left', exists_eq', exists_const, exists_and_left, exists_and_right, and_assoc, false_or, or_false, Int.toNat_natCast, Bool.false_eq_true, and_true, true_and, and_self, ne_eq, not_false_eq_true, not_true_eq_false, if_true, if_false, ↓reduceIte, Nat.reduceSub, Nat.reduceAdd, Nat.reduceEqDiff, at30, at31, at32, ix30, ix32, Nat.succ_ne_zero, vZip2, vLc]
    refine ⟨_, rfl, _, itc, ?_⟩
    rw [zipD_map]
    have hm : ∀ p ∈ (begsOf es).zip ys, p.1 ∈ begsOf es := fun p hp => (List.of_mem_zip hp).1
    refine lc_pure (α := Int × Str) (fun p => .tuple [.int p.1, .str p.2]) (fun p => .bool (PyData.eqv (.str (wordAt xs p.1)) (.str p.2))) (fun _ => true) (fun p => 0 ≤ p.1 ∧ p.1 < xs.length) (fun p K L okp k1 _ => ?_) ((begsOf es).zip ys) [] (fun p hp => i2 _ (hm p hp)) (lnum (by rw [List.length_nil, Nat.zero_add, List.length_zip]; omega)) ?_
    · have x1 := word_at okp.1 okp.2
      rcases hd with rfl | rfl
      all_goals
        simp (config := { maxSteps := 2000000 }) only [vNext, vSeq, vBreak, vCont, vIfS, vRet, vRetN, vDrop, canSet_eq, sf_em, sf_ow, Option.elim_some, vAsg, vPar, gvName, gvNil, gvCons, gvTup, vAsgG, vFor, vWhile, vYes, vC, vVar, vMove, vSlot, vSh, vOp, vTest, vAnd, vOr, vNot, vAndV, vOrV, vNotV, vIf, vNilA, vConsA, getA, valsA, vTup, vLst, vNoPart, vPart, vSl, vUn, vCB, vChain, pIsi, pIsiT, ioIdx, resolve, pb, callB, vCall, vCallK, permute, pd1, pLen, pAbs, pInt1, pTuple, pList, pRepr, vSeqI, vRng1, vRng2, vZip, vEnum, vMth, vMeth, pmAppend, pmExtend, pmPop, vSetIx, vAug, vOrT, truD, pdAdd, pdSub, pdMul, pdFdiv, pdMod, pdPow, pdInt, pdEq, pdNe, bothStr, true_or, or_true, pdOrd, pdLt, pdGt, pdLe, pdGe, pdIs, isNn, pdIx, pdNeg, pdRev, Bo.get, Sl.con, Sl.put, O.dat, datL, datF, O.rd, noD, wipeS, slotsOf, endsP, outs0, outs1, outs2, ioNil, ioOne, List.length_cons, List.length_nil, List.replicate, List.cons_append, List.nil_append, List.set_cons_zero, List.set_cons_succ, List.getElem?_cons_zero, List.getElem?_cons_succ, List.getElem?_nil, List.getD_cons_zero, List.getD_cons_succ, List.filterMap_cons, List.filterMap_nil, Option.map_some, Option.bind_some, Option.map, Option.some.injEq, List.cons.injEq, O.sh.injEq, O.lst.injEq, O.dct.injEq, false_and, and_false, Sl.ow.injEq, Sl.io.injEq, PyData.int.injEq, PyData.bool.injEq, PyData.str.injEq, PyData.list.injEq, PyData.tuple.injEq, reduceCtorEq, exists_eq_left, exists_eq_left', exists_eq', exists_const, exists_and_left, exists_and_right, and_assoc, false_or, or_false, Int.toNat_natCast, Bool.false_eq_true, and_true, true_and, and_self, ne_eq, not_false_eq_true, not_true_eq_false, if_true, if_false, ↓reduceIte, Nat.reduceSub, Nat.reduceAdd, Nat.reduceEqDiff, at30, at31, at32, ix30, ix32, Nat.succ_ne_zero, x1]
        exact k1 rfl
    · rw [List.filter_eq_self.mpr fun _ _ => rfl, List.nil_append]
      refine ⟨((begsOf es).zip ys).map fun p => PyData.eqv (.str (wordAt xs p.1)) (.str p.2), by rw [List.map_map]; rfl, ?_⟩
      rw [if_neg Bool.false_ne_true, all_map]
      refine ⟨_, rfl, ?_⟩
      show if (!firstsOk ys xs es) = true then _ else _
      cases e : firstsOk ys xs es
      · rw [if_pos bang_f]
        simp (config := { maxSteps := 2000000 }) only [vNext, vSeq, vBreak, vCont, vIfS, vRet, vRetN, vDrop, canSet_eq, sf_em, sf_ow, Option.elim_some, vAsg, vPar, gvName, gvNil, gvCons, gvTup, vAsgG, vFor, vWhile, vYes, vC, vVar, vMove, vSlot, vSh, vOp, vTest, vAnd, vOr, vNot, vAndV, vOrV, vNotV, vIf, vNilA, vConsA, getA, valsA, vTup, vLst, vNoPart, vPart, vSl, vUn, vCB, vChain, pIsi, pIsiT, ioIdx, resolve, pb, callB, vCall, vCallK, permute, pd1, pLen, pAbs, pInt1, pTuple, pList, pRepr, vSeqI, vRng1, vRng2, vZip, vEnum, vMth, vMeth, pmAppend, pmExtend, pmPop, vSetIx, vAug, vOrT, truD, pdAdd, pdSub, pdMul, pdFdiv, pdMod, pdPow, pdInt, pdEq, pdNe, bothStr, true_or, or_true, pdOrd, pdLt, pdGt, pdLe, pdGe, pdIs, isNn, pdIx, pdNeg, pdRev, Bo.get, Sl.con, Sl.put, O.dat, datL, datF, O.rd, noD, wipeS, slotsOf, endsP, outs0, outs1, outs2, ioNil, ioOne, List.length_cons, List.length_nil, List.replicate, List.cons_append, List.nil_append, List.set_cons_zero, List.set_cons_succ, List.getElem?_cons_zero, List.getElem?_cons_succ, List.getElem?_nil, List.getD_cons_zero, List.getD_cons_succ, List.filterMap_cons, List.filterMap_nil, Option.map_some, Option.bind_some, Option.map, Option.some.injEq, List.cons.injEq, O.sh.injEq, O.lst.injEq, O.dct.injEq, false_and, and_false, Sl.ow.injEq, Sl.io.injEq, PyData.int.injEq, PyData.bool.injEq, PyData.str.injEq, PyData.list.injEq, PyData.tuple.injEq, reduceCtorEq, exists_eq_left, exists_eq_left', exists_eq', exists_const, exists_and_left, exists_and_right, and_assoc, false_or, or_false, Int.toNat_natCast, Bool.false_eq_true, and_true, true_and, and_self, ne_eq, not_false_eq_true, not_true_eq_false, if_true, if_false, ↓reduceIte, Nat.reduceSub, Nat.reduceAdd, Nat.reduceEqDiff, at30, at31, at32, ix30, ix32, Nat.succ_ne_zero]
        exact out (by rw [e5, e]; rfl)
      · rw [if_neg bang_t]
        exact hK _ ⟨rfl, e⟩
  rintro S5 ⟨rfl, e6⟩
  rw [e5, e6, Bool.true_and] at q
  simp (config := { maxSteps := 2000000 }) only [vNext, vSeq, vBreak, vCont, vIfS, vRet, vRetN, vDrop, canSet_eq, sf_em, sf_ow, Option.elim_some, vAsg, vPar, gvName, gvNil, gvCons, gvTup, vAsgG, vFor, vWhile, vYes, vC, vVar, vMove, vSlot, vSh, vOp, vTest, vAnd, vOr, vNot, vAndV, vOrV, vNotV, vIf, vNilA, vConsA, getA, valsA, vTup, vLst, vNoPart, vPart, vSl, vUn, vCB, vChain, pIsi, pIsiT, ioIdx, resolve, pb, callB, vCall, vCallK, permute, pd1, pLen, pAbs, pInt1, pTuple, pList, pRepr, vSeqI, vRng1, vRng2, vZip, vEnum, vMth, vMeth, pmAppend, pmExtend, pmPop, vSetIx, vAug, vOrT, truD, pdAdd, pdSub, pdMul, pdFdiv, pdMod, pdPow, pdInt, pdEq, pdNe, bothStr, true_or, or_true, pdOrd, pdLt, pdGt, pdLe, pdGe, pdIs, isNn, pdIx, pdNeg, pdRev, Bo.get, Sl.con, Sl.put, O.dat, datL, datF, O.rd, noD, wipeS, slotsOf, endsP, outs0, outs1, outs2, ioNil, ioOne, List.length_cons, List.length_nil, List.replicate, List.cons_append, List.nil_append, List.set_cons_zero, List.set_cons_succ, List.getElem?_cons_zero, List.getElem?_cons_succ, List.getElem?_nil, List.getD_cons_zero, List.getD_cons_succ, List.filterMap_cons, List.filterMap_nil, Option.map_some, Option.bind_some, Option.map, Option.some.injEq, List.cons.injEq, O.sh.injEq, O.lst.injEq, O.dct.injEq, false_and, and_false, Sl.ow.injEq, Sl.io.injEq, PyData.int.injEq, PyData.bool.injEq, PyData.str.injEq, PyData.list.injEq, PyData.tuple.injEq, reduceCtorEq, exists_eq_left, exists_eq_left', exists_eq', exists_const, exists_and_left, exists_and_right, and_assoc, false_or, or_false, Int.toNat_natCast, Bool.false_eq_true, and_true, true_and, and_self, ne_eq, not_false_eq_true, not_true_eq_false, if_true, if_false, ↓reduceIte, Nat.reduceSub, Nat.reduceAdd, Nat.reduceEqDiff, at30, at31, at32, ix30, ix32, Nat.succ_ne_zero, vZip2, vLc]
  refine ⟨_, rfl, _, itc, ?_⟩
  rw [zipD_map]
  have hm : ∀ p ∈ es.zip ys, p.1 ∈ es ∧ p.2 ∈ ys := fun p hp => List.of_mem_zip hp
  refine lc_pure (α := Int × Str) (fun p => .tuple [.int p.1, .str p.2]) (fun p => .bool (alk (wordAt xs p.1) p.2 n)) (fun _ => true) (fun p => (0 ≤ p.1 ∧ p.1 < xs.length) ∧ wOk p.2) (fun p K L okp k1 _ => ?_) (es.zip ys) [] (fun p hp => ⟨i1 _ (hm p hp).1, fy.wd _ (hm p hp).2⟩) (lnum (by rw [List.length_nil, Nat.zero_add, List.length_zip]; omega)) ?_
  · have x1 := word_at okp.1.1 okp.1.2
    have o1 := word_ok fx okp.1.1 okp.1.2
    have o2 := okp.2
    rcases hd with rfl | rfl
    all_goals
      simp (config := { maxSteps := 2000000 }) only [vNext, vSeq, vBreak, vCont, vIfS, vRet, vRetN, vDrop, canSet_eq, sf_em, sf_ow, Option.elim_some, vAsg, vPar, gvName, gvNil, gvCons, gvTup, vAsgG, vFor, vWhile, vYes, vC, vVar, vMove, vSlot, vSh, vOp, vTest, vAnd, vOr, vNot, vAndV, vOrV, vNotV, vIf, vNilA, vConsA, getA, valsA, vTup, vLst, vNoPart, vPart, vSl, vUn, vCB, vChain, pIsi, pIsiT, ioIdx, resolve, pb, callB, vCall, vCallK, permute, pd1, pLen, pAbs, pInt1, pTuple, pList, pRepr, vSeqI, vRng1, vRng2, vZip, vEnum, vMth, vMeth, pmAppend, pmExtend, pmPop, vSetIx, vAug, vOrT, truD, pdAdd, pdSub, pdMul, pdFdiv, pdMod, pdPow, pdInt, pdEq, pdNe, bothStr, true_or, or_true, pdOrd, pdLt, pdGt, pdLe, pdGe, pdIs, isNn, pdIx, pdNeg, pdRev, Bo.get, Sl.con, Sl.put, O.dat, datL, datF, O.rd, noD, wipeS, slotsOf, endsP, outs0, outs1, outs2, ioNil, ioOne, List.length_cons, List.length_nil, List.replicate, List.cons_append, List.nil_append, List.set_cons_zero, List.set_cons_succ, List.getElem?_cons_zero, List.getElem?_cons_succ, List.getElem?_nil, List.getD_cons_zero, List.getD_cons_succ, List.filterMap_cons, List.filterMap_nil, Option.map_some, Option.bind_some, Option.map, Option.some.injEq, List.cons.injEq, O.sh.injEq, O.lst.injEq, O.dct.injEq, false_and, and_false, Sl.ow.injEq, Sl.io.injEq, PyData.int.injEq, PyData.bool.injEq, PyData.str.injEq, PyData.list.injEq, PyData.tuple.injEq, reduceCtorEq, exists_eq_left, exists_eq_left', exists_eq', exists_const, exists_and_left, exists_and_right, and_assoc, false_or, or_false, Int.toNat_natCast, Bool.false_eq_true, and_true, true_and, and_self, ne_eq, not_false_eq_true, not_true_eq_false, if_true, if_false, ↓reduceIte, Nat.reduceSub, Nat.reduceAdd, Nat.reduceEqDiff, at30, at31, at32, ix30, ix32, Nat.succ_ne_zero, x1, spec__law_alike, Alike]
      exact ⟨o1, o2, k1 rfl⟩
  · rw [List.filter_eq_self.mpr fun _ _ => rfl, List.nil_append]
    refine ⟨(es.zip ys).map fun p => alk (wordAt xs p.1) p.2 n, by rw [List.map_map]; rfl, ?_⟩
    rw [if_neg Bool.false_ne_true, all_map]
    simp (config := { maxSteps := 2000000 }) only [vNext, vSeq, vBreak, vCont, vIfS, vRet, vRetN, vDrop, canSet_eq, sf_em, sf_ow, Option.elim_some, vAsg, vPar, gvName, gvNil, gvCons, gvTup, vAsgG, vFor, vWhile, vYes, vC, vVar, vMove, vSlot, vSh, vOp, vTest, vAnd, vOr, vNot, vAndV, vOrV, vNotV, vIf, vNilA, vConsA, getA, valsA, vTup, vLst, vNoPart, vPart, vSl, vUn, vCB, vChain, pIsi, pIsiT, ioIdx, resolve, pb, callB, vCall, vCallK, permute, pd1, pLen, pAbs, pInt1, pTuple, pList, pRepr, vSeqI, vRng1, vRng2, vZip, vEnum, vMth, vMeth, pmAppend, pmExtend, pmPop, vSetIx, vAug, vOrT, truD, pdAdd, pdSub, pdMul, pdFdiv, pdMod, pdPow, pdInt, pdEq, pdNe, bothStr, true_or, or_true, pdOrd, pdLt, pdGt, pdLe, pdGe, pdIs, isNn, pdIx, pdNeg, pdRev, Bo.get, Sl.con, Sl.put, O.dat, datL, datF, O.rd, noD, wipeS, slotsOf, endsP, outs0, outs1, outs2, ioNil, ioOne, List.length_cons, List.length_nil, List.replicate, List.cons_append, List.nil_append, List.set_cons_zero, List.set_cons_succ, List.getElem?_cons_zero, List.getElem?_cons_succ, List.getElem?_nil, List.getD_cons_zero, List.getD_cons_succ, List.filterMap_cons, List.filterMap_nil, Option.map_some, Option.bind_some, Option.map, Option.some.injEq, List.cons.injEq, O.sh.injEq, O.lst.injEq, O.dct.injEq, false_and, and_false, Sl.ow.injEq, Sl.io.injEq, PyData.int.injEq, PyData.bool.injEq, PyData.str.injEq, PyData.list.injEq, PyData.tuple.injEq, reduceCtorEq, exists_eq_left, exists_eq_left', exists_eq', exists_const, exists_and_left, exists_and_right, and_assoc, false_or, or_false, Int.toNat_natCast, Bool.false_eq_true, and_true, true_and, and_self, ne_eq, not_false_eq_true, not_true_eq_false, if_true, if_false, ↓reduceIte, Nat.reduceSub, Nat.reduceAdd, Nat.reduceEqDiff, at30, at31, at32, ix30, ix32, Nat.succ_ne_zero]
    exact q
end VL

set_option Elab.async false
set_option linter.all false
set_option maxRecDepth 100000
set_option maxHeartbeats 1000000
namespace VL
open PySem PySem.Spec PyProof.Rows L2
variable [Wd]
theorem isi_tup {d : PyData} (h : isiD "tuple" d = true) : ∃ ds, d = .tuple ds := by
  cases d with
  | tuple ds => exact ⟨ds, rfl⟩
  | _ => exact absurd (show false = true from h) Bool.false_ne_true
theorem lvs_nd {n : Nat} {d : PyData} (h : lvs n d = true) : noD d = true := by
  cases d with
  | dict _ => exact absurd h Bool.false_ne_true
  | _ => rfl
theorem numbers_lc {S : Ss} {R : List PyData → Ss → Prop} {i : Nat} {ds : List PyData} (hi : ∀ d (K : PyData → Ss → Prop), noD d = true → K (.bool (isNum d)) S → gvName i d S fun S1 => vCall [false] IsNumber (vConsA (vSh (vVar i)) vNilA) S1 fun o S3 => K o.dat (wipeS S3 [i])) (hn : ∀ d ∈ ds, noD d = true) (hl : ds.length ≤ sizeLine) (h : R ((ds.map isNum).map .bool) S) :
    lcW (gvName i) vYes (vCall [false] IsNumber (vConsA (vSh (vVar i)) vNilA)) [i] R ds [] S := by
  have e : ds = ds.map id := (List.map_id _).symm
  rw [e]
  refine lc_pure (α := PyData) id (fun d => .bool (isNum d)) (fun _ => true) (fun d => noD d = true) (fun d K L nd k1 _ => ?_) _ [] hn (by rw [List.length_nil, Nat.zero_add]; exact hl) ?_
  · exact hi d K nd (k1 rfl)
  · rw [List.filter_eq_self.mpr fun _ _ => rfl]
    rw [List.map_map] at h
    exact h
theorem Mat.shaped {d : PyData} (h : Mat d) : SeqAt.shaped d = true := by
  obtain ⟨n, k, w, h1, h2, h3, h4⟩ := h
  exact (h1.nice h2).shaped (by omega)
theorem Mat.item {d x : PyData} {ds : List PyData} (h : Mat d) (e : itemsD d = some ds) (hx : x ∈ ds) : Mat x := by
  obtain ⟨n, k, w, h1, h2, h3, h4⟩ := h
  obtain ⟨j, u, rfl, hu, f⟩ := h1.items e
  exact ⟨n, j, u, f.at hx, h2, by omega, by omega⟩
theorem Mat.len {d : PyData} {ds : List PyData} (h : Mat d) (e : itemsD d = some ds) : ds.length ≤ 15000000 := by
  obtain ⟨n, k, w, h1, h2, h3, h4⟩ := h
  obtain ⟨j, u, rfl, hu, f⟩ := h1.items e
  have := f.len
  omega
theorem Mat.nd {d : PyData} (h : Mat d) : noD d = true := by
  obtain ⟨n, k, w, h1, h2, h3, h4⟩ := h
  exact lvs_nd h1.lv
theorem isNum_int {d : PyData} (h : isNum d = true) : ∃ i, d = .int i := by
  cases d with
  | int i => exact ⟨i, rfl⟩
  | _ => exact absurd (show false = true from h) Bool.false_ne_true
theorem ints_of_nums : ∀ {ds : List PyData}, ds.all isNum = true → ds = (ds.map intOf).map .int
  | [], _ => rfl
  | d :: ds, h => by
    rw [List.all_cons, Bool.and_eq_true] at h
    obtain ⟨i, rfl⟩ := isNum_int h.1
    rw [List.map_cons, List.map_cons, ← ints_of_nums h.2]
    rfl
theorem run_shows_parting : Runs ms_shows_parting ShowsP t_shows_parting 1 := by
  rintro vs os R h1 h2 sh ⟨dc, d, ys, xs, n, m, rfl, hc, hd, fy, fx, ny, nx, sy, hm, q⟩
  obtain ⟨v1, v2, v3, v4, rfl⟩ := len4 h1
  unfold t_shows_parting
  have nd := hm.nd
  cases et : isiD "tuple" m
  · have e : evidP ys xs n m = false := by
      unfold evidP
      split
      · cases et
      · rfl
    rw [e] at q
    unfold noD at nd
    simp (config := { maxSteps := 2000000 }) only [vNext, vSeq, vBreak, vCont, vIfS, vRet, vRetN, vDrop, canSet_eq, sf_em, sf_ow, Option.elim_some, vAsg, vPar, gvName, gvNil, gvCons, gvTup, vAsgG, vFor, vWhile, vYes, vC, vVar, vMove, vSlot, vSh, vOp, vTest, vAnd, vOr, vNot, vAndV, vOrV, vNotV, vIf, vNilA, vConsA, getA, valsA, vTup, vLst, vNoPart, vPart, vSl, vUn, vCB, vChain, pIsi, pIsiT, ioIdx, resolve, pb, callB, vCall, vCallK, permute, pd1, pLen, pAbs, pInt1, pTuple, pList, pRepr, vSeqI, vRng1, vRng2, vZip, vEnum, vMth, vMeth, pmAppend, pmExtend, pmPop, vSetIx, vAug, vOrT, truD, pdAdd, pdSub, pdMul, pdFdiv, pdMod, pdPow, pdInt, pdEq, pdNe, bothStr, true_or, or_true, pdOrd, pdLt, pdGt, pdLe, pdGe, pdIs, isNn, pdIx, pdNeg, pdRev, Bo.get, Sl.con, Sl.put, O.dat, datL, datF, O.rd, noD, wipeS, slotsOf, endsP, outs0, outs1, outs2, ioNil, ioOne, List.length_cons, List.length_nil, List.replicate, List.cons_append, List.nil_append, List.set_cons_zero, List.set_cons_succ, List.getElem?_cons_zero, List.getElem?_cons_succ, List.getElem?_nil, List.getD_cons_zero, List.getD_cons_succ, List.filterMap_cons, List.filterMap_nil, Option.map_some, Option.bind_some, Option.map, Option.some.injEq, List.cons.injEq, O.sh.injEq, O.lst.injEq, O.dct.injEq, false_and, and_false, Sl.ow.injEq, Sl.io.injEq, PyData.int.injEq, PyData.bool.injEq, PyData.str.injEq, PyData.list.injEq, PyData.tuple.injEq, reduceCtorEq, exists_eq_left, exists_eq_left', exists_eq', exists_const, exists_and_left, exists_and_right, and_assoc, false_or, or_false, Int.toNat_natCast, Bool.false_eq_true, and_true, true_and, and_self, ne_eq, not_false_eq_true, not_true_eq_false, if_true, if_false, ↓reduceIte, Nat.reduceSub, Nat.reduceAdd, Nat.reduceEqDiff, at30, at31, at32, ix30, ix32, Nat.succ_ne_zero, nd, et, Bool.not_false]
    exact q
  obtain ⟨ds, rfl⟩ := isi_tup et
  have ev : evidP ys xs n (.tuple ds) = (ds.all isNum && part ys xs n (ds.map intOf)) := rfl
  refine seq_cut (fun S' => S' = [Sl.ow (.sh dc), .ow (.sh d), .ow (.sh (.int n)), .ow (.sh (.tuple ds)), .em] ∧ ds.all isNum = true) ?_ ?_
  · intro K hK
    simp (config := { maxSteps := 2000000 }) only [vNext, vSeq, vBreak, vCont, vIfS, vRet, vRetN, vDrop, canSet_eq, sf_em, sf_ow, Option.elim_some, vAsg, vPar, gvName, gvNil, gvCons, gvTup, vAsgG, vFor, vWhile, vYes, vC, vVar, vMove, vSlot, vSh, vOp, vTest, vAnd, vOr, vNot, vAndV, vOrV, vNotV, vIf, vNilA, vConsA, getA, valsA, vTup, vLst, vNoPart, vPart, vSl, vUn, vCB, vChain, pIsi, pIsiT, ioIdx, resolve, pb, callB, vCall, vCallK, permute, pd1, pLen, pAbs, pInt1, pTuple, pList, pRepr, vSeqI, vRng1, vRng2, vZip, vEnum, vMth, vMeth, pmAppend, pmExtend, pmPop, vSetIx, vAug, vOrT, truD, pdAdd, pdSub, pdMul, pdFdiv, pdMod, pdPow, pdInt, pdEq, pdNe, bothStr, true_or, or_true, pdOrd, pdLt, pdGt, pdLe, pdGe, pdIs, isNn, pdIx, pdNeg, pdRev, Bo.get, Sl.con, Sl.put, O.dat, datL, datF, O.rd, noD, wipeS, slotsOf, endsP, outs0, outs1, outs2, ioNil, ioOne, List.length_cons, List.length_nil, List.replicate, List.cons_append, List.nil_append, List.set_cons_zero, List.set_cons_succ, List.getElem?_cons_zero, List.getElem?_cons_succ, List.getElem?_nil, List.getD_cons_zero, List.getD_cons_succ, List.filterMap_cons, List.filterMap_nil, Option.map_some, Option.bind_some, Option.map, Option.some.injEq, List.cons.injEq, O.sh.injEq, O.lst.injEq, O.dct.injEq, false_and, and_false, Sl.ow.injEq, Sl.io.injEq, PyData.int.injEq, PyData.bool.injEq, PyData.str.injEq, PyData.list.injEq, PyData.tuple.injEq, reduceCtorEq, exists_eq_left, exists_eq_left', exists_eq', exists_const, exists_and_left, exists_and_right, and_assoc, false_or, or_false, Int.toNat_natCast, Bool.false_eq_true, and_true, true_and, and_self, ne_eq, not_false_eq_true, not_true_eq_false, if_true, if_false, ↓reduceIte, Nat.reduceSub, Nat.reduceAdd, Nat.reduceEqDiff, at30, at31, at32, ix30, ix32, Nat.succ_ne_zero, et, spec_is_integer, IsNumber, vLc]
    rw [if_neg bang_t]
    refine numbers_lc (fun d K nd h => by simp (config := { maxSteps := 2000000 }) only [vNext, vSeq, vBreak, vCont, vIfS, vRet, vRetN, vDrop, canSet_eq, sf_em, sf_ow, Option.elim_some, vAsg, vPar, gvName, gvNil, gvCons, gvTup, vAsgG, vFor, vWhile, vYes, vC, vVar, vMove, vSlot, vSh, vOp, vTest, vAnd, vOr, vNot, vAndV, vOrV, vNotV, vIf, vNilA, vConsA, getA, valsA, vTup, vLst, vNoPart, vPart, vSl, vUn, vCB, vChain, pIsi, pIsiT, ioIdx, resolve, pb, callB, vCall, vCallK, permute, pd1, pLen, pAbs, pInt1, pTuple, pList, pRepr, vSeqI, vRng1, vRng2, vZip, vEnum, vMth, vMeth, pmAppend, pmExtend, pmPop, vSetIx, vAug, vOrT, truD, pdAdd, pdSub, pdMul, pdFdiv, pdMod, pdPow, pdInt, pdEq, pdNe, bothStr, true_or, or_true, pdOrd, pdLt, pdGt, pdLe, pdGe, pdIs, isNn, pdIx, pdNeg, pdRev, Bo.get, Sl.con, Sl.put, O.dat, datL, datF, O.rd, noD, wipeS, slotsOf, endsP, outs0, outs1, outs2, ioNil, ioOne, List.length_cons, List.length_nil, List.replicate, List.cons_append, List.nil_append, List.set_cons_zero, List.set_cons_succ, List.getElem?_cons_zero, List.getElem?_cons_succ, List.getElem?_nil, List.getD_cons_zero, List.getD_cons_succ, List.filterMap_cons, List.filterMap_nil, Option.map_some, Option.bind_some, Option.map, Option.some.injEq, List.cons.injEq, O.sh.injEq, O.lst.injEq, O.dct.injEq, false_and, and_false, Sl.ow.injEq, Sl.io.injEq, PyData.int.injEq, PyData.bool.injEq, PyData.str.injEq, PyData.list.injEq, PyData.tuple.injEq, reduceCtorEq, exists_eq_left, exists_eq_left', exists_eq', exists_const, exists_and_left, exists_and_right, and_assoc, false_or, or_false, Int.toNat_natCast, Bool.false_eq_true, and_true, true_and, and_self, ne_eq, not_false_eq_true, not_true_eq_false, if_true, if_false, ↓reduceIte, Nat.reduceSub, Nat.reduceAdd, Nat.reduceEqDiff, at30, at31, at32, ix30, ix32, Nat.succ_ne_zero, IsNumber]; exact ⟨nd, h⟩) (fun d hd => (hm.item (d := .tuple ds) rfl hd).nd) (by have := hm.len (d := .tuple ds) rfl; rw [sizeLine_eq]; omega) ⟨_, rfl, ?_⟩
    rw [if_neg Bool.false_ne_true, all_map]
    refine ⟨_, rfl, ?_⟩
    cases e3 : ds.all isNum
    · rw [if_pos bang_f]
      rw [ev, e3, Bool.false_and] at q
      simp (config := { maxSteps := 2000000 }) only [vNext, vSeq, vBreak, vCont, vIfS, vRet, vRetN, vDrop, canSet_eq, sf_em, sf_ow, Option.elim_some, vAsg, vPar, gvName, gvNil, gvCons, gvTup, vAsgG, vFor, vWhile, vYes, vC, vVar, vMove, vSlot, vSh, vOp, vTest, vAnd, vOr, vNot, vAndV, vOrV, vNotV, vIf, vNilA, vConsA, getA, valsA, vTup, vLst, vNoPart, vPart, vSl, vUn, vCB, vChain, pIsi, pIsiT, ioIdx, resolve, pb, callB, vCall, vCallK, permute, pd1, pLen, pAbs, pInt1, pTuple, pList, pRepr, vSeqI, vRng1, vRng2, vZip, vEnum, vMth, vMeth, pmAppend, pmExtend, pmPop, vSetIx, vAug, vOrT, truD, pdAdd, pdSub, pdMul, pdFdiv, pdMod, pdPow, pdInt, pdEq, pdNe, bothStr, true_or, or_true, pdOrd, pdLt, pdGt, pdLe, pdGe, pdIs, isNn, pdIx, pdNeg, pdRev, Bo.get, Sl.con, Sl.put, O.dat, datL, datF, O.rd, noD, wipeS, slotsOf, endsP, outs0, outs1, outs2, ioNil, ioOne, List.length_cons, List.length_nil, List.replicate, List.cons_append, List.nil_append, List.set_cons_zero, List.set_cons_succ, List.getElem?_cons_zero, List.getElem?_cons_succ, List.getElem?_nil, List.getD_cons_zero, List.getD_cons_succ, List.filterMap_cons, List.filterMap_nil, Option.map_some, Option.bind_some, Option.map, Option.some.injEq, List.cons.injEq, O.sh.injEq, O.lst.injEq, O.dct.injEq, false_and, and_false, Sl.ow.injEq, Sl.io.injEq, PyData.int.injEq, PyData.bool.injEq, PyData.str.injEq, PyData.list.injEq, PyData.tuple.injEq, reduceCtorEq, exists_eq_left, exists_eq_left', exists_eq', exists_const, exists_and_left, exists_and_right, and_assoc, false_or, or_false, Int.toNat_natCast, Bool.false_eq_true, and_true, true_and, and_self, ne_eq, not_false_eq_true, not_true_eq_false, if_true, if_false, ↓reduceIte, Nat.reduceSub, Nat.reduceAdd, Nat.reduceEqDiff, at30, at31, at32, ix30, ix32, Nat.succ_ne_zero]
      exact q
    · rw [if_neg bang_t]
      exact hK _ ⟨rfl, e3⟩
  rintro S1 ⟨rfl, e3⟩
  rw [ev, e3, Bool.true_and] at q
  have eds := ints_of_nums e3
  generalize ds.map intOf = es at q eds
  subst eds
  simp (config := { maxSteps := 2000000 }) only [vNext, vSeq, vBreak, vCont, vIfS, vRet, vRetN, vDrop, canSet_eq, sf_em, sf_ow, Option.elim_some, vAsg, vPar, gvName, gvNil, gvCons, gvTup, vAsgG, vFor, vWhile, vYes, vC, vVar, vMove, vSlot, vSh, vOp, vTest, vAnd, vOr, vNot, vAndV, vOrV, vNotV, vIf, vNilA, vConsA, getA, valsA, vTup, vLst, vNoPart, vPart, vSl, vUn, vCB, vChain, pIsi, pIsiT, ioIdx, resolve, pb, callB, vCall, vCallK, permute, pd1, pLen, pAbs, pInt1, pTuple, pList, pRepr, vSeqI, vRng1, vRng2, vZip, vEnum, vMth, vMeth, pmAppend, pmExtend, pmPop, vSetIx, vAug, vOrT, truD, pdAdd, pdSub, pdMul, pdFdiv, pdMod, pdPow, pdInt, pdEq, pdNe, bothStr, true_or, or_true, pdOrd, pdLt, pdGt, pdLe, pdGe, pdIs, isNn, pdIx, pdNeg, pdRev, Bo.get, Sl.con, Sl.put, O.dat, datL, datF, O.rd, noD, wipeS, slotsOf, endsP, outs0, outs1, outs2, ioNil, ioOne, List.length_cons, List.length_nil, List.replicate, List.cons_append, List.nil_append, List.set_cons_zero, List.set_cons_succ, List.getElem?_cons_zero, List.getElem?_cons_succ, List.getElem?_nil, List.getD_cons_zero, List.getD_cons_succ, List.filterMap_cons, List.filterMap_nil, Option.map_some, Option.bind_some, Option.map, Option.some.injEq, List.cons.injEq, O.sh.injEq, O.lst.injEq, O.dct.injEq, false_and, and_false, Sl.ow.injEq, Sl.io.injEq, PyData.int.injEq, PyData.bool.injEq, PyData.str.injEq, PyData.list.injEq, PyData.tuple.injEq, reduceCtorEq, exists_eq_left, exists_eq_left', exists_eq', exists_const, exists_and_left, exists_and_right, and_assoc, false_or, or_false, Int.toNat_natCast, Bool.false_eq_true, and_true, true_and, and_self, ne_eq, not_false_eq_true, not_true_eq_false, if_true, if_false, ↓reduceIte, Nat.reduceSub, Nat.reduceAdd, Nat.reduceEqDiff, at30, at31, at32, ix30, ix32, Nat.succ_ne_zero, spec_is_parting, IsParting]
  exact ⟨ys, xs, es, rfl, hc, hd, fy, fx, ny, nx, sy, q⟩
theorem run__law_is_it : Runs ms__law_is_it ShowsP t__law_is_it 1 := by
  rintro vs os R h1 h2 sh ⟨dc, d, ys, xs, n, m, rfl, hc, hd, fy, fx, ny, nx, sy, hm, q⟩
  obtain ⟨v1, v2, v3, v4, rfl⟩ := len4 h1
  unfold t__law_is_it
  have nd := hm.nd
  cases et : isiD "tuple" m
  · have e : evidP ys xs n m = false := by
      unfold evidP
      split
      · cases et
      · rfl
    rw [e] at q
    unfold noD at nd
    simp (config := { maxSteps := 2000000 }) only [vNext, vSeq, vBreak, vCont, vIfS, vRet, vRetN, vDrop, canSet_eq, sf_em, sf_ow, Option.elim_some, vAsg, vPar, gvName, gvNil, gvCons, gvTup, vAsgG, vFor, vWhile, vYes, vC, vVar, vMove, vSlot, vSh, vOp, vTest, vAnd, vOr, vNot, vAndV, vOrV, vNotV, vIf, vNilA, vConsA, getA, valsA, vTup, vLst, vNoPart, vPart, vSl, vUn, vCB, vChain, pIsi, pIsiT, ioIdx, resolve, pb, callB, vCall, vCallK, permute, pd1, pLen, pAbs, pInt1, pTuple, pList, pRepr, vSeqI, vRng1, vRng2, vZip, vEnum, vMth, vMeth, pmAppend, pmExtend, pmPop, vSetIx, vAug, vOrT, truD, pdAdd, pdSub, pdMul, pdFdiv, pdMod, pdPow, pdInt, pdEq, pdNe, bothStr, true_or, or_true, pdOrd, pdLt, pdGt, pdLe, pdGe, pdIs, isNn, pdIx, pdNeg, pdRev, Bo.get, Sl.con, Sl.put, O.dat, datL, datF, O.rd, noD, wipeS, slotsOf, endsP, outs0, outs1, outs2, ioNil, ioOne, List.length_cons, List.length_nil, List.replicate, List.cons_append, List.nil_append, List.set_cons_zero, List.set_cons_succ, List.getElem?_cons_zero, List.getElem?_cons_succ, List.getElem?_nil, List.getD_cons_zero, List.getD_cons_succ, List.filterMap_cons, List.filterMap_nil, Option.map_some, Option.bind_some, Option.map, Option.some.injEq, List.cons.injEq, O.sh.injEq, O.lst.injEq, O.dct.injEq, false_and, and_false, Sl.ow.injEq, Sl.io.injEq, PyData.int.injEq, PyData.bool.injEq, PyData.str.injEq, PyData.list.injEq, PyData.tuple.injEq, reduceCtorEq, exists_eq_left, exists_eq_left', exists_eq', exists_const, exists_and_left, exists_and_right, and_assoc, false_or, or_false, Int.toNat_natCast, Bool.false_eq_true, and_true, true_and, and_self, ne_eq, not_false_eq_true, not_true_eq_false, if_true, if_false, ↓reduceIte, Nat.reduceSub, Nat.reduceAdd, Nat.reduceEqDiff, at30, at31, at32, ix30, ix32, Nat.succ_ne_zero, nd, et, Bool.not_false]
    exact q
  obtain ⟨ds, rfl⟩ := isi_tup et
  have ev : evidP ys xs n (.tuple ds) = (ds.all isNum && part ys xs n (ds.map intOf)) := rfl
  refine seq_cut (fun S' => S' = [Sl.ow (.sh dc), .ow (.sh d), .ow (.sh (.int n)), .ow (.sh (.tuple ds)), .em] ∧ ds.all isNum = true) ?_ ?_
  · intro K hK
    simp (config := { maxSteps := 2000000 }) only [vNext, vSeq, vBreak, vCont, vIfS, vRet, vRetN, vDrop, canSet_eq, sf_em, sf_ow, Option.elim_some, vAsg, vPar, gvName, gvNil, gvCons, gvTup, vAsgG, vFor, vWhile, vYes, vC, vVar, vMove, vSlot, vSh, vOp, vTest, vAnd, vOr, vNot, vAndV, vOrV, vNotV, vIf, vNilA, vConsA, getA, valsA, vTup, vLst, vNoPart, vPart, vSl, vUn, vCB, vChain, pIsi, pIsiT, ioIdx, resolve, pb, callB, vCall, vCallK, permute, pd1, pLen, pAbs, pInt1, pTuple, pList, pRepr, vSeqI, vRng1, vRng2, vZip, vEnum, vMth, vMeth, pmAppend, pmExtend, pmPop, vSetIx, vAug, vOrT, truD, pdAdd, pdSub, pdMul, pdFdiv, pdMod, pdPow, pdInt, pdEq, pdNe, bothStr, true_or, or_true, pdOrd, pdLt, pdGt, pdLe, pdGe, pdIs, isNn, pdIx, pdNeg, pdRev, Bo.get, Sl.con, Sl.put, O.dat, datL, datF, O.rd, noD, wipeS, slotsOf, endsP, outs0, outs1, outs2, ioNil, ioOne, List.length_cons, List.length_nil, List.replicate, List.cons_append, List.nil_append, List.set_cons_zero, List.set_cons_succ, List.getElem?_cons_zero, List.getElem?_cons_succ, List.getElem?_nil, List.getD_cons_zero, List.getD_cons_succ, List.filterMap_cons, List.filterMap_nil, Option.map_some, Option.bind_some, Option.map, Option.some.injEq, List.cons.injEq, O.sh.injEq, O.lst.injEq, O.dct.injEq, false_and, and_false, Sl.ow.injEq, Sl.io.injEq, PyData.int.injEq, PyData.bool.injEq, PyData.str.injEq, PyData.list.injEq, PyData.tuple.injEq, reduceCtorEq, exists_eq_left, exists_eq_left', exists_eq', exists_const, exists_and_left, exists_and_right, and_assoc, false_or, or_false, Int.toNat_natCast, Bool.false_eq_true, and_true, true_and, and_self, ne_eq, not_false_eq_true, not_true_eq_false, if_true, if_false, ↓reduceIte, Nat.reduceSub, Nat.reduceAdd, Nat.reduceEqDiff, at30, at31, at32, ix30, ix32, Nat.succ_ne_zero, et, spec__law_is_number, IsNumber, vLc]
    rw [if_neg bang_t]
    refine numbers_lc (fun d K nd h => by simp (config := { maxSteps := 2000000 }) only [vNext, vSeq, vBreak, vCont, vIfS, vRet, vRetN, vDrop, canSet_eq, sf_em, sf_ow, Option.elim_some, vAsg, vPar, gvName, gvNil, gvCons, gvTup, vAsgG, vFor, vWhile, vYes, vC, vVar, vMove, vSlot, vSh, vOp, vTest, vAnd, vOr, vNot, vAndV, vOrV, vNotV, vIf, vNilA, vConsA, getA, valsA, vTup, vLst, vNoPart, vPart, vSl, vUn, vCB, vChain, pIsi, pIsiT, ioIdx, resolve, pb, callB, vCall, vCallK, permute, pd1, pLen, pAbs, pInt1, pTuple, pList, pRepr, vSeqI, vRng1, vRng2, vZip, vEnum, vMth, vMeth, pmAppend, pmExtend, pmPop, vSetIx, vAug, vOrT, truD, pdAdd, pdSub, pdMul, pdFdiv, pdMod, pdPow, pdInt, pdEq, pdNe, bothStr, true_or, or_true, pdOrd, pdLt, pdGt, pdLe, pdGe, pdIs, isNn, pdIx, pdNeg, pdRev, Bo.get, Sl.con, Sl.put, O.dat, datL, datF, O.rd, noD, wipeS, slotsOf, endsP, outs0, outs1, outs2, ioNil, ioOne, List.length_cons, List.length_nil, List.replicate, List.cons_append, List.nil_append, List.set_cons_zero, List.set_cons_succ, List.getElem?_cons_zero, List.getElem?_cons_succ, List.getElem?_nil, List.getD_cons_zero, List.getD_cons_succ, List.filterMap_cons, List.filterMap_nil, Option.map_some, Option.bind_some, Option.map, Option.some.injEq, List.cons.injEq, O.sh.injEq, O.lst.injEq, O.dct.injEq, false_and, and_false, Sl.ow.injEq, Sl.io.injEq, PyData.int.injEq, PyData.bool.injEq, PyData.str.injEq, PyData.list.injEq, PyData.tuple.injEq, reduceCtorEq, exists_eq_left, exists_eq_left', exists_eq', exists_const, exists_and_left, exists_and_right, and_assoc, false_or, or_false, Int.toNat_natCast, Bool.false_eq_true, and_true, true_and, and_self, ne_eq, not_false_eq_true, not_true_eq_false, if_true, if_false, ↓reduceIte, Nat.reduceSub, Nat.reduceAdd, Nat.reduceEqDiff, at30, at31, at32, ix30, ix32, Nat.succ_ne_zero, IsNumber]; exact ⟨nd, h⟩) (fun d hd => (hm.item (d := .tuple ds) rfl hd).nd) (by have := hm.len (d := .tuple ds) rfl; rw [sizeLine_eq]; omega) ⟨_, rfl, ?_⟩
    rw [if_neg Bool.false_ne_true, all_map]
    refine ⟨_, rfl, ?_⟩
    cases e3 : ds.all isNum
    · rw [if_pos bang_f]
      rw [ev, e3, Bool.false_and] at q
      simp (config := { maxSteps := 2000000 }) only [vNext, vSeq, vBreak, vCont, vIfS, vRet, vRetN, vDrop, canSet_eq, sf_em, sf_ow, Option.elim_some, vAsg, vPar, gvName, gvNil, gvCons, gvTup, vAsgG, vFor, vWhile, vYes, vC, vVar, vMove, vSlot, vSh, vOp, vTest, vAnd, vOr, vNot, vAndV, vOrV, vNotV, vIf, vNilA, vConsA, getA, valsA, vTup, vLst, vNoPart, vPart, vSl, vUn, vCB, vChain, pIsi, pIsiT, ioIdx, resolve, pb, callB, vCall, vCallK, permute, pd1, pLen, pAbs, pInt1, pTuple, pList, pRepr, vSeqI, vRng1, vRng2, vZip, vEnum, vMth, vMeth, pmAppend, pmExtend, pmPop, vSetIx, vAug, vOrT, truD, pdAdd, pdSub, pdMul, pdFdiv, pdMod, pdPow, pdInt, pdEq, pdNe, bothStr, true_or, or_true, pdOrd, pdLt, pdGt, pdLe, pdGe, pdIs, isNn, pdIx, pdNeg, pdRev, Bo.get, Sl.con, Sl.put, O.dat, datL, datF, O.rd, noD, wipeS, slotsOf, endsP, outs0, outs1, outs2, ioNil, ioOne, List.length_cons, List.length_nil, List.replicate, List.cons_append, List.nil_append, List.set_cons_zero, List.set_cons_succ, List.getElem?_cons_zero, List.getElem?_cons_succ, List.getElem?_nil, List.getD_cons_zero, List.getD_cons_succ, List.filterMap_cons, List.filterMap_nil, Option.map_some, Option.bind_some, Option.map, Option.some.injEq, List.cons.injEq, O.sh.injEq, O.lst.injEq, O.dct.injEq, false_and, and_false, Sl.ow.injEq, Sl.io.injEq, PyData.int.injEq, PyData.bool.injEq, PyData.str.injEq, PyData.list.injEq, PyData.tuple.injEq, reduceCtorEq, exists_eq_left, exists_eq_left', exists_eq', exists_const, exists_and_left, exists_and_right, and_assoc, false_or, or_false, Int.toNat_natCast, Bool.false_eq_true, and_true, true_and, and_self, ne_eq, not_false_eq_true, not_true_eq_false, if_true, if_false, ↓reduceIte, Nat.reduceSub, Nat.reduceAdd, Nat.reduceEqDiff, at30, at31, at32, ix30, ix32, Nat.succ_ne_zero]
      exact q
    · rw [if_neg bang_t]
      exact hK _ ⟨rfl, e3⟩
  rintro S1 ⟨rfl, e3⟩
  rw [ev, e3, Bool.true_and] at q
  have eds := ints_of_nums e3
  generalize ds.map intOf = es at q eds
  subst eds
  simp (config := { maxSteps := 2000000 }) only [vNext, vSeq, vBreak, vCont, vIfS, vRet, vRetN, vDrop, canSet_eq, sf_em, sf_ow, Option.elim_some, vAsg, vPar, gvName, gvNil, gvCons, gvTup, vAsgG, vFor, vWhile, vYes, vC, vVar, vMove, vSlot, vSh, vOp, vTest, vAnd, vOr, vNot, vAndV, vOrV, vNotV, vIf, vNilA, vConsA, getA, valsA, vTup, vLst, vNoPart, vPart, vSl, vUn, vCB, vChain, pIsi, pIsiT, ioIdx, resolve, pb, callB, vCall, vCallK, permute, pd1, pLen, pAbs, pInt1, pTuple, pList, pRepr, vSeqI, vRng1, vRng2, vZip, vEnum, vMth, vMeth, pmAppend, pmExtend, pmPop, vSetIx, vAug, vOrT, truD, pdAdd, pdSub, pdMul, pdFdiv, pdMod, pdPow, pdInt, pdEq, pdNe, bothStr, true_or, or_true, pdOrd, pdLt, pdGt, pdLe, pdGe, pdIs, isNn, pdIx, pdNeg, pdRev, Bo.get, Sl.con, Sl.put, O.dat, datL, datF, O.rd, noD, wipeS, slotsOf, endsP, outs0, outs1, outs2, ioNil, ioOne, List.length_cons, List.length_nil, List.replicate, List.cons_append, List.nil_append, List.set_cons_zero, List.set_cons_succ, List.getElem?_cons_zero, List.getElem?_cons_succ, List.getElem?_nil, List.getD_cons_zero, List.getD_cons_succ, List.filterMap_cons, List.filterMap_nil, Option.map_some, Option.bind_some, Option.map, Option.some.injEq, List.cons.injEq, O.sh.injEq, O.lst.injEq, O.dct.injEq, false_and, and_false, Sl.ow.injEq, Sl.io.injEq, PyData.int.injEq, PyData.bool.injEq, PyData.str.injEq, PyData.list.injEq, PyData.tuple.injEq, reduceCtorEq, exists_eq_left, exists_eq_left', exists_eq', exists_const, exists_and_left, exists_and_right, and_assoc, false_or, or_false, Int.toNat_natCast, Bool.false_eq_true, and_true, true_and, and_self, ne_eq, not_false_eq_true, not_true_eq_false, if_true, if_false, ↓reduceIte, Nat.reduceSub, Nat.reduceAdd, Nat.reduceEqDiff, at30, at31, at32, ix30, ix32, Nat.succ_ne_zero, spec__law_are_places, IsParting]
  exact ⟨ys, xs, es, rfl, hc, hd, fy, fx, ny, nx, sy, q⟩
end VL

set_option Elab.async false
set_option linter.all false
set_option maxRecDepth 100000
set_option maxHeartbeats 1000000
namespace VL
open PySem PySem.Spec PyProof.Rows L2
variable [Wd]
/-! ### the places found are a parting -/
structure FoundAt {α : Type} (W P : List α) (f : List Nat) (k : Nat) : Prop where
  inc : f.Pairwise (· < ·)
  bd : ∀ m ∈ f, m < k
  eq : ∀ (j m : Nat), f[j]? = some m → ∃ w, W[j]? = some w ∧ P[m]? = some w
theorem step_prD {W : List (Str × Str)} {P : List (Str × Str)} {f : List Nat} {k : Nat} {p : Str × Str} (h : FoundAt W P f k) (hp : P[k]? = some p) : FoundAt W P (stepM (W.map prD) f (prD p, k)) (k + 1) := by
  have up : FoundAt W P f (k + 1) := ⟨h.inc, fun m hm => Nat.lt_succ_of_lt (h.bd m hm), h.eq⟩
  unfold stepM
  rw [List.getElem?_map]
  cases e : W[f.length]? with
  | none => exact up
  | some w =>
    show FoundAt W P (if PyData.eqv (prD p) (prD w) = true then f ++ [k] else f) (k + 1)
    rw [eqv_prD]
    by_cases hw : p = w
    · rw [if_pos (decide_eq_true hw)]
      subst hw
      refine ⟨List.pairwise_append.mpr ⟨h.inc, List.pairwise_singleton _ _, fun a ha b hb => ?_⟩, fun m hm => ?_, fun j m hj => ?_⟩
      · rw [List.mem_singleton.mp hb]
        exact h.bd a ha
      · rcases List.mem_append.mp hm with z | z
        · exact Nat.lt_succ_of_lt (h.bd m z)
        · rw [List.mem_singleton.mp z]; exact Nat.lt_succ_self k
      · by_cases hl : j < f.length
        · rw [List.getElem?_append_left hl] at hj
          exact h.eq j m hj
        · have hj2 : j = f.length := by
            have := (List.getElem?_eq_some_iff.mp hj).1
            rw [List.length_append, List.length_singleton] at this
            omega
          subst hj2
          rw [List.getElem?_append_right (Nat.le_refl _), Nat.sub_self] at hj
          have hj : k = m := Option.some.inj hj
          subst hj
          exact ⟨p, e, hp⟩
    · rw [if_neg (by rw [decide_eq_false hw]; exact Bool.false_ne_true)]
      exact up
theorem fold_found {W P : List (Str × Str)} : ∀ (rest : List (Str × Str)) (k : Nat) (f : List Nat), P.drop k = rest → FoundAt W P f k → FoundAt W P (((rest.map prD).zipIdx k).foldl (stepM (W.map prD)) f) (k + rest.length)
  | [], k, f, _, h => h
  | p :: rest, k, f, e, h => by
    have hp : P[k]? = some p := by
      have : (P.drop k)[0]? = some p := by rw [e]; rfl
      rw [List.getElem?_drop] at this
      exact this
    have e2 : P.drop (k + 1) = rest := by
      rw [← List.drop_drop, e]
      rfl
    rw [List.map_cons, List.zipIdx_cons, List.foldl_cons, List.length_cons]
    have := fold_found rest (k + 1) _ e2 (step_prD h hp)
    rw [show k + (rest.length + 1) = k + 1 + rest.length by omega]
    exact this
theorem matched_found {ys xs : List Str} {n : Int} : FoundAt (prs ys n) (prs xs n) (matched (pairsD ys n) (pairsD xs n)) (prs xs n).length := by
  unfold matched
  rw [pairsD_prs, pairsD_prs]
  have h := fold_found (W := prs ys n) (P := prs xs n) (prs xs n) 0 [] rfl ⟨.nil, fun _ h => (nomatch h), fun _ _ h => by simp at h⟩
  rw [Nat.zero_add] at h
  exact h
theorem prs_of {xs : List Str} {n : Int} {j : Nat} {w : Str × Str} (h : (prs xs n)[j]? = some w) : ∃ a b, xs[j]? = some a ∧ xs[j + 1]? = some b ∧ w = (endW a n, b) := by
  unfold prs at h
  rw [List.getElem?_map] at h
  cases e : (xs.zip xs.tail)[j]? with
  | none => rw [e] at h; cases h
  | some p =>
    rw [e] at h
    obtain ⟨a, b⟩ := p
    have hz := List.getElem?_zip_eq_some.mp e
    have hb : xs[j + 1]? = some b := by rw [← List.getElem?_tail]; exact hz.2
    exact ⟨a, b, hz.1, hb, (Option.some.inj h).symm⟩
theorem wordAt_some {xs : List Str} {k : Nat} {a : Str} (h : xs[k]? = some a) : wordAt xs (k : Int) = a := by
  unfold wordAt
  rw [Int.toNat_natCast, List.getD_eq_getElem?_getD, h]
  rfl
theorem all_zip_at {α β : Type} {p : α × β → Bool} : ∀ {as : List α} {bs : List β}, (∀ (j : Nat) (a : α) (b : β), as[j]? = some a → bs[j]? = some b → p (a, b) = true) → (as.zip bs).all p = true
  | [], _, _ => rfl
  | _ :: _, [], _ => rfl
  | a :: as, b :: bs, h => by
    rw [List.zip_cons_cons, List.all_cons, h 0 a b rfl rfl, Bool.true_and]
    exact all_zip_at fun j x y hx hy => h (j + 1) x y (by simpa using hx) (by simpa using hy)
theorem eqv_str {a b : Str} : PyData.eqv (.str a) (.str b) = decide (a = b) := by
  show (a == b) = _
  rw [Bool.eq_iff_iff, beq_iff_eq, decide_eq_true_eq]
theorem alk_eq {a b : Str} {n : Int} : alk a b n = decide (endW a n = endW b n) := eqv_str
theorem least_part {ys xs : List Str} {n : Int} (ny : ys ≠ []) (nx : xs ≠ []) (h : obs ys xs n = none) : part ys xs n (leastP ys xs n) = true := by
  have F := matched_found (ys := ys) (xs := xs) (n := n)
  have px := prs_len (xs := xs) (n := n)
  have lx := List.length_pos_iff.mpr nx
  have ly := List.length_pos_iff.mpr ny
  unfold obs at h
  split at h
  · rename_i h0
    split at h
    · rename_i h1
      obtain ⟨hl, ha⟩ := h1
      rw [eqv_str, decide_eq_true_eq] at h0
      rw [alk_eq, decide_eq_true_eq] at ha
      generalize hm : matched (pairsD ys n) (pairsD xs n) = f at F hl
      have el : leastP ys xs n = (f.map fun k => ((k : Nat) : Int)) ++ [(xs.length : Int) - 1] := by unfold leastP; rw [hm]
      have ne : leastP ys xs n ≠ [] := by rw [el]; simp
      have len : (leastP ys xs n).length = ys.length := by rw [el, List.length_append, List.length_map, List.length_singleton, hl]
      have at1 : ∀ (j : Nat) (i : Int), (leastP ys xs n)[j]? = some i → (∃ m, f[j]? = some m ∧ i = (m : Int)) ∨ (j = f.length ∧ i = (xs.length : Int) - 1) := by
        intro j i hj
        rw [el] at hj
        by_cases hjl : j < f.length
        · rw [List.getElem?_append_left (by rw [List.length_map]; exact hjl), List.getElem?_map] at hj
          cases e : f[j]? with
          | none => rw [e] at hj; cases hj
          | some m => rw [e] at hj; exact .inl ⟨m, rfl, (Option.some.inj hj).symm⟩
        · have := (List.getElem?_eq_some_iff.mp hj).1
          rw [List.length_append, List.length_map, List.length_singleton] at this
          have hj2 : j = f.length := by omega
          subst hj2
          rw [List.getElem?_append_right (by rw [List.length_map]; exact Nat.le_refl _), List.length_map, Nat.sub_self] at hj
          exact .inr ⟨rfl, (Option.some.inj hj).symm⟩
      have lastx : xs[xs.length - 1]? = some (lastW xs) := by
        rw [← List.getLast?_eq_getElem?, List.getLast?_eq_some_getLast nx]
        unfold lastW
        rw [List.getLastD_eq_getLast?, List.getLast?_eq_some_getLast nx]
        rfl
      have lasty : ys[ys.length - 1]? = some (lastW ys) := by
        rw [← List.getLast?_eq_getElem?, List.getLast?_eq_some_getLast ny]
        unfold lastW
        rw [List.getLastD_eq_getLast?, List.getLast?_eq_some_getLast ny]
        rfl
      have headx : xs[0]? = some (headW xs) := by
        cases xs with
        | nil => exact absurd rfl nx
        | cons a b => rfl
      have heady : ys[0]? = some (headW ys) := by
        cases ys with
        | nil => exact absurd rfl ny
        | cons a b => rfl
      unfold part
      rw [decide_eq_true len, Bool.true_and, Bool.and_eq_true, Bool.and_eq_true, Bool.and_eq_true, Bool.and_eq_true, decide_eq_true_eq, decide_eq_true_eq]
      refine ⟨by rw [el, List.getLast?_append]; rfl, ?_, ?_, ?_, ?_⟩
      · rw [el]
        cases f with
        | nil => show 0 ≤ (xs.length : Int) - 1; omega
        | cons a b => exact Int.natCast_nonneg a
      · rw [incr_pair, el, List.pairwise_append]
        refine ⟨?_, List.pairwise_singleton _ _, fun a ha b hb => ?_⟩
        · rw [List.pairwise_map]
          exact F.inc.imp fun h => by omega
        · rw [List.mem_singleton.mp hb]
          obtain ⟨m, h1, rfl⟩ := List.mem_map.mp ha
          have := F.bd m h1
          omega
      · unfold firstsOk
        refine all_zip_at fun j b w hb hw => ?_
        rw [eqv_str, decide_eq_true_eq]
        cases j with
        | zero =>
          have e1 : b = 0 := (Option.some.inj (show some (0 : Int) = some b from hb)).symm
          subst e1
          show wordAt xs ((0 : Nat) : Int) = w
          rw [wordAt_some headx]
          rw [heady] at hw
          rw [← h0]
          exact Option.some.inj hw
        | succ j =>
          have hb : (((leastP ys xs n).dropLast).map (· + 1))[j]? = some b := by simpa [begsOf] using hb
          rw [el, List.dropLast_concat, List.map_map, List.getElem?_map] at hb
          cases e : f[j]? with
          | none => rw [e] at hb; cases hb
          | some m =>
            rw [e] at hb
            have e1 : b = ((m + 1 : Nat) : Int) := (Option.some.inj hb).symm
            obtain ⟨p, p1, p2⟩ := F.eq j m e
            obtain ⟨a1, b1, x1, x2, rfl⟩ := prs_of p1
            obtain ⟨a2, b2, y1, y2, y3⟩ := prs_of p2
            rw [e1, wordAt_some y2]
            rw [x2] at hw
            have := Option.some.inj hw
            rw [← this]
            injection y3 with z1 z2
            exact z2.symm
      · unfold lastsOk
        refine all_zip_at fun j b w hb hw => ?_
        rw [alk_eq, decide_eq_true_eq]
        rcases at1 j b hb with ⟨m, e, rfl⟩ | ⟨e, rfl⟩
        · obtain ⟨p, p1, p2⟩ := F.eq j m e
          obtain ⟨a1, b1, x1, x2, rfl⟩ := prs_of p1
          obtain ⟨a2, b2, y1, y2, y3⟩ := prs_of p2
          dsimp only
          rw [wordAt_some y1]
          rw [x1] at hw
          have := Option.some.inj hw
          rw [← this]
          injection y3 with z1 z2
          exact z1.symm
        · have e2 : j = ys.length - 1 := by omega
          rw [e2, lasty] at hw
          have hw := Option.some.inj hw
          dsimp only
          rw [← hw, show (xs.length : Int) - 1 = ((xs.length - 1 : Nat) : Int) by omega, wordAt_some lastx]
          exact ha.symm
    · cases h
  · cases h
end VL

set_option Elab.async false
set_option linter.all false
set_option maxRecDepth 100000
set_option maxHeartbeats 1000000
namespace VL
open PySem PySem.Spec PyProof.Rows L2
variable [Wd]
def odds : List PyData := [.none, .bool true, .bool false, .int 0, .int 1, .int (-1), .str "", .str "a", .str "A", .str "a b", .tuple [], .list [], .tuple [.str "a"], .list [.str "a"], .tuple [.str ""], .tuple [.str "A"], .tuple [.str "abcdefg"], .tuple [.tuple [.str "a"]], .tuple [.str "a", .int 1], .tuple [.str "a", .none], .tuple [.str "a", .str "b1"], .tuple [.str "abcdef"], .tuple [.bool true], .list [.tuple [.str "a"]]]
theorem odds_fat : ∀ d ∈ odds, Fat 1 2 100 d := by
  intro d hd
  have h : odds.all (fun d => lvs 1 d && (decide (d.depth ≤ 2) && decide (wt d ≤ 100))) = true := by decide +kernel
  have q := List.all_eq_true.mp h d hd
  rw [Bool.and_eq_true, Bool.and_eq_true, decide_eq_true_eq, decide_eq_true_eq] at q
  exact ⟨q.1, q.2.1, q.2.2⟩
theorem run__law_odd : Runs ms__law_odd Odd t__law_odd 1 := by
  rintro vs os R h1 h2 sh ⟨bx, rfl, hb, q⟩
  obtain ⟨v1, rfl⟩ := len1 h1
  unfold t__law_odd
  refine seq_cut (fun S' => S' = [Sl.io v1 bx, .ow (.lst [.none, .bool true, .bool false, .int 0, .int 1, .int (-1), .str "", .str "a", .str "A", .str "a b", .tuple [], .list [], .tuple [.str "a"], .list [.str "a"], .tuple [.str ""], .tuple [.str "A"]])]) ?_ ?_
  · intro K hK
    simp (config := { maxSteps := 2000000 }) only [vNext, vSeq, vBreak, vCont, vIfS, vRet, vRetN, vDrop, canSet_eq, sf_em, sf_ow, Option.elim_some, vAsg, vPar, gvName, gvNil, gvCons, gvTup, vAsgG, vFor, vWhile, vYes, vC, vVar, vMove, vSlot, vSh, vOp, vTest, vAnd, vOr, vNot, vAndV, vOrV, vNotV, vIf, vNilA, vConsA, getA, valsA, vTup, vLst, vNoPart, vPart, vSl, vUn, vCB, vChain, pIsi, pIsiT, ioIdx, resolve, pb, callB, vCall, vCallK, permute, pd1, pLen, pAbs, pInt1, pTuple, pList, pRepr, vSeqI, vRng1, vRng2, vZip, vEnum, vMth, vMeth, pmAppend, pmExtend, pmPop, vSetIx, vAug, vOrT, truD, pdAdd, pdSub, pdMul, pdFdiv, pdMod, pdPow, pdInt, pdEq, pdNe, bothStr, true_or, or_true, pdOrd, pdLt, pdGt, pdLe, pdGe, pdIs, isNn, pdIx, pdNeg, pdRev, Bo.get, Sl.con, Sl.put, O.dat, datL, datF, O.rd, noD, wipeS, slotsOf, endsP, outs0, outs1, outs2, ioNil, ioOne, List.length_cons, List.length_nil, List.replicate, List.cons_append, List.nil_append, List.set_cons_zero, List.set_cons_succ, List.getElem?_cons_zero, List.getElem?_cons_succ, List.getElem?_nil, List.getD_cons_zero, List.getD_cons_succ, List.filterMap_cons, List.filterMap_nil, Option.map_some, Option.bind_some, Option.map, Option.some.injEq, List.cons.injEq, O.sh.injEq, O.lst.injEq, O.dct.injEq, false_and, and_false, Sl.ow.injEq, Sl.io.injEq, PyData.int.injEq, PyData.bool.injEq, PyData.str.injEq, PyData.list.injEq, PyData.tuple.injEq, reduceCtorEq, exists_eq_left, exists_eq_left', exists_eq', exists_const, exists_and_left, exists_and_right, and_assoc, false_or, or_false, Int.toNat_natCast, Bool.false_eq_true, and_true, true_and, and_self, ne_eq, not_false_eq_true, not_true_eq_false, if_true, if_false, ↓reduceIte, Nat.reduceSub, Nat.reduceAdd, Nat.reduceEqDiff, at30, at31, at32, ix30, ix32, Nat.succ_ne_zero]
    exact ⟨lnum (by decide), lnum (by decide), lnum (by decide), lnum (by decide), lnum (by decide), lnum (by decide), lnum (by decide), hK _ rfl⟩
  rintro S1 rfl
  simp (config := { maxSteps := 2000000 }) only [vNext, vSeq, vBreak, vCont, vIfS, vRet, vRetN, vDrop, canSet_eq, sf_em, sf_ow, Option.elim_some, vAsg, vPar, gvName, gvNil, gvCons, gvTup, vAsgG, vFor, vWhile, vYes, vC, vVar, vMove, vSlot, vSh, vOp, vTest, vAnd, vOr, vNot, vAndV, vOrV, vNotV, vIf, vNilA, vConsA, getA, valsA, vTup, vLst, vNoPart, vPart, vSl, vUn, vCB, vChain, pIsi, pIsiT, ioIdx, resolve, pb, callB, vCall, vCallK, permute, pd1, pLen, pAbs, pInt1, pTuple, pList, pRepr, vSeqI, vRng1, vRng2, vZip, vEnum, vMth, vMeth, pmAppend, pmExtend, pmPop, vSetIx, vAug, vOrT, truD, pdAdd, pdSub, pdMul, pdFdiv, pdMod, pdPow, pdInt, pdEq, pdNe, bothStr, true_or, or_true, pdOrd, pdLt, pdGt, pdLe, pdGe, pdIs, isNn, pdIx, pdNeg, pdRev, Bo.get, Sl.con, Sl.put, O.dat, datL, datF, O.rd, noD, wipeS, slotsOf, endsP, outs0, outs1, outs2, ioNil, ioOne, List.length_cons, List.length_nil, List.replicate, List.cons_append, List.nil_append, List.set_cons_zero, List.set_cons_succ, List.getElem?_cons_zero, List.getElem?_cons_succ, List.getElem?_nil, List.getD_cons_zero, List.getD_cons_succ, List.filterMap_cons, List.filterMap_nil, Option.map_some, Option.bind_some, Option.map, Option.some.injEq, List.cons.injEq, O.sh.injEq, O.lst.injEq, O.dct.injEq, false_and, and_false, Sl.ow.injEq, Sl.io.injEq, PyData.int.injEq, PyData.bool.injEq, PyData.str.injEq, PyData.list.injEq, PyData.tuple.injEq, reduceCtorEq, exists_eq_left, exists_eq_left', exists_eq', exists_const, exists_and_left, exists_and_right, and_assoc, false_or, or_false, Int.toNat_natCast, Bool.false_eq_true, and_true, true_and, and_self, ne_eq, not_false_eq_true, not_true_eq_false, if_true, if_false, ↓reduceIte, Nat.reduceSub, Nat.reduceAdd, Nat.reduceEqDiff, at30, at31, at32, ix30, ix32, Nat.succ_ne_zero, spec__law_of, OneOf, itemsD]
  exact ⟨lnum (by decide), lnum (by decide), lnum (by decide), lnum (by decide), lnum (by decide), lnum (by decide), lnum (by decide), lnum (by decide), lnum (by decide), lnum (by decide), lnum (by decide), lnum (by decide), lnum (by decide), lnum (by decide), hb, by decide, fun x bx' hx hb' => q x bx' (odds_fat x hx) hb'⟩
theorem ix_some {α : Type} {l : List α} {c : Int} (h0 : 0 ≤ c) (h1 : c < l.length) : ∃ z, atI l c = some z ∧ z ∈ l := by
  have h : c.toNat < l.length := by omega
  exact ⟨l[c.toNat], by rw [ix_int h0 h1, List.getElem?_eq_getElem h], List.getElem_mem h⟩
theorem cutD_take (ds : List PyData) (k : Nat) : cutD ds none (some (k : Int)) = ds.take k := by
  have h := cutD_cutL id ds none (some (k : Int))
  rw [List.map_id, List.map_id, cutL_take] at h
  exact h
theorem cutD_drop (ds : List PyData) (k : Nat) : cutD ds (some (k : Int)) none = ds.drop k := by
  have h := cutD_cutL id ds (some (k : Int)) none
  rw [List.map_id, List.map_id, cutL_drop] at h
  exact h
theorem isi_str {d : PyData} (h : isiD "str" d = true) : ∃ x, d = .str x := by
  cases d with
  | str i => exact ⟨i, rfl⟩
  | _ => exact absurd (show false = true from h) Bool.false_ne_true
theorem fat_str_of {n a w : Nat} {x : Str} (h : Fat n a w (.str x)) : x.cps.all (· < 128) = true ∧ 10 * x.length + 2 ≤ w := ⟨h.lv, h.wt⟩
theorem int_bound {n a w : Nat} {i : Int} (h : Fat n a w (.int i)) : i.natAbs ≤ n := of_decide_eq_true h.lv
theorem bent_int {n a w k : Nat} {i : Int} (hm : Fat n a w (.int i)) (hn : n ≤ 2 ^ 38) : ∀ d ∈ [PyData.int (i + 1), .int (i - 1), .int (0 - i), .bool (decide (i = 1)), .str (toString i)], Fat (n + 1) (a + 2) ((k + 2) * w + 600) d := by
  have hi := int_bound hm
  have up : ∀ {e : PyData} {v : Nat}, Fat (n + 1) 0 v e → v ≤ 600 → Fat (n + 1) (a + 2) ((k + 2) * w + 600) e := fun h hv => h.mono (Nat.le_refl _) (Nat.zero_le _) (Nat.le_trans hv (Nat.le_add_left _ _))
  intro d hd
  simp only [List.mem_cons, List.not_mem_nil, or_false] at hd
  rcases hd with rfl | rfl | rfl | rfl | rfl
  · exact up (fat_int (by omega)) (by decide)
  · exact up (fat_int (by omega)) (by decide)
  · exact up (fat_int (by omega)) (by decide)
  · exact up fat_bool (by decide)
  · refine up (v := 10 * 20 + 2) (fat_str ?_ ?_) (by decide)
    · rw [← Array.all_toList, List.all_eq_true]
      intro c hc
      rw [Str.ofString_eq_toList] at hc
      obtain ⟨ch, h1, rfl⟩ := List.mem_map.mp hc
      exact decide_eq_true (int_ascii i ch h1)
    · rw [PySem.ofString_length]
      have := int_text_length_le10 (a := i) (k := 19) (by decide) (by omega)
      omega
theorem ascii_sub {x y : Str} (h : x.cps.all (· < 128) = true) (s : ∀ c ∈ y.cps.toList, c ∈ x.cps.toList) : y.cps.all (· < 128) = true := by
  rw [← Array.all_toList, List.all_eq_true] at h ⊢
  exact fun c hc => h c (s c hc)
theorem cutS_ascii {x : Str} {lo hi : Option Int} (h : x.cps.all (· < 128) = true) : (cutS x lo hi).cps.all (· < 128) = true ∧ (cutS x lo hi).length ≤ x.length := by
  refine ⟨ascii_sub h fun c hc => ?_, ?_⟩
  · unfold cutS at hc
    rw [List.toList_toArray] at hc
    exact List.mem_of_mem_drop (List.mem_of_mem_take hc)
  · show ((x.cps.toList.drop _).take _).toArray.size ≤ x.length
    rw [List.size_toArray, List.length_take, List.length_drop]
    have e : x.length = x.cps.toList.length := (Array.length_toList).symm
    omega
theorem app_ascii {x y : Str} (h : x.cps.all (· < 128) = true) (h' : y.cps.all (· < 128) = true) : (x ++ y).cps.all (· < 128) = true ∧ (x ++ y).length = x.length + y.length := by
  refine ⟨?_, strLen_append _ _⟩
  show (x.cps ++ y.cps).all (· < 128) = true
  rw [Array.all_append, h, h']
  rfl
theorem bent_str {n a w k : Nat} {x : Str} (hm : Fat n a w (.str x)) : ∀ d ∈ [PyData.str (x ++ "a"), .str (cutS x (some 1) none), .str (Txt.upper x), .str "a1", .tuple [.str x]], Fat (n + 1) (a + 2) ((k + 2) * w + 600) d := by
  obtain ⟨hx, hw⟩ := fat_str_of hm
  have mw : w ≤ (k + 2) * w := Nat.le_mul_of_pos_left _ (by omega)
  have up : ∀ {e : PyData} {v j : Nat}, Fat (n + 1) j v e → j ≤ 2 → v ≤ w + 600 → Fat (n + 1) (a + 2) ((k + 2) * w + 600) e := fun h hj hv => h.mono (Nat.le_refl _) (by omega) (by omega)
  have a1 : ("a" : Str).cps.all (· < 128) = true ∧ ("a" : Str).length = 1 := by decide +kernel
  have a2 : ("a1" : Str).cps.all (· < 128) = true ∧ ("a1" : Str).length = 2 := by decide +kernel
  intro d hd
  simp only [List.mem_cons, List.not_mem_nil, or_false] at hd
  rcases hd with rfl | rfl | rfl | rfl | rfl
  · obtain ⟨p, l⟩ := app_ascii hx a1.1
    exact up (fat_str p (Nat.le_refl _)) (by decide) (by rw [l, a1.2]; omega)
  · obtain ⟨p, l⟩ := cutS_ascii (lo := some 1) (hi := none) hx
    exact up (fat_str p l) (by decide) (by omega)
  · exact up (fat_str (upper_ascii hx) (Nat.le_of_eq (upper_len hx))) (by decide) (by omega)
  · exact up (fat_str a2.1 (Nat.le_of_eq a2.2)) (by decide) (by omega)
  · exact up (FatL.cons (fat_str hx (Nat.le_refl _)) FatL.nil).tup (by decide) (v := 10 * x.length + 2 + 2 + 0 + 3) (by omega)
theorem run__law_bent (j : Nat) : Runs ms__law_bent (Bent (j + 1)) (t__law_bent (Bent j)) 3 := by
  rintro vs os R h1 h2 sh ⟨bx, m, n, a, w, k, rfl, hb, hk, hm, hn, hw, q⟩
  obtain ⟨v1, v2, v3, rfl⟩ := len3 h1
  unfold t__law_bent
  have ndm := lvs_nd hm.lv
  unfold noD at ndm
  refine seq_cut (fun S' => ∃ b c, S' = [Sl.io v1 b, .ow (.sh m), .ow (.sh (.int (k : Nat))), .ow (.sh (.int c)), .em, .em] ∧ isBox b ∧ 0 ≤ c ∧ c < 9) ?_ ?_
  · intro K hK
    simp (config := { maxSteps := 2000000 }) only [vNext, vSeq, vBreak, vCont, vIfS, vRet, vRetN, vDrop, canSet_eq, sf_em, sf_ow, Option.elim_some, vAsg, vPar, gvName, gvNil, gvCons, gvTup, vAsgG, vFor, vWhile, vYes, vC, vVar, vMove, vSlot, vSh, vOp, vTest, vAnd, vOr, vNot, vAndV, vOrV, vNotV, vIf, vNilA, vConsA, getA, valsA, vTup, vLst, vNoPart, vPart, vSl, vUn, vCB, vChain, pIsi, pIsiT, ioIdx, resolve, pb, callB, vCall, vCallK, permute, pd1, pLen, pAbs, pInt1, pTuple, pList, pRepr, vSeqI, vRng1, vRng2, vZip, vEnum, vMth, vMeth, pmAppend, pmExtend, pmPop, vSetIx, vAug, vOrT, truD, pdAdd, pdSub, pdMul, pdFdiv, pdMod, pdPow, pdInt, pdEq, pdNe, bothStr, true_or, or_true, pdOrd, pdLt, pdGt, pdLe, pdGe, pdIs, isNn, pdIx, pdNeg, pdRev, Bo.get, Sl.con, Sl.put, O.dat, datL, datF, O.rd, noD, wipeS, slotsOf, endsP, outs0, outs1, outs2, ioNil, ioOne, List.length_cons, List.length_nil, List.replicate, List.cons_append, List.nil_append, List.set_cons_zero, List.set_cons_succ, List.getElem?_cons_zero, List.getElem?_cons_succ, List.getElem?_nil, List.getD_cons_zero, List.getD_cons_succ, List.filterMap_cons, List.filterMap_nil, Option.map_some, Option.bind_some, Option.map, Option.some.injEq, List.cons.injEq, O.sh.injEq, O.lst.injEq, O.dct.injEq, false_and, and_false, Sl.ow.injEq, Sl.io.injEq, PyData.int.injEq, PyData.bool.injEq, PyData.str.injEq, PyData.list.injEq, PyData.tuple.injEq, reduceCtorEq, exists_eq_left, exists_eq_left', exists_eq', exists_const, exists_and_left, exists_and_right, and_assoc, false_or, or_false, Int.toNat_natCast, Bool.false_eq_true, and_true, true_and, and_self, ne_eq, not_false_eq_true, not_true_eq_false, if_true, if_false, ↓reduceIte, Nat.reduceSub, Nat.reduceAdd, Nat.reduceEqDiff, at30, at31, at32, ix30, ix32, Nat.succ_ne_zero, spec__law_take, Take]
    exact ⟨hb, by decide, by decide, fun c b c0 c1 hb1 => hK _ ⟨b, c, rfl, hb1, c0, c1⟩⟩
  rintro S1 ⟨b, c, rfl, hb1, c0, c1⟩
  refine seq_cut (fun S' => S' = [Sl.io v1 b, .ow (.sh m), .ow (.sh (.int (k : Nat))), .ow (.sh (.int c)), .em, .em]) ?_ ?_
  · intro K hK
    cases hi : isNum m
    · simp (config := { maxSteps := 2000000 }) only [vNext, vSeq, vBreak, vCont, vIfS, vRet, vRetN, vDrop, canSet_eq, sf_em, sf_ow, Option.elim_some, vAsg, vPar, gvName, gvNil, gvCons, gvTup, vAsgG, vFor, vWhile, vYes, vC, vVar, vMove, vSlot, vSh, vOp, vTest, vAnd, vOr, vNot, vAndV, vOrV, vNotV, vIf, vNilA, vConsA, getA, valsA, vTup, vLst, vNoPart, vPart, vSl, vUn, vCB, vChain, pIsi, pIsiT, ioIdx, resolve, pb, callB, vCall, vCallK, permute, pd1, pLen, pAbs, pInt1, pTuple, pList, pRepr, vSeqI, vRng1, vRng2, vZip, vEnum, vMth, vMeth, pmAppend, pmExtend, pmPop, vSetIx, vAug, vOrT, truD, pdAdd, pdSub, pdMul, pdFdiv, pdMod, pdPow, pdInt, pdEq, pdNe, bothStr, true_or, or_true, pdOrd, pdLt, pdGt, pdLe, pdGe, pdIs, isNn, pdIx, pdNeg, pdRev, Bo.get, Sl.con, Sl.put, O.dat, datL, datF, O.rd, noD, wipeS, slotsOf, endsP, outs0, outs1, outs2, ioNil, ioOne, List.length_cons, List.length_nil, List.replicate, List.cons_append, List.nil_append, List.set_cons_zero, List.set_cons_succ, List.getElem?_cons_zero, List.getElem?_cons_succ, List.getElem?_nil, List.getD_cons_zero, List.getD_cons_succ, List.filterMap_cons, List.filterMap_nil, Option.map_some, Option.bind_some, Option.map, Option.some.injEq, List.cons.injEq, O.sh.injEq, O.lst.injEq, O.dct.injEq, false_and, and_false, Sl.ow.injEq, Sl.io.injEq, PyData.int.injEq, PyData.bool.injEq, PyData.str.injEq, PyData.list.injEq, PyData.tuple.injEq, reduceCtorEq, exists_eq_left, exists_eq_left', exists_eq', exists_const, exists_and_left, exists_and_right, and_assoc, false_or, or_false, Int.toNat_natCast, Bool.false_eq_true, and_true, true_and, and_self, ne_eq, not_false_eq_true, not_true_eq_false, if_true, if_false, ↓reduceIte, Nat.reduceSub, Nat.reduceAdd, Nat.reduceEqDiff, at30, at31, at32, ix30, ix32, Nat.succ_ne_zero, ndm]
      unfold isNum at hi
      cases e1 : isiD "int" m
      · rw [if_neg Bool.false_ne_true]
        exact hK _ rfl
      · rw [e1, Bool.true_and] at hi
        rw [if_pos rfl, hi, if_neg Bool.false_ne_true]
        exact hK _ rfl
    · obtain ⟨i, rfl⟩ := isNum_int hi
      have fin := bent_int (k := k) hm hn
      have ib := int_bound hm
      simp (config := { maxSteps := 2000000 }) only [vNext, vSeq, vBreak, vCont, vIfS, vRet, vRetN, vDrop, canSet_eq, sf_em, sf_ow, Option.elim_some, vAsg, vPar, gvName, gvNil, gvCons, gvTup, vAsgG, vFor, vWhile, vYes, vC, vVar, vMove, vSlot, vSh, vOp, vTest, vAnd, vOr, vNot, vAndV, vOrV, vNotV, vIf, vNilA, vConsA, getA, valsA, vTup, vLst, vNoPart, vPart, vSl, vUn, vCB, vChain, pIsi, pIsiT, ioIdx, resolve, pb, callB, vCall, vCallK, permute, pd1, pLen, pAbs, pInt1, pTuple, pList, pRepr, vSeqI, vRng1, vRng2, vZip, vEnum, vMth, vMeth, pmAppend, pmExtend, pmPop, vSetIx, vAug, vOrT, truD, pdAdd, pdSub, pdMul, pdFdiv, pdMod, pdPow, pdInt, pdEq, pdNe, bothStr, true_or, or_true, pdOrd, pdLt, pdGt, pdLe, pdGe, pdIs, isNn, pdIx, pdNeg, pdRev, Bo.get, Sl.con, Sl.put, O.dat, datL, datF, O.rd, noD, wipeS, slotsOf, endsP, outs0, outs1, outs2, ioNil, ioOne, List.length_cons, List.length_nil, List.replicate, List.cons_append, List.nil_append, List.set_cons_zero, List.set_cons_succ, List.getElem?_cons_zero, List.getElem?_cons_succ, List.getElem?_nil, List.getD_cons_zero, List.getD_cons_succ, List.filterMap_cons, List.filterMap_nil, Option.map_some, Option.bind_some, Option.map, Option.some.injEq, List.cons.injEq, O.sh.injEq, O.lst.injEq, O.dct.injEq, false_and, and_false, Sl.ow.injEq, Sl.io.injEq, PyData.int.injEq, PyData.bool.injEq, PyData.str.injEq, PyData.list.injEq, PyData.tuple.injEq, reduceCtorEq, exists_eq_left, exists_eq_left', exists_eq', exists_const, exists_and_left, exists_and_right, and_assoc, false_or, or_false, Int.toNat_natCast, Bool.false_eq_true, and_true, true_and, and_self, ne_eq, not_false_eq_true, not_true_eq_false, if_true, if_false, ↓reduceIte, Nat.reduceSub, Nat.reduceAdd, Nat.reduceEqDiff, at30, at31, at32, ix30, ix32, Nat.succ_ne_zero, show isiD "int" (.int i) = true from rfl, show isiD "bool" (.int i) = false from rfl, Bool.not_false, pStr]
      by_cases h : c < 5
      · rw [if_pos (decide_eq_true h)]
        rw [eqv_int]
        refine ⟨rfl, rfl, of_decide_eq_true (nice_small (i := i) (by omega)).sh, lnum (by decide), ?_⟩
        obtain ⟨z, hz1, hz2⟩ := ix_some (l := [PyData.int (i + 1), .int (i - 1), .int (0 - i), .bool (decide (i = 1)), .str (toString i)]) c0 (show c < 5 from h)
        exact ⟨z, hz1, q z b (fin z hz2) hb1⟩
      · rw [if_neg (by rw [decide_eq_false h]; exact Bool.false_ne_true)]
        exact hK _ rfl
  rintro S2 rfl
  refine seq_cut (fun S' => S' = [Sl.io v1 b, .ow (.sh m), .ow (.sh (.int (k : Nat))), .ow (.sh (.int c)), .em, .em]) ?_ ?_
  · intro K hK
    cases hi : isiD "str" m
    · simp (config := { maxSteps := 2000000 }) only [vNext, vSeq, vBreak, vCont, vIfS, vRet, vRetN, vDrop, canSet_eq, sf_em, sf_ow, Option.elim_some, vAsg, vPar, gvName, gvNil, gvCons, gvTup, vAsgG, vFor, vWhile, vYes, vC, vVar, vMove, vSlot, vSh, vOp, vTest, vAnd, vOr, vNot, vAndV, vOrV, vNotV, vIf, vNilA, vConsA, getA, valsA, vTup, vLst, vNoPart, vPart, vSl, vUn, vCB, vChain, pIsi, pIsiT, ioIdx, resolve, pb, callB, vCall, vCallK, permute, pd1, pLen, pAbs, pInt1, pTuple, pList, pRepr, vSeqI, vRng1, vRng2, vZip, vEnum, vMth, vMeth, pmAppend, pmExtend, pmPop, vSetIx, vAug, vOrT, truD, pdAdd, pdSub, pdMul, pdFdiv, pdMod, pdPow, pdInt, pdEq, pdNe, bothStr, true_or, or_true, pdOrd, pdLt, pdGt, pdLe, pdGe, pdIs, isNn, pdIx, pdNeg, pdRev, Bo.get, Sl.con, Sl.put, O.dat, datL, datF, O.rd, noD, wipeS, slotsOf, endsP, outs0, outs1, outs2, ioNil, ioOne, List.length_cons, List.length_nil, List.replicate, List.cons_append, List.nil_append, List.set_cons_zero, List.set_cons_succ, List.getElem?_cons_zero, List.getElem?_cons_succ, List.getElem?_nil, List.getD_cons_zero, List.getD_cons_succ, List.filterMap_cons, List.filterMap_nil, Option.map_some, Option.bind_some, Option.map, Option.some.injEq, List.cons.injEq, O.sh.injEq, O.lst.injEq, O.dct.injEq, false_and, and_false, Sl.ow.injEq, Sl.io.injEq, PyData.int.injEq, PyData.bool.injEq, PyData.str.injEq, PyData.list.injEq, PyData.tuple.injEq, reduceCtorEq, exists_eq_left, exists_eq_left', exists_eq', exists_const, exists_and_left, exists_and_right, and_assoc, false_or, or_false, Int.toNat_natCast, Bool.false_eq_true, and_true, true_and, and_self, ne_eq, not_false_eq_true, not_true_eq_false, if_true, if_false, ↓reduceIte, Nat.reduceSub, Nat.reduceAdd, Nat.reduceEqDiff, at30, at31, at32, ix30, ix32, Nat.succ_ne_zero, hi, ndm]
      exact hK _ rfl
    · obtain ⟨x, rfl⟩ := isi_str hi
      have fin := bent_str (k := k) hm
      have ib := fat_str_of hm
      simp (config := { maxSteps := 2000000 }) only [vNext, vSeq, vBreak, vCont, vIfS, vRet, vRetN, vDrop, canSet_eq, sf_em, sf_ow, Option.elim_some, vAsg, vPar, gvName, gvNil, gvCons, gvTup, vAsgG, vFor, vWhile, vYes, vC, vVar, vMove, vSlot, vSh, vOp, vTest, vAnd, vOr, vNot, vAndV, vOrV, vNotV, vIf, vNilA, vConsA, getA, valsA, vTup, vLst, vNoPart, vPart, vSl, vUn, vCB, vChain, pIsi, pIsiT, ioIdx, resolve, pb, callB, vCall, vCallK, permute, pd1, pLen, pAbs, pInt1, pTuple, pList, pRepr, vSeqI, vRng1, vRng2, vZip, vEnum, vMth, vMeth, pmAppend, pmExtend, pmPop, vSetIx, vAug, vOrT, truD, pdAdd, pdSub, pdMul, pdFdiv, pdMod, pdPow, pdInt, pdEq, pdNe, bothStr, true_or, or_true, pdOrd, pdLt, pdGt, pdLe, pdGe, pdIs, isNn, pdIx, pdNeg, pdRev, Bo.get, Sl.con, Sl.put, O.dat, datL, datF, O.rd, noD, wipeS, slotsOf, endsP, outs0, outs1, outs2, ioNil, ioOne, List.length_cons, List.length_nil, List.replicate, List.cons_append, List.nil_append, List.set_cons_zero, List.set_cons_succ, List.getElem?_cons_zero, List.getElem?_cons_succ, List.getElem?_nil, List.getD_cons_zero, List.getD_cons_succ, List.filterMap_cons, List.filterMap_nil, Option.map_some, Option.bind_some, Option.map, Option.some.injEq, List.cons.injEq, O.sh.injEq, O.lst.injEq, O.dct.injEq, false_and, and_false, Sl.ow.injEq, Sl.io.injEq, PyData.int.injEq, PyData.bool.injEq, PyData.str.injEq, PyData.list.injEq, PyData.tuple.injEq, reduceCtorEq, exists_eq_left, exists_eq_left', exists_eq', exists_const, exists_and_left, exists_and_right, and_assoc, false_or, or_false, Int.toNat_natCast, Bool.false_eq_true, and_true, true_and, and_self, ne_eq, not_false_eq_true, not_true_eq_false, if_true, if_false, ↓reduceIte, Nat.reduceSub, Nat.reduceAdd, Nat.reduceEqDiff, at30, at31, at32, ix30, ix32, Nat.succ_ne_zero, hi, pUpper, pdSl]
      by_cases h : c < 5
      · rw [if_pos (decide_eq_true h)]
        have a1 : ("a" : Str).length = 1 := by decide +kernel
        refine ⟨lnum (by rw [a1]; omega), lnum (by omega), by omega, lnum (by decide), lnum (by decide), ?_⟩
        obtain ⟨z, hz1, hz2⟩ := ix_some (l := [PyData.str (x ++ "a"), .str (cutS x (some 1) none), .str (Txt.upper x), .str "a1", .tuple [.str x]]) c0 (show c < 5 from h)
        exact ⟨z, hz1, q z b (fin z hz2) hb1⟩
      · rw [if_neg (by rw [decide_eq_false h]; exact Bool.false_ne_true)]
        exact hK _ rfl
  rintro S2 rfl
  refine seq_cut (fun S' => S' = [Sl.io v1 b, .ow (.sh m), .ow (.sh (.int (k : Nat))), .ow (.sh (.int c)), .em, .em] ∧ ∃ ds, itemsD m = some ds ∧ ds ≠ [] ∧ k ≠ 0) ?_ ?_
  · intro K hK
    simp (config := { maxSteps := 2000000 }) only [vNext, vSeq, vBreak, vCont, vIfS, vRet, vRetN, vDrop, canSet_eq, sf_em, sf_ow, Option.elim_some, vAsg, vPar, gvName, gvNil, gvCons, gvTup, vAsgG, vFor, vWhile, vYes, vC, vVar, vMove, vSlot, vSh, vOp, vTest, vAnd, vOr, vNot, vAndV, vOrV, vNotV, vIf, vNilA, vConsA, getA, valsA, vTup, vLst, vNoPart, vPart, vSl, vUn, vCB, vChain, pIsi, pIsiT, ioIdx, resolve, pb, callB, vCall, vCallK, permute, pd1, pLen, pAbs, pInt1, pTuple, pList, pRepr, vSeqI, vRng1, vRng2, vZip, vEnum, vMth, vMeth, pmAppend, pmExtend, pmPop, vSetIx, vAug, vOrT, truD, pdAdd, pdSub, pdMul, pdFdiv, pdMod, pdPow, pdInt, pdEq, pdNe, bothStr, true_or, or_true, pdOrd, pdLt, pdGt, pdLe, pdGe, pdIs, isNn, pdIx, pdNeg, pdRev, Bo.get, Sl.con, Sl.put, O.dat, datL, datF, O.rd, noD, wipeS, slotsOf, endsP, outs0, outs1, outs2, ioNil, ioOne, List.length_cons, List.length_nil, List.replicate, List.cons_append, List.nil_append, List.set_cons_zero, List.set_cons_succ, List.getElem?_cons_zero, List.getElem?_cons_succ, List.getElem?_nil, List.getD_cons_zero, List.getD_cons_succ, List.filterMap_cons, List.filterMap_nil, Option.map_some, Option.bind_some, Option.map, Option.some.injEq, List.cons.injEq, O.sh.injEq, O.lst.injEq, O.dct.injEq, false_and, and_false, Sl.ow.injEq, Sl.io.injEq, PyData.int.injEq, PyData.bool.injEq, PyData.str.injEq, PyData.list.injEq, PyData.tuple.injEq, reduceCtorEq, exists_eq_left, exists_eq_left', exists_eq', exists_const, exists_and_left, exists_and_right, and_assoc, false_or, or_false, Int.toNat_natCast, Bool.false_eq_true, and_true, true_and, and_self, ne_eq, not_false_eq_true, not_true_eq_false, if_true, if_false, ↓reduceIte, Nat.reduceSub, Nat.reduceAdd, Nat.reduceEqDiff, at30, at31, at32, ix30, ix32, Nat.succ_ne_zero, spec__law_odd, Odd, ndm]
    have oq : ∀ (d : PyData) (bx' : O), Fat 1 2 100 d → isBox bx' → R (O.sh d) [bx', O.sh m, O.sh (PyData.int k)] := fun d bx' hd hb' => q d bx' (hd.mono (Nat.le_add_left _ _) (Nat.le_add_left _ _) (Nat.le_trans (by decide) (Nat.le_add_left _ _))) hb'
    have go : ∀ ds, itemsD m = some ds → SeqAt.shaped (PyData.int ↑ds.length) = true ∧ SeqAt.shaped (PyData.int 0) = true ∧
        if (PyData.int ↑ds.length).eqv (PyData.int 0) = true then isBox b ∧ ∀ (d : PyData) (bx' : O), Fat 1 2 100 d → isBox bx' → R (O.sh d) [bx', O.sh m, O.sh (PyData.int k)]
        else SeqAt.shaped (PyData.int c) = true ∧ SeqAt.shaped (PyData.int 0) = true ∧
          if (PyData.int c).eqv (PyData.int 0) = true then isBox b ∧ ∀ (d : PyData) (bx' : O), Fat 1 2 100 d → isBox bx' → R (O.sh d) [bx', O.sh m, O.sh (PyData.int k)]
          else SeqAt.shaped (PyData.int k) = true ∧ SeqAt.shaped (PyData.int 0) = true ∧
            if (PyData.int k).eqv (PyData.int 0) = true then isBox b ∧ ∀ (d : PyData) (bx' : O), Fat 1 2 100 d → isBox bx' → R (O.sh d) [bx', O.sh m, O.sh (PyData.int k)]
            else K [Sl.io v1 b, .ow (.sh m), .ow (.sh (.int (k : Nat))), .ow (.sh (.int c)), .em, .em] := by
      intro ds hd
      rw [eqv_int, eqv_int, eqv_int]
      refine ⟨rfl, rfl, ?_⟩
      by_cases g1 : (ds.length : Int) = 0
      · rw [if_pos (decide_eq_true g1)]
        exact ⟨hb1, oq⟩
      rw [if_neg (by rw [decide_eq_false g1]; exact Bool.false_ne_true)]
      refine ⟨rfl, rfl, ?_⟩
      by_cases g2 : c = 0
      · rw [if_pos (decide_eq_true g2)]
        exact ⟨hb1, oq⟩
      rw [if_neg (by rw [decide_eq_false g2]; exact Bool.false_ne_true)]
      refine ⟨rfl, rfl, ?_⟩
      by_cases g3 : (k : Int) = 0
      · rw [if_pos (decide_eq_true g3)]
        exact ⟨hb1, oq⟩
      rw [if_neg (by rw [decide_eq_false g3]; exact Bool.false_ne_true)]
      exact hK _ ⟨rfl, ds, hd, fun z => g1 (by rw [z]; rfl), by omega⟩
    cases m with
    | list ds =>
      rw [if_neg (show ¬ (!isiAny ["list", "tuple"] (.list ds)) = true from Bool.false_ne_true)]
      exact go ds rfl
    | tuple ds =>
      rw [if_neg (show ¬ (!isiAny ["list", "tuple"] (.tuple ds)) = true from Bool.false_ne_true)]
      exact go ds rfl
    | dict kvs => exact absurd hm.lv Bool.false_ne_true
    | none => exact ⟨hb1, oq⟩
    | bool _ => exact ⟨hb1, oq⟩
    | int _ => exact ⟨hb1, oq⟩
    | str _ => exact ⟨hb1, oq⟩
  rintro S3 ⟨rfl, ds, hd, nd, k0⟩
  obtain ⟨a, u, rfl, hu, fl⟩ := hm.items hd
  have ll := fl.len
  have pl := len_pos nd
  refine seq_cut (fun S' => ∃ b, ∃ s : Nat, S' = [Sl.io v1 b, .ow (.sh m), .ow (.sh (.int (k : Nat))), .ow (.sh (.int c)), .ow (.lst ds), .ow (.sh (.int (s : Nat)))] ∧ isBox b ∧ s < ds.length) ?_ ?_
  · intro K hK
    rcases items_cases hd with rfl | rfl
    all_goals
      simp (config := { maxSteps := 2000000 }) only [vNext, vSeq, vBreak, vCont, vIfS, vRet, vRetN, vDrop, canSet_eq, sf_em, sf_ow, Option.elim_some, vAsg, vPar, gvName, gvNil, gvCons, gvTup, vAsgG, vFor, vWhile, vYes, vC, vVar, vMove, vSlot, vSh, vOp, vTest, vAnd, vOr, vNot, vAndV, vOrV, vNotV, vIf, vNilA, vConsA, getA, valsA, vTup, vLst, vNoPart, vPart, vSl, vUn, vCB, vChain, pIsi, pIsiT, ioIdx, resolve, pb, callB, vCall, vCallK, permute, pd1, pLen, pAbs, pInt1, pTuple, pList, pRepr, vSeqI, vRng1, vRng2, vZip, vEnum, vMth, vMeth, pmAppend, pmExtend, pmPop, vSetIx, vAug, vOrT, truD, pdAdd, pdSub, pdMul, pdFdiv, pdMod, pdPow, pdInt, pdEq, pdNe, bothStr, true_or, or_true, pdOrd, pdLt, pdGt, pdLe, pdGe, pdIs, isNn, pdIx, pdNeg, pdRev, Bo.get, Sl.con, Sl.put, O.dat, datL, datF, O.rd, noD, wipeS, slotsOf, endsP, outs0, outs1, outs2, ioNil, ioOne, List.length_cons, List.length_nil, List.replicate, List.cons_append, List.nil_append, List.set_cons_zero, List.set_cons_succ, List.getElem?_cons_zero, List.getElem?_cons_succ, List.getElem?_nil, List.getD_cons_zero, List.getD_cons_succ, List.filterMap_cons, List.filterMap_nil, Option.map_some, Option.bind_some, Option.map, Option.some.injEq, List.cons.injEq, O.sh.injEq, O.lst.injEq, O.dct.injEq, false_and, and_false, Sl.ow.injEq, Sl.io.injEq, PyData.int.injEq, PyData.bool.injEq, PyData.str.injEq, PyData.list.injEq, PyData.tuple.injEq, reduceCtorEq, exists_eq_left, exists_eq_left', exists_eq', exists_const, exists_and_left, exists_and_right, and_assoc, false_or, or_false, Int.toNat_natCast, Bool.false_eq_true, and_true, true_and, and_self, ne_eq, not_false_eq_true, not_true_eq_false, if_true, if_false, ↓reduceIte, Nat.reduceSub, Nat.reduceAdd, Nat.reduceEqDiff, at30, at31, at32, ix30, ix32, Nat.succ_ne_zero, spec__law_take, Take]
      refine ⟨hb1, by omega, by omega, fun s b' s0 s1 hb' => hK _ ⟨b', s.toNat, ?_, hb', by omega⟩⟩
      rw [Int.toNat_of_nonneg s0]
  clear hb1
  rintro S4 ⟨b, s, rfl, hb1, hs⟩
  have out : ∀ {e n' a' w'}, Fat n' a' w' e → n' ≤ n + 1 → a' ≤ a + 3 → w' ≤ (k + 2) * w + 600 → ∀ b', isBox b' → R (.sh e) [b', .sh m, .sh (.int (k : Nat))] := fun h h1 h2 h3 b' hb' => q _ b' (h.mono h1 h2 h3) hb'
  have mw : 2 * w ≤ (k + 2) * w := Nat.mul_le_mul_right _ (by omega)
  refine seq_cut (fun S' => S' = [Sl.io v1 b, .ow (.sh m), .ow (.sh (.int (k : Nat))), .ow (.sh (.int c)), .ow (.lst ds), .ow (.sh (.int (s : Nat)))]) ?_ ?_
  · intro K hK
    simp (config := { maxSteps := 2000000 }) only [vNext, vSeq, vBreak, vCont, vIfS, vRet, vRetN, vDrop, canSet_eq, sf_em, sf_ow, Option.elim_some, vAsg, vPar, gvName, gvNil, gvCons, gvTup, vAsgG, vFor, vWhile, vYes, vC, vVar, vMove, vSlot, vSh, vOp, vTest, vAnd, vOr, vNot, vAndV, vOrV, vNotV, vIf, vNilA, vConsA, getA, valsA, vTup, vLst, vNoPart, vPart, vSl, vUn, vCB, vChain, pIsi, pIsiT, ioIdx, resolve, pb, callB, vCall, vCallK, permute, pd1, pLen, pAbs, pInt1, pTuple, pList, pRepr, vSeqI, vRng1, vRng2, vZip, vEnum, vMth, vMeth, pmAppend, pmExtend, pmPop, vSetIx, vAug, vOrT, truD, pdAdd, pdSub, pdMul, pdFdiv, pdMod, pdPow, pdInt, pdEq, pdNe, bothStr, true_or, or_true, pdOrd, pdLt, pdGt, pdLe, pdGe, pdIs, isNn, pdIx, pdNeg, pdRev, Bo.get, Sl.con, Sl.put, O.dat, datL, datF, O.rd, noD, wipeS, slotsOf, endsP, outs0, outs1, outs2, ioNil, ioOne, List.length_cons, List.length_nil, List.replicate, List.cons_append, List.nil_append, List.set_cons_zero, List.set_cons_succ, List.getElem?_cons_zero, List.getElem?_cons_succ, List.getElem?_nil, List.getD_cons_zero, List.getD_cons_succ, List.filterMap_cons, List.filterMap_nil, Option.map_some, Option.bind_some, Option.map, Option.some.injEq, List.cons.injEq, O.sh.injEq, O.lst.injEq, O.dct.injEq, false_and, and_false, Sl.ow.injEq, Sl.io.injEq, PyData.int.injEq, PyData.bool.injEq, PyData.str.injEq, PyData.list.injEq, PyData.tuple.injEq, reduceCtorEq, exists_eq_left, exists_eq_left', exists_eq', exists_const, exists_and_left, exists_and_right, and_assoc, false_or, or_false, Int.toNat_natCast, Bool.false_eq_true, and_true, true_and, and_self, ne_eq, not_false_eq_true, not_true_eq_false, if_true, if_false, ↓reduceIte, Nat.reduceSub, Nat.reduceAdd, Nat.reduceEqDiff, at30, at31, at32, ix30, ix32, Nat.succ_ne_zero, shaped_int, eqv_int, ndm]
    by_cases h : c = 1
    · rw [if_pos (decide_eq_true h)]
      rcases items_cases hd with rfl | rfl
      · rw [if_pos (show isiD "list" (.list ds) = true from rfl)]
        exact out fl.tup (by omega) (by omega) (by omega) b hb1
      · rw [if_neg (show ¬ isiD "list" (.tuple ds) = true from Bool.false_ne_true)]
        exact out fl.list (by omega) (by omega) (by omega) b hb1
    · rw [if_neg (by rw [decide_eq_false h]; exact Bool.false_ne_true)]
      exact hK _ rfl
  rintro S5 rfl
  have e1 : ((s : Nat) : Int) + 1 = ((s + 1 : Nat) : Int) := rfl
  refine seq_cut (fun S' => ∃ b' es, S' = [Sl.io v1 b', .ow (.sh m), .ow (.sh (.int (k : Nat))), .ow (.sh (.int c)), .ow (.lst es), .ow (.sh (.int (s : Nat)))] ∧ isBox b' ∧ FatL (n + 1) (a + 2) ((k + 2) * w + 597) es) ?_ ?_
  · intro K hK
    have keep : ∀ {es w'}, FatL n a w' es → w' ≤ 2 * w → FatL (n + 1) (a + 2) ((k + 2) * w + 597) es := fun h hw => h.mono (Nat.le_succ _) (Nat.le_add_right _ _) (by omega)
    have al : ∀ i : Nat, (ds.take i).length + (ds.drop i).length ≤ sizeLine := fun i => lnum (by rw [List.length_take, List.length_drop]; omega)
    have lt : ∀ i : Nat, (ds.take i).length ≤ ds.length := fun i => by rw [List.length_take]; omega
    have ld : ∀ i : Nat, (ds.drop i).length ≤ ds.length := fun i => by rw [List.length_drop]; omega
    simp (config := { maxSteps := 2000000 }) only [vNext, vSeq, vBreak, vCont, vIfS, vRet, vRetN, vDrop, canSet_eq, sf_em, sf_ow, Option.elim_some, vAsg, vPar, gvName, gvNil, gvCons, gvTup, vAsgG, vFor, vWhile, vYes, vC, vVar, vMove, vSlot, vSh, vOp, vTest, vAnd, vOr, vNot, vAndV, vOrV, vNotV, vIf, vNilA, vConsA, getA, valsA, vTup, vLst, vNoPart, vPart, vSl, vUn, vCB, vChain, pIsi, pIsiT, ioIdx, resolve, pb, callB, vCall, vCallK, permute, pd1, pLen, pAbs, pInt1, pTuple, pList, pRepr, vSeqI, vRng1, vRng2, vZip, vEnum, vMth, vMeth, pmAppend, pmExtend, pmPop, vSetIx, vAug, vOrT, truD, pdAdd, pdSub, pdMul, pdFdiv, pdMod, pdPow, pdInt, pdEq, pdNe, bothStr, true_or, or_true, pdOrd, pdLt, pdGt, pdLe, pdGe, pdIs, isNn, pdIx, pdNeg, pdRev, Bo.get, Sl.con, Sl.put, O.dat, datL, datF, O.rd, noD, wipeS, slotsOf, endsP, outs0, outs1, outs2, ioNil, ioOne, List.length_cons, List.length_nil, List.replicate, List.cons_append, List.nil_append, List.set_cons_zero, List.set_cons_succ, List.getElem?_cons_zero, List.getElem?_cons_succ, List.getElem?_nil, List.getD_cons_zero, List.getD_cons_succ, List.filterMap_cons, List.filterMap_nil, Option.map_some, Option.bind_some, Option.map, Option.some.injEq, List.cons.injEq, O.sh.injEq, O.lst.injEq, O.dct.injEq, false_and, and_false, Sl.ow.injEq, Sl.io.injEq, PyData.int.injEq, PyData.bool.injEq, PyData.str.injEq, PyData.list.injEq, PyData.tuple.injEq, reduceCtorEq, exists_eq_left, exists_eq_left', exists_eq', exists_const, exists_and_left, exists_and_right, and_assoc, false_or, or_false, Int.toNat_natCast, Bool.false_eq_true, and_true, true_and, and_self, ne_eq, not_false_eq_true, not_true_eq_false, if_true, if_false, ↓reduceIte, Nat.reduceSub, Nat.reduceAdd, Nat.reduceEqDiff, at30, at31, at32, ix30, ix32, Nat.succ_ne_zero, shaped_int, eqv_int, pdSl, e1, cutD_take, cutD_drop]
    by_cases g2 : c = 2
    · rw [if_pos (decide_eq_true g2)]
      exact ⟨lnum (by have := lt s; have := ld (s + 1); omega), hK _ ⟨b, _, rfl, hb1, keep ((fl.take s).app (fl.drop (s + 1))) (by omega)⟩⟩
    rw [if_neg (by rw [decide_eq_false g2]; exact Bool.false_ne_true)]
    by_cases g3 : c = 3
    · rw [if_pos (decide_eq_true g3)]
      exact ⟨lnum (by have := lt (s + 1); have := ld s; omega), hK _ ⟨b, _, rfl, hb1, keep ((fl.take (s + 1)).app (fl.drop s)) (by omega)⟩⟩
    rw [if_neg (by rw [decide_eq_false g3]; exact Bool.false_ne_true)]
    by_cases g4 : c = 4
    · rw [if_pos (decide_eq_true g4)]
      exact hK _ ⟨b, _, rfl, hb1, keep fl.rev (by omega)⟩
    rw [if_neg (by rw [decide_eq_false g4]; exact Bool.false_ne_true)]
    have fx := fl.at (List.getElem_mem hs)
    refine ⟨ds[s], ix_nat hs, b, ds[s], n, a, u, k - 1, by rw [show ((k - 1 : Nat) : Int) = (k : Int) - 1 by omega], hb1, by omega, fx, hn, by omega, fun d b' hd2 hb' => ?_⟩
    have m1 : (k - 1 + 2) * u + (k + 2) * 3 + u ≤ (k + 2) * w := by
      have e : (k - 1 + 2) * u + u = (k + 2) * u := by rw [show k + 2 = (k - 1 + 2) + 1 by omega, Nat.add_mul (k - 1 + 2) 1 u, Nat.one_mul]
      have : (k + 2) * (u + 3) ≤ (k + 2) * w := Nat.mul_le_mul_left _ hu
      rw [Nat.mul_add] at this
      omega
    simp (config := { maxSteps := 2000000 }) only [vNext, vSeq, vBreak, vCont, vIfS, vRet, vRetN, vDrop, canSet_eq, sf_em, sf_ow, Option.elim_some, vAsg, vPar, gvName, gvNil, gvCons, gvTup, vAsgG, vFor, vWhile, vYes, vC, vVar, vMove, vSlot, vSh, vOp, vTest, vAnd, vOr, vNot, vAndV, vOrV, vNotV, vIf, vNilA, vConsA, getA, valsA, vTup, vLst, vNoPart, vPart, vSl, vUn, vCB, vChain, pIsi, pIsiT, ioIdx, resolve, pb, callB, vCall, vCallK, permute, pd1, pLen, pAbs, pInt1, pTuple, pList, pRepr, vSeqI, vRng1, vRng2, vZip, vEnum, vMth, vMeth, pmAppend, pmExtend, pmPop, vSetIx, vAug, vOrT, truD, pdAdd, pdSub, pdMul, pdFdiv, pdMod, pdPow, pdInt, pdEq, pdNe, bothStr, true_or, or_true, pdOrd, pdLt, pdGt, pdLe, pdGe, pdIs, isNn, pdIx, pdNeg, pdRev, Bo.get, Sl.con, Sl.put, O.dat, datL, datF, O.rd, noD, wipeS, slotsOf, endsP, outs0, outs1, outs2, ioNil, ioOne, List.length_cons, List.length_nil, List.replicate, List.cons_append, List.nil_append, List.set_cons_zero, List.set_cons_succ, List.getElem?_cons_zero, List.getElem?_cons_succ, List.getElem?_nil, List.getD_cons_zero, List.getD_cons_succ, List.filterMap_cons, List.filterMap_nil, Option.map_some, Option.bind_some, Option.map, Option.some.injEq, List.cons.injEq, O.sh.injEq, O.lst.injEq, O.dct.injEq, false_and, and_false, Sl.ow.injEq, Sl.io.injEq, PyData.int.injEq, PyData.bool.injEq, PyData.str.injEq, PyData.list.injEq, PyData.tuple.injEq, reduceCtorEq, exists_eq_left, exists_eq_left', exists_eq', exists_const, exists_and_left, exists_and_right, and_assoc, false_or, or_false, Int.toNat_natCast, Bool.false_eq_true, and_true, true_and, and_self, ne_eq, not_false_eq_true, not_true_eq_false, if_true, if_false, ↓reduceIte, Nat.reduceSub, Nat.reduceAdd, Nat.reduceEqDiff, at30, at31, at32, ix30, ix32, Nat.succ_ne_zero]
    refine ⟨s, ixN_nat hs, hK _ ⟨b', _, rfl, hb', ?_⟩⟩
    have g := (fl.mono (Nat.le_succ n) (Nat.le_add_right a 2) (Nat.le_refl u)).set hd2 s
    exact g.mono (Nat.le_refl _) (Nat.le_refl _) (by omega)
  rintro S6 ⟨b', es, rfl, hb2, fe⟩
  simp (config := { maxSteps := 2000000 }) only [vNext, vSeq, vBreak, vCont, vIfS, vRet, vRetN, vDrop, canSet_eq, sf_em, sf_ow, Option.elim_some, vAsg, vPar, gvName, gvNil, gvCons, gvTup, vAsgG, vFor, vWhile, vYes, vC, vVar, vMove, vSlot, vSh, vOp, vTest, vAnd, vOr, vNot, vAndV, vOrV, vNotV, vIf, vNilA, vConsA, getA, valsA, vTup, vLst, vNoPart, vPart, vSl, vUn, vCB, vChain, pIsi, pIsiT, ioIdx, resolve, pb, callB, vCall, vCallK, permute, pd1, pLen, pAbs, pInt1, pTuple, pList, pRepr, vSeqI, vRng1, vRng2, vZip, vEnum, vMth, vMeth, pmAppend, pmExtend, pmPop, vSetIx, vAug, vOrT, truD, pdAdd, pdSub, pdMul, pdFdiv, pdMod, pdPow, pdInt, pdEq, pdNe, bothStr, true_or, or_true, pdOrd, pdLt, pdGt, pdLe, pdGe, pdIs, isNn, pdIx, pdNeg, pdRev, Bo.get, Sl.con, Sl.put, O.dat, datL, datF, O.rd, noD, wipeS, slotsOf, endsP, outs0, outs1, outs2, ioNil, ioOne, List.length_cons, List.length_nil, List.replicate, List.cons_append, List.nil_append, List.set_cons_zero, List.set_cons_succ, List.getElem?_cons_zero, List.getElem?_cons_succ, List.getElem?_nil, List.getD_cons_zero, List.getD_cons_succ, List.filterMap_cons, List.filterMap_nil, Option.map_some, Option.bind_some, Option.map, Option.some.injEq, List.cons.injEq, O.sh.injEq, O.lst.injEq, O.dct.injEq, false_and, and_false, Sl.ow.injEq, Sl.io.injEq, PyData.int.injEq, PyData.bool.injEq, PyData.str.injEq, PyData.list.injEq, PyData.tuple.injEq, reduceCtorEq, exists_eq_left, exists_eq_left', exists_eq', exists_const, exists_and_left, exists_and_right, and_assoc, false_or, or_false, Int.toNat_natCast, Bool.false_eq_true, and_true, true_and, and_self, ne_eq, not_false_eq_true, not_true_eq_false, if_true, if_false, ↓reduceIte, Nat.reduceSub, Nat.reduceAdd, Nat.reduceEqDiff, at30, at31, at32, ix30, ix32, Nat.succ_ne_zero, ndm]
  cases isiD "tuple" m
  · rw [if_neg Bool.false_ne_true]
    exact out fe.list (by omega) (by omega) (by omega) b' hb2
  · rw [if_pos rfl]
    exact out fe.tup (by omega) (by omega) (by omega) b' hb2
end VL

set_option Elab.async false
set_option linter.all false
set_option maxRecDepth 100000
set_option maxHeartbeats 1000000
namespace VL
open PySem PySem.Spec PyProof.Rows L2
variable [Wd]
theorem Small.mono {xs : List Str} {m k : Nat} (h : Small xs m) (hm : m ≤ k) : Small xs k := ⟨h.ne, Nat.le_trans h.len hm, h.wd⟩
theorem FatL.mat {n k w : Nat} {ds : List PyData} (h : FatL n k w ds) (h1 : n < 2 ^ 40) (h2 : k < 20) (h3 : w + 3 ≤ 15000000) : Mat (.list ds) ∧ Mat (.tuple ds) := ⟨⟨n, k + 1, w + 3, h.list, h1, h2, h3⟩, ⟨n, k + 1, w + 3, h.tup, h1, h2, h3⟩⟩
theorem Mat.rep {d : PyData} (h : Mat d) : d.showable = true ∧ SeqAt.shaped d = true ∧ d.shown.length ≤ sizeLine := by
  have hs := h.shaped
  obtain ⟨n, k, w, h1, h2, h3, h4⟩ := h
  have q := h1.nice h2
  exact ⟨q.sh, hs, by have := q.wt; rw [sizeLine_eq]; omega⟩
theorem strOk_line (x : Str) : PyData.eqv (.str x) (.str x) = true := by
  show (x == x) = true
  exact beq_self_eq_true x
theorem sm_Bent {j : Nat} : SMono (Bent j) := fun os P P' i ⟨bx, m, n, a, w, k, h1, h2, h3, h4, h5, h6, h⟩ => ⟨bx, m, n, a, w, k, h1, h2, h3, h4, h5, h6, fun d b a1 a2 => i _ _ (h d b a1 a2)⟩
theorem two_nice {a b : PyData} {k w : Nat} (ha : Nice k w a) (hb : Nice k w b) : Nice (k + 1) (2 * (w + 2) + 3) (.list [a, b]) := nice_list (fun d hd => by
  simp only [List.mem_cons, List.not_mem_nil, or_false] at hd
  rcases hd with rfl | rfl
  · exact ha
  · exact hb) (Nat.le_refl _)
def st9 (v1 : V) (b : O) (ys zs xs : List Str) (n : Int) (told : PyData) (s4 s5 s6 s9 s10 s11 s12 s13 : Sl) : Ss := [.io v1 b, .ow (.sh (.tuple (ys.map .str))), .ow (.sh told), .ow (.sh (.tuple (zs.map .str))), s4, s5, s6, .ow (.sh (.tuple (xs.map .str))), .ow (.sh (.int n)), s9, s10, s11, s12, s13]
def innerT : VS := (vSeq (vPar 12 13 (vCB (pd1 pRepr) (vConsA (vSlot 6) (vNilA))) (vCall ms__law_is_it spec__law_is_it (vConsA (vSh (vVar 10)) (vConsA (vSh (vVar 7)) (vConsA (vSh (vVar 8)) (vConsA (vSh (vVar 6)) (vNilA))))))) (vSeq (vAsg (vLst (vConsA (vSh (vCall ms_shows_parting spec_shows_parting (vConsA (vSh (vVar 10)) (vConsA (vSh (vVar 7)) (vConsA (vSh (vVar 8)) (vConsA (vSh (vVar 6)) (vNilA))))))) (vNilA))) 11) (vSeq (vDrop (vMth pmAppend 11 (vConsA (vSh (vCallK ms_shows_parting spec_shows_parting [3, 2, 1, 0] 4 (vConsA (vSh (vVar 6)) (vConsA (vSh (vVar 8)) (vConsA (vSh (vCB (pd1 pList) (vConsA (vSlot 7) (vNilA)))) (vConsA (vSh (vCB (pd1 pList) (vConsA (vSlot 10) (vNilA)))) (vNilA))))))) (vNilA)))) (vIfS (vOr (vNot (vTest (vCall ms__law_same spec__law_same (vConsA (vSh (vVar 11)) (vConsA (vSh (vLst (vConsA (vSh (vVar 13)) (vConsA (vSh (vVar 13)) (vNilA))))) (vNilA)))))) (vTest (vOp pdNe (vSh (vCB (pd1 pRepr) (vConsA (vSlot 6) (vNilA)))) (vSlot 12)))) (vRet (vC (.bool false))) (vNext)))))
def turnT : VS := (vSeq (vAsg (vCall ms__law_bent spec__law_bent (vConsA (vSlot 0) (vConsA (vSh (vVar 2)) (vConsA (vSh (vC (.int 2))) (vNilA))))) 9) (vDrop (vMth pmAppend 4 (vConsA (vSh (vIf (vTest (vOp pdEq (vSh (vCall ms__law_take spec__law_take (vConsA (vSlot 0) (vConsA (vSh (vC (.int 3))) (vNilA))))) (vSh (vC (.int 0))))) (vCall ms__law_bent spec__law_bent (vConsA (vSlot 0) (vConsA (vSh (vVar 9)) (vConsA (vSh (vC (.int 2))) (vNilA))))) (vVar 9))) (vNilA)))))
theorem inner_ok {v1 : V} {b : O} {ys zs xs ws : List Str} {n : Int} {told m : PyData} {s4 s5 s9 s11 s12 s13 : Sl} {D : VEnds} (hx : Small xs 50) (hw : Small ws 50) (hm : Mat m) (f11 : slotFree s11 = true) (f12 : slotFree s12 = true) (f13 : slotFree s13 = true)
    (fin : ∀ o11 o12 o13, D.nx (st9 v1 b ys zs xs n told s4 s5 (.ow (.sh m)) s9 (.ow (.sh (.tuple (ws.map .str)))) (.ow o11) (.ow o12) (.ow o13))) :
    innerT D (st9 v1 b ys zs xs n told s4 s5 (.ow (.sh m)) s9 (.ow (.sh (.tuple (ws.map .str)))) s11 s12 s13) := by
  have fx := hx.fit (by decide)
  have fw := hw.fit (by decide)
  have lw : ws.length ≤ 60 := by have := hw.len; omega
  unfold innerT
  refine seq_cut (fun S' => S' = st9 v1 b ys zs xs n told s4 s5 (.ow (.sh m)) s9 (.ow (.sh (.tuple (ws.map .str)))) s11 (.ow (.sh (.str m.shown))) (.ow (.sh (.bool (evidP ws xs n m))))) ?_ ?_
  · intro K hK
    simp (config := { maxSteps := 2000000 }) only [vNext, vSeq, vBreak, vCont, vIfS, vRet, vRetN, vDrop, canSet_eq, sf_em, sf_ow, Option.elim_some, vAsg, vPar, gvName, gvNil, gvCons, gvTup, vAsgG, vFor, vWhile, vYes, vC, vVar, vMove, vSlot, vSh, vOp, vTest, vAnd, vOr, vNot, vAndV, vOrV, vNotV, vIf, vNilA, vConsA, getA, valsA, vTup, vLst, vNoPart, vPart, vSl, vUn, vCB, vChain, pIsi, pIsiT, ioIdx, resolve, pb, callB, vCall, vCallK, permute, pd1, pLen, pAbs, pInt1, pTuple, pList, pRepr, vSeqI, vRng1, vRng2, vZip, vEnum, vMth, vMeth, pmAppend, pmExtend, pmPop, vSetIx, vAug, vOrT, truD, pdAdd, pdSub, pdMul, pdFdiv, pdMod, pdPow, pdInt, pdEq, pdNe, bothStr, true_or, or_true, pdOrd, pdLt, pdGt, pdLe, pdGe, pdIs, isNn, pdIx, pdNeg, pdRev, Bo.get, Sl.con, Sl.put, O.dat, datL, datF, O.rd, noD, wipeS, slotsOf, endsP, outs0, outs1, outs2, ioNil, ioOne, List.length_cons, List.length_nil, List.replicate, List.cons_append, List.nil_append, List.set_cons_zero, List.set_cons_succ, List.getElem?_cons_zero, List.getElem?_cons_succ, List.getElem?_nil, List.getD_cons_zero, List.getD_cons_succ, List.filterMap_cons, List.filterMap_nil, Option.map_some, Option.bind_some, Option.map, Option.some.injEq, List.cons.injEq, O.sh.injEq, O.lst.injEq, O.dct.injEq, false_and, and_false, Sl.ow.injEq, Sl.io.injEq, PyData.int.injEq, PyData.bool.injEq, PyData.str.injEq, PyData.list.injEq, PyData.tuple.injEq, reduceCtorEq, exists_eq_left, exists_eq_left', exists_eq', exists_const, exists_and_left, exists_and_right, and_assoc, false_or, or_false, Int.toNat_natCast, Bool.false_eq_true, and_true, true_and, and_self, ne_eq, not_false_eq_true, not_true_eq_false, if_true, if_false, ↓reduceIte, Nat.reduceSub, Nat.reduceAdd, Nat.reduceEqDiff, at30, at31, at32, ix30, ix32, Nat.succ_ne_zero, st9, spec__law_is_it, ShowsP]
    exact ⟨hm.rep.1, hm.rep.2.1, hm.rep.2.2, ws, .inl rfl, xs, .inl rfl, fw, fx, hw.ne, hx.ne, lw, hm, f12, f13, hK _ rfl⟩
  rintro S1 rfl
  refine seq_cut (fun S' => S' = st9 v1 b ys zs xs n told s4 s5 (.ow (.sh m)) s9 (.ow (.sh (.tuple (ws.map .str)))) (.ow (.lst [.bool (evidP ws xs n m)])) (.ow (.sh (.str m.shown))) (.ow (.sh (.bool (evidP ws xs n m))))) ?_ ?_
  · intro K hK
    simp (config := { maxSteps := 2000000 }) only [vNext, vSeq, vBreak, vCont, vIfS, vRet, vRetN, vDrop, canSet_eq, sf_em, sf_ow, Option.elim_some, vAsg, vPar, gvName, gvNil, gvCons, gvTup, vAsgG, vFor, vWhile, vYes, vC, vVar, vMove, vSlot, vSh, vOp, vTest, vAnd, vOr, vNot, vAndV, vOrV, vNotV, vIf, vNilA, vConsA, getA, valsA, vTup, vLst, vNoPart, vPart, vSl, vUn, vCB, vChain, pIsi, pIsiT, ioIdx, resolve, pb, callB, vCall, vCallK, permute, pd1, pLen, pAbs, pInt1, pTuple, pList, pRepr, vSeqI, vRng1, vRng2, vZip, vEnum, vMth, vMeth, pmAppend, pmExtend, pmPop, vSetIx, vAug, vOrT, truD, pdAdd, pdSub, pdMul, pdFdiv, pdMod, pdPow, pdInt, pdEq, pdNe, bothStr, true_or, or_true, pdOrd, pdLt, pdGt, pdLe, pdGe, pdIs, isNn, pdIx, pdNeg, pdRev, Bo.get, Sl.con, Sl.put, O.dat, datL, datF, O.rd, noD, wipeS, slotsOf, endsP, outs0, outs1, outs2, ioNil, ioOne, List.length_cons, List.length_nil, List.replicate, List.cons_append, List.nil_append, List.set_cons_zero, List.set_cons_succ, List.getElem?_cons_zero, List.getElem?_cons_succ, List.getElem?_nil, List.getD_cons_zero, List.getD_cons_succ, List.filterMap_cons, List.filterMap_nil, Option.map_some, Option.bind_some, Option.map, Option.some.injEq, List.cons.injEq, O.sh.injEq, O.lst.injEq, O.dct.injEq, false_and, and_false, Sl.ow.injEq, Sl.io.injEq, PyData.int.injEq, PyData.bool.injEq, PyData.str.injEq, PyData.list.injEq, PyData.tuple.injEq, reduceCtorEq, exists_eq_left, exists_eq_left', exists_eq', exists_const, exists_and_left, exists_and_right, and_assoc, false_or, or_false, Int.toNat_natCast, Bool.false_eq_true, and_true, true_and, and_self, ne_eq, not_false_eq_true, not_true_eq_false, if_true, if_false, ↓reduceIte, Nat.reduceSub, Nat.reduceAdd, Nat.reduceEqDiff, at30, at31, at32, ix30, ix32, Nat.succ_ne_zero, st9, spec_shows_parting, ShowsP, f11]
    exact ⟨ws, .inl rfl, xs, .inl rfl, fw, fx, hw.ne, hx.ne, lw, hm, lnum (by decide), hK _ rfl⟩
  rintro S2 rfl
  refine seq_cut (fun S' => S' = st9 v1 b ys zs xs n told s4 s5 (.ow (.sh m)) s9 (.ow (.sh (.tuple (ws.map .str)))) (.ow (.lst [.bool (evidP ws xs n m), .bool (evidP ws xs n m)])) (.ow (.sh (.str m.shown))) (.ow (.sh (.bool (evidP ws xs n m))))) ?_ ?_
  · intro K hK
    simp (config := { maxSteps := 2000000 }) only [vNext, vSeq, vBreak, vCont, vIfS, vRet, vRetN, vDrop, canSet_eq, sf_em, sf_ow, Option.elim_some, vAsg, vPar, gvName, gvNil, gvCons, gvTup, vAsgG, vFor, vWhile, vYes, vC, vVar, vMove, vSlot, vSh, vOp, vTest, vAnd, vOr, vNot, vAndV, vOrV, vNotV, vIf, vNilA, vConsA, getA, valsA, vTup, vLst, vNoPart, vPart, vSl, vUn, vCB, vChain, pIsi, pIsiT, ioIdx, resolve, pb, callB, vCall, vCallK, permute, pd1, pLen, pAbs, pInt1, pTuple, pList, pRepr, vSeqI, vRng1, vRng2, vZip, vEnum, vMth, vMeth, pmAppend, pmExtend, pmPop, vSetIx, vAug, vOrT, truD, pdAdd, pdSub, pdMul, pdFdiv, pdMod, pdPow, pdInt, pdEq, pdNe, bothStr, true_or, or_true, pdOrd, pdLt, pdGt, pdLe, pdGe, pdIs, isNn, pdIx, pdNeg, pdRev, Bo.get, Sl.con, Sl.put, O.dat, datL, datF, O.rd, noD, wipeS, slotsOf, endsP, outs0, outs1, outs2, ioNil, ioOne, List.length_cons, List.length_nil, List.replicate, List.cons_append, List.nil_append, List.set_cons_zero, List.set_cons_succ, List.getElem?_cons_zero, List.getElem?_cons_succ, List.getElem?_nil, List.getD_cons_zero, List.getD_cons_succ, List.filterMap_cons, List.filterMap_nil, Option.map_some, Option.bind_some, Option.map, Option.some.injEq, List.cons.injEq, O.sh.injEq, O.lst.injEq, O.dct.injEq, false_and, and_false, Sl.ow.injEq, Sl.io.injEq, PyData.int.injEq, PyData.bool.injEq, PyData.str.injEq, PyData.list.injEq, PyData.tuple.injEq, reduceCtorEq, exists_eq_left, exists_eq_left', exists_eq', exists_const, exists_and_left, exists_and_right, and_assoc, false_or, or_false, Int.toNat_natCast, Bool.false_eq_true, and_true, true_and, and_self, ne_eq, not_false_eq_true, not_true_eq_false, if_true, if_false, ↓reduceIte, Nat.reduceSub, Nat.reduceAdd, Nat.reduceEqDiff, at30, at31, at32, ix30, ix32, Nat.succ_ne_zero, st9, spec_shows_parting, ShowsP]
    exact ⟨ws, .inr rfl, xs, .inr rfl, fw, fx, hw.ne, hx.ne, lw, hm, lnum (by decide), hK _ rfl⟩
  rintro S3 rfl
  have nb := nice_bool (evidP ws xs n m)
  simp (config := { maxSteps := 2000000 }) only [vNext, vSeq, vBreak, vCont, vIfS, vRet, vRetN, vDrop, canSet_eq, sf_em, sf_ow, Option.elim_some, vAsg, vPar, gvName, gvNil, gvCons, gvTup, vAsgG, vFor, vWhile, vYes, vC, vVar, vMove, vSlot, vSh, vOp, vTest, vAnd, vOr, vNot, vAndV, vOrV, vNotV, vIf, vNilA, vConsA, getA, valsA, vTup, vLst, vNoPart, vPart, vSl, vUn, vCB, vChain, pIsi, pIsiT, ioIdx, resolve, pb, callB, vCall, vCallK, permute, pd1, pLen, pAbs, pInt1, pTuple, pList, pRepr, vSeqI, vRng1, vRng2, vZip, vEnum, vMth, vMeth, pmAppend, pmExtend, pmPop, vSetIx, vAug, vOrT, truD, pdAdd, pdSub, pdMul, pdFdiv, pdMod, pdPow, pdInt, pdEq, pdNe, bothStr, true_or, or_true, pdOrd, pdLt, pdGt, pdLe, pdGe, pdIs, isNn, pdIx, pdNeg, pdRev, Bo.get, Sl.con, Sl.put, O.dat, datL, datF, O.rd, noD, wipeS, slotsOf, endsP, outs0, outs1, outs2, ioNil, ioOne, List.length_cons, List.length_nil, List.replicate, List.cons_append, List.nil_append, List.set_cons_zero, List.set_cons_succ, List.getElem?_cons_zero, List.getElem?_cons_succ, List.getElem?_nil, List.getD_cons_zero, List.getD_cons_succ, List.filterMap_cons, List.filterMap_nil, Option.map_some, Option.bind_some, Option.map, Option.some.injEq, List.cons.injEq, O.sh.injEq, O.lst.injEq, O.dct.injEq, false_and, and_false, Sl.ow.injEq, Sl.io.injEq, PyData.int.injEq, PyData.bool.injEq, PyData.str.injEq, PyData.list.injEq, PyData.tuple.injEq, reduceCtorEq, exists_eq_left, exists_eq_left', exists_eq', exists_const, exists_and_left, exists_and_right, and_assoc, false_or, or_false, Int.toNat_natCast, Bool.false_eq_true, and_true, true_and, and_self, ne_eq, not_false_eq_true, not_true_eq_false, if_true, if_false, ↓reduceIte, Nat.reduceSub, Nat.reduceAdd, Nat.reduceEqDiff, at30, at31, at32, ix30, ix32, Nat.succ_ne_zero, st9, spec__law_same, Same, strOk_line, Bool.not_true]
  exact ⟨lnum (by decide), ⟨_, _, two_nice nb nb, by decide, by decide⟩, hm.rep.1, hm.rep.2.1, hm.rep.2.2, fin _ _ _⟩
theorem bent_two {b : O} {m : PyData} {N a w : Nat} (hb : isBox b) (hm : Fat N a w m) (hN : N ≤ 2000) (hw : w ≤ 1000000) : spec__law_bent [b, .sh m, .sh (.int 2)] fun r os' => ∃ d b', r = .sh d ∧ Fat (N + 1) (a + 2) (4 * w + 600) d ∧ isBox b' ∧ os' = [b', .sh m, .sh (.int 2)] :=
  ⟨b, m, N, a, w, 2, rfl, hb, by decide, hm, by omega, hw, fun d b' hd hb' => ⟨d, b', rfl, hd, hb', rfl⟩⟩
theorem turn_ok {v1 : V} {b : O} {ys zs xs : List Str} {n : Int} {told : PyData} {ms : List PyData} {s5 s6 s9 s10 s11 s12 s13 : Sl} {D : VEnds} (hb : isBox b) (ht : Fat 1000 1 800 told) (f9 : slotFree s9 = true) (hl : ms.length < 1000)
    (fin : ∀ b d o9, isBox b → Mat d → D.nx (st9 v1 b ys zs xs n told (.ow (.lst (ms ++ [d]))) s5 s6 (.ow o9) s10 s11 s12 s13)) :
    turnT D (st9 v1 b ys zs xs n told (.ow (.lst ms)) s5 s6 s9 s10 s11 s12 s13) := by
  unfold turnT
  refine seq_cut (fun S' => ∃ b d, S' = st9 v1 b ys zs xs n told (.ow (.lst ms)) s5 s6 (.ow (.sh d)) s10 s11 s12 s13 ∧ isBox b ∧ Fat 1001 3 3800 d) ?_ ?_
  · intro K hK
    simp (config := { maxSteps := 2000000 }) only [vNext, vSeq, vBreak, vCont, vIfS, vRet, vRetN, vDrop, canSet_eq, sf_em, sf_ow, Option.elim_some, vAsg, vPar, gvName, gvNil, gvCons, gvTup, vAsgG, vFor, vWhile, vYes, vC, vVar, vMove, vSlot, vSh, vOp, vTest, vAnd, vOr, vNot, vAndV, vOrV, vNotV, vIf, vNilA, vConsA, getA, valsA, vTup, vLst, vNoPart, vPart, vSl, vUn, vCB, vChain, pIsi, pIsiT, ioIdx, resolve, pb, callB, vCall, vCallK, permute, pd1, pLen, pAbs, pInt1, pTuple, pList, pRepr, vSeqI, vRng1, vRng2, vZip, vEnum, vMth, vMeth, pmAppend, pmExtend, pmPop, vSetIx, vAug, vOrT, truD, pdAdd, pdSub, pdMul, pdFdiv, pdMod, pdPow, pdInt, pdEq, pdNe, bothStr, true_or, or_true, pdOrd, pdLt, pdGt, pdLe, pdGe, pdIs, isNn, pdIx, pdNeg, pdRev, Bo.get, Sl.con, Sl.put, O.dat, datL, datF, O.rd, noD, wipeS, slotsOf, endsP, outs0, outs1, outs2, ioNil, ioOne, List.length_cons, List.length_nil, List.replicate, List.cons_append, List.nil_append, List.set_cons_zero, List.set_cons_succ, List.getElem?_cons_zero, List.getElem?_cons_succ, List.getElem?_nil, List.getD_cons_zero, List.getD_cons_succ, List.filterMap_cons, List.filterMap_nil, Option.map_some, Option.bind_some, Option.map, Option.some.injEq, List.cons.injEq, O.sh.injEq, O.lst.injEq, O.dct.injEq, false_and, and_false, Sl.ow.injEq, Sl.io.injEq, PyData.int.injEq, PyData.bool.injEq, PyData.str.injEq, PyData.list.injEq, PyData.tuple.injEq, reduceCtorEq, exists_eq_left, exists_eq_left', exists_eq', exists_const, exists_and_left, exists_and_right, and_assoc, false_or, or_false, Int.toNat_natCast, Bool.false_eq_true, and_true, true_and, and_self, ne_eq, not_false_eq_true, not_true_eq_false, if_true, if_false, ↓reduceIte, Nat.reduceSub, Nat.reduceAdd, Nat.reduceEqDiff, at30, at31, at32, ix30, ix32, Nat.succ_ne_zero, st9, f9]
    refine sm_Bent _ _ _ (fun r os' q => ?_) (bent_two hb ht (by decide) (by decide))
    obtain ⟨d, b', rfl, md, hb', rfl⟩ := q
    simp (config := { maxSteps := 2000000 }) only [vNext, vSeq, vBreak, vCont, vIfS, vRet, vRetN, vDrop, canSet_eq, sf_em, sf_ow, Option.elim_some, vAsg, vPar, gvName, gvNil, gvCons, gvTup, vAsgG, vFor, vWhile, vYes, vC, vVar, vMove, vSlot, vSh, vOp, vTest, vAnd, vOr, vNot, vAndV, vOrV, vNotV, vIf, vNilA, vConsA, getA, valsA, vTup, vLst, vNoPart, vPart, vSl, vUn, vCB, vChain, pIsi, pIsiT, ioIdx, resolve, pb, callB, vCall, vCallK, permute, pd1, pLen, pAbs, pInt1, pTuple, pList, pRepr, vSeqI, vRng1, vRng2, vZip, vEnum, vMth, vMeth, pmAppend, pmExtend, pmPop, vSetIx, vAug, vOrT, truD, pdAdd, pdSub, pdMul, pdFdiv, pdMod, pdPow, pdInt, pdEq, pdNe, bothStr, true_or, or_true, pdOrd, pdLt, pdGt, pdLe, pdGe, pdIs, isNn, pdIx, pdNeg, pdRev, Bo.get, Sl.con, Sl.put, O.dat, datL, datF, O.rd, noD, wipeS, slotsOf, endsP, outs0, outs1, outs2, ioNil, ioOne, List.length_cons, List.length_nil, List.replicate, List.cons_append, List.nil_append, List.set_cons_zero, List.set_cons_succ, List.getElem?_cons_zero, List.getElem?_cons_succ, List.getElem?_nil, List.getD_cons_zero, List.getD_cons_succ, List.filterMap_cons, List.filterMap_nil, Option.map_some, Option.bind_some, Option.map, Option.some.injEq, List.cons.injEq, O.sh.injEq, O.lst.injEq, O.dct.injEq, false_and, and_false, Sl.ow.injEq, Sl.io.injEq, PyData.int.injEq, PyData.bool.injEq, PyData.str.injEq, PyData.list.injEq, PyData.tuple.injEq, reduceCtorEq, exists_eq_left, exists_eq_left', exists_eq', exists_const, exists_and_left, exists_and_right, and_assoc, false_or, or_false, Int.toNat_natCast, Bool.false_eq_true, and_true, true_and, and_self, ne_eq, not_false_eq_true, not_true_eq_false, if_true, if_false, ↓reduceIte, Nat.reduceSub, Nat.reduceAdd, Nat.reduceEqDiff, at30, at31, at32, ix30, ix32, Nat.succ_ne_zero]
    exact ⟨f9, hK _ ⟨b', d, rfl, hb', md⟩⟩
  clear hb
  rintro S1 ⟨b, d, rfl, hb, hd⟩
  have md : Mat d := ⟨_, _, _, hd, by decide, by decide, by decide⟩
  simp (config := { maxSteps := 2000000 }) only [vNext, vSeq, vBreak, vCont, vIfS, vRet, vRetN, vDrop, canSet_eq, sf_em, sf_ow, Option.elim_some, vAsg, vPar, gvName, gvNil, gvCons, gvTup, vAsgG, vFor, vWhile, vYes, vC, vVar, vMove, vSlot, vSh, vOp, vTest, vAnd, vOr, vNot, vAndV, vOrV, vNotV, vIf, vNilA, vConsA, getA, valsA, vTup, vLst, vNoPart, vPart, vSl, vUn, vCB, vChain, pIsi, pIsiT, ioIdx, resolve, pb, callB, vCall, vCallK, permute, pd1, pLen, pAbs, pInt1, pTuple, pList, pRepr, vSeqI, vRng1, vRng2, vZip, vEnum, vMth, vMeth, pmAppend, pmExtend, pmPop, vSetIx, vAug, vOrT, truD, pdAdd, pdSub, pdMul, pdFdiv, pdMod, pdPow, pdInt, pdEq, pdNe, bothStr, true_or, or_true, pdOrd, pdLt, pdGt, pdLe, pdGe, pdIs, isNn, pdIx, pdNeg, pdRev, Bo.get, Sl.con, Sl.put, O.dat, datL, datF, O.rd, noD, wipeS, slotsOf, endsP, outs0, outs1, outs2, ioNil, ioOne, List.length_cons, List.length_nil, List.replicate, List.cons_append, List.nil_append, List.set_cons_zero, List.set_cons_succ, List.getElem?_cons_zero, List.getElem?_cons_succ, List.getElem?_nil, List.getD_cons_zero, List.getD_cons_succ, List.filterMap_cons, List.filterMap_nil, Option.map_some, Option.bind_some, Option.map, Option.some.injEq, List.cons.injEq, O.sh.injEq, O.lst.injEq, O.dct.injEq, false_and, and_false, Sl.ow.injEq, Sl.io.injEq, PyData.int.injEq, PyData.bool.injEq, PyData.str.injEq, PyData.list.injEq, PyData.tuple.injEq, reduceCtorEq, exists_eq_left, exists_eq_left', exists_eq', exists_const, exists_and_left, exists_and_right, and_assoc, false_or, or_false, Int.toNat_natCast, Bool.false_eq_true, and_true, true_and, and_self, ne_eq, not_false_eq_true, not_true_eq_false, if_true, if_false, ↓reduceIte, Nat.reduceSub, Nat.reduceAdd, Nat.reduceEqDiff, at30, at31, at32, ix30, ix32, Nat.succ_ne_zero, st9, spec__law_take, Take, shaped_int, eqv_int]
  refine ⟨hb, by decide, by decide, fun c b' _ _ hb' => ?_⟩
  by_cases hc : c = 0
  · rw [if_pos (decide_eq_true hc)]
    refine sm_Bent _ _ _ (fun r os' q => ?_) (bent_two hb' hd (by decide) (by decide))
    obtain ⟨d', b'', rfl, md', hb'', rfl⟩ := q
    simp (config := { maxSteps := 2000000 }) only [vNext, vSeq, vBreak, vCont, vIfS, vRet, vRetN, vDrop, canSet_eq, sf_em, sf_ow, Option.elim_some, vAsg, vPar, gvName, gvNil, gvCons, gvTup, vAsgG, vFor, vWhile, vYes, vC, vVar, vMove, vSlot, vSh, vOp, vTest, vAnd, vOr, vNot, vAndV, vOrV, vNotV, vIf, vNilA, vConsA, getA, valsA, vTup, vLst, vNoPart, vPart, vSl, vUn, vCB, vChain, pIsi, pIsiT, ioIdx, resolve, pb, callB, vCall, vCallK, permute, pd1, pLen, pAbs, pInt1, pTuple, pList, pRepr, vSeqI, vRng1, vRng2, vZip, vEnum, vMth, vMeth, pmAppend, pmExtend, pmPop, vSetIx, vAug, vOrT, truD, pdAdd, pdSub, pdMul, pdFdiv, pdMod, pdPow, pdInt, pdEq, pdNe, bothStr, true_or, or_true, pdOrd, pdLt, pdGt, pdLe, pdGe, pdIs, isNn, pdIx, pdNeg, pdRev, Bo.get, Sl.con, Sl.put, O.dat, datL, datF, O.rd, noD, wipeS, slotsOf, endsP, outs0, outs1, outs2, ioNil, ioOne, List.length_cons, List.length_nil, List.replicate, List.cons_append, List.nil_append, List.set_cons_zero, List.set_cons_succ, List.getElem?_cons_zero, List.getElem?_cons_succ, List.getElem?_nil, List.getD_cons_zero, List.getD_cons_succ, List.filterMap_cons, List.filterMap_nil, Option.map_some, Option.bind_some, Option.map, Option.some.injEq, List.cons.injEq, O.sh.injEq, O.lst.injEq, O.dct.injEq, false_and, and_false, Sl.ow.injEq, Sl.io.injEq, PyData.int.injEq, PyData.bool.injEq, PyData.str.injEq, PyData.list.injEq, PyData.tuple.injEq, reduceCtorEq, exists_eq_left, exists_eq_left', exists_eq', exists_const, exists_and_left, exists_and_right, and_assoc, false_or, or_false, Int.toNat_natCast, Bool.false_eq_true, and_true, true_and, and_self, ne_eq, not_false_eq_true, not_true_eq_false, if_true, if_false, ↓reduceIte, Nat.reduceSub, Nat.reduceAdd, Nat.reduceEqDiff, at30, at31, at32, ix30, ix32, Nat.succ_ne_zero]
    exact ⟨lnum (by omega), fin _ _ _ hb'' ⟨_, _, _, md', by decide, by decide, by decide⟩⟩
  · rw [if_neg (by rw [decide_eq_false hc]; exact Bool.false_ne_true)]
    exact ⟨lnum (by omega), fin _ _ _ hb' md⟩
theorem part_facts {ys xs : List Str} {n : Int} {es : List Int} (h : part ys xs n es = true) : es.length = ys.length ∧ ∀ e ∈ es, 0 ≤ e ∧ e < xs.length := by
  unfold part at h
  rw [Bool.and_eq_true, Bool.and_eq_true, Bool.and_eq_true, Bool.and_eq_true, decide_eq_true_eq, decide_eq_true_eq, decide_eq_true_eq] at h
  exact ⟨h.1, (ends_in h.2.2.2.1 h.2.2.1 h.2.1).1⟩
theorem least_fat {es : List Int} (len : es.length ≤ 15) (bd : ∀ i ∈ es, 0 ≤ i ∧ i < 15) : FatL 1000 0 790 (es.map .int) := by
  refine (FatL.all (n := 1000) (k := 0) (w := 50) (ds := es.map .int) (m := 15) (fun d hd => ?_) (by rw [List.length_map]; exact len)).mono (Nat.le_refl _) (Nat.le_refl _) (by decide)
  obtain ⟨i, hi, rfl⟩ := List.mem_map.mp hd
  have := bd i hi
  exact fat_int (by omega)
def itemsT : VI := vSeqI (vOp pdAdd (vSlot 4) (vSh (vLc (vRng1 (vConsA (vSh (vC (.int 4))) (vNilA))) (gvName 5) (vYes) (vCall ms__law_odd spec__law_odd (vConsA (vSlot 0) (vNilA))) [5])))
theorem run__law_right : Runs ms__law_right Right t__law_right 13 := by
  rintro vs os R h1 h2 sh ⟨bx, rfl, hb, q⟩
  obtain ⟨v1, rfl⟩ := len1 h1
  unfold t__law_right
  refine seq_cut (fun S' => ∃ b xs n, S' = [Sl.io v1 b, .em, .em, .em, .em, .em, .em, .ow (.sh (.tuple (xs.map .str))), .ow (.sh (.int n)), .em, .em, .em, .em, .em] ∧ isBox b ∧ Small xs 14) ?_ ?_
  · intro K hK
    simp (config := { maxSteps := 2000000 }) only [vNext, vSeq, vBreak, vCont, vIfS, vRet, vRetN, vDrop, canSet_eq, sf_em, sf_ow, Option.elim_some, vAsg, vPar, gvName, gvNil, gvCons, gvTup, vAsgG, vFor, vWhile, vYes, vC, vVar, vMove, vSlot, vSh, vOp, vTest, vAnd, vOr, vNot, vAndV, vOrV, vNotV, vIf, vNilA, vConsA, getA, valsA, vTup, vLst, vNoPart, vPart, vSl, vUn, vCB, vChain, pIsi, pIsiT, ioIdx, resolve, pb, callB, vCall, vCallK, permute, pd1, pLen, pAbs, pInt1, pTuple, pList, pRepr, vSeqI, vRng1, vRng2, vZip, vEnum, vMth, vMeth, pmAppend, pmExtend, pmPop, vSetIx, vAug, vOrT, truD, pdAdd, pdSub, pdMul, pdFdiv, pdMod, pdPow, pdInt, pdEq, pdNe, bothStr, true_or, or_true, pdOrd, pdLt, pdGt, pdLe, pdGe, pdIs, isNn, pdIx, pdNeg, pdRev, Bo.get, Sl.con, Sl.put, O.dat, datL, datF, O.rd, noD, wipeS, slotsOf, endsP, outs0, outs1, outs2, ioNil, ioOne, List.length_cons, List.length_nil, List.replicate, List.cons_append, List.nil_append, List.set_cons_zero, List.set_cons_succ, List.getElem?_cons_zero, List.getElem?_cons_succ, List.getElem?_nil, List.getD_cons_zero, List.getD_cons_succ, List.filterMap_cons, List.filterMap_nil, Option.map_some, Option.bind_some, Option.map, Option.some.injEq, List.cons.injEq, O.sh.injEq, O.lst.injEq, O.dct.injEq, false_and, and_false, Sl.ow.injEq, Sl.io.injEq, PyData.int.injEq, PyData.bool.injEq, PyData.str.injEq, PyData.list.injEq, PyData.tuple.injEq, reduceCtorEq, exists_eq_left, exists_eq_left', exists_eq', exists_const, exists_and_left, exists_and_right, and_assoc, false_or, or_false, Int.toNat_natCast, Bool.false_eq_true, and_true, true_and, and_self, ne_eq, not_false_eq_true, not_true_eq_false, if_true, if_false, ↓reduceIte, Nat.reduceSub, Nat.reduceAdd, Nat.reduceEqDiff, at30, at31, at32, ix30, ix32, Nat.succ_ne_zero, spec__law_scroll, Scroll, spec__law_span, Span]
    exact ⟨14, rfl, hb, by decide, by decide, fun xs b1 hx hb1 => ⟨hb1, fun n b2 n0 n1 hb2 => hK _ ⟨b2, xs, n, rfl, hb2, hx⟩⟩⟩
  clear hb
  rintro S1 ⟨b, xs, n, rfl, hb, hx⟩
  have fx := hx.fit (by decide)
  refine seq_cut (fun S' => ∃ b ys, S' = [Sl.io v1 b, .ow (.sh (.tuple (ys.map .str))), .em, .em, .em, .em, .em, .ow (.sh (.tuple (xs.map .str))), .ow (.sh (.int n)), .em, .em, .em, .em, .em] ∧ isBox b ∧ Small ys 14 ∧ From n xs ys) ?_ ?_
  · intro K hK
    simp (config := { maxSteps := 2000000 }) only [vNext, vSeq, vBreak, vCont, vIfS, vRet, vRetN, vDrop, canSet_eq, sf_em, sf_ow, Option.elim_some, vAsg, vPar, gvName, gvNil, gvCons, gvTup, vAsgG, vFor, vWhile, vYes, vC, vVar, vMove, vSlot, vSh, vOp, vTest, vAnd, vOr, vNot, vAndV, vOrV, vNotV, vIf, vNilA, vConsA, getA, valsA, vTup, vLst, vNoPart, vPart, vSl, vUn, vCB, vChain, pIsi, pIsiT, ioIdx, resolve, pb, callB, vCall, vCallK, permute, pd1, pLen, pAbs, pInt1, pTuple, pList, pRepr, vSeqI, vRng1, vRng2, vZip, vEnum, vMth, vMeth, pmAppend, pmExtend, pmPop, vSetIx, vAug, vOrT, truD, pdAdd, pdSub, pdMul, pdFdiv, pdMod, pdPow, pdInt, pdEq, pdNe, bothStr, true_or, or_true, pdOrd, pdLt, pdGt, pdLe, pdGe, pdIs, isNn, pdIx, pdNeg, pdRev, Bo.get, Sl.con, Sl.put, O.dat, datL, datF, O.rd, noD, wipeS, slotsOf, endsP, outs0, outs1, outs2, ioNil, ioOne, List.length_cons, List.length_nil, List.replicate, List.cons_append, List.nil_append, List.set_cons_zero, List.set_cons_succ, List.getElem?_cons_zero, List.getElem?_cons_succ, List.getElem?_nil, List.getD_cons_zero, List.getD_cons_succ, List.filterMap_cons, List.filterMap_nil, Option.map_some, Option.bind_some, Option.map, Option.some.injEq, List.cons.injEq, O.sh.injEq, O.lst.injEq, O.dct.injEq, false_and, and_false, Sl.ow.injEq, Sl.io.injEq, PyData.int.injEq, PyData.bool.injEq, PyData.str.injEq, PyData.list.injEq, PyData.tuple.injEq, reduceCtorEq, exists_eq_left, exists_eq_left', exists_eq', exists_const, exists_and_left, exists_and_right, and_assoc, false_or, or_false, Int.toNat_natCast, Bool.false_eq_true, and_true, true_and, and_self, ne_eq, not_false_eq_true, not_true_eq_false, if_true, if_false, ↓reduceIte, Nat.reduceSub, Nat.reduceAdd, Nat.reduceEqDiff, at30, at31, at32, ix30, ix32, Nat.succ_ne_zero, spec__law_page, Page]
    exact ⟨xs, rfl, hb, 14, hx, by decide, fun ys b' hy hf hb' => hK _ ⟨b', ys, rfl, hb', hy, hf⟩⟩
  clear hb
  rintro S1 ⟨b, ys, rfl, hb, hy, hf⟩
  have fy := hy.fit (by decide)
  have eo : obs ys xs n = none := (from_iff hy.ne hx.ne).mp hf
  have ep := least_part hy.ne hx.ne eo
  refine seq_cut (fun S' => S' = [Sl.io v1 b, .ow (.sh (.tuple (ys.map .str))), .ow (.sh (.tuple ((leastP ys xs n).map .int))), .em, .em, .em, .em, .ow (.sh (.tuple (xs.map .str))), .ow (.sh (.int n)), .em, .em, .em, .em, .em]) ?_ ?_
  · intro K hK
    simp (config := { maxSteps := 2000000 }) only [vNext, vSeq, vBreak, vCont, vIfS, vRet, vRetN, vDrop, canSet_eq, sf_em, sf_ow, Option.elim_some, vAsg, vPar, gvName, gvNil, gvCons, gvTup, vAsgG, vFor, vWhile, vYes, vC, vVar, vMove, vSlot, vSh, vOp, vTest, vAnd, vOr, vNot, vAndV, vOrV, vNotV, vIf, vNilA, vConsA, getA, valsA, vTup, vLst, vNoPart, vPart, vSl, vUn, vCB, vChain, pIsi, pIsiT, ioIdx, resolve, pb, callB, vCall, vCallK, permute, pd1, pLen, pAbs, pInt1, pTuple, pList, pRepr, vSeqI, vRng1, vRng2, vZip, vEnum, vMth, vMeth, pmAppend, pmExtend, pmPop, vSetIx, vAug, vOrT, truD, pdAdd, pdSub, pdMul, pdFdiv, pdMod, pdPow, pdInt, pdEq, pdNe, bothStr, true_or, or_true, pdOrd, pdLt, pdGt, pdLe, pdGe, pdIs, isNn, pdIx, pdNeg, pdRev, Bo.get, Sl.con, Sl.put, O.dat, datL, datF, O.rd, noD, wipeS, slotsOf, endsP, outs0, outs1, outs2, ioNil, ioOne, List.length_cons, List.length_nil, List.replicate, List.cons_append, List.nil_append, List.set_cons_zero, List.set_cons_succ, List.getElem?_cons_zero, List.getElem?_cons_succ, List.getElem?_nil, List.getD_cons_zero, List.getD_cons_succ, List.filterMap_cons, List.filterMap_nil, Option.map_some, Option.bind_some, Option.map, Option.some.injEq, List.cons.injEq, O.sh.injEq, O.lst.injEq, O.dct.injEq, false_and, and_false, Sl.ow.injEq, Sl.io.injEq, PyData.int.injEq, PyData.bool.injEq, PyData.str.injEq, PyData.list.injEq, PyData.tuple.injEq, reduceCtorEq, exists_eq_left, exists_eq_left', exists_eq', exists_const, exists_and_left, exists_and_right, and_assoc, false_or, or_false, Int.toNat_natCast, Bool.false_eq_true, and_true, true_and, and_self, ne_eq, not_false_eq_true, not_true_eq_false, if_true, if_false, ↓reduceIte, Nat.reduceSub, Nat.reduceAdd, Nat.reduceEqDiff, at30, at31, at32, ix30, ix32, Nat.succ_ne_zero, spec_least_parting, LeastParting]
    refine ⟨ys, .inl rfl, xs, .inl rfl, fy, fx, hy.ne, hx.ne, ?_⟩
    unfold leastD
    rw [eo]
    exact hK _ rfl
  rintro S1 rfl
  refine seq_cut (fun S' => ∃ b zs, S' = st9 v1 b ys zs xs n (.tuple ((leastP ys xs n).map .int)) .em .em .em .em .em .em .em .em ∧ isBox b ∧ Small zs 15) ?_ ?_
  · intro K hK
    simp (config := { maxSteps := 2000000 }) only [vNext, vSeq, vBreak, vCont, vIfS, vRet, vRetN, vDrop, canSet_eq, sf_em, sf_ow, Option.elim_some, vAsg, vPar, gvName, gvNil, gvCons, gvTup, vAsgG, vFor, vWhile, vYes, vC, vVar, vMove, vSlot, vSh, vOp, vTest, vAnd, vOr, vNot, vAndV, vOrV, vNotV, vIf, vNilA, vConsA, getA, valsA, vTup, vLst, vNoPart, vPart, vSl, vUn, vCB, vChain, pIsi, pIsiT, ioIdx, resolve, pb, callB, vCall, vCallK, permute, pd1, pLen, pAbs, pInt1, pTuple, pList, pRepr, vSeqI, vRng1, vRng2, vZip, vEnum, vMth, vMeth, pmAppend, pmExtend, pmPop, vSetIx, vAug, vOrT, truD, pdAdd, pdSub, pdMul, pdFdiv, pdMod, pdPow, pdInt, pdEq, pdNe, bothStr, true_or, or_true, pdOrd, pdLt, pdGt, pdLe, pdGe, pdIs, isNn, pdIx, pdNeg, pdRev, Bo.get, Sl.con, Sl.put, O.dat, datL, datF, O.rd, noD, wipeS, slotsOf, endsP, outs0, outs1, outs2, ioNil, ioOne, List.length_cons, List.length_nil, List.replicate, List.cons_append, List.nil_append, List.set_cons_zero, List.set_cons_succ, List.getElem?_cons_zero, List.getElem?_cons_succ, List.getElem?_nil, List.getD_cons_zero, List.getD_cons_succ, List.filterMap_cons, List.filterMap_nil, Option.map_some, Option.bind_some, Option.map, Option.some.injEq, List.cons.injEq, O.sh.injEq, O.lst.injEq, O.dct.injEq, false_and, and_false, Sl.ow.injEq, Sl.io.injEq, PyData.int.injEq, PyData.bool.injEq, PyData.str.injEq, PyData.list.injEq, PyData.tuple.injEq, reduceCtorEq, exists_eq_left, exists_eq_left', exists_eq', exists_const, exists_and_left, exists_and_right, and_assoc, false_or, or_false, Int.toNat_natCast, Bool.false_eq_true, and_true, true_and, and_self, ne_eq, not_false_eq_true, not_true_eq_false, if_true, if_false, ↓reduceIte, Nat.reduceSub, Nat.reduceAdd, Nat.reduceEqDiff, at30, at31, at32, ix30, ix32, Nat.succ_ne_zero, spec__law_changed, Changed]
    exact ⟨ys, rfl, hb, 14, hy, by decide, fun zs b' hz hb' => hK _ ⟨b', zs, rfl, hb', hz⟩⟩
  clear hb
  rintro S1 ⟨b, zs, rfl, hb, hz⟩
  have ev : evidP ys xs n (.tuple ((leastP ys xs n).map .int)) = true := by
    show (((leastP ys xs n).map PyData.int).all isNum && part ys xs n (((leastP ys xs n).map .int).map intOf)) = true
    rw [List.map_map, show (intOf ∘ PyData.int) = id from rfl, List.map_id, ep, Bool.and_true, List.all_map]
    exact List.all_eq_true.mpr fun _ _ => rfl
  obtain ⟨pl, pb⟩ := part_facts ep
  have ly := hy.len
  have lx := hx.len
  have fl := least_fat (es := leastP ys xs n) (by omega) (fun i hi => by have := pb i hi; omega)
  generalize leastP ys xs n = es at ev pl pb fl ep
  have ft : Fat 1000 1 800 (.tuple (es.map .int)) := fl.tup.mono (Nat.le_refl _) (Nat.le_refl _) (by decide)
  have fm := fl.mat (by decide) (by decide) (by decide)
  refine seq_cut (fun S' => ∃ ms, S' = st9 v1 b ys zs xs n (.tuple (es.map .int)) (.ow (.lst ms)) .em .em .em .em .em .em .em ∧ ms.length = 8 ∧ ∀ m ∈ ms, Mat m) ?_ ?_
  · intro K hK
    simp (config := { maxSteps := 2000000 }) only [vNext, vSeq, vBreak, vCont, vIfS, vRet, vRetN, vDrop, canSet_eq, sf_em, sf_ow, Option.elim_some, vAsg, vPar, gvName, gvNil, gvCons, gvTup, vAsgG, vFor, vWhile, vYes, vC, vVar, vMove, vSlot, vSh, vOp, vTest, vAnd, vOr, vNot, vAndV, vOrV, vNotV, vIf, vNilA, vConsA, getA, valsA, vTup, vLst, vNoPart, vPart, vSl, vUn, vCB, vChain, pIsi, pIsiT, ioIdx, resolve, pb, callB, vCall, vCallK, permute, pd1, pLen, pAbs, pInt1, pTuple, pList, pRepr, vSeqI, vRng1, vRng2, vZip, vEnum, vMth, vMeth, pmAppend, pmExtend, pmPop, vSetIx, vAug, vOrT, truD, pdAdd, pdSub, pdMul, pdFdiv, pdMod, pdPow, pdInt, pdEq, pdNe, bothStr, true_or, or_true, pdOrd, pdLt, pdGt, pdLe, pdGe, pdIs, isNn, pdIx, pdNeg, pdRev, Bo.get, Sl.con, Sl.put, O.dat, datL, datF, O.rd, noD, wipeS, slotsOf, endsP, outs0, outs1, outs2, ioNil, ioOne, List.length_cons, List.length_nil, List.replicate, List.cons_append, List.nil_append, List.set_cons_zero, List.set_cons_succ, List.getElem?_cons_zero, List.getElem?_cons_succ, List.getElem?_nil, List.getD_cons_zero, List.getD_cons_succ, List.filterMap_cons, List.filterMap_nil, Option.map_some, Option.bind_some, Option.map, Option.some.injEq, List.cons.injEq, O.sh.injEq, O.lst.injEq, O.dct.injEq, false_and, and_false, Sl.ow.injEq, Sl.io.injEq, PyData.int.injEq, PyData.bool.injEq, PyData.str.injEq, PyData.list.injEq, PyData.tuple.injEq, reduceCtorEq, exists_eq_left, exists_eq_left', exists_eq', exists_const, exists_and_left, exists_and_right, and_assoc, false_or, or_false, Int.toNat_natCast, Bool.false_eq_true, and_true, true_and, and_self, ne_eq, not_false_eq_true, not_true_eq_false, if_true, if_false, ↓reduceIte, Nat.reduceSub, Nat.reduceAdd, Nat.reduceEqDiff, at30, at31, at32, ix30, ix32, Nat.succ_ne_zero, st9, pdRev, pTupRg, pdSl, cutD_cutL, List.length_map]
    have el : es.length ≤ 14 := by omega
    have cl : (cutL es (some (-1)) none).length ≤ es.length := cutL_len
    have ia : ∀ es : List Int, es.length ≤ 30 → (∀ i ∈ es, 0 ≤ i ∧ i < 100) → Mat (.tuple (es.map .int)) := fun es h1 h2 => (((FatL.all (n := 1000) (k := 0) (w := 50) (ds := es.map .int) (m := 30) (fun d hd => by
      obtain ⟨i, hi, rfl⟩ := List.mem_map.mp hd
      have := h2 i hi
      exact fat_int (by omega)) (by rw [List.length_map]; exact h1))).mat (by decide) (by decide) (by decide)).2
    have eb : ∀ i ∈ es, 0 ≤ i ∧ i < 100 := fun i hi => by have := pb i hi; omega
    refine ⟨lnum (by decide), lnum (by decide), by omega, by omega, lnum (by omega), lnum (by decide), hK _ ⟨_, rfl, rfl, fun m hm => ?_⟩⟩
    simp only [List.mem_cons, List.not_mem_nil, or_false] at hm
    rcases hm with rfl | rfl | rfl | rfl | rfl | rfl | rfl | rfl
    · exact fm.2
    · exact fm.1
    · exact (fl.rev.mat (by decide) (by decide) (by decide)).2
    · exact ia [] (by decide) (fun _ h => nomatch h)
    · exact ia [(xs.length : Int) - 1] (show 1 ≤ 30 by decide) (fun i hi => by rw [List.mem_singleton.mp hi]; have := List.length_pos_iff.mpr hx.ne; omega)
    · refine ia (rgI (ys.length : Int)) (by unfold rgI; rw [List.length_map, List.length_range]; omega) (fun i hi => ?_)
      unfold rgI at hi
      obtain ⟨j, hj, rfl⟩ := List.mem_map.mp hi
      have := List.mem_range.mp hj
      omega
    · exact ⟨0, 0, 5, fat_none, by decide, by decide, by decide⟩
    · rw [← List.map_append]
      exact ia _ (by rw [List.length_append]; omega) fun i hi => (List.mem_append.mp hi).elim (eb i) fun h => eb i (cutL_sub h)
  rintro S1 ⟨ms, rfl, lm, hm⟩
  refine seq_cut (fun S' => ∃ b ms s5 s9, S' = st9 v1 b ys zs xs n (.tuple (es.map .int)) (.ow (.lst ms)) s5 .em s9 .em .em .em .em ∧ isBox b ∧ slotFree s5 = true ∧ ms.length ≤ 100 ∧ ∀ m ∈ ms, Mat m) ?_ ?_
  · intro K hK
    show vFor (vRng1 (vConsA (vSh (vC (.int 14))) vNilA)) (gvName 5) turnT _ _
    simp (config := { maxSteps := 2000000 }) only [vNext, vSeq, vBreak, vCont, vIfS, vRet, vRetN, vDrop, canSet_eq, sf_em, sf_ow, Option.elim_some, vAsg, vPar, gvName, gvNil, gvCons, gvTup, vAsgG, vFor, vWhile, vYes, vC, vVar, vMove, vSlot, vSh, vOp, vTest, vAnd, vOr, vNot, vAndV, vOrV, vNotV, vIf, vNilA, vConsA, getA, valsA, vTup, vLst, vNoPart, vPart, vSl, vUn, vCB, vChain, pIsi, pIsiT, ioIdx, resolve, pb, callB, vCall, vCallK, permute, pd1, pLen, pAbs, pInt1, pTuple, pList, pRepr, vSeqI, vRng1, vRng2, vZip, vEnum, vMth, vMeth, pmAppend, pmExtend, pmPop, vSetIx, vAug, vOrT, truD, pdAdd, pdSub, pdMul, pdFdiv, pdMod, pdPow, pdInt, pdEq, pdNe, bothStr, true_or, or_true, pdOrd, pdLt, pdGt, pdLe, pdGe, pdIs, isNn, pdIx, pdNeg, pdRev, Bo.get, Sl.con, Sl.put, O.dat, datL, datF, O.rd, noD, wipeS, slotsOf, endsP, outs0, outs1, outs2, ioNil, ioOne, List.length_cons, List.length_nil, List.replicate, List.cons_append, List.nil_append, List.set_cons_zero, List.set_cons_succ, List.getElem?_cons_zero, List.getElem?_cons_succ, List.getElem?_nil, List.getD_cons_zero, List.getD_cons_succ, List.filterMap_cons, List.filterMap_nil, Option.map_some, Option.bind_some, Option.map, Option.some.injEq, List.cons.injEq, O.sh.injEq, O.lst.injEq, O.dct.injEq, false_and, and_false, Sl.ow.injEq, Sl.io.injEq, PyData.int.injEq, PyData.bool.injEq, PyData.str.injEq, PyData.list.injEq, PyData.tuple.injEq, reduceCtorEq, exists_eq_left, exists_eq_left', exists_eq', exists_const, exists_and_left, exists_and_right, and_assoc, false_or, or_false, Int.toNat_natCast, Bool.false_eq_true, and_true, true_and, and_self, ne_eq, not_false_eq_true, not_true_eq_false, if_true, if_false, ↓reduceIte, Nat.reduceSub, Nat.reduceAdd, Nat.reduceEqDiff, at30, at31, at32, ix30, ix32, Nat.succ_ne_zero]
    refine ⟨by decide, by decide, for_ind (fun rem S => ∃ b ms s5 s9, S = st9 v1 b ys zs xs n (.tuple (es.map .int)) (.ow (.lst ms)) s5 .em s9 .em .em .em .em ∧ isBox b ∧ slotFree s5 = true ∧ slotFree s9 = true ∧ ms.length + rem.length ≤ 100 ∧ (∀ m ∈ ms, Mat m) ∧ ∀ x ∈ rem, ∃ k : Nat, x = .int (k : Nat)) ?_ ?_ _ _ ⟨b, ms, .em, .em, rfl, hb, rfl, rfl, ?_, hm, fun x hx => ?_⟩⟩
    · rintro x rem S K hK ⟨b, ms, s5, s9, rfl, hb, f5, f9, hl, hm, hr⟩
      rw [List.length_cons] at hl
      obtain ⟨t, rfl⟩ := hr _ List.mem_cons_self
      refine ⟨by rw [canSet_eq]; exact f5, turn_ok hb ft f9 (by omega) fun b d o9 hb md => hK _ ⟨b, _, _, _, rfl, hb, rfl, rfl, by rw [List.length_append, List.length_singleton]; omega, fun m hm2 => ?_, fun x hx => hr x (List.mem_cons_of_mem _ hx)⟩⟩
      rcases List.mem_append.mp hm2 with z | z
      · exact hm m z
      · rw [List.mem_singleton.mp z]; exact md
    · rintro S ⟨b, ms, s5, s9, rfl, hb, f5, f9, hl, hm, _⟩
      exact hK _ ⟨b, ms, s5, s9, rfl, hb, f5, by rw [List.length_nil] at hl; omega, hm⟩
    · rw [intsD_len, lm]; decide
    · obtain ⟨j, rfl, _⟩ := intsD_mem (lo := 0) hx
      exact ⟨j, rfl⟩
  clear hb
  rintro S1 ⟨b, ms, s5, s9, rfl, hb, f5, hl, hm⟩
  refine seq_cut (fun S' => ∃ b s4 s5 s6 s9 s10 s11 s12 s13, S' = st9 v1 b ys zs xs n (.tuple (es.map .int)) s4 s5 s6 s9 s10 s11 s12 s13 ∧ isBox b) ?_ ?_
  · intro K hK
    show vFor _ (gvName 6) (vFor (vSeqI (vTup (vConsA (vSh (vVar 1)) (vConsA (vSh (vVar 3)) (vNilA))))) (gvName 10) innerT) _ _
    simp (config := { maxSteps := 2000000 }) only [vNext, vSeq, vBreak, vCont, vIfS, vRet, vRetN, vDrop, canSet_eq, sf_em, sf_ow, Option.elim_some, vAsg, vPar, gvName, gvNil, gvCons, gvTup, vAsgG, vFor, vWhile, vYes, vC, vVar, vMove, vSlot, vSh, vOp, vTest, vAnd, vOr, vNot, vAndV, vOrV, vNotV, vIf, vNilA, vConsA, getA, valsA, vTup, vLst, vNoPart, vPart, vSl, vUn, vCB, vChain, pIsi, pIsiT, ioIdx, resolve, pb, callB, vCall, vCallK, permute, pd1, pLen, pAbs, pInt1, pTuple, pList, pRepr, vSeqI, vRng1, vRng2, vZip, vEnum, vMth, vMeth, pmAppend, pmExtend, pmPop, vSetIx, vAug, vOrT, truD, pdAdd, pdSub, pdMul, pdFdiv, pdMod, pdPow, pdInt, pdEq, pdNe, bothStr, true_or, or_true, pdOrd, pdLt, pdGt, pdLe, pdGe, pdIs, isNn, pdIx, pdNeg, pdRev, Bo.get, Sl.con, Sl.put, O.dat, datL, datF, O.rd, noD, wipeS, slotsOf, endsP, outs0, outs1, outs2, ioNil, ioOne, List.length_cons, List.length_nil, List.replicate, List.cons_append, List.nil_append, List.set_cons_zero, List.set_cons_succ, List.getElem?_cons_zero, List.getElem?_cons_succ, List.getElem?_nil, List.getD_cons_zero, List.getD_cons_succ, List.filterMap_cons, List.filterMap_nil, Option.map_some, Option.bind_some, Option.map, Option.some.injEq, List.cons.injEq, O.sh.injEq, O.lst.injEq, O.dct.injEq, false_and, and_false, Sl.ow.injEq, Sl.io.injEq, PyData.int.injEq, PyData.bool.injEq, PyData.str.injEq, PyData.list.injEq, PyData.tuple.injEq, reduceCtorEq, exists_eq_left, exists_eq_left', exists_eq', exists_const, exists_and_left, exists_and_right, and_assoc, false_or, or_false, Int.toNat_natCast, Bool.false_eq_true, and_true, true_and, and_self, ne_eq, not_false_eq_true, not_true_eq_false, if_true, if_false, ↓reduceIte, Nat.reduceSub, Nat.reduceAdd, Nat.reduceEqDiff, at30, at31, at32, ix30, ix32, Nat.succ_ne_zero, st9, vLc]
    refine ⟨by decide, by decide, draw_lc (fun S => ∃ b, S = st9 v1 b ys zs xs n (.tuple (es.map .int)) (.ow (.lst ms)) .em .em s9 .em .em .em .em ∧ isBox b) Mat 4 (by decide) ?_ ?_ _ _ _ ⟨b, rfl, hb⟩ (fun _ h => nomatch h) (by rw [intsD_len]; rfl)⟩
    · rintro d S K ⟨b, rfl, hb⟩ hK
      simp (config := { maxSteps := 2000000 }) only [vNext, vSeq, vBreak, vCont, vIfS, vRet, vRetN, vDrop, canSet_eq, sf_em, sf_ow, Option.elim_some, vAsg, vPar, gvName, gvNil, gvCons, gvTup, vAsgG, vFor, vWhile, vYes, vC, vVar, vMove, vSlot, vSh, vOp, vTest, vAnd, vOr, vNot, vAndV, vOrV, vNotV, vIf, vNilA, vConsA, getA, valsA, vTup, vLst, vNoPart, vPart, vSl, vUn, vCB, vChain, pIsi, pIsiT, ioIdx, resolve, pb, callB, vCall, vCallK, permute, pd1, pLen, pAbs, pInt1, pTuple, pList, pRepr, vSeqI, vRng1, vRng2, vZip, vEnum, vMth, vMeth, pmAppend, pmExtend, pmPop, vSetIx, vAug, vOrT, truD, pdAdd, pdSub, pdMul, pdFdiv, pdMod, pdPow, pdInt, pdEq, pdNe, bothStr, true_or, or_true, pdOrd, pdLt, pdGt, pdLe, pdGe, pdIs, isNn, pdIx, pdNeg, pdRev, Bo.get, Sl.con, Sl.put, O.dat, datL, datF, O.rd, noD, wipeS, slotsOf, endsP, outs0, outs1, outs2, ioNil, ioOne, List.length_cons, List.length_nil, List.replicate, List.cons_append, List.nil_append, List.set_cons_zero, List.set_cons_succ, List.getElem?_cons_zero, List.getElem?_cons_succ, List.getElem?_nil, List.getD_cons_zero, List.getD_cons_succ, List.filterMap_cons, List.filterMap_nil, Option.map_some, Option.bind_some, Option.map, Option.some.injEq, List.cons.injEq, O.sh.injEq, O.lst.injEq, O.dct.injEq, false_and, and_false, Sl.ow.injEq, Sl.io.injEq, PyData.int.injEq, PyData.bool.injEq, PyData.str.injEq, PyData.list.injEq, PyData.tuple.injEq, reduceCtorEq, exists_eq_left, exists_eq_left', exists_eq', exists_const, exists_and_left, exists_and_right, and_assoc, false_or, or_false, Int.toNat_natCast, Bool.false_eq_true, and_true, true_and, and_self, ne_eq, not_false_eq_true, not_true_eq_false, if_true, if_false, ↓reduceIte, Nat.reduceSub, Nat.reduceAdd, Nat.reduceEqDiff, at30, at31, at32, ix30, ix32, Nat.succ_ne_zero, st9, spec__law_odd, Odd]
      exact ⟨hb, fun d b' hd hb' => hK _ _ ⟨1, 2, 100, hd, by decide, by decide, by decide⟩ ⟨b', rfl, hb'⟩⟩
    · rintro acc S ⟨b, rfl, hb⟩ hP hl2
      simp (config := { maxSteps := 2000000 }) only [vNext, vSeq, vBreak, vCont, vIfS, vRet, vRetN, vDrop, canSet_eq, sf_em, sf_ow, Option.elim_some, vAsg, vPar, gvName, gvNil, gvCons, gvTup, vAsgG, vFor, vWhile, vYes, vC, vVar, vMove, vSlot, vSh, vOp, vTest, vAnd, vOr, vNot, vAndV, vOrV, vNotV, vIf, vNilA, vConsA, getA, valsA, vTup, vLst, vNoPart, vPart, vSl, vUn, vCB, vChain, pIsi, pIsiT, ioIdx, resolve, pb, callB, vCall, vCallK, permute, pd1, pLen, pAbs, pInt1, pTuple, pList, pRepr, vSeqI, vRng1, vRng2, vZip, vEnum, vMth, vMeth, pmAppend, pmExtend, pmPop, vSetIx, vAug, vOrT, truD, pdAdd, pdSub, pdMul, pdFdiv, pdMod, pdPow, pdInt, pdEq, pdNe, bothStr, true_or, or_true, pdOrd, pdLt, pdGt, pdLe, pdGe, pdIs, isNn, pdIx, pdNeg, pdRev, Bo.get, Sl.con, Sl.put, O.dat, datL, datF, O.rd, noD, wipeS, slotsOf, endsP, outs0, outs1, outs2, ioNil, ioOne, List.length_cons, List.length_nil, List.replicate, List.cons_append, List.nil_append, List.set_cons_zero, List.set_cons_succ, List.getElem?_cons_zero, List.getElem?_cons_succ, List.getElem?_nil, List.getD_cons_zero, List.getD_cons_succ, List.filterMap_cons, List.filterMap_nil, Option.map_some, Option.bind_some, Option.map, Option.some.injEq, List.cons.injEq, O.sh.injEq, O.lst.injEq, O.dct.injEq, false_and, and_false, Sl.ow.injEq, Sl.io.injEq, PyData.int.injEq, PyData.bool.injEq, PyData.str.injEq, PyData.list.injEq, PyData.tuple.injEq, reduceCtorEq, exists_eq_left, exists_eq_left', exists_eq', exists_const, exists_and_left, exists_and_right, and_assoc, false_or, or_false, Int.toNat_natCast, Bool.false_eq_true, and_true, true_and, and_self, ne_eq, not_false_eq_true, not_true_eq_false, if_true, if_false, ↓reduceIte, Nat.reduceSub, Nat.reduceAdd, Nat.reduceEqDiff, at30, at31, at32, ix30, ix32, Nat.succ_ne_zero, st9]
      refine ⟨lnum (by omega), ?_⟩
      have all : ∀ x ∈ ms ++ acc, Mat x := fun x hx => (List.mem_append.mp hx).elim (hm x) (hP x)
      refine for_keep (fun S => ∃ s6 s10 s11 s12 s13, S = st9 v1 b ys zs xs n (.tuple (es.map .int)) (.ow (.lst ms)) .em s6 s9 s10 s11 s12 s13 ∧ slotFree s6 = true ∧ slotFree s10 = true ∧ slotFree s11 = true ∧ slotFree s12 = true ∧ slotFree s13 = true) Mat ?_ ?_ _ _ ⟨.em, .em, .em, .em, .em, rfl, rfl, rfl, rfl, rfl, rfl⟩ all
      · rintro x S K mx ⟨s6, s10, s11, s12, s13, rfl, f6, f10, f11, f12, f13⟩ hK
        refine ⟨by rw [canSet_eq]; exact f6, ?_⟩
        simp (config := { maxSteps := 2000000 }) only [vNext, vSeq, vBreak, vCont, vIfS, vRet, vRetN, vDrop, canSet_eq, sf_em, sf_ow, Option.elim_some, vAsg, vPar, gvName, gvNil, gvCons, gvTup, vAsgG, vFor, vWhile, vYes, vC, vVar, vMove, vSlot, vSh, vOp, vTest, vAnd, vOr, vNot, vAndV, vOrV, vNotV, vIf, vNilA, vConsA, getA, valsA, vTup, vLst, vNoPart, vPart, vSl, vUn, vCB, vChain, pIsi, pIsiT, ioIdx, resolve, pb, callB, vCall, vCallK, permute, pd1, pLen, pAbs, pInt1, pTuple, pList, pRepr, vSeqI, vRng1, vRng2, vZip, vEnum, vMth, vMeth, pmAppend, pmExtend, pmPop, vSetIx, vAug, vOrT, truD, pdAdd, pdSub, pdMul, pdFdiv, pdMod, pdPow, pdInt, pdEq, pdNe, bothStr, true_or, or_true, pdOrd, pdLt, pdGt, pdLe, pdGe, pdIs, isNn, pdIx, pdNeg, pdRev, Bo.get, Sl.con, Sl.put, O.dat, datL, datF, O.rd, noD, wipeS, slotsOf, endsP, outs0, outs1, outs2, ioNil, ioOne, List.length_cons, List.length_nil, List.replicate, List.cons_append, List.nil_append, List.set_cons_zero, List.set_cons_succ, List.getElem?_cons_zero, List.getElem?_cons_succ, List.getElem?_nil, List.getD_cons_zero, List.getD_cons_succ, List.filterMap_cons, List.filterMap_nil, Option.map_some, Option.bind_some, Option.map, Option.some.injEq, List.cons.injEq, O.sh.injEq, O.lst.injEq, O.dct.injEq, false_and, and_false, Sl.ow.injEq, Sl.io.injEq, PyData.int.injEq, PyData.bool.injEq, PyData.str.injEq, PyData.list.injEq, PyData.tuple.injEq, reduceCtorEq, exists_eq_left, exists_eq_left', exists_eq', exists_const, exists_and_left, exists_and_right, and_assoc, false_or, or_false, Int.toNat_natCast, Bool.false_eq_true, and_true, true_and, and_self, ne_eq, not_false_eq_true, not_true_eq_false, if_true, if_false, ↓reduceIte, Nat.reduceSub, Nat.reduceAdd, Nat.reduceEqDiff, at30, at31, at32, ix30, ix32, Nat.succ_ne_zero, st9]
        refine ⟨lnum (by decide), ?_⟩
        refine for_keep (fun S => ∃ s10 s11 s12 s13, S = st9 v1 b ys zs xs n (.tuple (es.map .int)) (.ow (.lst ms)) .em (.ow (.sh x)) s9 s10 s11 s12 s13 ∧ slotFree s10 = true ∧ slotFree s11 = true ∧ slotFree s12 = true ∧ slotFree s13 = true) (fun d => ∃ ws : List Str, d = .tuple (ws.map .str) ∧ Small ws 50) ?_ ?_ _ _ ⟨s10, s11, s12, s13, rfl, f10, f11, f12, f13⟩ ?_
        · rintro d S K2 ⟨ws, rfl, hw⟩ ⟨s10, s11, s12, s13, rfl, f10, f11, f12, f13⟩ hK2
          exact ⟨by rw [canSet_eq]; exact f10, inner_ok (hx.mono (by decide)) hw mx f11 f12 f13 fun o11 o12 o13 => hK2 _ ⟨_, _, _, _, rfl, rfl, rfl, rfl, rfl⟩⟩
        · rintro S ⟨s10, s11, s12, s13, rfl, f10, f11, f12, f13⟩
          exact hK _ ⟨_, _, _, _, _, rfl, rfl, f10, f11, f12, f13⟩
        · intro d hd
          simp only [List.mem_cons, List.not_mem_nil, or_false] at hd
          rcases hd with rfl | rfl
          · exact ⟨ys, rfl, hy.mono (by decide)⟩
          · exact ⟨zs, rfl, hz.mono (by decide)⟩
      · rintro S ⟨s6, s10, s11, s12, s13, rfl, _⟩
        exact hK _ ⟨b, _, _, _, _, _, _, _, _, rfl, hb⟩
  rintro S1 ⟨b, s4, s5, s6, s9, s10, s11, s12, s13, rfl, hb⟩
  simp (config := { maxSteps := 2000000 }) only [vNext, vSeq, vBreak, vCont, vIfS, vRet, vRetN, vDrop, canSet_eq, sf_em, sf_ow, Option.elim_some, vAsg, vPar, gvName, gvNil, gvCons, gvTup, vAsgG, vFor, vWhile, vYes, vC, vVar, vMove, vSlot, vSh, vOp, vTest, vAnd, vOr, vNot, vAndV, vOrV, vNotV, vIf, vNilA, vConsA, getA, valsA, vTup, vLst, vNoPart, vPart, vSl, vUn, vCB, vChain, pIsi, pIsiT, ioIdx, resolve, pb, callB, vCall, vCallK, permute, pd1, pLen, pAbs, pInt1, pTuple, pList, pRepr, vSeqI, vRng1, vRng2, vZip, vEnum, vMth, vMeth, pmAppend, pmExtend, pmPop, vSetIx, vAug, vOrT, truD, pdAdd, pdSub, pdMul, pdFdiv, pdMod, pdPow, pdInt, pdEq, pdNe, bothStr, true_or, or_true, pdOrd, pdLt, pdGt, pdLe, pdGe, pdIs, isNn, pdIx, pdNeg, pdRev, Bo.get, Sl.con, Sl.put, O.dat, datL, datF, O.rd, noD, wipeS, slotsOf, endsP, outs0, outs1, outs2, ioNil, ioOne, List.length_cons, List.length_nil, List.replicate, List.cons_append, List.nil_append, List.set_cons_zero, List.set_cons_succ, List.getElem?_cons_zero, List.getElem?_cons_succ, List.getElem?_nil, List.getD_cons_zero, List.getD_cons_succ, List.filterMap_cons, List.filterMap_nil, Option.map_some, Option.bind_some, Option.map, Option.some.injEq, List.cons.injEq, O.sh.injEq, O.lst.injEq, O.dct.injEq, false_and, and_false, Sl.ow.injEq, Sl.io.injEq, PyData.int.injEq, PyData.bool.injEq, PyData.str.injEq, PyData.list.injEq, PyData.tuple.injEq, reduceCtorEq, exists_eq_left, exists_eq_left', exists_eq', exists_const, exists_and_left, exists_and_right, and_assoc, false_or, or_false, Int.toNat_natCast, Bool.false_eq_true, and_true, true_and, and_self, ne_eq, not_false_eq_true, not_true_eq_false, if_true, if_false, ↓reduceIte, Nat.reduceSub, Nat.reduceAdd, Nat.reduceEqDiff, at30, at31, at32, ix30, ix32, Nat.succ_ne_zero, st9, spec_shows_parting, ShowsP]
  refine ⟨ys, .inl rfl, xs, .inl rfl, fy, fx, hy.ne, hx.ne, by omega, fm.2, ?_⟩
  simp (config := { maxSteps := 2000000 }) only [vNext, vSeq, vBreak, vCont, vIfS, vRet, vRetN, vDrop, canSet_eq, sf_em, sf_ow, Option.elim_some, vAsg, vPar, gvName, gvNil, gvCons, gvTup, vAsgG, vFor, vWhile, vYes, vC, vVar, vMove, vSlot, vSh, vOp, vTest, vAnd, vOr, vNot, vAndV, vOrV, vNotV, vIf, vNilA, vConsA, getA, valsA, vTup, vLst, vNoPart, vPart, vSl, vUn, vCB, vChain, pIsi, pIsiT, ioIdx, resolve, pb, callB, vCall, vCallK, permute, pd1, pLen, pAbs, pInt1, pTuple, pList, pRepr, vSeqI, vRng1, vRng2, vZip, vEnum, vMth, vMeth, pmAppend, pmExtend, pmPop, vSetIx, vAug, vOrT, truD, pdAdd, pdSub, pdMul, pdFdiv, pdMod, pdPow, pdInt, pdEq, pdNe, bothStr, true_or, or_true, pdOrd, pdLt, pdGt, pdLe, pdGe, pdIs, isNn, pdIx, pdNeg, pdRev, Bo.get, Sl.con, Sl.put, O.dat, datL, datF, O.rd, noD, wipeS, slotsOf, endsP, outs0, outs1, outs2, ioNil, ioOne, List.length_cons, List.length_nil, List.replicate, List.cons_append, List.nil_append, List.set_cons_zero, List.set_cons_succ, List.getElem?_cons_zero, List.getElem?_cons_succ, List.getElem?_nil, List.getD_cons_zero, List.getD_cons_succ, List.filterMap_cons, List.filterMap_nil, Option.map_some, Option.bind_some, Option.map, Option.some.injEq, List.cons.injEq, O.sh.injEq, O.lst.injEq, O.dct.injEq, false_and, and_false, Sl.ow.injEq, Sl.io.injEq, PyData.int.injEq, PyData.bool.injEq, PyData.str.injEq, PyData.list.injEq, PyData.tuple.injEq, reduceCtorEq, exists_eq_left, exists_eq_left', exists_eq', exists_const, exists_and_left, exists_and_right, and_assoc, false_or, or_false, Int.toNat_natCast, Bool.false_eq_true, and_true, true_and, and_self, ne_eq, not_false_eq_true, not_true_eq_false, if_true, if_false, ↓reduceIte, Nat.reduceSub, Nat.reduceAdd, Nat.reduceEqDiff, at30, at31, at32, ix30, ix32, Nat.succ_ne_zero, ev, spec_shows_parting, ms_shows_parting]
  show ∃ os', Outs ms__law_right [v1] [bx] (st9 v1 b ys zs xs n (.tuple (es.map .int)) s4 s5 s6 s9 s10 s11 s12 s13) os' ∧ R (.sh (.bool true)) os'
  simp (config := { maxSteps := 2000000 }) only [vNext, vSeq, vBreak, vCont, vIfS, vRet, vRetN, vDrop, canSet_eq, sf_em, sf_ow, Option.elim_some, vAsg, vPar, gvName, gvNil, gvCons, gvTup, vAsgG, vFor, vWhile, vYes, vC, vVar, vMove, vSlot, vSh, vOp, vTest, vAnd, vOr, vNot, vAndV, vOrV, vNotV, vIf, vNilA, vConsA, getA, valsA, vTup, vLst, vNoPart, vPart, vSl, vUn, vCB, vChain, pIsi, pIsiT, ioIdx, resolve, pb, callB, vCall, vCallK, permute, pd1, pLen, pAbs, pInt1, pTuple, pList, pRepr, vSeqI, vRng1, vRng2, vZip, vEnum, vMth, vMeth, pmAppend, pmExtend, pmPop, vSetIx, vAug, vOrT, truD, pdAdd, pdSub, pdMul, pdFdiv, pdMod, pdPow, pdInt, pdEq, pdNe, bothStr, true_or, or_true, pdOrd, pdLt, pdGt, pdLe, pdGe, pdIs, isNn, pdIx, pdNeg, pdRev, Bo.get, Sl.con, Sl.put, O.dat, datL, datF, O.rd, noD, wipeS, slotsOf, endsP, outs0, outs1, outs2, ioNil, ioOne, List.length_cons, List.length_nil, List.replicate, List.cons_append, List.nil_append, List.set_cons_zero, List.set_cons_succ, List.getElem?_cons_zero, List.getElem?_cons_succ, List.getElem?_nil, List.getD_cons_zero, List.getD_cons_succ, List.filterMap_cons, List.filterMap_nil, Option.map_some, Option.bind_some, Option.map, Option.some.injEq, List.cons.injEq, O.sh.injEq, O.lst.injEq, O.dct.injEq, false_and, and_false, Sl.ow.injEq, Sl.io.injEq, PyData.int.injEq, PyData.bool.injEq, PyData.str.injEq, PyData.list.injEq, PyData.tuple.injEq, reduceCtorEq, exists_eq_left, exists_eq_left', exists_eq', exists_const, exists_and_left, exists_and_right, and_assoc, false_or, or_false, Int.toNat_natCast, Bool.false_eq_true, and_true, true_and, and_self, ne_eq, not_false_eq_true, not_true_eq_false, if_true, if_false, ↓reduceIte, Nat.reduceSub, Nat.reduceAdd, Nat.reduceEqDiff, at30, at31, at32, ix30, ix32, Nat.succ_ne_zero, st9]
  exact q b hb
end VL

set_option Elab.async false
set_option linter.all false
set_option maxRecDepth 100000
set_option maxHeartbeats 1000000
namespace VL
open PySem PySem.Spec PyProof.Rows L2
variable [Wd]
theorem all_true (n : Nat) : (List.replicate n true).all id = true := by
  rw [List.all_eq_true]
  intro x hx
  rw [(List.mem_replicate.mp hx).2]
  rfl
theorem right_lc {s0 s1 s2 : Sl} {R : List PyData → Ss → Prop} (fin : ∀ b, isBox b → R ((List.replicate 3 true).map .bool) [s0, s1, s2, .ow b, .em]) :
    ∀ rem acc S, (∃ (b : O) (k : Nat), S = [s0, s1, s2, Sl.ow b, .em] ∧ isBox b ∧ acc = (List.replicate k true).map PyData.bool ∧ k + rem.length = 3) →
    lcW (gvName 4) vYes (vCall [true] Right (vConsA (vSlot 3) vNilA)) [4] R rem acc S := by
  refine lc_ind _ ?_ ?_
  · rintro d ds acc S K hK ⟨b, k, rfl, hb, rfl, hl⟩
    rw [List.length_cons] at hl
    simp (config := { maxSteps := 2000000 }) only [vNext, vSeq, vBreak, vCont, vIfS, vRet, vRetN, vDrop, canSet_eq, sf_em, sf_ow, Option.elim_some, vAsg, vPar, gvName, gvNil, gvCons, gvTup, vAsgG, vFor, vWhile, vYes, vC, vVar, vMove, vSlot, vSh, vOp, vTest, vAnd, vOr, vNot, vAndV, vOrV, vNotV, vIf, vNilA, vConsA, getA, valsA, vTup, vLst, vNoPart, vPart, vSl, vUn, vCB, vChain, pIsi, pIsiT, ioIdx, resolve, pb, callB, vCall, vCallK, permute, pd1, pLen, pAbs, pInt1, pTuple, pList, pRepr, vSeqI, vRng1, vRng2, vZip, vEnum, vMth, vMeth, pmAppend, pmExtend, pmPop, vSetIx, vAug, vOrT, truD, pdAdd, pdSub, pdMul, pdFdiv, pdMod, pdPow, pdInt, pdEq, pdNe, bothStr, true_or, or_true, pdOrd, pdLt, pdGt, pdLe, pdGe, pdIs, isNn, pdIx, pdNeg, pdRev, Bo.get, Sl.con, Sl.put, O.dat, datL, datF, O.rd, noD, wipeS, slotsOf, endsP, outs0, outs1, outs2, ioNil, ioOne, List.length_cons, List.length_nil, List.replicate, List.cons_append, List.nil_append, List.set_cons_zero, List.set_cons_succ, List.getElem?_cons_zero, List.getElem?_cons_succ, List.getElem?_nil, List.getD_cons_zero, List.getD_cons_succ, List.filterMap_cons, List.filterMap_nil, Option.map_some, Option.bind_some, Option.map, Option.some.injEq, List.cons.injEq, O.sh.injEq, O.lst.injEq, O.dct.injEq, false_and, and_false, Sl.ow.injEq, Sl.io.injEq, PyData.int.injEq, PyData.bool.injEq, PyData.str.injEq, PyData.list.injEq, PyData.tuple.injEq, reduceCtorEq, exists_eq_left, exists_eq_left', exists_eq', exists_const, exists_and_left, exists_and_right, and_assoc, false_or, or_false, Int.toNat_natCast, Bool.false_eq_true, and_true, true_and, and_self, ne_eq, not_false_eq_true, not_true_eq_false, if_true, if_false, ↓reduceIte, Nat.reduceSub, Nat.reduceAdd, Nat.reduceEqDiff, at30, at31, at32, ix30, ix32, Nat.succ_ne_zero, Right]
    refine ⟨hb, fun b2 hb2 => ⟨by rw [List.length_map, List.length_replicate, sizeLine_eq]; omega, ?_⟩⟩
    exact hK _ _ ⟨b2, k + 1, rfl, hb2, by rw [List.replicate_succ', List.map_append]; rfl, by omega⟩
  · rintro acc S ⟨b, k, rfl, hb, rfl, hl⟩
    have e : k = 3 := by
      have : k + 0 = 3 := hl
      omega
    subst e
    exact fin b hb
def lawT : VS := vSeq (vAsg (vCall ms__law_box spec__law_box (vConsA (vSh (vVar 1)) (vConsA (vSh (vVar 2)) (vNilA)))) 3) (vIfS (vNot (vTest (vCB (pd1 (pAll false)) (vConsA (vSh (vLc (vRng1 (vConsA (vSh (vC (.int 3))) (vNilA))) (gvName 4) (vYes) (vCall ms__law_right spec__law_right (vConsA (vSlot 3) (vNilA))) [4])) (vNilA))))) (vRet (vC (.bool false))) (vNext))
theorem law_loop {s0 : Sl} {cs : List Int} {D : VEnds} (fin : ∀ o s2 s3, D.nx [s0, .ow o, s2, s3, .em]) :
    ∀ rem S, ((∀ x ∈ rem, ∃ k : Nat, x = .int (k : Nat) ∧ k < cs.length) ∧ ∃ o s2 s3, S = [s0, Sl.ow o, s2, s3, .em] ∧ (o = O.lst (cs.map .int) ∨ o = .sh (.list (cs.map .int))) ∧ Free s2 ∧ Free s3) → forW (gvName 2) lawT D rem S := by
  refine for_ind _ ?_ ?_
  · rintro x rem S K hK ⟨hr, o, s2, s3, rfl, ho, f2, f3⟩
    obtain ⟨k, rfl, hk⟩ := hr x List.mem_cons_self
    have go : ∀ s3, Free s3 → lawT { D with nx := K, ct := K, bk := D.nx } [s0, .ow o, .ow (.sh (.int (k : Nat))), s3, .em] := by
      intro s3 f3
      unfold lawT
      refine seq_cut (fun S' => ∃ b o, S' = [s0, Sl.ow o, .ow (.sh (.int (k : Nat))), .ow b, .em] ∧ isBox b ∧ (o = O.lst (cs.map .int) ∨ o = .sh (.list (cs.map .int)))) ?_ ?_
      · intro K' hK'
        rcases ho with rfl | rfl
        all_goals
          rcases f3 with rfl | ⟨o3, rfl⟩
          all_goals
            simp (config := { maxSteps := 2000000 }) only [vNext, vSeq, vBreak, vCont, vIfS, vRet, vRetN, vDrop, canSet_eq, sf_em, sf_ow, Option.elim_some, vAsg, vPar, gvName, gvNil, gvCons, gvTup, vAsgG, vFor, vWhile, vYes, vC, vVar, vMove, vSlot, vSh, vOp, vTest, vAnd, vOr, vNot, vAndV, vOrV, vNotV, vIf, vNilA, vConsA, getA, valsA, vTup, vLst, vNoPart, vPart, vSl, vUn, vCB, vChain, pIsi, pIsiT, ioIdx, resolve, pb, callB, vCall, vCallK, permute, pd1, pLen, pAbs, pInt1, pTuple, pList, pRepr, vSeqI, vRng1, vRng2, vZip, vEnum, vMth, vMeth, pmAppend, pmExtend, pmPop, vSetIx, vAug, vOrT, truD, pdAdd, pdSub, pdMul, pdFdiv, pdMod, pdPow, pdInt, pdEq, pdNe, bothStr, true_or, or_true, pdOrd, pdLt, pdGt, pdLe, pdGe, pdIs, isNn, pdIx, pdNeg, pdRev, Bo.get, Sl.con, Sl.put, O.dat, datL, datF, O.rd, noD, wipeS, slotsOf, endsP, outs0, outs1, outs2, ioNil, ioOne, List.length_cons, List.length_nil, List.replicate, List.cons_append, List.nil_append, List.set_cons_zero, List.set_cons_succ, List.getElem?_cons_zero, List.getElem?_cons_succ, List.getElem?_nil, List.getD_cons_zero, List.getD_cons_succ, List.filterMap_cons, List.filterMap_nil, Option.map_some, Option.bind_some, Option.map, Option.some.injEq, List.cons.injEq, O.sh.injEq, O.lst.injEq, O.dct.injEq, false_and, and_false, Sl.ow.injEq, Sl.io.injEq, PyData.int.injEq, PyData.bool.injEq, PyData.str.injEq, PyData.list.injEq, PyData.tuple.injEq, reduceCtorEq, exists_eq_left, exists_eq_left', exists_eq', exists_const, exists_and_left, exists_and_right, and_assoc, false_or, or_false, Int.toNat_natCast, Bool.false_eq_true, and_true, true_and, and_self, ne_eq, not_false_eq_true, not_true_eq_false, if_true, if_false, ↓reduceIte, Nat.reduceSub, Nat.reduceAdd, Nat.reduceEqDiff, at30, at31, at32, ix30, ix32, Nat.succ_ne_zero, spec__law_box, BoxOf]
            exact ⟨cs, rfl, by omega, by omega, fun b hb => hK' _ ⟨b, _, rfl, hb, .inr rfl⟩⟩
      · rintro S' ⟨b, o, rfl, hb, ho⟩
        simp (config := { maxSteps := 2000000 }) only [vNext, vSeq, vBreak, vCont, vIfS, vRet, vRetN, vDrop, canSet_eq, sf_em, sf_ow, Option.elim_some, vAsg, vPar, gvName, gvNil, gvCons, gvTup, vAsgG, vFor, vWhile, vYes, vC, vVar, vMove, vSlot, vSh, vOp, vTest, vAnd, vOr, vNot, vAndV, vOrV, vNotV, vIf, vNilA, vConsA, getA, valsA, vTup, vLst, vNoPart, vPart, vSl, vUn, vCB, vChain, pIsi, pIsiT, ioIdx, resolve, pb, callB, vCall, vCallK, permute, pd1, pLen, pAbs, pInt1, pTuple, pList, pRepr, vSeqI, vRng1, vRng2, vZip, vEnum, vMth, vMeth, pmAppend, pmExtend, pmPop, vSetIx, vAug, vOrT, truD, pdAdd, pdSub, pdMul, pdFdiv, pdMod, pdPow, pdInt, pdEq, pdNe, bothStr, true_or, or_true, pdOrd, pdLt, pdGt, pdLe, pdGe, pdIs, isNn, pdIx, pdNeg, pdRev, Bo.get, Sl.con, Sl.put, O.dat, datL, datF, O.rd, noD, wipeS, slotsOf, endsP, outs0, outs1, outs2, ioNil, ioOne, List.length_cons, List.length_nil, List.replicate, List.cons_append, List.nil_append, List.set_cons_zero, List.set_cons_succ, List.getElem?_cons_zero, List.getElem?_cons_succ, List.getElem?_nil, List.getD_cons_zero, List.getD_cons_succ, List.filterMap_cons, List.filterMap_nil, Option.map_some, Option.bind_some, Option.map, Option.some.injEq, List.cons.injEq, O.sh.injEq, O.lst.injEq, O.dct.injEq, false_and, and_false, Sl.ow.injEq, Sl.io.injEq, PyData.int.injEq, PyData.bool.injEq, PyData.str.injEq, PyData.list.injEq, PyData.tuple.injEq, reduceCtorEq, exists_eq_left, exists_eq_left', exists_eq', exists_const, exists_and_left, exists_and_right, and_assoc, false_or, or_false, Int.toNat_natCast, Bool.false_eq_true, and_true, true_and, and_self, ne_eq, not_false_eq_true, not_true_eq_false, if_true, if_false, ↓reduceIte, Nat.reduceSub, Nat.reduceAdd, Nat.reduceEqDiff, at30, at31, at32, ix30, ix32, Nat.succ_ne_zero, vLc]
        refine ⟨by decide, by decide, right_lc (fun b2 hb2 => ?_) _ _ _ ⟨b, 0, rfl, hb, rfl, by rw [intsD_len]; rfl⟩⟩
        simp (config := { maxSteps := 2000000 }) only [vNext, vSeq, vBreak, vCont, vIfS, vRet, vRetN, vDrop, canSet_eq, sf_em, sf_ow, Option.elim_some, vAsg, vPar, gvName, gvNil, gvCons, gvTup, vAsgG, vFor, vWhile, vYes, vC, vVar, vMove, vSlot, vSh, vOp, vTest, vAnd, vOr, vNot, vAndV, vOrV, vNotV, vIf, vNilA, vConsA, getA, valsA, vTup, vLst, vNoPart, vPart, vSl, vUn, vCB, vChain, pIsi, pIsiT, ioIdx, resolve, pb, callB, vCall, vCallK, permute, pd1, pLen, pAbs, pInt1, pTuple, pList, pRepr, vSeqI, vRng1, vRng2, vZip, vEnum, vMth, vMeth, pmAppend, pmExtend, pmPop, vSetIx, vAug, vOrT, truD, pdAdd, pdSub, pdMul, pdFdiv, pdMod, pdPow, pdInt, pdEq, pdNe, bothStr, true_or, or_true, pdOrd, pdLt, pdGt, pdLe, pdGe, pdIs, isNn, pdIx, pdNeg, pdRev, Bo.get, Sl.con, Sl.put, O.dat, datL, datF, O.rd, noD, wipeS, slotsOf, endsP, outs0, outs1, outs2, ioNil, ioOne, List.length_cons, List.length_nil, List.replicate, List.cons_append, List.nil_append, List.set_cons_zero, List.set_cons_succ, List.getElem?_cons_zero, List.getElem?_cons_succ, List.getElem?_nil, List.getD_cons_zero, List.getD_cons_succ, List.filterMap_cons, List.filterMap_nil, Option.map_some, Option.bind_some, Option.map, Option.some.injEq, List.cons.injEq, O.sh.injEq, O.lst.injEq, O.dct.injEq, false_and, and_false, Sl.ow.injEq, Sl.io.injEq, PyData.int.injEq, PyData.bool.injEq, PyData.str.injEq, PyData.list.injEq, PyData.tuple.injEq, reduceCtorEq, exists_eq_left, exists_eq_left', exists_eq', exists_const, exists_and_left, exists_and_right, and_assoc, false_or, or_false, Int.toNat_natCast, Bool.false_eq_true, and_true, true_and, and_self, ne_eq, not_false_eq_true, not_true_eq_false, if_true, if_false, ↓reduceIte, Nat.reduceSub, Nat.reduceAdd, Nat.reduceEqDiff, at30, at31, at32, ix30, ix32, Nat.succ_ne_zero, pAll]
        refine ⟨List.replicate 3 true, rfl, ?_⟩
        rw [all_true]
        exact hK _ ⟨fun y hy => hr y (List.mem_cons_of_mem _ hy), o, _, _, rfl, ho, .inr ⟨_, rfl⟩, .inr ⟨_, rfl⟩⟩
    rcases f2 with rfl | ⟨o2, rfl⟩
    · exact ⟨rfl, go s3 f3⟩
    · exact ⟨rfl, go s3 f3⟩
  · rintro S ⟨_, o, s2, s3, rfl, _⟩
    exact fin o s2 s3
theorem run_law : Runs ms_law specLaw t_law 4 := by
  rintro vs os R h1 h2 sh ⟨ns, rfl, hn, q⟩
  obtain ⟨v1, rfl⟩ := len1 h1
  unfold t_law
  refine seq_cut (fun S' => ∃ cs : List Int, S' = [Sl.ow (.sh (scrD ns)), .ow (.lst (cs.map .int)), .em, .em, .em] ∧ cs.length ≤ 3) ?_ ?_
  · intro K hK
    simp (config := { maxSteps := 2000000 }) only [vNext, vSeq, vBreak, vCont, vIfS, vRet, vRetN, vDrop, canSet_eq, sf_em, sf_ow, Option.elim_some, vAsg, vPar, gvName, gvNil, gvCons, gvTup, vAsgG, vFor, vWhile, vYes, vC, vVar, vMove, vSlot, vSh, vOp, vTest, vAnd, vOr, vNot, vAndV, vOrV, vNotV, vIf, vNilA, vConsA, getA, valsA, vTup, vLst, vNoPart, vPart, vSl, vUn, vCB, vChain, pIsi, pIsiT, ioIdx, resolve, pb, callB, vCall, vCallK, permute, pd1, pLen, pAbs, pInt1, pTuple, pList, pRepr, vSeqI, vRng1, vRng2, vZip, vEnum, vMth, vMeth, pmAppend, pmExtend, pmPop, vSetIx, vAug, vOrT, truD, pdAdd, pdSub, pdMul, pdFdiv, pdMod, pdPow, pdInt, pdEq, pdNe, bothStr, true_or, or_true, pdOrd, pdLt, pdGt, pdLe, pdGe, pdIs, isNn, pdIx, pdNeg, pdRev, Bo.get, Sl.con, Sl.put, O.dat, datL, datF, O.rd, noD, wipeS, slotsOf, endsP, outs0, outs1, outs2, ioNil, ioOne, List.length_cons, List.length_nil, List.replicate, List.cons_append, List.nil_append, List.set_cons_zero, List.set_cons_succ, List.getElem?_cons_zero, List.getElem?_cons_succ, List.getElem?_nil, List.getD_cons_zero, List.getD_cons_succ, List.filterMap_cons, List.filterMap_nil, Option.map_some, Option.bind_some, Option.map, Option.some.injEq, List.cons.injEq, O.sh.injEq, O.lst.injEq, O.dct.injEq, false_and, and_false, Sl.ow.injEq, Sl.io.injEq, PyData.int.injEq, PyData.bool.injEq, PyData.str.injEq, PyData.list.injEq, PyData.tuple.injEq, reduceCtorEq, exists_eq_left, exists_eq_left', exists_eq', exists_const, exists_and_left, exists_and_right, and_assoc, false_or, or_false, Int.toNat_natCast, Bool.false_eq_true, and_true, true_and, and_self, ne_eq, not_false_eq_true, not_true_eq_false, if_true, if_false, ↓reduceIte, Nat.reduceSub, Nat.reduceAdd, Nat.reduceEqDiff, at30, at31, at32, ix30, ix32, Nat.succ_ne_zero, spec__law_cells, Cells]
    exact ⟨ns, rfl, hn, by decide, by decide, fun cs c0 c1 => hK _ ⟨cs, rfl, by omega⟩⟩
  rintro S1 ⟨cs, rfl, hc⟩
  refine seq_cut (fun S' => ∃ o s2 s3, S' = [Sl.ow (.sh (scrD ns)), .ow o, s2, s3, .em]) ?_ ?_
  · intro K hK
    show vFor (vRng1 (vConsA (vSh (vCB (pd1 pLen) (vConsA (vSlot 1) vNilA))) vNilA)) (gvName 2) lawT _ _
    simp (config := { maxSteps := 2000000 }) only [vNext, vSeq, vBreak, vCont, vIfS, vRet, vRetN, vDrop, canSet_eq, sf_em, sf_ow, Option.elim_some, vAsg, vPar, gvName, gvNil, gvCons, gvTup, vAsgG, vFor, vWhile, vYes, vC, vVar, vMove, vSlot, vSh, vOp, vTest, vAnd, vOr, vNot, vAndV, vOrV, vNotV, vIf, vNilA, vConsA, getA, valsA, vTup, vLst, vNoPart, vPart, vSl, vUn, vCB, vChain, pIsi, pIsiT, ioIdx, resolve, pb, callB, vCall, vCallK, permute, pd1, pLen, pAbs, pInt1, pTuple, pList, pRepr, vSeqI, vRng1, vRng2, vZip, vEnum, vMth, vMeth, pmAppend, pmExtend, pmPop, vSetIx, vAug, vOrT, truD, pdAdd, pdSub, pdMul, pdFdiv, pdMod, pdPow, pdInt, pdEq, pdNe, bothStr, true_or, or_true, pdOrd, pdLt, pdGt, pdLe, pdGe, pdIs, isNn, pdIx, pdNeg, pdRev, Bo.get, Sl.con, Sl.put, O.dat, datL, datF, O.rd, noD, wipeS, slotsOf, endsP, outs0, outs1, outs2, ioNil, ioOne, List.length_cons, List.length_nil, List.replicate, List.cons_append, List.nil_append, List.set_cons_zero, List.set_cons_succ, List.getElem?_cons_zero, List.getElem?_cons_succ, List.getElem?_nil, List.getD_cons_zero, List.getD_cons_succ, List.filterMap_cons, List.filterMap_nil, Option.map_some, Option.bind_some, Option.map, Option.some.injEq, List.cons.injEq, O.sh.injEq, O.lst.injEq, O.dct.injEq, false_and, and_false, Sl.ow.injEq, Sl.io.injEq, PyData.int.injEq, PyData.bool.injEq, PyData.str.injEq, PyData.list.injEq, PyData.tuple.injEq, reduceCtorEq, exists_eq_left, exists_eq_left', exists_eq', exists_const, exists_and_left, exists_and_right, and_assoc, false_or, or_false, Int.toNat_natCast, Bool.false_eq_true, and_true, true_and, and_self, ne_eq, not_false_eq_true, not_true_eq_false, if_true, if_false, ↓reduceIte, Nat.reduceSub, Nat.reduceAdd, Nat.reduceEqDiff, at30, at31, at32, ix30, ix32, Nat.succ_ne_zero, List.length_map]
    refine ⟨by omega, by omega, law_loop (cs := cs) (fun o s2 s3 => hK _ ⟨o, s2, s3, rfl⟩) _ _ ⟨fun x hx => ?_, _, .em, .em, rfl, .inl rfl, .inl rfl, .inl rfl⟩⟩
    obtain ⟨j, rfl, j1, j2⟩ := intsD_mem (lo := 0) hx
    exact ⟨j, rfl, by omega⟩
  rintro S2 ⟨o, s2, s3, rfl⟩
  simp (config := { maxSteps := 2000000 }) only [vNext, vSeq, vBreak, vCont, vIfS, vRet, vRetN, vDrop, canSet_eq, sf_em, sf_ow, Option.elim_some, vAsg, vPar, gvName, gvNil, gvCons, gvTup, vAsgG, vFor, vWhile, vYes, vC, vVar, vMove, vSlot, vSh, vOp, vTest, vAnd, vOr, vNot, vAndV, vOrV, vNotV, vIf, vNilA, vConsA, getA, valsA, vTup, vLst, vNoPart, vPart, vSl, vUn, vCB, vChain, pIsi, pIsiT, ioIdx, resolve, pb, callB, vCall, vCallK, permute, pd1, pLen, pAbs, pInt1, pTuple, pList, pRepr, vSeqI, vRng1, vRng2, vZip, vEnum, vMth, vMeth, pmAppend, pmExtend, pmPop, vSetIx, vAug, vOrT, truD, pdAdd, pdSub, pdMul, pdFdiv, pdMod, pdPow, pdInt, pdEq, pdNe, bothStr, true_or, or_true, pdOrd, pdLt, pdGt, pdLe, pdGe, pdIs, isNn, pdIx, pdNeg, pdRev, Bo.get, Sl.con, Sl.put, O.dat, datL, datF, O.rd, noD, wipeS, slotsOf, endsP, outs0, outs1, outs2, ioNil, ioOne, List.length_cons, List.length_nil, List.replicate, List.cons_append, List.nil_append, List.set_cons_zero, List.set_cons_succ, List.getElem?_cons_zero, List.getElem?_cons_succ, List.getElem?_nil, List.getD_cons_zero, List.getD_cons_succ, List.filterMap_cons, List.filterMap_nil, Option.map_some, Option.bind_some, Option.map, Option.some.injEq, List.cons.injEq, O.sh.injEq, O.lst.injEq, O.dct.injEq, false_and, and_false, Sl.ow.injEq, Sl.io.injEq, PyData.int.injEq, PyData.bool.injEq, PyData.str.injEq, PyData.list.injEq, PyData.tuple.injEq, reduceCtorEq, exists_eq_left, exists_eq_left', exists_eq', exists_const, exists_and_left, exists_and_right, and_assoc, false_or, or_false, Int.toNat_natCast, Bool.false_eq_true, and_true, true_and, and_self, ne_eq, not_false_eq_true, not_true_eq_false, if_true, if_false, ↓reduceIte, Nat.reduceSub, Nat.reduceAdd, Nat.reduceEqDiff, at30, at31, at32, ix30, ix32, Nat.succ_ne_zero]
  exact q
end VL

set_option Elab.async false
set_option linter.all false
set_option maxRecDepth 100000
namespace VL
open PySem PySem.Spec PyProof.Rows L2
variable [Wd]
theorem fg_mk {P : Program} {w : World} {K : PySem.W.Frag} {mg : Str → Option Value} {base : Heap} {x : Str} {st : Stmt} {f : Addr} {fd : FuncData} {N ps : List Str} {k e : Nat} {ms : List Bool} {spec : VSp} {t : VS} (F : Fun K x x st f fd) (S : FnScope N ps (defScope st)) (hm : ms.length = ps.length) (he : N.length - ms.length = e) (run : Runs ms spec t e)
    (dv : ∀ (cdv : Value) (A : Around) (outer : List Env) (s : Shared) (H : Hp) (E : XK), Room k (A.deeper (envOfC x (defScope st) s.heap.objs.size f cdv)) → A.guards = some [] → VSs (cxOf CX0 P w K mg base N x (defScope st) f cdv A outer s H E).nox (defBody st) t) : FnG P w K mg base CX0 (k + 1) f fd ps (spV K ms spec) :=
  fnv F S hm fun cdv A outer s H E hr hg => ⟨t, dv cdv A outer s H E hr hg, fun vs os R h1 h2 h3 h4 => by rw [he]; exact run vs os R h1 h2 h3 h4⟩
theorem df_mk {P : Program} {w : World} {K : PySem.W.Frag} {mg : Str → Option Value} {base : Heap} {x : Str} {st : Stmt} {f : Addr} {fd : FuncData} {N ps : List Str} {k e : Nat} {ms : List Bool} {kbs : List (List Str × List Nat)} {spec : VSp} {t : VS} (F : Fun K x x st f fd) (S : FnScope N ps (defScope st)) (hm : ms.length = ps.length) (he : N.length - ms.length = e) (run : Runs ms spec t e)
    (hx : mg x = some (.ref f)) (hk : PySem.W.keepIn K (.ref f) = true) (hb : Binds K fd ps []) (kb : ∀ q ∈ kbs, KB K fd ps q.1 q.2) (sm : SMono spec)
    (dv : ∀ (cdv : Value) (A : Around) (outer : List Env) (s : Shared) (H : Hp) (E : XK), Room k (A.deeper (envOfC x (defScope st) s.heap.objs.size f cdv)) → A.guards = some [] → VSs (cxOf CX0 P w K mg base N x (defScope st) f cdv A outer s H E).nox (defBody st) t) : Df P w K mg base (k + 1) x ps ms kbs spec :=
  ⟨⟨f, fd, fg_mk F S hm he run dv, hx, hk, hb, kb⟩, sm⟩
theorem sm_BoxOf : SMono BoxOf := fun os P P' i ⟨cs, k, h1, h2, h3, h⟩ => ⟨cs, k, h1, h2, h3, fun b hb => i _ _ (h b hb)⟩
theorem sm_Take : SMono Take := fun os P P' i ⟨bx, n, h1, h2, h3, h4, h⟩ => ⟨bx, n, h1, h2, h3, h4, fun k b a1 a2 a3 => i _ _ (h k b a1 a2 a3)⟩
theorem sm_Cells : SMono Cells := fun os P P' i ⟨ns, m, h1, h2, h3, h4, h⟩ => ⟨ns, m, h1, h2, h3, h4, fun cs a b => i _ _ (h cs a b)⟩
theorem sm_OneOf : SMono OneOf := fun os P P' i ⟨bx, d, ds, h1, h2, h3, h4, h5, h⟩ => ⟨bx, d, ds, h1, h2, h3, h4, h5, fun x b a1 a2 => i _ _ (h x b a1 a2)⟩
theorem sm_Strewn : SMono Strewn := fun os P P' i ⟨bx, d, ds, h1, h2, h3, h4, h⟩ => ⟨bx, d, ds, h1, h2, h3, h4, fun x b a1 a2 => i _ _ (h x b a1 a2)⟩
theorem sm_Same : SMono Same := fun os P P' i ⟨d, h1, h2, h⟩ => ⟨d, h1, h2, i _ _ h⟩
theorem sm_Ending : SMono Ending := fun os P P' i ⟨d, n, h1, h2, h⟩ => ⟨d, n, h1, h2, i _ _ h⟩
theorem sm_Alike : SMono Alike := fun os P P' i ⟨a, b, n, h1, h2, h3, h⟩ => ⟨a, b, n, h1, h2, h3, i _ _ h⟩
theorem sm_Pairs : SMono Pairs := fun os P P' i ⟨a, b, n, h1, h2, h3, h⟩ => ⟨a, b, n, h1, h2, h3, i _ _ h⟩
theorem sm_MissingPair : SMono MissingPair := fun os P P' i ⟨a, b, c, d, n, h1, h2, h3, h4, h5, h⟩ => ⟨a, b, c, d, n, h1, h2, h3, h4, h5, i _ _ h⟩
theorem sm_BothWays : SMono BothWays := fun os P P' i ⟨a, b, c, d, n, h1, h2, h3, h4, h5, h6, h7, h⟩ => ⟨a, b, c, d, n, h1, h2, h3, h4, h5, h6, h7, i _ _ h⟩
theorem sm_Span : SMono Span := fun os P P' i ⟨bx, h1, h2, h⟩ => ⟨bx, h1, h2, fun n b a1 a2 a3 => i _ _ (h n b a1 a2 a3)⟩
theorem sm_Terms : SMono Terms := fun os P P' i ⟨bx, h1, h2, h⟩ => ⟨bx, h1, h2, fun n b a1 a2 => i _ _ (h n b a1 a2)⟩
theorem sm_Scroll : SMono Scroll := fun os P P' i ⟨bx, m, h1, h2, h3, h4, h⟩ => ⟨bx, m, h1, h2, h3, h4, fun n b a1 a2 => i _ _ (h n b a1 a2)⟩
theorem sm_Leaps : SMono Leaps := fun os P P' i ⟨xs, n, h1, h2, h⟩ => ⟨xs, n, h1, h2, i _ _ h⟩
theorem sm_Leapt : SMono Leapt := fun os P P' i ⟨xs, p, h1, h2, h3, h4, h⟩ => ⟨xs, p, h1, h2, h3, h4, i _ _ h⟩
theorem sm_Page : SMono Page := fun os P P' i ⟨bx, xs, m, n, h1, h2, h3, h4, h⟩ => ⟨bx, xs, m, n, h1, h2, h3, h4, fun ys b a1 a2 a3 => i _ _ (h ys b a1 a2 a3)⟩
theorem sm_Changed : SMono Changed := fun os P P' i ⟨bx, xs, m, h1, h2, h3, h4, h⟩ => ⟨bx, xs, m, h1, h2, h3, h4, fun ys b a1 a2 => i _ _ (h ys b a1 a2)⟩
theorem sm_Right : SMono Right := fun os P P' i ⟨bx, h1, h2, h⟩ => ⟨bx, h1, h2, fun b a1 => i _ _ (h b a1)⟩
theorem sm_MatchedPairs : SMono MatchedPairs := fun os P P' i ⟨a, b, c, d, n, h1, h2, h3, h4, h5, h⟩ => ⟨a, b, c, d, n, h1, h2, h3, h4, h5, i _ _ h⟩
theorem sm_Obstacle : SMono Obstacle := fun os P P' i ⟨a, b, c, d, n, h1, h2, h3, h4, h5, h6, h7, h⟩ => ⟨a, b, c, d, n, h1, h2, h3, h4, h5, h6, h7, i _ _ h⟩
theorem sm_ComesFrom : SMono ComesFrom := fun os P P' i ⟨a, b, c, d, n, h1, h2, h3, h4, h5, h6, h7, h⟩ => ⟨a, b, c, d, n, h1, h2, h3, h4, h5, h6, h7, i _ _ h⟩
theorem sm_IsNumber : SMono IsNumber := fun os P P' i ⟨d, h1, h2, h⟩ => ⟨d, h1, h2, i _ _ h⟩
theorem sm_LeastParting : SMono LeastParting := fun os P P' i ⟨a, b, c, d, n, h1, h2, h3, h4, h5, h6, h7, h⟩ => ⟨a, b, c, d, n, h1, h2, h3, h4, h5, h6, h7, i _ _ h⟩
theorem sm_IsParting : SMono IsParting := fun os P P' i ⟨a, b, c, d, n, m, h1, h2, h3, h4, h5, h6, h7, h8, h⟩ => ⟨a, b, c, d, n, m, h1, h2, h3, h4, h5, h6, h7, h8, i _ _ h⟩
theorem sm_ShowsP : SMono ShowsP := fun os P P' i ⟨a, b, c, d, n, m, h1, h2, h3, h4, h5, h6, h7, h8, h9, h⟩ => ⟨a, b, c, d, n, m, h1, h2, h3, h4, h5, h6, h7, h8, h9, i _ _ h⟩
theorem sm_Odd : SMono Odd := fun os P P' i ⟨bx, h1, h2, h⟩ => ⟨bx, h1, h2, fun d b a1 a2 => i _ _ (h d b a1 a2)⟩
/-- a promise that is never claimed is kept -/
theorem df_no {P : Program} {w : World} {K : PySem.W.Frag} {mg : Str → Option Value} {base : Heap} {x : Str} {f : Addr} {fd : FuncData} {ps : List Str} {k : Nat} {ms : List Bool} {kbs : List (List Str × List Nat)} {spec : VSp} (no : ∀ os R, ¬ spec os R)
    (hx : mg x = some (.ref f)) (hk : PySem.W.keepIn K (.ref f) = true) (hb : Binds K fd ps []) (kb : ∀ q ∈ kbs, KB K fd ps q.1 q.2) : Df P w K mg base k x ps ms kbs spec :=
  ⟨⟨f, fd, ⟨fun vs H Q E h => by
      obtain ⟨_, G, os, fs, _, _, _, _, h⟩ := h
      exact absurd h (no _ _), fun A outer s H args us vs Q E _ _ _ _ _ h => by
      obtain ⟨_, G, os, fs, _, _, _, _, h⟩ := h
      exact absurd h (no _ _)⟩, hx, hk, hb, kb⟩, fun os P P' _ h => absurd h (no _ _)⟩
theorem bent_no : ∀ os R, ¬ Bent 0 os R := by
  rintro os R ⟨bx, m, n, a, w, k, _, _, h, _⟩
  exact absurd h (Nat.not_lt_zero _)
end VL

set_option Elab.async false
set_option linter.all false
set_option maxRecDepth 100000
set_option maxHeartbeats 4000000
namespace VL
open PySem PySem.Spec PyProof.Rows L2
theorem all_mk [W : Wd] {K : PySem.W.Frag} {h : Heap} {mg : Str → Option Value} {fa f0 f1 f2 f3 f4 f5 f6 f7 f8 f9 f10 f11 f12 f13 f14 f15 f16 f17 f18 f19 f20 f21 f22 f23 f24 f25 f26 f27 f28 f29 f30 : Addr} (X : K.In h) (G : h.Ns mainGlobals mg) (hfa : mg "law" = some (.ref fa))
    {od0 an0 od1 an1 od2 an2 od3 an3 od4 an4 od5 an5 od6 an6 od7 an7 od8 an8 od9 an9 od10 an10 od11 an11 od12 an12 od13 an13 od14 an14 od15 an15 od16 an16 od17 an17 od18 an18 od19 an19 od20 an20 od21 an21 od22 an22 od23 an23 od24 an24 od25 an25 od26 an26 od27 an27 od28 an28 od29 an29 od30 an30 : Option Addr} {sl0 sl1 sl2 sl3 sl4 sl5 sl6 sl7 sl8 sl9 sl10 sl11 sl12 sl13 sl14 sl15 sl16 sl17 sl18 sl19 sl20 sl21 sl22 sl23 sl24 sl25 sl26 sl27 sl28 sl29 sl30 : Array (Option Value)} {oc0 kV0 dc0 pm0 cd0 ct0 oc1 kV1 dc1 pm1 cd1 ct1 oc2 kV2 dc2 pm2 cd2 ct2 oc3 kV3 dc3 pm3 cd3 ct3 oc4 kV4 dc4 pm4 cd4 ct4 oc5 kV5 dc5 pm5 cd5 ct5 oc6 kV6 dc6 pm6 cd6 ct6 oc7 kV7 dc7 pm7 cd7 ct7 oc8 kV8 dc8 pm8 cd8 ct8 oc9 kV9 dc9 pm9 cd9 ct9 oc10 kV10 dc10 pm10 cd10 ct10 oc11 kV11 dc11 pm11 cd11 ct11 oc12 kV12 dc12 pm12 cd12 ct12 oc13 kV13 dc13 pm13 cd13 ct13 oc14 kV14 dc14 pm14 cd14 ct14 oc15 kV15 dc15 pm15 cd15 ct15 oc16 kV16 dc16 pm16 cd16 ct16 oc17 kV17 dc17 pm17 cd17 ct17 oc18 kV18 dc18 pm18 cd18 ct18 oc19 kV19 dc19 pm19 cd19 ct19 oc20 kV20 dc20 pm20 cd20 ct20 oc21 kV21 dc21 pm21 cd21 ct21 oc22 kV22 dc22 pm22 cd22 ct22 oc23 kV23 dc23 pm23 cd23 ct23 oc24 kV24 dc24 pm24 cd24 ct24 oc25 kV25 dc25 pm25 cd25 ct25 oc26 kV26 dc26 pm26 cd26 ct26 oc27 kV27 dc27 pm27 cd27 ct27 oc28 kV28 dc28 pm28 cd28 ct28 oc29 kV29 dc29 pm29 cd29 ct29 oc30 kV30 dc30 pm30 cd30 ct30 : Value}
    (a0 : PySem.W.nsIn K mainGlobals "is_integer" = some (some (.ref f0))) (l0 : K.lookup f0 = some ⟨oc0, od0, .func (PySem.W.fnOf "is_integer" "is_integer" (defArgs s_is_integer) (defBody s_is_integer) (defScope s_is_integer) .none kV0 dc0 pm0 an0 cd0 ct0), sl0⟩) (c0 : PySem.W.codeIn K cd0 "is_integer" = true) (k0 : PySem.W.keepIn K (.ref f0) = true)
    (a1 : PySem.W.nsIn K mainGlobals "ending" = some (some (.ref f1))) (l1 : K.lookup f1 = some ⟨oc1, od1, .func (PySem.W.fnOf "ending" "ending" (defArgs s_ending) (defBody s_ending) (defScope s_ending) .none kV1 dc1 pm1 an1 cd1 ct1), sl1⟩) (c1 : PySem.W.codeIn K cd1 "ending" = true) (k1 : PySem.W.keepIn K (.ref f1) = true)
    (a2 : PySem.W.nsIn K mainGlobals "looks_alike" = some (some (.ref f2))) (l2 : K.lookup f2 = some ⟨oc2, od2, .func (PySem.W.fnOf "looks_alike" "looks_alike" (defArgs s_looks_alike) (defBody s_looks_alike) (defScope s_looks_alike) .none kV2 dc2 pm2 an2 cd2 ct2), sl2⟩) (c2 : PySem.W.codeIn K cd2 "looks_alike" = true) (k2 : PySem.W.keepIn K (.ref f2) = true)
    (a3 : PySem.W.nsIn K mainGlobals "pairs" = some (some (.ref f3))) (l3 : K.lookup f3 = some ⟨oc3, od3, .func (PySem.W.fnOf "pairs" "pairs" (defArgs s_pairs) (defBody s_pairs) (defScope s_pairs) .none kV3 dc3 pm3 an3 cd3 ct3), sl3⟩) (c3 : PySem.W.codeIn K cd3 "pairs" = true) (k3 : PySem.W.keepIn K (.ref f3) = true)
    (a4 : PySem.W.nsIn K mainGlobals "matched_pairs" = some (some (.ref f4))) (l4 : K.lookup f4 = some ⟨oc4, od4, .func (PySem.W.fnOf "matched_pairs" "matched_pairs" (defArgs s_matched_pairs) (defBody s_matched_pairs) (defScope s_matched_pairs) .none kV4 dc4 pm4 an4 cd4 ct4), sl4⟩) (c4 : PySem.W.codeIn K cd4 "matched_pairs" = true) (k4 : PySem.W.keepIn K (.ref f4) = true)
    (a5 : PySem.W.nsIn K mainGlobals "obstacle" = some (some (.ref f5))) (l5 : K.lookup f5 = some ⟨oc5, od5, .func (PySem.W.fnOf "obstacle" "obstacle" (defArgs s_obstacle) (defBody s_obstacle) (defScope s_obstacle) .none kV5 dc5 pm5 an5 cd5 ct5), sl5⟩) (c5 : PySem.W.codeIn K cd5 "obstacle" = true) (k5 : PySem.W.keepIn K (.ref f5) = true)
    (a6 : PySem.W.nsIn K mainGlobals "comes_from" = some (some (.ref f6))) (l6 : K.lookup f6 = some ⟨oc6, od6, .func (PySem.W.fnOf "comes_from" "comes_from" (defArgs s_comes_from) (defBody s_comes_from) (defScope s_comes_from) .none kV6 dc6 pm6 an6 cd6 ct6), sl6⟩) (c6 : PySem.W.codeIn K cd6 "comes_from" = true) (k6 : PySem.W.keepIn K (.ref f6) = true)
    (a7 : PySem.W.nsIn K mainGlobals "least_parting" = some (some (.ref f7))) (l7 : K.lookup f7 = some ⟨oc7, od7, .func (PySem.W.fnOf "least_parting" "least_parting" (defArgs s_least_parting) (defBody s_least_parting) (defScope s_least_parting) .none kV7 dc7 pm7 an7 cd7 ct7), sl7⟩) (c7 : PySem.W.codeIn K cd7 "least_parting" = true) (k7 : PySem.W.keepIn K (.ref f7) = true)
    (a8 : PySem.W.nsIn K mainGlobals "is_parting" = some (some (.ref f8))) (l8 : K.lookup f8 = some ⟨oc8, od8, .func (PySem.W.fnOf "is_parting" "is_parting" (defArgs s_is_parting) (defBody s_is_parting) (defScope s_is_parting) .none kV8 dc8 pm8 an8 cd8 ct8), sl8⟩) (c8 : PySem.W.codeIn K cd8 "is_parting" = true) (k8 : PySem.W.keepIn K (.ref f8) = true)
    (a9 : PySem.W.nsIn K mainGlobals "shows_parting" = some (some (.ref f9))) (l9 : K.lookup f9 = some ⟨oc9, od9, .func (PySem.W.fnOf "shows_parting" "shows_parting" (defArgs s_shows_parting) (defBody s_shows_parting) (defScope s_shows_parting) .none kV9 dc9 pm9 an9 cd9 ct9), sl9⟩) (c9 : PySem.W.codeIn K cd9 "shows_parting" = true) (k9 : PySem.W.keepIn K (.ref f9) = true)
    (a10 : PySem.W.nsIn K mainGlobals "_law_box" = some (some (.ref f10))) (l10 : K.lookup f10 = some ⟨oc10, od10, .func (PySem.W.fnOf "_law_box" "_law_box" (defArgs s__law_box) (defBody s__law_box) (defScope s__law_box) .none kV10 dc10 pm10 an10 cd10 ct10), sl10⟩) (c10 : PySem.W.codeIn K cd10 "_law_box" = true) (k10 : PySem.W.keepIn K (.ref f10) = true)
    (a11 : PySem.W.nsIn K mainGlobals "_law_take" = some (some (.ref f11))) (l11 : K.lookup f11 = some ⟨oc11, od11, .func (PySem.W.fnOf "_law_take" "_law_take" (defArgs s__law_take) (defBody s__law_take) (defScope s__law_take) .none kV11 dc11 pm11 an11 cd11 ct11), sl11⟩) (c11 : PySem.W.codeIn K cd11 "_law_take" = true) (k11 : PySem.W.keepIn K (.ref f11) = true)
    (a12 : PySem.W.nsIn K mainGlobals "_law_cells" = some (some (.ref f12))) (l12 : K.lookup f12 = some ⟨oc12, od12, .func (PySem.W.fnOf "_law_cells" "_law_cells" (defArgs s__law_cells) (defBody s__law_cells) (defScope s__law_cells) .none kV12 dc12 pm12 an12 cd12 ct12), sl12⟩) (c12 : PySem.W.codeIn K cd12 "_law_cells" = true) (k12 : PySem.W.keepIn K (.ref f12) = true)
    (a13 : PySem.W.nsIn K mainGlobals "_law_of" = some (some (.ref f13))) (l13 : K.lookup f13 = some ⟨oc13, od13, .func (PySem.W.fnOf "_law_of" "_law_of" (defArgs s__law_of) (defBody s__law_of) (defScope s__law_of) .none kV13 dc13 pm13 an13 cd13 ct13), sl13⟩) (c13 : PySem.W.codeIn K cd13 "_law_of" = true) (k13 : PySem.W.keepIn K (.ref f13) = true)
    (a14 : PySem.W.nsIn K mainGlobals "_law_strewn" = some (some (.ref f14))) (l14 : K.lookup f14 = some ⟨oc14, od14, .func (PySem.W.fnOf "_law_strewn" "_law_strewn" (defArgs s__law_strewn) (defBody s__law_strewn) (defScope s__law_strewn) .none kV14 dc14 pm14 an14 cd14 ct14), sl14⟩) (c14 : PySem.W.codeIn K cd14 "_law_strewn" = true) (k14 : PySem.W.keepIn K (.ref f14) = true)
    (a15 : PySem.W.nsIn K mainGlobals "_law_same" = some (some (.ref f15))) (l15 : K.lookup f15 = some ⟨oc15, od15, .func (PySem.W.fnOf "_law_same" "_law_same" (defArgs s__law_same) (defBody s__law_same) (defScope s__law_same) .none kV15 dc15 pm15 an15 cd15 ct15), sl15⟩) (c15 : PySem.W.codeIn K cd15 "_law_same" = true) (k15 : PySem.W.keepIn K (.ref f15) = true)
    (a16 : PySem.W.nsIn K mainGlobals "_law_alike" = some (some (.ref f16))) (l16 : K.lookup f16 = some ⟨oc16, od16, .func (PySem.W.fnOf "_law_alike" "_law_alike" (defArgs s__law_alike) (defBody s__law_alike) (defScope s__law_alike) .none kV16 dc16 pm16 an16 cd16 ct16), sl16⟩) (c16 : PySem.W.codeIn K cd16 "_law_alike" = true) (k16 : PySem.W.keepIn K (.ref f16) = true)
    (a17 : PySem.W.nsIn K mainGlobals "_law_span" = some (some (.ref f17))) (l17 : K.lookup f17 = some ⟨oc17, od17, .func (PySem.W.fnOf "_law_span" "_law_span" (defArgs s__law_span) (defBody s__law_span) (defScope s__law_span) .none kV17 dc17 pm17 an17 cd17 ct17), sl17⟩) (c17 : PySem.W.codeIn K cd17 "_law_span" = true) (k17 : PySem.W.keepIn K (.ref f17) = true)
    (a18 : PySem.W.nsIn K mainGlobals "_law_terms" = some (some (.ref f18))) (l18 : K.lookup f18 = some ⟨oc18, od18, .func (PySem.W.fnOf "_law_terms" "_law_terms" (defArgs s__law_terms) (defBody s__law_terms) (defScope s__law_terms) .none kV18 dc18 pm18 an18 cd18 ct18), sl18⟩) (c18 : PySem.W.codeIn K cd18 "_law_terms" = true) (k18 : PySem.W.keepIn K (.ref f18) = true)
    (a19 : PySem.W.nsIn K mainGlobals "_law_scroll" = some (some (.ref f19))) (l19 : K.lookup f19 = some ⟨oc19, od19, .func (PySem.W.fnOf "_law_scroll" "_law_scroll" (defArgs s__law_scroll) (defBody s__law_scroll) (defScope s__law_scroll) .none kV19 dc19 pm19 an19 cd19 ct19), sl19⟩) (c19 : PySem.W.codeIn K cd19 "_law_scroll" = true) (k19 : PySem.W.keepIn K (.ref f19) = true)
    (a20 : PySem.W.nsIn K mainGlobals "_law_leaps" = some (some (.ref f20))) (l20 : K.lookup f20 = some ⟨oc20, od20, .func (PySem.W.fnOf "_law_leaps" "_law_leaps" (defArgs s__law_leaps) (defBody s__law_leaps) (defScope s__law_leaps) .none kV20 dc20 pm20 an20 cd20 ct20), sl20⟩) (c20 : PySem.W.codeIn K cd20 "_law_leaps" = true) (k20 : PySem.W.keepIn K (.ref f20) = true)
    (a21 : PySem.W.nsIn K mainGlobals "_law_leapt" = some (some (.ref f21))) (l21 : K.lookup f21 = some ⟨oc21, od21, .func (PySem.W.fnOf "_law_leapt" "_law_leapt" (defArgs s__law_leapt) (defBody s__law_leapt) (defScope s__law_leapt) .none kV21 dc21 pm21 an21 cd21 ct21), sl21⟩) (c21 : PySem.W.codeIn K cd21 "_law_leapt" = true) (k21 : PySem.W.keepIn K (.ref f21) = true)
    (a22 : PySem.W.nsIn K mainGlobals "_law_page" = some (some (.ref f22))) (l22 : K.lookup f22 = some ⟨oc22, od22, .func (PySem.W.fnOf "_law_page" "_law_page" (defArgs s__law_page) (defBody s__law_page) (defScope s__law_page) .none kV22 dc22 pm22 an22 cd22 ct22), sl22⟩) (c22 : PySem.W.codeIn K cd22 "_law_page" = true) (k22 : PySem.W.keepIn K (.ref f22) = true)
    (a23 : PySem.W.nsIn K mainGlobals "_law_changed" = some (some (.ref f23))) (l23 : K.lookup f23 = some ⟨oc23, od23, .func (PySem.W.fnOf "_law_changed" "_law_changed" (defArgs s__law_changed) (defBody s__law_changed) (defScope s__law_changed) .none kV23 dc23 pm23 an23 cd23 ct23), sl23⟩) (c23 : PySem.W.codeIn K cd23 "_law_changed" = true) (k23 : PySem.W.keepIn K (.ref f23) = true)
    (a24 : PySem.W.nsIn K mainGlobals "_law_odd" = some (some (.ref f24))) (l24 : K.lookup f24 = some ⟨oc24, od24, .func (PySem.W.fnOf "_law_odd" "_law_odd" (defArgs s__law_odd) (defBody s__law_odd) (defScope s__law_odd) .none kV24 dc24 pm24 an24 cd24 ct24), sl24⟩) (c24 : PySem.W.codeIn K cd24 "_law_odd" = true) (k24 : PySem.W.keepIn K (.ref f24) = true)
    (a25 : PySem.W.nsIn K mainGlobals "_law_bent" = some (some (.ref f25))) (l25 : K.lookup f25 = some ⟨oc25, od25, .func (PySem.W.fnOf "_law_bent" "_law_bent" (defArgs s__law_bent) (defBody s__law_bent) (defScope s__law_bent) .none kV25 dc25 pm25 an25 cd25 ct25), sl25⟩) (c25 : PySem.W.codeIn K cd25 "_law_bent" = true) (k25 : PySem.W.keepIn K (.ref f25) = true)
    (a26 : PySem.W.nsIn K mainGlobals "_law_is_number" = some (some (.ref f26))) (l26 : K.lookup f26 = some ⟨oc26, od26, .func (PySem.W.fnOf "_law_is_number" "_law_is_number" (defArgs s__law_is_number) (defBody s__law_is_number) (defScope s__law_is_number) .none kV26 dc26 pm26 an26 cd26 ct26), sl26⟩) (c26 : PySem.W.codeIn K cd26 "_law_is_number" = true) (k26 : PySem.W.keepIn K (.ref f26) = true)
    (a27 : PySem.W.nsIn K mainGlobals "_law_are_places" = some (some (.ref f27))) (l27 : K.lookup f27 = some ⟨oc27, od27, .func (PySem.W.fnOf "_law_are_places" "_law_are_places" (defArgs s__law_are_places) (defBody s__law_are_places) (defScope s__law_are_places) .none kV27 dc27 pm27 an27 cd27 ct27), sl27⟩) (c27 : PySem.W.codeIn K cd27 "_law_are_places" = true) (k27 : PySem.W.keepIn K (.ref f27) = true)
    (a28 : PySem.W.nsIn K mainGlobals "_law_is_it" = some (some (.ref f28))) (l28 : K.lookup f28 = some ⟨oc28, od28, .func (PySem.W.fnOf "_law_is_it" "_law_is_it" (defArgs s__law_is_it) (defBody s__law_is_it) (defScope s__law_is_it) .none kV28 dc28 pm28 an28 cd28 ct28), sl28⟩) (c28 : PySem.W.codeIn K cd28 "_law_is_it" = true) (k28 : PySem.W.keepIn K (.ref f28) = true)
    (a29 : PySem.W.nsIn K mainGlobals "_law_right" = some (some (.ref f29))) (l29 : K.lookup f29 = some ⟨oc29, od29, .func (PySem.W.fnOf "_law_right" "_law_right" (defArgs s__law_right) (defBody s__law_right) (defScope s__law_right) .none kV29 dc29 pm29 an29 cd29 ct29), sl29⟩) (c29 : PySem.W.codeIn K cd29 "_law_right" = true) (k29 : PySem.W.keepIn K (.ref f29) = true)
    (a30 : PySem.W.nsIn K mainGlobals "law" = some (some (.ref f30))) (l30 : K.lookup f30 = some ⟨oc30, od30, .func (PySem.W.fnOf "law" "law" (defArgs s_law) (defBody s_law) (defScope s_law) .none kV30 dc30 pm30 an30 cd30 ct30), sl30⟩) (c30 : PySem.W.codeIn K cd30 "law" = true) (k30 : PySem.W.keepIn K (.ref f30) = true)
    (z_len : PySem.W.nsIn K mainGlobals "len" = some none)
    (z_abs : PySem.W.nsIn K mainGlobals "abs" = some none)
    (z_int : PySem.W.nsIn K mainGlobals "int" = some none)
    (z_tuple : PySem.W.nsIn K mainGlobals "tuple" = some none)
    (z_list : PySem.W.nsIn K mainGlobals "list" = some none)
    (z_all : PySem.W.nsIn K mainGlobals "all" = some none)
    (z_any : PySem.W.nsIn K mainGlobals "any" = some none)
    (z_sum : PySem.W.nsIn K mainGlobals "sum" = some none)
    (z_min : PySem.W.nsIn K mainGlobals "min" = some none)
    (z_max : PySem.W.nsIn K mainGlobals "max" = some none)
    (z_repr : PySem.W.nsIn K mainGlobals "repr" = some none)
    (z_range : PySem.W.nsIn K mainGlobals "range" = some none)
    (z_zip : PySem.W.nsIn K mainGlobals "zip" = some none)
    (z_enumerate : PySem.W.nsIn K mainGlobals "enumerate" = some none)
    (z_sorted : PySem.W.nsIn K mainGlobals "sorted" = some none)
    (z_set : PySem.W.nsIn K mainGlobals "set" = some none)
    (z_isinstance : PySem.W.nsIn K mainGlobals "isinstance" = some none)
    (z_str : PySem.W.nsIn K mainGlobals "str" = some none)
    (z_bool : PySem.W.nsIn K mainGlobals "bool" = some none) :
    ∃ fd : FuncData, (∀ (s : Shared) (v : Value), BindsTo s fd ⟨[v], []⟩ [("_law_script", v)]) ∧ ∀ base : Heap, K.In base → base.Ns mainGlobals mg → FnG Wd.P Wd.w K mg base CX0 9 fa fd ["_law_script"] (spV K [false] specLaw) := by
  have e := hfa.symm.trans (PySem.W.mg_of X G a30)
  cases e
  have Bt : Bts mg := ⟨PySem.W.mg_none_of X G z_len, PySem.W.mg_none_of X G z_abs, PySem.W.mg_none_of X G z_int, PySem.W.mg_none_of X G z_tuple, PySem.W.mg_none_of X G z_list, PySem.W.mg_none_of X G z_all, PySem.W.mg_none_of X G z_any, PySem.W.mg_none_of X G z_sum, PySem.W.mg_none_of X G z_min, PySem.W.mg_none_of X G z_max, PySem.W.mg_none_of X G z_repr, PySem.W.mg_none_of X G z_range, PySem.W.mg_none_of X G z_zip, PySem.W.mg_none_of X G z_enumerate, PySem.W.mg_none_of X G z_sorted, PySem.W.mg_none_of X G z_set, PySem.W.mg_none_of X G z_isinstance, PySem.W.mg_none_of X G z_str, PySem.W.mg_none_of X G z_bool⟩
  refine ⟨PySem.W.fnOf "law" "law" (defArgs s_law) (defBody s_law) (defScope s_law) .none kV30 dc30 pm30 an30 cd30 ct30, fun s v => .of_eq rfl, fun base _ _ => ?_⟩
  have F_is_integer := fun_mk (st := s_is_integer) l0 c0 k0
  have B_is_integer := F_is_integer.binds (ps := ps_is_integer) fun _ _ _ _ _ _ us hl => match us, hl with | [_], _ => rfl
  have Q_is_integer : ∀ q ∈ kbs_is_integer, KB K (PySem.W.fnOf "is_integer" "is_integer" (defArgs s_is_integer) (defBody s_is_integer) (defScope s_is_integer) .none kV0 dc0 pm0 an0 cd0 ct0) ps_is_integer q.1 q.2 := fun _ hq => nomatch hq
  have D_is_integer : Df Wd.P Wd.w K mg base 1 "is_integer" ps_is_integer ms_is_integer kbs_is_integer spec_is_integer := df_mk F_is_integer sc_is_integer rfl rfl run_is_integer (PySem.W.mg_of X G a0) k0 B_is_integer Q_is_integer sm_IsNumber (fun cdv A outer s H E hr hg => dv_is_integer Bt hr hg)
  have F_ending := fun_mk (st := s_ending) l1 c1 k1
  have B_ending := F_ending.binds (ps := ps_ending) fun _ _ _ _ _ _ us hl => match us, hl with | [_, _], _ => rfl
  have Q_ending : ∀ q ∈ kbs_ending, KB K (PySem.W.fnOf "ending" "ending" (defArgs s_ending) (defBody s_ending) (defScope s_ending) .none kV1 dc1 pm1 an1 cd1 ct1) ps_ending q.1 q.2 := fun _ hq => nomatch hq
  have D_ending : Df Wd.P Wd.w K mg base 1 "ending" ps_ending ms_ending kbs_ending spec_ending := df_mk F_ending sc_ending rfl rfl run_ending (PySem.W.mg_of X G a1) k1 B_ending Q_ending sm_Ending (fun cdv A outer s H E hr hg => dv_ending Bt hr hg)
  have F_looks_alike := fun_mk (st := s_looks_alike) l2 c2 k2
  have B_looks_alike := F_looks_alike.binds (ps := ps_looks_alike) fun _ _ _ _ _ _ us hl => match us, hl with | [_, _, _], _ => rfl
  have Q_looks_alike : ∀ q ∈ kbs_looks_alike, KB K (PySem.W.fnOf "looks_alike" "looks_alike" (defArgs s_looks_alike) (defBody s_looks_alike) (defScope s_looks_alike) .none kV2 dc2 pm2 an2 cd2 ct2) ps_looks_alike q.1 q.2 := fun _ hq => nomatch hq
  have D_looks_alike : Df Wd.P Wd.w K mg base 2 "looks_alike" ps_looks_alike ms_looks_alike kbs_looks_alike spec_looks_alike := df_mk F_looks_alike sc_looks_alike rfl rfl run_looks_alike (PySem.W.mg_of X G a2) k2 B_looks_alike Q_looks_alike sm_Alike (fun cdv A outer s H E hr hg => dv_looks_alike Bt D_ending hr hg)
  have F_pairs := fun_mk (st := s_pairs) l3 c3 k3
  have B_pairs := F_pairs.binds (ps := ps_pairs) fun _ _ _ _ _ _ us hl => match us, hl with | [_, _], _ => rfl
  have Q_pairs : ∀ q ∈ kbs_pairs, KB K (PySem.W.fnOf "pairs" "pairs" (defArgs s_pairs) (defBody s_pairs) (defScope s_pairs) .none kV3 dc3 pm3 an3 cd3 ct3) ps_pairs q.1 q.2 := fun _ hq => nomatch hq
  have D_pairs : Df Wd.P Wd.w K mg base 2 "pairs" ps_pairs ms_pairs kbs_pairs spec_pairs := df_mk F_pairs sc_pairs rfl rfl run_pairs (PySem.W.mg_of X G a3) k3 B_pairs Q_pairs sm_Pairs (fun cdv A outer s H E hr hg => dv_pairs Bt D_ending hr hg)
  have F_matched_pairs := fun_mk (st := s_matched_pairs) l4 c4 k4
  have B_matched_pairs := F_matched_pairs.binds (ps := ps_matched_pairs) fun _ _ _ _ _ _ us hl => match us, hl with | [_, _, _], _ => rfl
  have Q_matched_pairs : ∀ q ∈ kbs_matched_pairs, KB K (PySem.W.fnOf "matched_pairs" "matched_pairs" (defArgs s_matched_pairs) (defBody s_matched_pairs) (defScope s_matched_pairs) .none kV4 dc4 pm4 an4 cd4 ct4) ps_matched_pairs q.1 q.2 := fun _ hq => nomatch hq
  have D_matched_pairs : Df Wd.P Wd.w K mg base 3 "matched_pairs" ps_matched_pairs ms_matched_pairs kbs_matched_pairs spec_matched_pairs := df_mk F_matched_pairs sc_matched_pairs rfl rfl run_matched_pairs (PySem.W.mg_of X G a4) k4 B_matched_pairs Q_matched_pairs sm_MatchedPairs (fun cdv A outer s H E hr hg => dv_matched_pairs Bt D_pairs hr hg)
  have F_obstacle := fun_mk (st := s_obstacle) l5 c5 k5
  have B_obstacle := F_obstacle.binds (ps := ps_obstacle) fun _ _ _ _ _ _ us hl => match us, hl with | [_, _, _], _ => rfl
  have Q_obstacle : ∀ q ∈ kbs_obstacle, KB K (PySem.W.fnOf "obstacle" "obstacle" (defArgs s_obstacle) (defBody s_obstacle) (defScope s_obstacle) .none kV5 dc5 pm5 an5 cd5 ct5) ps_obstacle q.1 q.2 := fun _ hq => nomatch hq
  have D_obstacle : Df Wd.P Wd.w K mg base 4 "obstacle" ps_obstacle ms_obstacle kbs_obstacle spec_obstacle := df_mk F_obstacle sc_obstacle rfl rfl run_obstacle (PySem.W.mg_of X G a5) k5 B_obstacle Q_obstacle sm_Obstacle (fun cdv A outer s H E hr hg => dv_obstacle Bt D_matched_pairs D_looks_alike hr hg)
  have F_comes_from := fun_mk (st := s_comes_from) l6 c6 k6
  have B_comes_from := F_comes_from.binds (ps := ps_comes_from) fun _ _ _ _ _ _ us hl => match us, hl with | [_, _, _], _ => rfl
  have Q_comes_from : ∀ q ∈ kbs_comes_from, KB K (PySem.W.fnOf "comes_from" "comes_from" (defArgs s_comes_from) (defBody s_comes_from) (defScope s_comes_from) .none kV6 dc6 pm6 an6 cd6 ct6) ps_comes_from q.1 q.2 := fun _ hq => nomatch hq
  have D_comes_from : Df Wd.P Wd.w K mg base 5 "comes_from" ps_comes_from ms_comes_from kbs_comes_from spec_comes_from := df_mk F_comes_from sc_comes_from rfl rfl run_comes_from (PySem.W.mg_of X G a6) k6 B_comes_from Q_comes_from sm_ComesFrom (fun cdv A outer s H E hr hg => dv_comes_from Bt D_obstacle hr hg)
  have F_least_parting := fun_mk (st := s_least_parting) l7 c7 k7
  have B_least_parting := F_least_parting.binds (ps := ps_least_parting) fun _ _ _ _ _ _ us hl => match us, hl with | [_, _, _], _ => rfl
  have Q_least_parting : ∀ q ∈ kbs_least_parting, KB K (PySem.W.fnOf "least_parting" "least_parting" (defArgs s_least_parting) (defBody s_least_parting) (defScope s_least_parting) .none kV7 dc7 pm7 an7 cd7 ct7) ps_least_parting q.1 q.2 := fun _ hq => nomatch hq
  have D_least_parting : Df Wd.P Wd.w K mg base 6 "least_parting" ps_least_parting ms_least_parting kbs_least_parting spec_least_parting := df_mk F_least_parting sc_least_parting rfl rfl run_least_parting (PySem.W.mg_of X G a7) k7 B_least_parting Q_least_parting sm_LeastParting (fun cdv A outer s H E hr hg => dv_least_parting Bt D_comes_from D_matched_pairs hr hg)
  have F_is_parting := fun_mk (st := s_is_parting) l8 c8 k8
  have B_is_parting := F_is_parting.binds (ps := ps_is_parting) fun _ _ _ _ _ _ us hl => match us, hl with | [_, _, _, _], _ => rfl
  have Q_is_parting : ∀ q ∈ kbs_is_parting, KB K (PySem.W.fnOf "is_parting" "is_parting" (defArgs s_is_parting) (defBody s_is_parting) (defScope s_is_parting) .none kV8 dc8 pm8 an8 cd8 ct8) ps_is_parting q.1 q.2 := fun _ hq => nomatch hq
  have D_is_parting : Df Wd.P Wd.w K mg base 3 "is_parting" ps_is_parting ms_is_parting kbs_is_parting spec_is_parting := df_mk F_is_parting sc_is_parting rfl rfl run_is_parting (PySem.W.mg_of X G a8) k8 B_is_parting Q_is_parting sm_IsParting (fun cdv A outer s H E hr hg => dv_is_parting Bt D_looks_alike hr hg)
  have F_shows_parting := fun_mk (st := s_shows_parting) l9 c9 k9
  have B_shows_parting := F_shows_parting.binds (ps := ps_shows_parting) fun _ _ _ _ _ _ us hl => match us, hl with | [_, _, _, _], _ => rfl
  have Q_shows_parting : ∀ q ∈ kbs_shows_parting, KB K (PySem.W.fnOf "shows_parting" "shows_parting" (defArgs s_shows_parting) (defBody s_shows_parting) (defScope s_shows_parting) .none kV9 dc9 pm9 an9 cd9 ct9) ps_shows_parting q.1 q.2 := fun q hq => by
    simp only [kbs_shows_parting, List.mem_cons, List.not_mem_nil, or_false] at hq
    rcases hq with rfl
    · exact fun s ws _ hl => match ws, hl with | [_, _, _, _], _ => .of_eq rfl
  have D_shows_parting : Df Wd.P Wd.w K mg base 4 "shows_parting" ps_shows_parting ms_shows_parting kbs_shows_parting spec_shows_parting := df_mk F_shows_parting sc_shows_parting rfl rfl run_shows_parting (PySem.W.mg_of X G a9) k9 B_shows_parting Q_shows_parting sm_ShowsP (fun cdv A outer s H E hr hg => dv_shows_parting Bt D_is_integer D_is_parting hr hg)
  have F__law_box := fun_mk (st := s__law_box) l10 c10 k10
  have B__law_box := F__law_box.binds (ps := ps__law_box) fun _ _ _ _ _ _ us hl => match us, hl with | [_, _], _ => rfl
  have Q__law_box : ∀ q ∈ kbs__law_box, KB K (PySem.W.fnOf "_law_box" "_law_box" (defArgs s__law_box) (defBody s__law_box) (defScope s__law_box) .none kV10 dc10 pm10 an10 cd10 ct10) ps__law_box q.1 q.2 := fun _ hq => nomatch hq
  have D__law_box : Df Wd.P Wd.w K mg base 1 "_law_box" ps__law_box ms__law_box kbs__law_box spec__law_box := df_mk F__law_box sc__law_box rfl rfl run__law_box (PySem.W.mg_of X G a10) k10 B__law_box Q__law_box sm_BoxOf (fun cdv A outer s H E hr hg => dv__law_box Bt hr hg)
  have F__law_take := fun_mk (st := s__law_take) l11 c11 k11
  have B__law_take := F__law_take.binds (ps := ps__law_take) fun _ _ _ _ _ _ us hl => match us, hl with | [_, _], _ => rfl
  have Q__law_take : ∀ q ∈ kbs__law_take, KB K (PySem.W.fnOf "_law_take" "_law_take" (defArgs s__law_take) (defBody s__law_take) (defScope s__law_take) .none kV11 dc11 pm11 an11 cd11 ct11) ps__law_take q.1 q.2 := fun _ hq => nomatch hq
  have D__law_take : Df Wd.P Wd.w K mg base 1 "_law_take" ps__law_take ms__law_take kbs__law_take spec__law_take := df_mk F__law_take sc__law_take rfl rfl run__law_take (PySem.W.mg_of X G a11) k11 B__law_take Q__law_take sm_Take (fun cdv A outer s H E hr hg => dv__law_take Bt hr hg)
  have F__law_cells := fun_mk (st := s__law_cells) l12 c12 k12
  have B__law_cells := F__law_cells.binds (ps := ps__law_cells) fun _ _ _ _ _ _ us hl => match us, hl with | [_, _], _ => rfl
  have Q__law_cells : ∀ q ∈ kbs__law_cells, KB K (PySem.W.fnOf "_law_cells" "_law_cells" (defArgs s__law_cells) (defBody s__law_cells) (defScope s__law_cells) .none kV12 dc12 pm12 an12 cd12 ct12) ps__law_cells q.1 q.2 := fun _ hq => nomatch hq
  have D__law_cells : Df Wd.P Wd.w K mg base 1 "_law_cells" ps__law_cells ms__law_cells kbs__law_cells spec__law_cells := df_mk F__law_cells sc__law_cells rfl rfl run__law_cells (PySem.W.mg_of X G a12) k12 B__law_cells Q__law_cells sm_Cells (fun cdv A outer s H E hr hg => dv__law_cells Bt hr hg)
  have F__law_of := fun_mk (st := s__law_of) l13 c13 k13
  have B__law_of := F__law_of.binds (ps := ps__law_of) fun _ _ _ _ _ _ us hl => match us, hl with | [_, _], _ => rfl
  have Q__law_of : ∀ q ∈ kbs__law_of, KB K (PySem.W.fnOf "_law_of" "_law_of" (defArgs s__law_of) (defBody s__law_of) (defScope s__law_of) .none kV13 dc13 pm13 an13 cd13 ct13) ps__law_of q.1 q.2 := fun _ hq => nomatch hq
  have D__law_of : Df Wd.P Wd.w K mg base 2 "_law_of" ps__law_of ms__law_of kbs__law_of spec__law_of := df_mk F__law_of sc__law_of rfl rfl run__law_of (PySem.W.mg_of X G a13) k13 B__law_of Q__law_of sm_OneOf (fun cdv A outer s H E hr hg => dv__law_of Bt D__law_take hr hg)
  have F__law_strewn := fun_mk (st := s__law_strewn) l14 c14 k14
  have B__law_strewn := F__law_strewn.binds (ps := ps__law_strewn) fun _ _ _ _ _ _ us hl => match us, hl with | [_, _], _ => rfl
  have Q__law_strewn : ∀ q ∈ kbs__law_strewn, KB K (PySem.W.fnOf "_law_strewn" "_law_strewn" (defArgs s__law_strewn) (defBody s__law_strewn) (defScope s__law_strewn) .none kV14 dc14 pm14 an14 cd14 ct14) ps__law_strewn q.1 q.2 := fun _ hq => nomatch hq
  have D__law_strewn : Df Wd.P Wd.w K mg base 2 "_law_strewn" ps__law_strewn ms__law_strewn kbs__law_strewn spec__law_strewn := df_mk F__law_strewn sc__law_strewn rfl rfl run__law_strewn (PySem.W.mg_of X G a14) k14 B__law_strewn Q__law_strewn sm_Strewn (fun cdv A outer s H E hr hg => dv__law_strewn Bt D__law_take hr hg)
  have F__law_same := fun_mk (st := s__law_same) l15 c15 k15
  have B__law_same := F__law_same.binds (ps := ps__law_same) fun _ _ _ _ _ _ us hl => match us, hl with | [_, _], _ => rfl
  have Q__law_same : ∀ q ∈ kbs__law_same, KB K (PySem.W.fnOf "_law_same" "_law_same" (defArgs s__law_same) (defBody s__law_same) (defScope s__law_same) .none kV15 dc15 pm15 an15 cd15 ct15) ps__law_same q.1 q.2 := fun _ hq => nomatch hq
  have D__law_same : Df Wd.P Wd.w K mg base 1 "_law_same" ps__law_same ms__law_same kbs__law_same spec__law_same := df_mk F__law_same sc__law_same rfl rfl run__law_same (PySem.W.mg_of X G a15) k15 B__law_same Q__law_same sm_Same (fun cdv A outer s H E hr hg => dv__law_same Bt hr hg)
  have F__law_alike := fun_mk (st := s__law_alike) l16 c16 k16
  have B__law_alike := F__law_alike.binds (ps := ps__law_alike) fun _ _ _ _ _ _ us hl => match us, hl with | [_, _, _], _ => rfl
  have Q__law_alike : ∀ q ∈ kbs__law_alike, KB K (PySem.W.fnOf "_law_alike" "_law_alike" (defArgs s__law_alike) (defBody s__law_alike) (defScope s__law_alike) .none kV16 dc16 pm16 an16 cd16 ct16) ps__law_alike q.1 q.2 := fun _ hq => nomatch hq
  have D__law_alike : Df Wd.P Wd.w K mg base 1 "_law_alike" ps__law_alike ms__law_alike kbs__law_alike spec__law_alike := df_mk F__law_alike sc__law_alike rfl rfl run__law_alike (PySem.W.mg_of X G a16) k16 B__law_alike Q__law_alike sm_Alike (fun cdv A outer s H E hr hg => dv__law_alike Bt hr hg)
  have F__law_span := fun_mk (st := s__law_span) l17 c17 k17
  have B__law_span := F__law_span.binds (ps := ps__law_span) fun _ _ _ _ _ _ us hl => match us, hl with | [_], _ => rfl
  have Q__law_span : ∀ q ∈ kbs__law_span, KB K (PySem.W.fnOf "_law_span" "_law_span" (defArgs s__law_span) (defBody s__law_span) (defScope s__law_span) .none kV17 dc17 pm17 an17 cd17 ct17) ps__law_span q.1 q.2 := fun _ hq => nomatch hq
  have D__law_span : Df Wd.P Wd.w K mg base 3 "_law_span" ps__law_span ms__law_span kbs__law_span spec__law_span := df_mk F__law_span sc__law_span rfl rfl run__law_span (PySem.W.mg_of X G a17) k17 B__law_span Q__law_span sm_Span (fun cdv A outer s H E hr hg => dv__law_span Bt D__law_of hr hg)
  have F__law_terms := fun_mk (st := s__law_terms) l18 c18 k18
  have B__law_terms := F__law_terms.binds (ps := ps__law_terms) fun _ _ _ _ _ _ us hl => match us, hl with | [_], _ => rfl
  have Q__law_terms : ∀ q ∈ kbs__law_terms, KB K (PySem.W.fnOf "_law_terms" "_law_terms" (defArgs s__law_terms) (defBody s__law_terms) (defScope s__law_terms) .none kV18 dc18 pm18 an18 cd18 ct18) ps__law_terms q.1 q.2 := fun _ hq => nomatch hq
  have D__law_terms : Df Wd.P Wd.w K mg base 3 "_law_terms" ps__law_terms ms__law_terms kbs__law_terms spec__law_terms := df_mk F__law_terms sc__law_terms rfl rfl run__law_terms (PySem.W.mg_of X G a18) k18 B__law_terms Q__law_terms sm_Terms (fun cdv A outer s H E hr hg => dv__law_terms Bt D__law_strewn D__law_take hr hg)
  have F__law_scroll := fun_mk (st := s__law_scroll) l19 c19 k19
  have B__law_scroll := F__law_scroll.binds (ps := ps__law_scroll) fun _ _ _ _ _ _ us hl => match us, hl with | [_, _], _ => rfl
  have Q__law_scroll : ∀ q ∈ kbs__law_scroll, KB K (PySem.W.fnOf "_law_scroll" "_law_scroll" (defArgs s__law_scroll) (defBody s__law_scroll) (defScope s__law_scroll) .none kV19 dc19 pm19 an19 cd19 ct19) ps__law_scroll q.1 q.2 := fun _ hq => nomatch hq
  have D__law_scroll : Df Wd.P Wd.w K mg base 4 "_law_scroll" ps__law_scroll ms__law_scroll kbs__law_scroll spec__law_scroll := df_mk F__law_scroll sc__law_scroll rfl rfl run__law_scroll (PySem.W.mg_of X G a19) k19 B__law_scroll Q__law_scroll sm_Scroll (fun cdv A outer s H E hr hg => dv__law_scroll Bt D__law_terms D__law_take D__law_of hr hg)
  have F__law_leaps := fun_mk (st := s__law_leaps) l20 c20 k20
  have B__law_leaps := F__law_leaps.binds (ps := ps__law_leaps) fun _ _ _ _ _ _ us hl => match us, hl with | [_, _], _ => rfl
  have Q__law_leaps : ∀ q ∈ kbs__law_leaps, KB K (PySem.W.fnOf "_law_leaps" "_law_leaps" (defArgs s__law_leaps) (defBody s__law_leaps) (defScope s__law_leaps) .none kV20 dc20 pm20 an20 cd20 ct20) ps__law_leaps q.1 q.2 := fun _ hq => nomatch hq
  have D__law_leaps : Df Wd.P Wd.w K mg base 2 "_law_leaps" ps__law_leaps ms__law_leaps kbs__law_leaps spec__law_leaps := df_mk F__law_leaps sc__law_leaps rfl rfl run__law_leaps (PySem.W.mg_of X G a20) k20 B__law_leaps Q__law_leaps sm_Leaps (fun cdv A outer s H E hr hg => dv__law_leaps Bt D__law_alike hr hg)
  have F__law_leapt := fun_mk (st := s__law_leapt) l21 c21 k21
  have B__law_leapt := F__law_leapt.binds (ps := ps__law_leapt) fun _ _ _ _ _ _ us hl => match us, hl with | [_, _], _ => rfl
  have Q__law_leapt : ∀ q ∈ kbs__law_leapt, KB K (PySem.W.fnOf "_law_leapt" "_law_leapt" (defArgs s__law_leapt) (defBody s__law_leapt) (defScope s__law_leapt) .none kV21 dc21 pm21 an21 cd21 ct21) ps__law_leapt q.1 q.2 := fun _ hq => nomatch hq
  have D__law_leapt : Df Wd.P Wd.w K mg base 1 "_law_leapt" ps__law_leapt ms__law_leapt kbs__law_leapt spec__law_leapt := df_mk F__law_leapt sc__law_leapt rfl rfl run__law_leapt (PySem.W.mg_of X G a21) k21 B__law_leapt Q__law_leapt sm_Leapt (fun cdv A outer s H E hr hg => dv__law_leapt Bt hr hg)
  have F__law_page := fun_mk (st := s__law_page) l22 c22 k22
  have B__law_page := F__law_page.binds (ps := ps__law_page) fun _ _ _ _ _ _ us hl => match us, hl with | [_, _, _], _ => rfl
  have Q__law_page : ∀ q ∈ kbs__law_page, KB K (PySem.W.fnOf "_law_page" "_law_page" (defArgs s__law_page) (defBody s__law_page) (defScope s__law_page) .none kV22 dc22 pm22 an22 cd22 ct22) ps__law_page q.1 q.2 := fun _ hq => nomatch hq
  have D__law_page : Df Wd.P Wd.w K mg base 3 "_law_page" ps__law_page ms__law_page kbs__law_page spec__law_page := df_mk F__law_page sc__law_page rfl rfl run__law_page (PySem.W.mg_of X G a22) k22 B__law_page Q__law_page sm_Page (fun cdv A outer s H E hr hg => dv__law_page Bt D__law_take D__law_leaps D__law_leapt D__law_of hr hg)
  have F__law_changed := fun_mk (st := s__law_changed) l23 c23 k23
  have B__law_changed := F__law_changed.binds (ps := ps__law_changed) fun _ _ _ _ _ _ us hl => match us, hl with | [_, _], _ => rfl
  have Q__law_changed : ∀ q ∈ kbs__law_changed, KB K (PySem.W.fnOf "_law_changed" "_law_changed" (defArgs s__law_changed) (defBody s__law_changed) (defScope s__law_changed) .none kV23 dc23 pm23 an23 cd23 ct23) ps__law_changed q.1 q.2 := fun _ hq => nomatch hq
  have D__law_changed : Df Wd.P Wd.w K mg base 3 "_law_changed" ps__law_changed ms__law_changed kbs__law_changed spec__law_changed := df_mk F__law_changed sc__law_changed rfl rfl run__law_changed (PySem.W.mg_of X G a23) k23 B__law_changed Q__law_changed sm_Changed (fun cdv A outer s H E hr hg => dv__law_changed Bt D__law_take D__law_of hr hg)
  have F__law_odd := fun_mk (st := s__law_odd) l24 c24 k24
  have B__law_odd := F__law_odd.binds (ps := ps__law_odd) fun _ _ _ _ _ _ us hl => match us, hl with | [_], _ => rfl
  have Q__law_odd : ∀ q ∈ kbs__law_odd, KB K (PySem.W.fnOf "_law_odd" "_law_odd" (defArgs s__law_odd) (defBody s__law_odd) (defScope s__law_odd) .none kV24 dc24 pm24 an24 cd24 ct24) ps__law_odd q.1 q.2 := fun _ hq => nomatch hq
  have D__law_odd : Df Wd.P Wd.w K mg base 3 "_law_odd" ps__law_odd ms__law_odd kbs__law_odd spec__law_odd := df_mk F__law_odd sc__law_odd rfl rfl run__law_odd (PySem.W.mg_of X G a24) k24 B__law_odd Q__law_odd sm_Odd (fun cdv A outer s H E hr hg => dv__law_odd Bt D__law_of hr hg)
  have F__law_bent := fun_mk (st := s__law_bent) l25 c25 k25
  have B__law_bent := F__law_bent.binds (ps := ps__law_bent) fun _ _ _ _ _ _ us hl => match us, hl with | [_, _, _], _ => rfl
  have Q__law_bent : ∀ q ∈ kbs__law_bent, KB K (PySem.W.fnOf "_law_bent" "_law_bent" (defArgs s__law_bent) (defBody s__law_bent) (defScope s__law_bent) .none kV25 dc25 pm25 an25 cd25 ct25) ps__law_bent q.1 q.2 := fun _ hq => nomatch hq
  have D__law_bent_0 : Df Wd.P Wd.w K mg base 3 "_law_bent" ps__law_bent ms__law_bent kbs__law_bent (Bent 0) := df_no bent_no (PySem.W.mg_of X G a25) k25 B__law_bent Q__law_bent
  have D__law_bent_1 : Df Wd.P Wd.w K mg base 4 "_law_bent" ps__law_bent ms__law_bent kbs__law_bent (Bent 1) := df_mk F__law_bent sc__law_bent rfl rfl (run__law_bent 0) (PySem.W.mg_of X G a25) k25 B__law_bent Q__law_bent sm_Bent (fun cdv A outer s H E hr hg => dv__law_bent Bt (by decide) D__law_bent_0 D__law_take D__law_odd hr hg)
  have D__law_bent_2 : Df Wd.P Wd.w K mg base 5 "_law_bent" ps__law_bent ms__law_bent kbs__law_bent (Bent 2) := df_mk F__law_bent sc__law_bent rfl rfl (run__law_bent 1) (PySem.W.mg_of X G a25) k25 B__law_bent Q__law_bent sm_Bent (fun cdv A outer s H E hr hg => dv__law_bent Bt (by decide) D__law_bent_1 D__law_take D__law_odd hr hg)
  have D__law_bent_3 : Df Wd.P Wd.w K mg base 6 "_law_bent" ps__law_bent ms__law_bent kbs__law_bent (Bent 3) := df_mk F__law_bent sc__law_bent rfl rfl (run__law_bent 2) (PySem.W.mg_of X G a25) k25 B__law_bent Q__law_bent sm_Bent (fun cdv A outer s H E hr hg => dv__law_bent Bt (by decide) D__law_bent_2 D__law_take D__law_odd hr hg)
  have D__law_bent_4 : Df Wd.P Wd.w K mg base 7 "_law_bent" ps__law_bent ms__law_bent kbs__law_bent (Bent 4) := df_mk F__law_bent sc__law_bent rfl rfl (run__law_bent 3) (PySem.W.mg_of X G a25) k25 B__law_bent Q__law_bent sm_Bent (fun cdv A outer s H E hr hg => dv__law_bent Bt (by decide) D__law_bent_3 D__law_take D__law_odd hr hg)
  have D__law_bent := D__law_bent_4
  have F__law_is_number := fun_mk (st := s__law_is_number) l26 c26 k26
  have B__law_is_number := F__law_is_number.binds (ps := ps__law_is_number) fun _ _ _ _ _ _ us hl => match us, hl with | [_], _ => rfl
  have Q__law_is_number : ∀ q ∈ kbs__law_is_number, KB K (PySem.W.fnOf "_law_is_number" "_law_is_number" (defArgs s__law_is_number) (defBody s__law_is_number) (defScope s__law_is_number) .none kV26 dc26 pm26 an26 cd26 ct26) ps__law_is_number q.1 q.2 := fun _ hq => nomatch hq
  have D__law_is_number : Df Wd.P Wd.w K mg base 1 "_law_is_number" ps__law_is_number ms__law_is_number kbs__law_is_number spec__law_is_number := df_mk F__law_is_number sc__law_is_number rfl rfl run__law_is_number (PySem.W.mg_of X G a26) k26 B__law_is_number Q__law_is_number sm_IsNumber (fun cdv A outer s H E hr hg => dv__law_is_number Bt hr hg)
  have F__law_are_places := fun_mk (st := s__law_are_places) l27 c27 k27
  have B__law_are_places := F__law_are_places.binds (ps := ps__law_are_places) fun _ _ _ _ _ _ us hl => match us, hl with | [_, _, _, _], _ => rfl
  have Q__law_are_places : ∀ q ∈ kbs__law_are_places, KB K (PySem.W.fnOf "_law_are_places" "_law_are_places" (defArgs s__law_are_places) (defBody s__law_are_places) (defScope s__law_are_places) .none kV27 dc27 pm27 an27 cd27 ct27) ps__law_are_places q.1 q.2 := fun _ hq => nomatch hq
  have D__law_are_places : Df Wd.P Wd.w K mg base 2 "_law_are_places" ps__law_are_places ms__law_are_places kbs__law_are_places spec__law_are_places := df_mk F__law_are_places sc__law_are_places rfl rfl run__law_are_places (PySem.W.mg_of X G a27) k27 B__law_are_places Q__law_are_places sm_IsParting (fun cdv A outer s H E hr hg => dv__law_are_places Bt D__law_alike hr hg)
  have F__law_is_it := fun_mk (st := s__law_is_it) l28 c28 k28
  have B__law_is_it := F__law_is_it.binds (ps := ps__law_is_it) fun _ _ _ _ _ _ us hl => match us, hl with | [_, _, _, _], _ => rfl
  have Q__law_is_it : ∀ q ∈ kbs__law_is_it, KB K (PySem.W.fnOf "_law_is_it" "_law_is_it" (defArgs s__law_is_it) (defBody s__law_is_it) (defScope s__law_is_it) .none kV28 dc28 pm28 an28 cd28 ct28) ps__law_is_it q.1 q.2 := fun _ hq => nomatch hq
  have D__law_is_it : Df Wd.P Wd.w K mg base 3 "_law_is_it" ps__law_is_it ms__law_is_it kbs__law_is_it spec__law_is_it := df_mk F__law_is_it sc__law_is_it rfl rfl run__law_is_it (PySem.W.mg_of X G a28) k28 B__law_is_it Q__law_is_it sm_ShowsP (fun cdv A outer s H E hr hg => dv__law_is_it Bt D__law_is_number D__law_are_places hr hg)
  have F__law_right := fun_mk (st := s__law_right) l29 c29 k29
  have B__law_right := F__law_right.binds (ps := ps__law_right) fun _ _ _ _ _ _ us hl => match us, hl with | [_], _ => rfl
  have Q__law_right : ∀ q ∈ kbs__law_right, KB K (PySem.W.fnOf "_law_right" "_law_right" (defArgs s__law_right) (defBody s__law_right) (defScope s__law_right) .none kV29 dc29 pm29 an29 cd29 ct29) ps__law_right q.1 q.2 := fun _ hq => nomatch hq
  have D__law_right : Df Wd.P Wd.w K mg base 8 "_law_right" ps__law_right ms__law_right kbs__law_right spec__law_right := df_mk F__law_right sc__law_right rfl rfl run__law_right (PySem.W.mg_of X G a29) k29 B__law_right Q__law_right sm_Right (fun cdv A outer s H E hr hg => dv__law_right Bt D__law_scroll D__law_span D__law_page D_least_parting D__law_changed D__law_bent D__law_take D__law_odd D__law_is_it D_shows_parting D__law_same hr hg)
  exact fg_mk (fun_mk (st := s_law) l30 c30 k30) sc_law rfl rfl run_law (fun cdv A outer s H E hr hg => dv_law Bt D__law_cells D__law_box D__law_right hr hg)
end VL
open PySem PySem.W PyProof.Rows in
set_option maxRecDepth 100000 in
set_option maxHeartbeats 0 in
theorem PySem.Challenge.cw_eyeskip_k09_evidence_of_partings_holds : PySem.Challenge.rw_eyeskip_k09_evidence_of_partings.Holds := by
  w_on; o_law; k_head; (case hw => w_witness2)
  k_fill
  refine VL.walkG (l := PySem.Challenge.rw_eyeskip_k09_evidence_of_partings) (k := 9) (x := "_law_script") rfl rfl ⟨rfl, by decide, by decide⟩ (fun w h Y => PySem.W.kIn_of Y) ?F
  case F =>
    intro w mg fa h KX G hmg
    refine' VL.all_mk (W := ⟨PySem.Challenge.rw_eyeskip_k09_evidence_of_partings.prog, w⟩) KX G hmg ?a0 ?l0 ?c0 ?k0 ?a1 ?l1 ?c1 ?k1 ?a2 ?l2 ?c2 ?k2 ?a3 ?l3 ?c3 ?k3 ?a4 ?l4 ?c4 ?k4 ?a5 ?l5 ?c5 ?k5 ?a6 ?l6 ?c6 ?k6 ?a7 ?l7 ?c7 ?k7 ?a8 ?l8 ?c8 ?k8 ?a9 ?l9 ?c9 ?k9 ?a10 ?l10 ?c10 ?k10 ?a11 ?l11 ?c11 ?k11 ?a12 ?l12 ?c12 ?k12 ?a13 ?l13 ?c13 ?k13 ?a14 ?l14 ?c14 ?k14 ?a15 ?l15 ?c15 ?k15 ?a16 ?l16 ?c16 ?k16 ?a17 ?l17 ?c17 ?k17 ?a18 ?l18 ?c18 ?k18 ?a19 ?l19 ?c19 ?k19 ?a20 ?l20 ?c20 ?k20 ?a21 ?l21 ?c21 ?k21 ?a22 ?l22 ?c22 ?k22 ?a23 ?l23 ?c23 ?k23 ?a24 ?l24 ?c24 ?k24 ?a25 ?l25 ?c25 ?k25 ?a26 ?l26 ?c26 ?k26 ?a27 ?l27 ?c27 ?k27 ?a28 ?l28 ?c28 ?k28 ?a29 ?l29 ?c29 ?k29 ?a30 ?l30 ?c30 ?k30 ?z_len ?z_abs ?z_int ?z_tuple ?z_list ?z_all ?z_any ?z_sum ?z_min ?z_max ?z_repr ?z_range ?z_zip ?z_enumerate ?z_sorted ?z_set ?z_isinstance ?z_str ?z_bool
    (case a0 => k_is)
    (case l0 => k_is)
    (case c0 => k_is)
    (case k0 => k_is)
    (case a1 => k_is)
    (case l1 => k_is)
    (case c1 => k_is)
    (case k1 => k_is)
    (case a2 => k_is)
    (case l2 => k_is)
    (case c2 => k_is)
    (case k2 => k_is)
    (case a3 => k_is)
    (case l3 => k_is)
    (case c3 => k_is)
    (case k3 => k_is)
    (case a4 => k_is)
    (case l4 => k_is)
    (case c4 => k_is)
    (case k4 => k_is)
    (case a5 => k_is)
    (case l5 => k_is)
    (case c5 => k_is)
    (case k5 => k_is)
    (case a6 => k_is)
    (case l6 => k_is)
    (case c6 => k_is)
    (case k6 => k_is)
    (case a7 => k_is)
    (case l7 => k_is)
    (case c7 => k_is)
    (case k7 => k_is)
    (case a8 => k_is)
    (case l8 => k_is)
    (case c8 => k_is)
    (case k8 => k_is)
    (case a9 => k_is)
    (case l9 => k_is)
    (case c9 => k_is)
    (case k9 => k_is)
    (case a10 => k_is)
    (case l10 => k_is)
    (case c10 => k_is)
    (case k10 => k_is)
    (case a11 => k_is)
    (case l11 => k_is)
    (case c11 => k_is)
    (case k11 => k_is)
    (case a12 => k_is)
    (case l12 => k_is)
    (case c12 => k_is)
    (case k12 => k_is)
    (case a13 => k_is)
    (case l13 => k_is)
    (case c13 => k_is)
    (case k13 => k_is)
    (case a14 => k_is)
    (case l14 => k_is)
    (case c14 => k_is)
    (case k14 => k_is)
    (case a15 => k_is)
    (case l15 => k_is)
    (case c15 => k_is)
    (case k15 => k_is)
    (case a16 => k_is)
    (case l16 => k_is)
    (case c16 => k_is)
    (case k16 => k_is)
    (case a17 => k_is)
    (case l17 => k_is)
    (case c17 => k_is)
    (case k17 => k_is)
    (case a18 => k_is)
    (case l18 => k_is)
    (case c18 => k_is)
    (case k18 => k_is)
    (case a19 => k_is)
    (case l19 => k_is)
    (case c19 => k_is)
    (case k19 => k_is)
    (case a20 => k_is)
    (case l20 => k_is)
    (case c20 => k_is)
    (case k20 => k_is)
    (case a21 => k_is)
    (case l21 => k_is)
    (case c21 => k_is)
    (case k21 => k_is)
    (case a22 => k_is)
    (case l22 => k_is)
    (case c22 => k_is)
    (case k22 => k_is)
    (case a23 => k_is)
    (case l23 => k_is)
    (case c23 => k_is)
    (case k23 => k_is)
    (case a24 => k_is)
    (case l24 => k_is)
    (case c24 => k_is)
    (case k24 => k_is)
    (case a25 => k_is)
    (case l25 => k_is)
    (case c25 => k_is)
    (case k25 => k_is)
    (case a26 => k_is)
    (case l26 => k_is)
    (case c26 => k_is)
    (case k26 => k_is)
    (case a27 => k_is)
    (case l27 => k_is)
    (case c27 => k_is)
    (case k27 => k_is)
    (case a28 => k_is)
    (case l28 => k_is)
    (case c28 => k_is)
    (case k28 => k_is)
    (case a29 => k_is)
    (case l29 => k_is)
    (case c29 => k_is)
    (case k29 => k_is)
    (case a30 => k_is)
    (case l30 => k_is)
    (case c30 => k_is)
    (case k30 => k_is)
    (case z_len => k_is)
    (case z_abs => k_is)
    (case z_int => k_is)
    (case z_tuple => k_is)
    (case z_list => k_is)
    (case z_all => k_is)
    (case z_any => k_is)
    (case z_sum => k_is)
    (case z_min => k_is)
    (case z_max => k_is)
    (case z_repr => k_is)
    (case z_range => k_is)
    (case z_zip => k_is)
    (case z_enumerate => k_is)
    (case z_sorted => k_is)
    (case z_set => k_is)
    (case z_isinstance => k_is)
    (case z_str => k_is)
    (case z_bool => k_is)

