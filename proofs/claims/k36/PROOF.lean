import PyProof.Rows.All
import Wide.All
import OpenK.AllK
import Wide.FinOn
import HandS.ForMost
import HandS.Wide
import HandS.WideBits
import HandS.Style
import HandS.Conv
import HandS.HeadHook1
import HandS.Deep
import HandS.IsInst
import HandS.Text
import HandS.SortInts
import KE.SortData
import HandS.Dict
import HandS.DictComp
import HandS.Defaults
import KE.KStateDown
import HandS.More
import HandS.Head0
import HandS.Head1
import HandS.HeadEnd
import HandS.Head2
import HandS.HeadHook2
import PyProof.ReprRoads
import PyProof.CallFns
import PyProof.Rows.RegStrFacts
import PyProof.P3Eq
import HandS.Remove
import PyProof.ListStr
import PyProof.CollectStr
import KE.DataFind
import KE.KSuper
import KE.KExcSuper
import KE.KExcMake
import HandS.Exc
import HandS.ExcInit
import HandS.ExcSuper
import HandS.ExcField
import HandS.ExcIs
import KE.KExcIs
import KE.KDictDisplayH
import PySem.Challenge.RW_turnlines_k36_orders_numbered_in_classes
set_option Elab.async false
set_option linter.all false
set_option maxRecDepth 100000
set_option maxHeartbeats 4000000
namespace TL
open PySem PySem.Spec PyProof.Rows L2

/-! ### data, slots, handles -/
inductive Slt where
  | fz (d : PyData) | ow (d : PyData) | io (d : PyData) | sc (ns : List Int) | tr (d : PyData) | xc (p : Str × PyData)
abbrev Ev := List (Option Slt)
inductive Hd where
  | v (d : PyData) | n (d : PyData) | s (i : Nat) | t (d : PyData)
abbrev FE := Ev → Option (Hd × Ev)
abbrev FT := Ev → Option (Bool × Ev)
abbrev FA := Ev → Option (List Hd × Ev)
inductive Out where
  | nx (r : Ev) | rt (h : Hd) (r : Ev) | bk (r : Ev) | ct (r : Ev)
abbrev FS := Ev → Option Out

def keyD : Key → PyData
  | .inl i => .int i
  | .inr x => .str x

def Ext (F H : Hp) : Prop := ∀ a o, F a = some o → H a = some o
theorem Ext.refl (H : Hp) : Ext H H := fun _ _ h => h
theorem Ext.trans {A B C : Hp} (x : Ext A B) (y : Ext B C) : Ext A C := fun a o h => y a o (x a o h)
theorem Ext.new {H : Hp} {p : Addr} {o : HO} (h : H p = none) : Ext H (upd H p o) := fun a u e => by
  rw [upd_ne (ne_of_none e h)]; exact e

mutual
inductive Rp (F : Hp) : V → PyData → Prop
  | non : Rp F .non .none
  | bl (b : Bool) : Rp F (.bl b) (.bool b)
  | int (i : Int) : Rp F (.int i) (.int i)
  | str (x : Str) : Rp F (.str x) (.str x)
  | lst {a : Addr} {vs : List V} {ds : List PyData} : F a = some (.lst vs) → RpAll F vs ds → Rp F (.ref a) (.list ds)
  | tup {a : Addr} {vs : List V} {ds : List PyData} : F a = some (.tup vs) → RpAll F vs ds → Rp F (.ref a) (.tuple ds)
  | dK {a : Addr} {kvs : List (Key × V)} {ds : List (PyData × PyData)} : F a = some (.dK kvs) → RpKv F kvs ds → Rp F (.ref a) (.dict ds)
  | dT {a : Addr} {kvs : List (List Key × V)} {ds : List (PyData × PyData)} : F a = some (.dT kvs) → RpTv F kvs ds → Rp F (.ref a) (.dict ((.none, .none) :: ds))
inductive RpAll (F : Hp) : List V → List PyData → Prop
  | nil : RpAll F [] []
  | cons {v : V} {vs : List V} {d : PyData} {ds : List PyData} : Rp F v d → RpAll F vs ds → RpAll F (v :: vs) (d :: ds)
inductive RpKv (F : Hp) : List (Key × V) → List (PyData × PyData) → Prop
  | nil : RpKv F [] []
  | cons {k : Key} {v : V} {vs : List (Key × V)} {d : PyData} {ds : List (PyData × PyData)} : Rp F v d → RpKv F vs ds → RpKv F ((k, v) :: vs) ((keyD k, d) :: ds)
inductive RpTv (F : Hp) : List (List Key × V) → List (PyData × PyData) → Prop
  | nil : RpTv F [] []
  | cons {k : List Key} {v : V} {vs : List (List Key × V)} {d : PyData} {ds : List (PyData × PyData)} : Rp F v d → RpTv F vs ds → RpTv F ((k, v) :: vs) ((.tuple (k.map keyD), d) :: ds)
end

section
variable {F F' : Hp} (e : Ext F F')
include e
mutual
theorem Rp.mono : ∀ {v d}, Rp F v d → Rp F' v d
  | _, _, .non => .non
  | _, _, .bl b => .bl b
  | _, _, .int i => .int i
  | _, _, .str x => .str x
  | _, _, .lst h r => .lst (e _ _ h) (RpAll.mono r)
  | _, _, .tup h r => .tup (e _ _ h) (RpAll.mono r)
  | _, _, .dK h r => .dK (e _ _ h) (RpKv.mono r)
  | _, _, .dT h r => .dT (e _ _ h) (RpTv.mono r)
theorem RpAll.mono : ∀ {v d}, RpAll F v d → RpAll F' v d
  | _, _, .nil => .nil
  | _, _, .cons h r => .cons (Rp.mono h) (RpAll.mono r)
theorem RpKv.mono : ∀ {v d}, RpKv F v d → RpKv F' v d
  | _, _, .nil => .nil
  | _, _, .cons h r => .cons (Rp.mono h) (RpKv.mono r)
theorem RpTv.mono : ∀ {v d}, RpTv F v d → RpTv F' v d
  | _, _, .nil => .nil
  | _, _, .cons h r => .cons (Rp.mono h) (RpTv.mono r)
end
end
theorem RpAll.length {F : Hp} : ∀ {vs ds}, RpAll F vs ds → vs.length = ds.length
  | _, _, .nil => rfl
  | _, _, .cons _ r => congrArg (· + 1) r.length
theorem RpAll.get {F : Hp} : ∀ {vs ds} {i : Nat} {d : PyData}, RpAll F vs ds → ds[i]? = some d → ∃ v, vs[i]? = some v ∧ Rp F v d
  | _, _, _, _, .nil, e => by simp at e
  | _, _, 0, _, .cons h _, e => by simp at e; subst e; exact ⟨_, rfl, h⟩
  | _, _, i + 1, _, .cons _ r, e => by
    obtain ⟨v, h1, h2⟩ := RpAll.get (i := i) r (by simpa using e)
    exact ⟨v, by simpa using h1, h2⟩
theorem RpAll.getV {F : Hp} : ∀ {vs ds} {i : Nat} {v : V}, RpAll F vs ds → vs[i]? = some v → ∃ d, ds[i]? = some d ∧ Rp F v d
  | _, _, _, _, .nil, e => by simp at e
  | _, _, 0, _, .cons h _, e => by simp at e; subst e; exact ⟨_, rfl, h⟩
  | _, _, i + 1, _, .cons _ r, e => by
    obtain ⟨v, h1, h2⟩ := RpAll.getV (i := i) r (by simpa using e)
    exact ⟨v, by simpa using h1, h2⟩
theorem RpAll.append {F : Hp} : ∀ {vs ds ws es}, RpAll F vs ds → RpAll F ws es → RpAll F (vs ++ ws) (ds ++ es)
  | _, _, _, _, .nil, s => s
  | _, _, _, _, .cons h r, s => .cons h (r.append s)
theorem RpAll.take {F : Hp} : ∀ {vs ds} (n : Nat), RpAll F vs ds → RpAll F (vs.take n) (ds.take n)
  | _, _, 0, _ => .nil
  | _, _, _ + 1, .nil => .nil
  | _, _, n + 1, .cons h r => .cons h (r.take n)
theorem RpAll.drop {F : Hp} : ∀ {vs ds} (n : Nat), RpAll F vs ds → RpAll F (vs.drop n) (ds.drop n)
  | _, _, 0, r => r
  | _, _, _ + 1, .nil => .nil
  | _, _, n + 1, .cons _ r => r.drop n
theorem RpAll.set {F : Hp} {v : V} {d : PyData} (h : Rp F v d) : ∀ {vs ds} (n : Nat), RpAll F vs ds → RpAll F (vs.set n v) (ds.set n d)
  | _, _, _, .nil => .nil
  | _, _, 0, .cons _ r => .cons h r
  | _, _, n + 1, .cons q r => .cons q (RpAll.set h n r)
theorem RpAll.eraseIdx {F : Hp} : ∀ {vs ds} (n : Nat), RpAll F vs ds → RpAll F (vs.eraseIdx n) (ds.eraseIdx n)
  | _, _, _, .nil => .nil
  | _, _, 0, .cons _ r => r
  | _, _, n + 1, .cons q r => .cons q (r.eraseIdx n)
theorem RpAll.reverse {F : Hp} : ∀ {vs ds}, RpAll F vs ds → RpAll F vs.reverse ds.reverse
  | _, _, .nil => .nil
  | _, _, .cons h r => by rw [List.reverse_cons, List.reverse_cons]; exact r.reverse.append (.cons h .nil)
theorem RpAll.dropLast {F : Hp} {vs ds} (r : RpAll F vs ds) : RpAll F vs.dropLast ds.dropLast := by
  rw [List.dropLast_eq_take, List.dropLast_eq_take, r.length]; exact r.take _
theorem RpAll.ints {F : Hp} : ∀ {vs} {ns : List Int}, RpAll F vs (ns.map .int) → vs = ns.map V.int
  | _, [], .nil => rfl
  | _, n :: ns, .cons h r => by cases h; rw [List.map_cons, r.ints]
theorem RpAll.ofInts {F : Hp} : ∀ (ns : List Int), RpAll F (ns.map V.int) (ns.map .int)
  | [] => .nil
  | n :: ns => .cons (.int n) (RpAll.ofInts ns)

/-- content of a mutable object -/
inductive OC (F : Hp) : HO → PyData → Prop
  | lst {vs : List V} {ds : List PyData} : RpAll F vs ds → OC F (.lst vs) (.list ds)
  | dK {kvs : List (Key × V)} {ds : List (PyData × PyData)} : RpKv F kvs ds → OC F (.dK kvs) (.dict ds)
  | dT {kvs : List (List Key × V)} {ds : List (PyData × PyData)} : RpTv F kvs ds → OC F (.dT kvs) (.dict ((.none, .none) :: ds))
theorem OC.mono {F F' : Hp} (e : Ext F F') {o d} : OC F o d → OC F' o d
  | .lst r => .lst (r.mono e)
  | .dK r => .dK (r.mono e)
  | .dT r => .dT (r.mono e)
theorem OC.rp {F : Hp} {a : Addr} {o d} (h : F a = some o) : OC F o d → Rp F (.ref a) d
  | .lst r => .lst h r
  | .dK r => .dK h r
  | .dT r => .dT h r

/-! ### trees: lists and tuples that are nobody else's, through and through -/
/-- what refers to nothing -/
def scal : PyData → Bool
  | .none => true
  | .bool _ => true
  | .int _ => true
  | .str _ => true
  | _ => false
/-- .. or a tuple of such -/
def scal2 : PyData → Bool
  | .tuple ds => ds.all scal
  | d => scal d
mutual
inductive Tr (F H : Hp) : V → PyData → List Addr → Prop
  | leaf {x : V} {d : PyData} : scal2 d = true → Rp F x d → Tr F H x d []
  | ls {a : Addr} {vs : List V} {ds : List PyData} {fp : List Addr} : H a = some (.lst vs) → F a = none → Trs F H vs ds fp → a ∉ fp → Tr F H (.ref a) (.list ds) (a :: fp)
  | tp {a : Addr} {vs : List V} {ds : List PyData} {fp : List Addr} : scal2 (.tuple ds) = false → H a = some (.tup vs) → F a = none → Trs F H vs ds fp → a ∉ fp → Tr F H (.ref a) (.tuple ds) (a :: fp)
inductive Trs (F H : Hp) : List V → List PyData → List Addr → Prop
  | nil : Trs F H [] [] []
  | cons {v : V} {d : PyData} {f : List Addr} {vs : List V} {ds : List PyData} {fs : List Addr} : Tr F H v d f → Trs F H vs ds fs → (∀ a ∈ f, a ∉ fs) → Trs F H (v :: vs) (d :: ds) (f ++ fs)
end
section
variable {F F' H H' : Hp}
mutual
theorem Tr.at : ∀ {x d fp}, Tr F H x d fp → ∀ a ∈ fp, H a ≠ none ∧ F a = none
  | _, _, _, .leaf _ _, _, h => by cases h
  | _, _, _, .ls h1 h2 r _, b, h => by
    rcases List.mem_cons.mp h with rfl | h
    · exact ⟨by rw [h1]; simp, h2⟩
    · exact Trs.at r b h
  | _, _, _, .tp _ h1 h2 r _, b, h => by
    rcases List.mem_cons.mp h with rfl | h
    · exact ⟨by rw [h1]; simp, h2⟩
    · exact Trs.at r b h
theorem Trs.at : ∀ {x d fp}, Trs F H x d fp → ∀ a ∈ fp, H a ≠ none ∧ F a = none
  | _, _, _, .nil, _, h => by cases h
  | _, _, _, .cons q r _, b, h => by
    rcases List.mem_append.mp h with h | h
    · exact Tr.at q b h
    · exact Trs.at r b h
end
mutual
theorem Tr.uniq : ∀ {x d fp}, Tr F H x d fp → ∀ {fp'}, Tr F' H x d fp' → fp = fp'
  | _, _, _, .leaf s _, _, q => by
    cases q with
    | leaf _ _ => rfl
    | ls _ _ _ _ => cases s
    | tp s2 _ _ _ _ => rw [s] at s2; cases s2
  | _, _, _, .ls h1 h2 r _, _, q => by
    cases q with
    | leaf s _ => cases s
    | ls g1 g2 r2 _ =>
      rw [h1] at g1; cases g1
      rw [Trs.uniq r r2]
  | _, _, _, .tp s h1 h2 r _, _, q => by
    cases q with
    | leaf s2 _ => rw [s] at s2; cases s2
    | tp _ g1 g2 r2 _ =>
      rw [h1] at g1; cases g1
      rw [Trs.uniq r r2]
theorem Trs.uniq : ∀ {x d fp}, Trs F H x d fp → ∀ {fp'}, Trs F' H x d fp' → fp = fp'
  | _, _, _, .nil, _, q => by cases q; rfl
  | _, _, _, .cons q r _, _, q' => by
    cases q' with
    | cons a b _ => rw [Tr.uniq q a, Trs.uniq r b]
end
mutual
theorem Tr.frame (e : Ext F F') : ∀ {x d fp}, Tr F H x d fp → (∀ a ∈ fp, H' a = H a ∧ F' a = F a) → Tr F' H' x d fp
  | _, _, _, .leaf s r, _ => .leaf s (r.mono e)
  | _, _, _, .ls h1 h2 r n, k => .ls ((k _ List.mem_cons_self).1.trans h1) ((k _ List.mem_cons_self).2.trans h2) (Trs.frame e r fun a h => k a (List.mem_cons_of_mem _ h)) n
  | _, _, _, .tp s h1 h2 r n, k => .tp s ((k _ List.mem_cons_self).1.trans h1) ((k _ List.mem_cons_self).2.trans h2) (Trs.frame e r fun a h => k a (List.mem_cons_of_mem _ h)) n
theorem Trs.frame (e : Ext F F') : ∀ {x d fp}, Trs F H x d fp → (∀ a ∈ fp, H' a = H a ∧ F' a = F a) → Trs F' H' x d fp
  | _, _, _, .nil, _ => .nil
  | _, _, _, .cons q r n, k => .cons (Tr.frame e q fun a h => k a (List.mem_append_left _ h)) (Trs.frame e r fun a h => k a (List.mem_append_right _ h)) n
end
/-- all frozen -/
def frzT (F H : Hp) (fp : List Addr) : Hp := fun a => if a ∈ fp then H a else F a
mutual
theorem Tr.frz {G : Hp} (e : Ext F G) : ∀ {x d fp}, Tr F H x d fp → (∀ a ∈ fp, G a = H a) → Rp G x d
  | _, _, _, .leaf s r, _ => r.mono e
  | _, _, _, .ls h1 _ r _, k => .lst ((k _ List.mem_cons_self).trans h1) (Trs.frz e r fun a h => k a (List.mem_cons_of_mem _ h))
  | _, _, _, .tp _ h1 _ r _, k => .tup ((k _ List.mem_cons_self).trans h1) (Trs.frz e r fun a h => k a (List.mem_cons_of_mem _ h))
theorem Trs.frz {G : Hp} (e : Ext F G) : ∀ {x d fp}, Trs F H x d fp → (∀ a ∈ fp, G a = H a) → RpAll G x d
  | _, _, _, .nil, _ => .nil
  | _, _, _, .cons q r _, k => .cons (Tr.frz e q fun a h => k a (List.mem_append_left _ h)) (Trs.frz e r fun a h => k a (List.mem_append_right _ h))
end
theorem frzT_ext {fp : List Addr} (n : ∀ a ∈ fp, F a = none) : Ext F (frzT F H fp) := fun a o h => by
  unfold frzT
  rw [if_neg]
  · exact h
  · intro m
    rw [n a m] at h; cases h
theorem frzT_sub {fp : List Addr} (e : Ext F H) : Ext (frzT F H fp) H := fun a o h => by
  unfold frzT at h
  split at h
  · exact h
  · exact e a o h
theorem frzT_in {fp : List Addr} {a : Addr} (h : a ∈ fp) : frzT F H fp a = H a := if_pos h
theorem frzT_out {fp : List Addr} {a : Addr} (h : a ∉ fp) : frzT F H fp a = F a := if_neg h
end

/-! ### the relation between slots' data and the heap -/
def OwnAt (r : Ev) (i : Nat) (d : PyData) : Prop := r[i]? = some (some (Slt.ow d)) ∨ r[i]? = some (some (Slt.io d))
/-- what a slot owns -/
def OwnA (H : Hp) (s : Slt) (x : V) (a : Addr) : Prop := match s with
  | .ow _ => x = .ref a
  | .io _ => x = .ref a
  | .tr d => ∃ F fp, Tr F H x d fp ∧ a ∈ fp
  | _ => False
def Owned (r : Ev) (σ : L2.St) (H : Hp) (a : Addr) : Prop := ∃ (i : Nat) (s : Slt) (x : V), r[i]? = some (some s) ∧ σ[i]? = some (some x) ∧ OwnA H s x a
theorem OwnAt.a {r : Ev} {i : Nat} {d : PyData} (h : OwnAt r i d) : ∃ s, r[i]? = some (some s) ∧ ∀ H a, OwnA H s (.ref a) a := by
  rcases h with h | h
  · exact ⟨_, h, fun _ _ => rfl⟩
  · exact ⟨_, h, fun _ _ => rfl⟩
theorem Owned.of {r : Ev} {σ : L2.St} {H : Hp} {a : Addr} {i : Nat} {d : PyData} (h : OwnAt r i d) (e : σ[i]? = some (some (V.ref a))) : Owned r σ H a := by
  obtain ⟨s, h1, h2⟩ := h.a
  exact ⟨i, s, _, h1, e, h2 H a⟩
/-! ### a kept exception: of the class called p.1, its value p.2 -/
def ExD (C d a : Addr) : HO := .ext fun h => ∃ oe vs, h.get? a = some oe ∧ Zc (.ref C) (some d) oe ∧ oe.data = .fields vs
def XcAt (K : PySem.W.Frag) (F : Hp) (a : Addr) (p : Str × PyData) : Prop := ∃ d x, F a = some (ExD (He.ga K p.1) d a) ∧ F d = some (.xd [(("value" : Str), x)]) ∧ Rp F x p.2
theorem XcAt.ext {K : PySem.W.Frag} {F F' : Hp} {a : Addr} {p : Str × PyData} (e : Ext F F') (h : XcAt K F a p) : XcAt K F' a p := by
  obtain ⟨d, x, h1, h2, h3⟩ := h
  exact ⟨d, x, e _ _ h1, e _ _ h2, h3.mono e⟩
structure Rel (K : PySem.W.Frag) (F : Hp) (r : Ev) (σ : L2.St) (H : Hp) : Prop where
  sub : Ext F H
  len : r.length = σ.length
  fz : ∀ (i : Nat) (d : PyData), r[i]? = some (some (Slt.fz d)) → ∃ v, σ[i]? = some (some v) ∧ Rp F v d
  own : ∀ (i : Nat) (d : PyData), OwnAt r i d → ∃ a o, σ[i]? = some (some (V.ref a)) ∧ H a = some o ∧ F a = none ∧ OC F o d
  tr : ∀ (i : Nat) (d : PyData), r[i]? = some (some (Slt.tr d)) → ∃ x fp, σ[i]? = some (some x) ∧ Tr F H x d fp
  scr : ∀ (i : Nat) (ns : List Int), r[i]? = some (some (Slt.sc ns)) → ∃ a, σ[i]? = some (some (V.ref a)) ∧ SqL K F a (ns.map V.int)
  xc : ∀ (i : Nat) (p : Str × PyData), r[i]? = some (some (Slt.xc p)) → ∃ a, σ[i]? = some (some (V.ref a)) ∧ XcAt K F a p
  dja : ∀ (i j : Nat) (s t : Slt) (x y : V) (a : Addr), r[i]? = some (some s) → r[j]? = some (some t) → σ[i]? = some (some x) → σ[j]? = some (some y) → OwnA H s x a → OwnA H t y a → i = j
theorem Rel.dj {K : PySem.W.Frag} {F : Hp} {r : Ev} {σ : L2.St} {H : Hp} (R : Rel K F r σ H) (i j : Nat) (d e : PyData) (a : Addr) (h1 : OwnAt r i d) (h2 : OwnAt r j e) (e1 : σ[i]? = some (some (V.ref a))) (e2 : σ[j]? = some (some (V.ref a))) : i = j := by
  obtain ⟨s, p1, p2⟩ := h1.a
  obtain ⟨t, q1, q2⟩ := h2.a
  exact R.dja i j s t _ _ a p1 q1 e1 e2 (p2 H a) (q2 H a)
/-- what is owned stands there, unfrozen -/
theorem Rel.ownA {K : PySem.W.Frag} {F : Hp} {r : Ev} {σ : L2.St} {H : Hp} (R : Rel K F r σ H) {i : Nat} {s : Slt} {x : V} {a : Addr} (h1 : r[i]? = some (some s)) (h2 : σ[i]? = some (some x)) (h3 : OwnA H s x a) : H a ≠ none ∧ F a = none := by
  cases s with
  | fz d => exact h3.elim
  | sc d => exact h3.elim
  | xc d => exact h3.elim
  | ow d =>
    obtain ⟨b, o, e1, e2, e3, _⟩ := R.own i d (.inl h1)
    rw [h2] at e1; cases e1
    cases h3
    exact ⟨by rw [e2]; simp, e3⟩
  | io d =>
    obtain ⟨b, o, e1, e2, e3, _⟩ := R.own i d (.inr h1)
    rw [h2] at e1; cases e1
    cases h3
    exact ⟨by rw [e2]; simp, e3⟩
  | tr d =>
    obtain ⟨y, fp, e1, e2⟩ := R.tr i d h1
    rw [h2] at e1; cases e1
    obtain ⟨F', fp', t, m⟩ := h3
    rw [← e2.uniq t] at m
    exact e2.at a m
theorem Rel.ownedAt {K : PySem.W.Frag} {F : Hp} {r : Ev} {σ : L2.St} {H : Hp} (R : Rel K F r σ H) {a : Addr} (h : Owned r σ H a) : H a ≠ none ∧ F a = none := by
  obtain ⟨i, s, x, h1, h2, h3⟩ := h
  exact R.ownA h1 h2 h3
/-- what a slot owns, behind a change elsewhere -/
theorem ownA_back {K : PySem.W.Frag} {F : Hp} {r : Ev} {σ : L2.St} {H H' : Hp} (R : Rel K F r σ H) {i : Nat} {s : Slt} {x : V} {a : Addr} (h1 : r[i]? = some (some s)) (h2 : σ[i]? = some (some x)) (k : ∀ b, OwnA H s x b → H' b = H b) (h3 : OwnA H' s x a) : OwnA H s x a := by
  cases s with
  | fz d => exact h3.elim
  | sc d => exact h3.elim
  | xc d => exact h3.elim
  | ow d => exact h3
  | io d => exact h3
  | tr d =>
    obtain ⟨y, fp, e1, e2⟩ := R.tr i d h1
    rw [h2] at e1; cases e1
    obtain ⟨F', fp', t, m⟩ := h3
    have t2 : Tr F H' x d fp := e2.frame (Ext.refl F) fun b hb => ⟨k b ⟨F, fp, e2, hb⟩, rfl⟩
    rw [← t2.uniq t] at m
    exact ⟨F, fp, e2, m⟩
/-- a tree slot, behind a change elsewhere -/
theorem Rel.trKeep {K : PySem.W.Frag} {F F' : Hp} {r : Ev} {σ : L2.St} {H H' : Hp} (R : Rel K F r σ H) (e : Ext F F') {i : Nat} {d : PyData} (h : r[i]? = some (some (Slt.tr d))) (k : ∀ x b, σ[i]? = some (some x) → OwnA H (.tr d) x b → H' b = H b ∧ F' b = F b) : ∃ x fp, σ[i]? = some (some x) ∧ Tr F' H' x d fp := by
  obtain ⟨x, fp, e1, e2⟩ := R.tr i d h
  exact ⟨x, fp, e1, e2.frame e fun b hb => k x b e1 ⟨F, fp, e2, hb⟩⟩
structure Stp (r : Ev) (σ : L2.St) (F H : Hp) (r' : Ev) (σ' : L2.St) (F' H' : Hp) : Prop where
  ext : Ext F F'
  pres : ∀ a, H a ≠ none → ¬ Owned r σ H a → H' a = H a ∧ F' a = F a ∧ ¬ Owned r' σ' H' a
  io : ∀ (i : Nat) (d : PyData), r[i]? = some (some (Slt.io d)) → ∃ d', r'[i]? = some (some (Slt.io d')) ∧ σ'[i]? = σ[i]?
  stay : ∀ a, H a ≠ none → H' a ≠ none
  sl : σ'.length = σ.length
theorem Stp.refl (r : Ev) (σ : L2.St) (F H : Hp) : Stp r σ F H r σ F H := ⟨Ext.refl F, fun _ _ h => ⟨rfl, rfl, h⟩, fun _ d h => ⟨d, h, rfl⟩, fun _ h => h, rfl⟩
theorem Stp.trans {r r1 r2 : Ev} {σ σ1 σ2 : L2.St} {F F1 F2 H H1 H2 : Hp} (a : Stp r σ F H r1 σ1 F1 H1) (b : Stp r1 σ1 F1 H1 r2 σ2 F2 H2) : Stp r σ F H r2 σ2 F2 H2 := by
  refine ⟨a.ext.trans b.ext, fun x hx hn => ?_, fun i d h => ?_, fun x h => b.stay x (a.stay x h), b.sl.trans a.sl⟩
  · obtain ⟨h1, f1, n1⟩ := a.pres x hx hn
    obtain ⟨h2, f2, n2⟩ := b.pres x (by rw [h1]; exact hx) n1
    exact ⟨h2.trans h1, f2.trans f1, n2⟩
  · obtain ⟨d1, e1, s1⟩ := a.io i d h
    obtain ⟨d2, e2, s2⟩ := b.io i d1 e1
    exact ⟨d2, e2, s2.trans s1⟩
/-- an address owned behind a step was owned ahead of it, or is new -/
theorem Stp.old {r r1 : Ev} {σ σ1 : L2.St} {F F1 H H1 : Hp} (s : Stp r σ F H r1 σ1 F1 H1) {a : Addr} (h : Owned r1 σ1 H1 a) : H a = none ∨ Owned r σ H a := by
  by_cases e : H a = none
  · exact .inl e
  · by_cases q : Owned r σ H a
    · exact .inr q
    · exact absurd h (s.pres a e q).2.2
theorem Rel.notOwned {K : PySem.W.Frag} {F : Hp} {r : Ev} {σ : L2.St} {H : Hp} (R : Rel K F r σ H) {a : Addr} {o : HO} (h : F a = some o) : ¬ Owned r σ H a := fun q => by
  rw [(R.ownedAt q).2] at h; cases h

/-- what a handle stands for -/
inductive HdRep (F : Hp) (r : Ev) (σ : L2.St) (H : Hp) : Hd → V → Prop
  | v {d : PyData} {x : V} : Rp F x d → HdRep F r σ H (.v d) x
  | n {d : PyData} {a : Addr} {o : HO} : H a = some o → F a = none → ¬ Owned r σ H a → OC F o d → HdRep F r σ H (.n d) (.ref a)
  | s {i : Nat} {x : V} : σ[i]? = some (some x) → HdRep F r σ H (.s i) x
  | t {d : PyData} {x : V} {fp : List Addr} : Tr F H x d fp → (∀ a ∈ fp, ¬ Owned r σ H a) → HdRep F r σ H (.t d) x
theorem HdRep.step {r r' : Ev} {σ : L2.St} {F H F' H' : Hp} {h : Hd} {x : V} (q : HdRep F r σ H h x) (s : Stp r σ F H r' σ F' H') : HdRep F' r' σ H' h x := by
  cases q with
  | v q => exact .v (q.mono s.ext)
  | n h1 h2 h3 h4 =>
    obtain ⟨e1, e2, e3⟩ := s.pres _ (by rw [h1]; simp) h3
    exact .n (e1.trans h1) (e2.trans h2) e3 (h4.mono s.ext)
  | s q => exact .s q
  | t q n =>
    have k := fun a ha => s.pres a (q.at a ha).1 (n a ha)
    exact .t (q.frame s.ext fun a ha => ⟨(k a ha).1, (k a ha).2.1⟩) fun a ha => (k a ha).2.2

/-- what stands at a value now -/
inductive Cur (F H : Hp) : V → PyData → Prop
  | r {x : V} {d : PyData} : Rp F x d → Cur F H x d
  | o {a : Addr} {o : HO} {d : PyData} : H a = some o → OC F o d → Cur F H (.ref a) d
def slotD : Slt → Option PyData
  | .fz d => some d
  | .ow d => some d
  | .io d => some d
  | .sc _ => none
  | .xc _ => none
  | .tr _ => none
def cur (h : Hd) (r : Ev) : Option PyData := match h with
  | .v d => some d
  | .n d => some d
  | .s i => match r[i]? with
    | some (some s) => slotD s
    | _ => none
  | .t _ => none
theorem cur_ok {K : PySem.W.Frag} {F : Hp} {r : Ev} {σ : L2.St} {H : Hp} (R : Rel K F r σ H) {h : Hd} {x : V} {d : PyData} (q : HdRep F r σ H h x) (e : cur h r = some d) : Cur F H x d := by
  cases q with
  | v q => cases e; exact .r q
  | n h1 _ _ h4 => cases e; exact .o h1 h4
  | @s i x q =>
    simp only [cur] at e
    split at e
    · rename_i s hs
      cases s with
      | fz d' =>
        cases e
        obtain ⟨v, e1, e2⟩ := R.fz i _ hs
        rw [q] at e1; cases e1
        exact .r e2
      | ow d' =>
        cases e
        obtain ⟨a, o, e1, e2, _, e4⟩ := R.own i _ (.inl hs)
        rw [q] at e1; cases e1
        exact .o e2 e4
      | io d' =>
        cases e
        obtain ⟨a, o, e1, e2, _, e4⟩ := R.own i _ (.inr hs)
        rw [q] at e1; cases e1
        exact .o e2 e4
      | sc ns => cases e
      | xc ns => cases e
      | tr ns => cases e
    · cases e
  | t q n => cases e
/-- by what it is -/
theorem Cur.list {F H : Hp} (e : Ext F H) {x : V} {ds : List PyData} (q : Cur F H x (.list ds)) : ∃ a vs, x = .ref a ∧ H a = some (.lst vs) ∧ RpAll F vs ds := by
  cases q with
  | r q => cases q with
    | lst h r => exact ⟨_, _, rfl, e _ _ h, r⟩
  | o h q => cases q with
    | lst r => exact ⟨_, _, rfl, h, r⟩
theorem Cur.tuple {F H : Hp} (e : Ext F H) {x : V} {ds : List PyData} (q : Cur F H x (.tuple ds)) : ∃ a vs, x = .ref a ∧ F a = some (.tup vs) ∧ H a = some (.tup vs) ∧ RpAll F vs ds := by
  cases q with
  | r q => cases q with
    | tup h r => exact ⟨_, _, rfl, h, e _ _ h, r⟩
  | o h q => cases q
theorem Cur.dict {F H : Hp} (e : Ext F H) {x : V} {ds : List (PyData × PyData)} (q : Cur F H x (.dict ds)) : (∃ a kvs, x = .ref a ∧ H a = some (.dK kvs) ∧ RpKv F kvs ds) ∨ ∃ a kvs ds', ds = (.none, .none) :: ds' ∧ x = .ref a ∧ H a = some (.dT kvs) ∧ RpTv F kvs ds' := by
  cases q with
  | r q => cases q with
    | dK h r => exact .inl ⟨_, _, rfl, e _ _ h, r⟩
    | dT h r => exact .inr ⟨_, _, _, rfl, rfl, e _ _ h, r⟩
  | o h q => cases q with
    | dK r => exact .inl ⟨_, _, rfl, h, r⟩
    | dT r => exact .inr ⟨_, _, _, rfl, rfl, h, r⟩
theorem Cur.int {F H : Hp} {x : V} {i : Int} (q : Cur F H x (.int i)) : x = .int i := by
  cases q with
  | r q => cases q; rfl
  | o h q => cases q
theorem Cur.bool {F H : Hp} {x : V} {i : Bool} (q : Cur F H x (.bool i)) : x = .bl i := by
  cases q with
  | r q => cases q; rfl
  | o h q => cases q
theorem Cur.str {F H : Hp} {x : V} {i : Str} (q : Cur F H x (.str i)) : x = .str i := by
  cases q with
  | r q => cases q; rfl
  | o h q => cases q
theorem Cur.none {F H : Hp} {x : V} (q : Cur F H x .none) : x = .non := by
  cases q with
  | r q => cases q; rfl
  | o h q => cases q

/-! ### letting a handle go (its object is frozen) -/
def esc (h : Hd) (r : Ev) : Option (PyData × Ev) := match h with
  | .v d => some (d, r)
  | .n d => some (d, r)
  | .t d => some (d, r)
  | .s i => match r[i]? with
    | some (some (.fz d)) => some (d, r)
    | some (some (.ow d)) => some (d, r.set i (some (.fz d)))
    | some (some (.tr d)) => some (d, r.set i (some (.fz d)))
    | _ => none
/-- freezing at addresses that the step's start does not know or owns -/
theorem Stp.frzA {r r1 : Ev} {σ σ1 : L2.St} {F F1 G H H1 : Hp} (s : Stp r σ F H r1 σ1 F1 H1) (eg : Ext F1 G) (h : ∀ a, G a ≠ F1 a → H a = none ∨ Owned r σ H a) : Stp r σ F H r1 σ1 G H1 := by
  refine ⟨s.ext.trans eg, fun x hx hn => ?_, s.io, s.stay, s.sl⟩
  obtain ⟨e1, e2, e3⟩ := s.pres x hx hn
  refine ⟨e1, ?_, e3⟩
  by_cases z : G x = F1 x
  · exact z.trans e2
  · rcases h x z with q | q
    · exact absurd q hx
    · exact absurd q hn
theorem Stp.frz {r r1 : Ev} {σ σ1 : L2.St} {F F1 H H1 : Hp} (s : Stp r σ F H r1 σ1 F1 H1) {a : Addr} {o : HO} (ha : F1 a = none) (h : H a = none ∨ Owned r σ H a) : Stp r σ F H r1 σ1 (upd F1 a o) H1 :=
  s.frzA (Ext.new ha) fun b hb => by
    by_cases e : b = a
    · subst e; exact h
    · exact absurd (upd_ne e) hb
theorem ownAt_lt {r : Ev} {i : Nat} {d : PyData} (h : OwnAt r i d) : i < r.length := by
  rcases h with h | h <;> exact (List.getElem?_eq_some_iff.mp h).1
theorem ownAt_set {r : Ev} {i j : Nat} {s : Option Slt} {d : PyData} (h : OwnAt (r.set i s) j d) (hs : ∀ d, s ≠ some (Slt.ow d)) (hs2 : ∀ d, s ≠ some (Slt.io d)) : OwnAt r j d ∧ i ≠ j := by
  by_cases e : i = j
  · subst e
    have hl := ownAt_lt h
    rw [List.length_set] at hl
    rcases h with h | h <;> (rw [List.getElem?_set_self hl] at h; injection h with h; first | exact absurd h (hs _) | exact absurd h (hs2 _))
  · refine ⟨?_, e⟩
    rcases h with h | h <;> (rw [List.getElem?_set_ne e] at h; first | exact .inl h | exact .inr h)
theorem get_set {α : Type} (l : List α) (i j : Nat) (x y : α) (h : (l.set i x)[j]? = some y) : (i = j ∧ y = x ∧ i < l.length) ∨ (i ≠ j ∧ l[j]? = some y) := by
  by_cases e : i = j
  · subst e
    have hl : i < l.length := by
      have := (List.getElem?_eq_some_iff.mp h).1
      rwa [List.length_set] at this
    rw [List.getElem?_set_self hl] at h
    cases h
    exact .inl ⟨rfl, rfl, hl⟩
  · rw [List.getElem?_set_ne e] at h
    exact .inr ⟨e, h⟩
/-- a slot that owns nothing put in -/
theorem set_noown {r : Ev} {i j : Nat} {s : Slt} {t : Option Slt} {x : V} {H : Hp} {a : Addr} (h : (r.set i t)[j]? = some (some s)) (o : OwnA H s x a) (ht : ∀ u, t = some u → ¬ OwnA H u x a) : i ≠ j ∧ r[j]? = some (some s) := by
  rcases get_set _ _ _ _ _ h with ⟨rfl, e, _⟩ | h
  · exact absurd o (ht s e.symm)
  · exact h
theorem SqL.ext {K : PySem.W.Frag} {F F' : Hp} {a : Addr} {xs : List V} (e : Ext F F') (h : SqL K F a xs) : SqL K F' a xs := by
  rcases h with (h2 | ⟨ob, h2⟩) | h2
  · exact .inl (.inl (e _ _ h2))
  · exact .inl (.inr ⟨ob, e _ _ h2⟩)
  · exact .inr h2
/-- what a slot owns alone: nobody else does -/
theorem Rel.other {K : PySem.W.Frag} {F : Hp} {r : Ev} {σ : L2.St} {H : Hp} (R : Rel K F r σ H) {i j : Nat} {s t : Slt} {x y : V} {a : Addr} (h1 : r[i]? = some (some s)) (e1 : σ[i]? = some (some x)) (o1 : OwnA H s x a) (ne : i ≠ j) (h2 : r[j]? = some (some t)) (e2 : σ[j]? = some (some y)) : ¬ OwnA H t y a := fun o2 => ne (R.dja i j s t x y a h1 h2 e1 e2 o1 o2)
/-- F grows at addresses that slot i owns, and the slot is known as frozen from then on -/
theorem Rel.freezeS {K : PySem.W.Frag} {F G : Hp} {r : Ev} {σ : L2.St} {H : Hp} (R : Rel K F r σ H) {i : Nat} {s : Slt} {x : V} {d : PyData} (h : r[i]? = some (some s)) (hx : σ[i]? = some (some x)) (eg : Ext F G) (sg : Ext G H) (hg : ∀ a, G a ≠ F a → OwnA H s x a) (hr : Rp G x d) : Rel K G (r.set i (some (.fz d))) σ H := by
  have il : i < r.length := (List.getElem?_eq_some_iff.mp h).1
  have oth : ∀ {j : Nat} {t : Slt} {y : V} {a : Addr}, i ≠ j → r[j]? = some (some t) → σ[j]? = some (some y) → OwnA H t y a → G a = F a := fun {j t y a} ne h2 e2 o2 => by
    by_cases z : G a = F a
    · exact z
    · exact absurd (R.dja i j s t x y a h h2 hx e2 (hg a z) o2) ne
  refine ⟨sg, by rw [List.length_set]; exact R.len, fun j d' hj => ?_, fun j d' hj => ?_, fun j d' hj => ?_, fun j ns hj => ?_, fun j ns hj => ?_, fun j k s1 s2 x1 x2 b hj hk ej ek o1 o2 => ?_⟩
  · rcases get_set _ _ _ _ _ hj with ⟨rfl, e, _⟩ | ⟨ne, hj⟩
    · cases e; exact ⟨x, hx, hr⟩
    · obtain ⟨v, q1, q2⟩ := R.fz j d' hj
      exact ⟨v, q1, q2.mono eg⟩
  · obtain ⟨hj', ne⟩ := ownAt_set hj (fun _ z => by cases z) (fun _ z => by cases z)
    obtain ⟨b, u, q1, q2, q3, q4⟩ := R.own j d' hj'
    obtain ⟨t, w1, w2⟩ := hj'.a
    exact ⟨b, u, q1, q2, (oth ne w1 q1 (w2 H b)).trans q3, q4.mono eg⟩
  · rcases get_set _ _ _ _ _ hj with ⟨rfl, e, _⟩ | ⟨ne, hj⟩
    · cases e
    · exact R.trKeep eg hj fun y b ey ob => ⟨rfl, oth ne hj ey ob⟩
  · rcases get_set _ _ _ _ _ hj with ⟨rfl, e, _⟩ | ⟨ne, hj⟩
    · cases e
    · obtain ⟨b, q1, q2⟩ := R.scr j ns hj
      exact ⟨b, q1, SqL.ext eg q2⟩
  · rcases get_set _ _ _ _ _ hj with ⟨rfl, e, _⟩ | ⟨ne, hj⟩
    · cases e
    · obtain ⟨b, q1, q2⟩ := R.xc j ns hj
      exact ⟨b, q1, XcAt.ext eg q2⟩
  · obtain ⟨_, g1⟩ := set_noown hj o1 (fun u e => by cases e; exact id)
    obtain ⟨_, g2⟩ := set_noown hk o2 (fun u e => by cases e; exact id)
    exact R.dja j k s1 s2 x1 x2 b g1 g2 ej ek o1 o2
/-- an owned slot frozen -/
theorem Rel.freeze {K : PySem.W.Frag} {F : Hp} {r : Ev} {σ : L2.St} {H : Hp} (R : Rel K F r σ H) {i : Nat} {d : PyData} (h : r[i]? = some (some (Slt.ow d))) :
    ∃ a o, σ[i]? = some (some (V.ref a)) ∧ H a = some o ∧ F a = none ∧ OC F o d ∧ Rel K (upd F a o) (r.set i (some (.fz d))) σ H := by
  obtain ⟨a, o, e1, e2, e3, e4⟩ := R.own i d (.inl h)
  refine ⟨a, o, e1, e2, e3, e4, R.freezeS h e1 (Ext.new e3) (fun b u hb => ?_) (fun b hb => ?_) (OC.rp upd_same (e4.mono (Ext.new e3)))⟩
  · by_cases hb' : b = a
    · subst hb'; rw [upd_same] at hb; cases hb; exact e2
    · rw [upd_ne hb'] at hb; exact R.sub b u hb
  · by_cases hb' : b = a
    · subst hb'; rfl
    · exact absurd (upd_ne hb') hb
theorem owned_set_fz {r : Ev} {σ : L2.St} {H : Hp} {i : Nat} {d : PyData} {a : Addr} (h : Owned (r.set i (some (.fz d))) σ H a) : Owned r σ H a := by
  obtain ⟨j, s, x, h1, h2, h3⟩ := h
  exact ⟨j, s, x, (set_noown h1 h3 (fun u e => by cases e; exact id)).2, h2, h3⟩
/-- freezing what no slot owns -/
theorem Rel.freezeX {K : PySem.W.Frag} {F G : Hp} {r : Ev} {σ : L2.St} {H : Hp} (R : Rel K F r σ H) (eg : Ext F G) (sg : Ext G H) (hg : ∀ a, G a ≠ F a → ¬ Owned r σ H a) : Rel K G r σ H := by
  have k : ∀ {j : Nat} {t : Slt} {y : V} {a : Addr}, r[j]? = some (some t) → σ[j]? = some (some y) → OwnA H t y a → G a = F a := fun {j t y a} h2 e2 o2 => by
    by_cases z : G a = F a
    · exact z
    · exact absurd ⟨j, t, y, h2, e2, o2⟩ (hg a z)
  refine ⟨sg, R.len, fun j d hj => ?_, fun j d hj => ?_, fun j d hj => R.trKeep eg hj fun y b ey ob => ⟨rfl, k hj ey ob⟩, fun j ns hj => ?_, fun j ns hj => ?_, R.dja⟩
  · obtain ⟨v, q1, q2⟩ := R.fz j d hj
    exact ⟨v, q1, q2.mono eg⟩
  · obtain ⟨b, u, q1, q2, q3, q4⟩ := R.own j d hj
    obtain ⟨t, w1, w2⟩ := hj.a
    exact ⟨b, u, q1, q2, (k w1 q1 (w2 H b)).trans q3, q4.mono eg⟩
  · obtain ⟨b, q1, q2⟩ := R.scr j ns hj
    exact ⟨b, q1, SqL.ext eg q2⟩
  · obtain ⟨b, q1, q2⟩ := R.xc j ns hj
    exact ⟨b, q1, XcAt.ext eg q2⟩
/-- freezing an object that no slot owns -/
theorem Rel.freezeNew {K : PySem.W.Frag} {F : Hp} {r : Ev} {σ : L2.St} {H : Hp} (R : Rel K F r σ H) {a : Addr} {o : HO} (h1 : H a = some o) (h2 : F a = none) (h3 : ¬ Owned r σ H a) : Rel K (upd F a o) r σ H := by
  refine R.freezeX (Ext.new h2) (fun b u hb => ?_) fun b hb => ?_
  · by_cases hb' : b = a
    · subst hb'; rw [upd_same] at hb; cases hb; exact h1
    · rw [upd_ne hb'] at hb; exact R.sub b u hb
  · by_cases hb' : b = a
    · subst hb'; exact h3
    · exact absurd (upd_ne hb') hb
/-- the addresses that a handle brings -/
def HdA (H : Hp) (h : Hd) (x : V) (a : Addr) : Prop := match h with
  | .n _ => x = .ref a
  | .t d => ∃ F fp, Tr F H x d fp ∧ a ∈ fp
  | _ => False
/-- they are new -/
def NewAt (P : Addr → Prop) (H1 : Hp) (h : Hd) (x : V) : Prop := ∀ a, HdA H1 h x a → P a
/-- not there, or owned -/
def Fsh (r : Ev) (σ : L2.St) (H : Hp) (a : Addr) : Prop := H a = none ∨ Owned r σ H a
abbrev Nn (H : Hp) (a : Addr) : Prop := H a = none
theorem nw_v {P : Addr → Prop} {H1 : Hp} {d : PyData} {x : V} : NewAt P H1 (.v d) x := fun a z => z.elim
theorem nw_s {P : Addr → Prop} {H1 : Hp} {i : Nat} {x : V} : NewAt P H1 (.s i) x := fun a z => z.elim
theorem esc_ok {K : PySem.W.Frag} {r r1 r2 : Ev} {σ σ1 : L2.St} {F H F1 H1 : Hp} {h : Hd} {x : V} {d : PyData} (S : Stp r σ F H r1 σ1 F1 H1) (R : Rel K F1 r1 σ1 H1) (q : HdRep F1 r1 σ1 H1 h x) (nw : NewAt (Fsh r σ H) H1 h x) (e : esc h r1 = some (d, r2)) :
    ∃ F2, Rel K F2 r2 σ1 H1 ∧ Stp r σ F H r2 σ1 F2 H1 ∧ Rp F2 x d ∧ Ext F1 F2 ∧ (∀ a, ¬ Owned r1 σ1 H1 a → ¬ Owned r2 σ1 H1 a) ∧ (∀ a, F1 a = none → ¬ Owned r1 σ1 H1 a → ¬ HdA H1 h x a → F2 a = none) := by
  cases q with
  | v q => cases e; exact ⟨F1, R, S, q, Ext.refl _, fun _ h => h, fun _ h _ _ => h⟩
  | @n d' a o h1 h2 h3 h4 =>
    cases e
    refine ⟨upd F1 a o, R.freezeNew h1 h2 h3, S.frz h2 (nw a rfl), OC.rp upd_same (h4.mono (Ext.new h2)), Ext.new h2, fun _ h => h, fun b hb _ hx => ?_⟩
    rw [upd_ne]
    · exact hb
    · rintro rfl
      exact hx rfl
  | @t _ _ fp q n =>
    cases e
    have ex := frzT_ext (F := F1) (H := H1) (fp := fp) fun a ha => (q.at a ha).2
    have inn : ∀ a, frzT F1 H1 fp a ≠ F1 a → a ∈ fp := fun a ha => by
      by_cases m : a ∈ fp
      · exact m
      · exact absurd (frzT_out m) ha
    refine ⟨frzT F1 H1 fp, R.freezeX ex (frzT_sub R.sub) fun a ha => n a (inn a ha), S.frzA ex fun a ha => nw a ⟨F1, fp, q, inn a ha⟩, q.frz ex fun a ha => frzT_in ha, ex, fun _ h => h, fun b hb _ hx => ?_⟩
    rw [frzT_out]
    · exact hb
    · exact fun m => hx ⟨F1, fp, q, m⟩
  | @s i x q =>
    simp only [esc] at e
    split at e
    · rename_i d' hs
      cases e
      obtain ⟨v, e1, e2⟩ := R.fz i _ hs
      rw [q] at e1; cases e1
      exact ⟨F1, R, S, e2, Ext.refl _, fun _ h => h, fun _ h _ _ => h⟩
    · rename_i d' hs
      cases e
      obtain ⟨a, o, e1, e2, e3, e4, R2⟩ := R.freeze hs
      rw [q] at e1; cases e1
      have hA : Owned r1 σ1 H1 a := .of (.inl hs) q
      refine ⟨upd F1 a o, R2, ?_, OC.rp upd_same (e4.mono (Ext.new e3)), Ext.new e3, fun b hb z => hb (owned_set_fz z), fun b hb hn _ => ?_⟩
      · have S2 := S.frz (o := o) e3 (S.old hA)
        refine ⟨S2.ext, fun b hb hn => ?_, fun j dd hj => ?_, S2.stay, S2.sl⟩
        · obtain ⟨q1, q2, q3⟩ := S2.pres b hb hn
          exact ⟨q1, q2, fun z => q3 (owned_set_fz z)⟩
        · obtain ⟨d1, q1, q2⟩ := S2.io j dd hj
          refine ⟨d1, ?_, q2⟩
          rw [List.getElem?_set_ne]
          · exact q1
          · rintro rfl
            rw [hs] at q1; cases q1
      · rw [upd_ne]
        · exact hb
        · rintro rfl
          exact hn hA
    · rename_i d' hs
      cases e
      obtain ⟨y, fp, e1, e2⟩ := R.tr i _ hs
      rw [q] at e1; cases e1
      have ex := frzT_ext (F := F1) (H := H1) (fp := fp) fun a ha => (e2.at a ha).2
      have inn : ∀ a, frzT F1 H1 fp a ≠ F1 a → a ∈ fp := fun a ha => by
        by_cases m : a ∈ fp
        · exact m
        · exact absurd (frzT_out m) ha
      have own : ∀ a, a ∈ fp → Owned r1 σ1 H1 a := fun a ha => ⟨i, _, _, hs, q, F1, fp, e2, ha⟩
      have rp : Rp (frzT F1 H1 fp) x _ := e2.frz ex fun a ha => frzT_in ha
      refine ⟨frzT F1 H1 fp, R.freezeS hs q ex (frzT_sub R.sub) (fun a ha => ⟨F1, fp, e2, inn a ha⟩) rp, ?_, rp, ex, fun b hb z => hb (owned_set_fz z), fun b hb hn _ => ?_⟩
      · have S2 := S.frzA ex fun a ha => S.old (own a (inn a ha))
        refine ⟨S2.ext, fun b hb hn => ?_, fun j dd hj => ?_, S2.stay, S2.sl⟩
        · obtain ⟨q1, q2, q3⟩ := S2.pres b hb hn
          exact ⟨q1, q2, fun z => q3 (owned_set_fz z)⟩
        · obtain ⟨d1, q1, q2⟩ := S2.io j dd hj
          refine ⟨d1, ?_, q2⟩
          rw [List.getElem?_set_ne]
          · exact q1
          · rintro rfl
            rw [hs] at q1; cases q1
      · rw [frzT_out]
        · exact hb
        · exact fun m => hn (own b m)
    · cases e
end TL

namespace TL
open PySem PySem.Spec PyProof.Rows L2

/-! ### answers of operations -/
inductive AnsV (F' H H' : Hp) : Hd → V → Prop
  | v {d : PyData} {x : V} : Rp F' x d → AnsV F' H H' (.v d) x
  | n {d : PyData} {a : Addr} {o : HO} : H a = none → H' a = some o → F' a = none → OC F' o d → AnsV F' H H' (.n d) (.ref a)
structure Ans (F H : Hp) (h : Hd) (x : V) (F' H' : Hp) : Prop where
  ext : Ext F F'
  sub : Ext F' H'
  keep : ∀ a, H a ≠ none → H' a = H a ∧ F' a = F a
  val : AnsV F' H H' h x
theorem Ans.val' {F H : Hp} {x : V} {d : PyData} (e : Ext F H) (h : Rp F x d) : Ans F H (.v d) x F H := ⟨Ext.refl F, e, fun _ _ => ⟨rfl, rfl⟩, .v h⟩
theorem fnone {F H : Hp} (e : Ext F H) {a : Addr} (h : H a = none) : F a = none := by
  cases q : F a with
  | none => rfl
  | some o => rw [e a o q] at h; cases h
theorem Ans.new {F H : Hp} {a : Addr} {o : HO} {d : PyData} (e : Ext F H) (h : H a = none) (c : OC F o d) : Ans F H (.n d) (.ref a) F (upd H a o) :=
  ⟨Ext.refl F, e.trans (Ext.new h), fun b hb => ⟨upd_ne (fun z => hb (z ▸ h)), rfl⟩, .n h upd_same (fnone e h) c⟩
theorem Ans.tup {F H : Hp} {a : Addr} {vs : List V} {ds : List PyData} (e : Ext F H) (h : H a = none) (c : RpAll F vs ds) : Ans F H (.v (.tuple ds)) (.ref a) (upd F a (.tup vs)) (upd H a (.tup vs)) := by
  have fa : F a = none := fnone e h
  refine ⟨Ext.new fa, fun b u q => ?_, fun b hb => ?_, .v (.tup upd_same (c.mono (Ext.new fa)))⟩
  · by_cases hb : b = a
    · subst hb; rw [upd_same] at q ⊢; exact q
    · rw [upd_ne hb] at q ⊢; exact e b u q
  · have ne : b ≠ a := fun z => hb (z ▸ h)
    exact ⟨upd_ne ne, upd_ne ne⟩
theorem Rel.grow {K : PySem.W.Frag} {F F' H H' : Hp} {r : Ev} {σ : L2.St} (R : Rel K F r σ H) (ext : Ext F F') (sub : Ext F' H') (keep : ∀ a, H a ≠ none → H' a = H a ∧ F' a = F a) : Rel K F' r σ H' ∧ Stp r σ F H r σ F' H' := by
  have kk : ∀ {i : Nat} {s : Slt} {x : V} {a : Addr}, r[i]? = some (some s) → σ[i]? = some (some x) → OwnA H s x a → H' a = H a ∧ F' a = F a := fun h1 h2 h3 => keep _ (R.ownA h1 h2 h3).1
  have bk : ∀ {i : Nat} {s : Slt} {x : V} {a : Addr}, r[i]? = some (some s) → σ[i]? = some (some x) → OwnA H' s x a → OwnA H s x a := fun h1 h2 h3 => ownA_back R h1 h2 (fun b hb => (kk h1 h2 hb).1) h3
  refine ⟨⟨sub, R.len, fun i d h => ?_, fun i d h => ?_, fun i d h => R.trKeep ext h fun x b ex ob => kk h ex ob, fun i ns h => ?_, fun i ns h => ?_, fun i j s t x y a h1 h2 e1 e2 o1 o2 => R.dja i j s t x y a h1 h2 e1 e2 (bk h1 e1 o1) (bk h2 e2 o2)⟩, ext, fun a ha hn => ⟨(keep a ha).1, (keep a ha).2, fun ⟨i, s, x, h1, h2, h3⟩ => hn ⟨i, s, x, h1, h2, bk h1 h2 h3⟩⟩, fun i d h => ⟨d, h, rfl⟩, fun a ha => by rw [(keep a ha).1]; exact ha, rfl⟩
  · obtain ⟨v, q1, q2⟩ := R.fz i d h
    exact ⟨v, q1, q2.mono ext⟩
  · obtain ⟨b, u, q1, q2, q3, q4⟩ := R.own i d h
    have k := keep b (by rw [q2]; simp)
    exact ⟨b, u, q1, k.1.trans q2, k.2.trans q3, q4.mono ext⟩
  · obtain ⟨b, q1, q2⟩ := R.scr i ns h
    exact ⟨b, q1, SqL.ext ext q2⟩
  · obtain ⟨b, q1, q2⟩ := R.xc i ns h
    exact ⟨b, q1, XcAt.ext ext q2⟩
theorem Rel.notNew {K : PySem.W.Frag} {F H : Hp} {r : Ev} {σ : L2.St} (R : Rel K F r σ H) {a : Addr} (h : H a = none) : ¬ Owned r σ H a := fun q => (R.ownedAt q).1 h
theorem Rel.ans {K : PySem.W.Frag} {F F' H H' : Hp} {r : Ev} {σ : L2.St} {h : Hd} {x : V} (R : Rel K F r σ H) (A : Ans F H h x F' H') : Rel K F' r σ H' ∧ Stp r σ F H r σ F' H' ∧ HdRep F' r σ H' h x ∧ NewAt (Fsh r σ H) H' h x := by
  obtain ⟨R', S⟩ := R.grow A.ext A.sub A.keep
  refine ⟨R', S, ?_, ?_⟩
  · cases A.val with
    | v q => exact .v q
    | n h1 h2 h3 h4 =>
      refine .n h2 h3 (fun o => ?_) h4
      obtain ⟨i, s, y, w1, w2, w3⟩ := o
      have := ownA_back R w1 w2 (fun b hb => (A.keep b (R.ownA w1 w2 hb).1).1) w3
      exact R.notNew h1 ⟨i, s, y, w1, w2, this⟩
  · intro a ea
    cases A.val with
    | v q => exact ea.elim
    | n h1 h2 h3 h4 => cases ea; exact .inl h1

/-! ### readings -/
def tI (K : PySem.W.Frag) (f : FE) : TE := fun σ H Q => ∃ F r h r', Rel K F r σ H ∧ f r = some (h, r') ∧
  ∀ x F' H', Rel K F' r' σ H' → Stp r σ F H r' σ F' H' → HdRep F' r' σ H' h x → NewAt (Fsh r σ H) H' h x → Q x H'
def tIT (K : PySem.W.Frag) (f : FT) : TT := fun σ H Q => ∃ F r b r', Rel K F r σ H ∧ f r = some (b, r') ∧
  ∀ F' H', Rel K F' r' σ H' → Stp r σ F H r' σ F' H' → Q b H'
abbrev SE (X : Cx) (e : Expr) (f : FE) : Prop := PE X e (tI X.K f)
abbrev ST (X : Cx) (e : Expr) (f : FT) : Prop := PT X e (tIT X.K f)
section
variable {X : Cx} {e : Expr}
theorem PEimp {t t' : TE} (h : PE X e t) (w : ∀ σ H Q, t' σ H Q → t σ H Q) : PE X e t' := ⟨fun pins s σ H Q I q => h.run pins s σ H Q I (w σ H Q q)⟩
theorem PTimp {t t' : TT} (h : PT X e t) (w : ∀ σ H Q, t' σ H Q → t σ H Q) : PT X e t' := ⟨fun pins s σ H Q I q => h.run pins s σ H Q I (w σ H Q q)⟩
theorem PWimp {t t' : TT} (h : PW X e t) (w : ∀ σ H Q, t' σ H Q → t σ H Q) : PW X e t' := ⟨fun wh pins s σ H Q I q => h.run wh pins s σ H Q I (w σ H Q q)⟩
theorem PSimp {st : Stmt} {t t' : TS} (h : PS X st t) (w : ∀ D σ H, t' D σ H → t D σ H) : PS X st t' := ⟨fun pins s σ H D I q => h.run pins s σ H D I (w D σ H q)⟩
theorem PSsimp {st : List Stmt} {t t' : TS} (h : PSs X st t) (w : ∀ D σ H, t' D σ H → t D σ H) : PSs X st t' := ⟨fun pins s σ H D I q => h.run pins s σ H D I (w D σ H q)⟩
theorem PAimp {es : List Expr} {t t' : TA} (h : PA X es t) (w : ∀ σ H Q, t' σ H Q → t σ H Q) : PA X es t' := ⟨fun pos pins s σ H Q I q => h.run pos pins s σ H Q I (w σ H Q q)⟩
end

/-! ### atoms -/
def sVar (i : Nat) : FE := fun r => match r[i]? with
  | some (some _) => some (.s i, r)
  | _ => none
def sC (d : PyData) : FE := fun r => some (.v d, r)
theorem Rel.slot {K : PySem.W.Frag} {F H : Hp} {r : Ev} {σ : L2.St} (R : Rel K F r σ H) {i : Nat} {s : Slt} (h : r[i]? = some (some s)) : ∃ v, σ[i]? = some (some v) := by
  cases s with
  | fz d => obtain ⟨v, q, _⟩ := R.fz i d h; exact ⟨v, q⟩
  | ow d => obtain ⟨a, _, q, _⟩ := R.own i d (.inl h); exact ⟨_, q⟩
  | io d => obtain ⟨a, _, q, _⟩ := R.own i d (.inr h); exact ⟨_, q⟩
  | sc ns => obtain ⟨a, q, _⟩ := R.scr i ns h; exact ⟨_, q⟩
  | xc ns => obtain ⟨a, q, _⟩ := R.xc i ns h; exact ⟨_, q⟩
  | tr d => obtain ⟨a, _, q, _⟩ := R.tr i d h; exact ⟨_, q⟩
section
variable {X : Cx}
theorem tVar_ok {K : PySem.W.Frag} {i : Nat} : ∀ σ H Q, tI K (sVar i) σ H Q → tVar i σ H Q := by
  rintro σ H Q ⟨F, r, h, r', R, e, k⟩
  unfold sVar at e
  split at e
  · rename_i s hs
    cases e
    obtain ⟨v, q⟩ := R.slot hs
    exact ⟨v, q, k v F H R (Stp.refl ..) (.s q) nw_s⟩
  · cases e
theorem se_var (i : Nat) {x : Str} {pos : Pos} (hN : X.N[i]? = some x := by rfl) (hv : Vis X.env.scope x := by first | exact Or.inl rfl | exact Or.inr (Or.inl rfl) | exact Or.inr (Or.inr rfl)) (hd : (x == ("__debug__" : Str)) = false := by decide)
    (hcd : (x == ("__classdict__" : Str)) = false := by decide) : SE X (.Name x pos) (sVar i) := PEimp (pe_var hN hv hd hcd) tVar_ok
theorem tC_ok {K : PySem.W.Frag} {v : V} {d : PyData} (h : ∀ F, Rp F v d) : ∀ σ H Q, tI K (sC d) σ H Q → tC v σ H Q := by
  rintro σ H Q ⟨F, r, hd, r', R, e, k⟩
  cases e
  exact k v F H R (Stp.refl ..) (.v (h F)) nw_v
theorem se_int {i : Int} {j pos} : SE X (.Constant (.int i) j pos) (sC (.int i)) := PEimp pe_int (tC_ok fun _ => .int i)
theorem se_bl {b j pos} : SE X (.Constant (.bool b) j pos) (sC (.bool b)) := PEimp pe_bl (tC_ok fun _ => .bl b)
theorem se_non {j pos} : SE X (.Constant .none j pos) (sC .none) := PEimp pe_non (tC_ok fun _ => .non)
theorem se_str {x j pos} : SE X (.Constant (.str x) j pos) (sC (.str x)) := PEimp pe_str (tC_ok fun _ => .str x)
/-- a module's constant that is an int -/
theorem se_gint {x : Str} {n : Int} {t : Tok} {pos : Pos} (hm : X.mg x = some (.int n t)) (hg : Gl X x := by rfl) (hd : (x == ("__debug__" : Str)) = false := by decide) : SE X (.Name x pos) (sC (.int n)) :=
  PEimp (pe_glob (v := .int n) hg hm ⟨_, rfl⟩ hd) (tC_ok fun _ => .int n)
end

/-! ### two operands -/
theorem Fsh.back {r r1 : Ev} {σ σ1 : L2.St} {F F1 H H1 : Hp} {a : Addr} (n : Fsh r1 σ1 H1 a) (S : Stp r σ F H r1 σ1 F1 H1) : Fsh r σ H a := by
  rcases n with q | q
  · cases z : H a with
    | none => exact .inl z
    | some o => exact absurd q (S.stay a (by rw [z]; simp))
  · exact S.old q
theorem NewAt.back {r r1 : Ev} {σ σ1 : L2.St} {F F1 H H1 H2 : Hp} {h : Hd} {x : V} (n : NewAt (Fsh r1 σ1 H1) H2 h x) (S : Stp r σ F H r1 σ1 F1 H1) : NewAt (Fsh r σ H) H2 h x := fun a ea => (n a ea).back S
theorem NewAt.up {r : Ev} {σ : L2.St} {H H2 : Hp} {h : Hd} {x : V} (n : NewAt (Nn H) H2 h x) : NewAt (Fsh r σ H) H2 h x := fun a ea => .inl (n a ea)
theorem NewAt.fwd {P : Addr → Prop} {r r1 : Ev} {σ : L2.St} {F F1 H1 H2 : Hp} {h : Hd} {x : V} (n : NewAt P H1 h x) (q : HdRep F r σ H1 h x) (S : Stp r σ F H1 r1 σ F1 H2) : NewAt P H2 h x := fun a ea => by
  cases q with
  | v q => exact ea.elim
  | s q => exact ea.elim
  | n h1 h2 h3 h4 => cases ea; exact n _ rfl
  | t q m =>
    obtain ⟨F', fp', t, hm⟩ := ea
    have k := fun a ha => S.pres a (q.at a ha).1 (m a ha)
    have t2 := q.frame S.ext fun a ha => ⟨(k a ha).1, (k a ha).2.1⟩
    rw [← t2.uniq t] at hm
    exact n a ⟨F, _, q, hm⟩
def s2 (op : PyData → PyData → Option Hd) (fa fb : FE) : FE := fun r =>
  (fa r).bind fun p => (fb p.2).bind fun q => (cur p.1 q.2).bind fun a => (cur q.1 q.2).bind fun b => (op a b).map fun h => (h, q.2)
def s2b (op : PyData → PyData → Option Bool) (fa fb : FE) : FE := s2 (fun a b => (op a b).map fun k => .v (.bool k)) fa fb
def t2 (op : PyData → PyData → Option Bool) (fa fb : FE) : FT := fun r =>
  (fa r).bind fun p => (fb p.2).bind fun q => (cur p.1 q.2).bind fun a => (cur q.1 q.2).bind fun b => (op a b).map fun h => (h, q.2)
def OpOk (r : R2) (op : PyData → PyData → Option Hd) : Prop := ∀ (F H : Hp) (x y : V) (a b : PyData) (h : Hd) (Q : VK), Ext F H → Cur F H x a → Cur F H y b → op a b = some h → (∀ z F' H', Ans F H h z F' H' → Q z H') → r x y H Q
def OpOkB (r : R2) (op : PyData → PyData → Option Bool) : Prop := ∀ (F H : Hp) (x y : V) (a b : PyData) (k : Bool) (Q : VK), Ext F H → Cur F H x a → Cur F H y b → op a b = some k → Q (.bl k) H → r x y H Q
theorem OpOkB.up {r : R2} {op : PyData → PyData → Option Bool} (h : OpOkB r op) : OpOk r (fun a b => (op a b).map fun k => .v (.bool k)) := fun F H x y a b hd Q e cx cy q k => by
  dsimp only at q
  cases z : op a b with
  | none => rw [z] at q; cases q
  | some b' =>
    rw [z] at q; cases q
    exact h F H x y a b b' Q e cx cy z (k _ _ _ (Ans.val' e (.bl b')))
theorem s2_ok {K : PySem.W.Frag} {r : R2} {op : PyData → PyData → Option Hd} {fa fb : FE} (ok : OpOk r op) : ∀ σ H Q, tI K (s2 op fa fb) σ H Q → tOp r (tI K fa) (tI K fb) σ H Q := by
  rintro σ H Q ⟨F, ρ, h, ρ', R, e, k⟩
  simp only [s2, Option.bind_eq_some_iff, Option.map_eq_some_iff] at e
  obtain ⟨⟨ha, ρ1⟩, e1, ⟨hb, ρ2⟩, e2, a, e3, b, e4, hr, e5, e6⟩ := e
  cases e6
  refine ⟨F, ρ, ha, ρ1, R, e1, fun x F1 H1 R1 S1 q1 n1 => ⟨F1, ρ1, hb, ρ2, R1, e2, fun y F2 H2 R2 S2 q2 n2 => ?_⟩⟩
  refine ok F2 H2 x y a b h Q R2.sub (cur_ok R2 (q1.step S2) e3) (cur_ok R2 q2 e4) e5 fun z F3 H3 A => ?_
  obtain ⟨R3, S3, q3, n3⟩ := R2.ans A
  exact k z F3 H3 R3 ((S1.trans S2).trans S3) q3 (n3.back (S1.trans S2))
end TL

namespace TL
open PySem PySem.Spec PyProof.Rows L2

theorem t2_ok {K : PySem.W.Frag} {r : R2} {op : PyData → PyData → Option Bool} {fa fb : FE} (ok : OpOkB r op) : ∀ σ H Q, tIT K (t2 op fa fb) σ H Q → tTest (tOp r (tI K fa) (tI K fb)) σ H Q := by
  rintro σ H Q ⟨F, ρ, k, ρ', R, e, kk⟩
  simp only [t2, Option.bind_eq_some_iff, Option.map_eq_some_iff] at e
  obtain ⟨⟨ha, ρ1⟩, e1, ⟨hb, ρ2⟩, e2, a, e3, b, e4, hr, e5, e6⟩ := e
  cases e6
  refine ⟨F, ρ, ha, ρ1, R, e1, fun x F1 H1 R1 S1 q1 n1 => ⟨F1, ρ1, hb, ρ2, R1, e2, fun y F2 H2 R2 S2 q2 n2 => ?_⟩⟩
  exact ok F2 H2 x y a b k _ R2.sub (cur_ok R2 (q1.step S2) e3) (cur_ok R2 q2 e4) e5 ⟨k, rfl, kk F2 H2 R2 (S1.trans S2)⟩
section
variable {X : Cx} {a b : Expr} {fa fb : FE} {pos : Pos}
theorem se_bin {op : Operator} {r : R2} {od : PyData → PyData → Option Hd} (ho : OpR X (binaryOp op) r) (ok : OpOk r od) (ha : SE X a fa) (hb : SE X b fb) : SE X (.BinOp a op b pos) (s2 od fa fb) := PEimp (pe_op ho ha hb) (s2_ok ok)
theorem se_cmp {op : CmpOp} {r : R2} {ob : PyData → PyData → Option Bool} (ho : OpR X (compareOp op) r) (ok : OpOkB r ob) (ha : SE X a fa) (hb : SE X b fb) (hm : behindInMarks op b = false) : SE X (.Compare a [op] [b] pos) (s2b ob fa fb) := PEimp (pe_cmpR ho ha hb hm) (s2_ok ok.up)
theorem st_cmp {op : CmpOp} {r : R2} {ob : PyData → PyData → Option Bool} (ho : OpR X (compareOp op) r) (ok : OpOkB r ob) (ha : SE X a fa) (hb : SE X b fb) (hm : behindInMarks op b = false) : ST X (.Compare a [op] [b] pos) (t2 ob fa fb) := PTimp (pt_cmpR ho ha hb hm) (t2_ok ok)
end

/-! ### arithmetic -/
/-- (by Nat.ble: the kernel must not unfold sums with great numbers) -/
def okR : Int → Bool
  | .ofNat k => Nat.ble k 16000000
  | .negSucc _ => false
theorem okR_of {n : Int} (h : okR n = true) : 0 ≤ n ∧ n ≤ 16000000 := by
  cases n with
  | ofNat k =>
    have := Nat.le_of_ble_eq_true h
    exact ⟨Int.natCast_nonneg k, by show ((k : Nat) : Int) ≤ 16000000; omega⟩
  | negSucc k => cases h
theorem okR_in {n : Int} (h0 : 0 ≤ n) (h : n ≤ 16000000) : okR n = true := by
  cases n with
  | ofNat k =>
    have h : ((k : Nat) : Int) ≤ 16000000 := h
    exact Nat.ble_eq_true_of_le (by omega)
  | negSucc k => exact absurd h0 (by omega)
theorem okR_nat {k : Nat} (h : k ≤ 16000000) : okR (k : Int) = true := Nat.ble_eq_true_of_le h
theorem lim_le {n : Nat} (h : n ≤ 16000000) : n ≤ sizeLine := by rw [sizeLine_eq]; omega
theorem lim_lt {n : Nat} (h : n < 16000000) : n < sizeLine := by rw [sizeLine_eq]; omega
def dAdd : PyData → PyData → Option Hd
  | .int i, .int j => some (.v (.int (i + j)))
  | .str x, .str y => if x.length + y.length ≤ 16000000 then some (.v (.str (x ++ y))) else none
  | .list xs, .list ys => if xs.length + ys.length ≤ 16000000 then some (.n (.list (xs ++ ys))) else none
  | _, _ => none
def rAddA : R2 := fun x y H Q => (rI0 (fun i j => .int (i + j)) x y H Q ∨ (∃ i j, x = .str i ∧ y = .str j ∧ i.length + j.length ≤ sizeLine ∧ Q (.str (i ++ j)) H)) ∨ rCat x y H Q
theorem op_addA {X : Cx} : OpR X (binaryOp .Add) rAddA := OpR.or (OpR.or op_add op_add_str) op_cat
theorem ok_add : OpOk rAddA dAdd := by
  intro F H x y a b h Q e cx cy q k
  unfold dAdd at q
  split at q
  · cases q; cases cx.int; cases cy.int
    exact .inl (.inl ⟨_, _, rfl, rfl, k _ _ _ (Ans.val' e (.int _))⟩)
  · split at q
    · rename_i hl
      cases q; cases cx.str; cases cy.str
      exact .inl (.inr ⟨_, _, rfl, rfl, lim_le hl, k _ _ _ (Ans.val' e (.str _))⟩)
    · cases q
  · split at q
    · rename_i hl
      cases q
      obtain ⟨l, vs, rfl, h1, r1⟩ := cx.list e
      obtain ⟨l2, vs2, rfl, h2, r2⟩ := cy.list e
      exact .inr ⟨_, _, _, _, rfl, rfl, h1, h2, lim_le (by rw [r1.length, r2.length]; exact hl), fun p hp => k _ _ _ (Ans.new e hp (.lst (r1.append r2)))⟩
    · cases q
  · cases q
def dSub : PyData → PyData → Option Hd
  | .int i, .int j => some (.v (.int (i - j)))
  | _, _ => none
theorem ok_int {r : Int → Int → Int} {C : Int → Int → Prop} {od : PyData → PyData → Option Hd} (h : ∀ a b hd, od a b = some hd → ∃ i j, a = .int i ∧ b = .int j ∧ C i j ∧ hd = .v (.int (r i j))) : OpOk (rI C fun i j => .int (r i j)) od := by
  intro F H x y a b hd Q e cx cy q k
  obtain ⟨i, j, rfl, rfl, hc, rfl⟩ := h a b hd q
  cases cx.int; cases cy.int
  exact ⟨i, j, rfl, rfl, hc, k _ _ _ (Ans.val' e (.int _))⟩
theorem op_subA {X : Cx} : OpR X (binaryOp .Sub) (rI (fun _ _ => True) fun i j => .int (i - j)) := opI fun _ _ _ _ _ _ _ _ q => sub_int q
theorem ok_sub : OpOk (rI (fun _ _ => True) fun i j => .int (i - j)) dSub := ok_int fun a b hd q => by
  unfold dSub at q
  split at q
  · cases q; exact ⟨_, _, rfl, rfl, trivial, rfl⟩
  · cases q
theorem mulW_of {i j : Int} (h : (i.natAbs < 2 ^ 64 ∨ j.natAbs < 2 ^ 64) ∨ (i.natAbs < 2 ^ 400000 ∧ j.natAbs < 2 ^ 400000)) : CMulW i j ∨ CMul i j := by
  rcases h with h | ⟨h1, h2⟩
  · refine .inr ?_
    unfold CMul
    rcases h with h | h
    · left; omega
    · right; omega
  · exact .inl (wide_mul h1 h2 (by decide) (by decide) (by decide))
def dRep (xs : List PyData) (k : Int) : Option Hd := if okR k = true ∧ xs.length * k.toNat ≤ 16000000 then some (.n (.list (List.replicate k.toNat xs).flatten)) else none
def dMul : PyData → PyData → Option Hd
  | .int i, .int j => if (i.natAbs < 2 ^ 64 ∨ j.natAbs < 2 ^ 64) ∨ (i.natAbs < 2 ^ 400000 ∧ j.natAbs < 2 ^ 400000) then some (.v (.int (i * j))) else none
  | .list xs, .int k => dRep xs k
  | _, _ => none
def rMulA : R2 := fun x y H Q => rI (fun i j => CMulW i j ∨ CMul i j) (fun i j => .int (i * j)) x y H Q ∨ rRep x y H Q
theorem op_mulA {X : Cx} : OpR X (binaryOp .Mult) rMulA := OpR.or (opI fun _ _ _ _ _ _ _ hc q => mul_int q (hc.elim (fun h => CMulW.ok h) CMul.ok)) op_rep
theorem RpAll.rep {F : Hp} {vs : List V} {ds : List PyData} (h : RpAll F vs ds) : ∀ k : Nat, RpAll F (List.replicate k vs).flatten (List.replicate k ds).flatten
  | 0 => .nil
  | k + 1 => by
    rw [List.replicate_succ, List.replicate_succ, List.flatten_cons, List.flatten_cons]
    exact h.append (RpAll.rep h k)
theorem ok_mul : OpOk rMulA dMul := by
  intro F H x y a b h Q e cx cy q k
  unfold dMul at q
  split at q
  · split at q
    · rename_i hl
      cases q; cases cx.int; cases cy.int
      exact .inl ⟨_, _, rfl, rfl, mulW_of hl, k _ _ _ (Ans.val' e (.int _))⟩
    · cases q
  · unfold dRep at q
    split at q
    · rename_i hl
      cases q; cases cy.int
      obtain ⟨l, vs, rfl, h1, r1⟩ := cx.list e
      obtain ⟨l0, l3⟩ := hl
      obtain ⟨l1, l2⟩ := okR_of l0
      refine .inr ⟨_, _, _, rfl, rfl, h1, by omega, by omega, lim_le (by rw [r1.length]; exact l3), ?_⟩
      first
        | exact fun p hp => k _ _ _ (Ans.new e hp (.lst (r1.rep _)))
    · cases q
  · cases q
def dFdiv : PyData → PyData → Option Hd
  | .int i, .int j => if 0 < j ∧ j.natAbs < 2 ^ 9000 then some (.v (.int (i / j))) else none
  | _, _ => none
theorem ok_fdiv : OpOk (rI CDivW fun i j => .int (i / j)) dFdiv := ok_int fun a b hd q => by
  unfold dFdiv at q
  split at q
  · split at q
    · rename_i hl
      cases q; exact ⟨_, _, rfl, rfl, wide_div hl.1 hl.2 (by decide) (by decide), rfl⟩
    · cases q
  · cases q
def dMod : PyData → PyData → Option Hd
  | .int i, .int j => if 0 < j then some (.v (.int (i % j))) else none
  | _, _ => none
theorem ok_mod : OpOk (rI (fun _ j => 0 < j) fun i j => .int (i % j)) dMod := ok_int fun a b hd q => by
  unfold dMod at q
  split at q
  · split at q
    · rename_i hl
      cases q; exact ⟨_, _, rfl, rfl, hl, rfl⟩
    · cases q
  · cases q
def CPowA (i j : Int) : Prop := 0 ≤ j ∧ (Builtin.Int.intBits i : Int) * j ≤ 2 ^ 27
instance (i j : Int) : Decidable (CPowA i j) := by unfold CPowA; infer_instance
theorem op_powA {X : Cx} : OpR X (binaryOp .Pow) (rI CPowA fun i j => .int (i ^ j.toNat)) := opI fun _ _ _ _ _ _ _ hc q => pow_int hc.1 hc.2 q
def dPow : PyData → PyData → Option Hd
  | .int i, .int j => if CPowA i j then some (.v (.int (i ^ j.toNat))) else none
  | _, _ => none
theorem ok_pow : OpOk (rI CPowA fun i j => .int (i ^ j.toNat)) dPow := ok_int fun a b hd q => by
  unfold dPow at q
  split at q
  · split at q
    · rename_i hl
      cases q; exact ⟨_, _, rfl, rfl, hl, rfl⟩
    · cases q
  · cases q

/-! ### comparisons -/
mutual
theorem Rp.dp {K : PySem.W.Frag} {F H : Hp} (e : Ext F H) : ∀ {x : V} {d : PyData}, Rp F x d → d.canLay0 = true → Dp K H x d
  | _, _, .non, _ => .non
  | _, _, .bl b, _ => .bl b
  | _, _, .int i, _ => .int i
  | _, _, .str i, _ => .str i
  | _, _, .lst h r, c => .lst (.inl (.inl (e _ _ h))) (RpAll.dp e r (by simpa only [PyData.canLay0] using c))
  | _, _, .tup h r, c => .tup (.inl (.inl (e _ _ h))) (RpAll.dp e r (by simpa only [PyData.canLay0] using c))
  | _, _, .dK h r, c => by simp [PyData.canLay0] at c
  | _, _, .dT h r, c => by simp [PyData.canLay0] at c
theorem RpAll.dp {K : PySem.W.Frag} {F H : Hp} (e : Ext F H) : ∀ {x : List V} {d : List PyData}, RpAll F x d → PyData.canLayAll0 d = true → DpAll K H x d
  | _, _, .nil, _ => .nil
  | _, _, .cons h r, c => by
    simp only [PyData.canLayAll0, Bool.and_eq_true] at c
    exact .cons (Rp.dp e h c.1) (RpAll.dp e r c.2)
end
theorem Cur.dp {K : PySem.W.Frag} {F H : Hp} (e : Ext F H) {x : V} {d : PyData} (c : Cur F H x d) (l : d.canLay0 = true) : Dp K H x d := by
  cases c with
  | r q => exact q.dp e l
  | o h q => cases q with
    | lst r => exact .lst (.inl (.inl h)) (r.dp e (by simpa only [PyData.canLay0] using l))
    | dK r => simp [PyData.canLay0] at l
    | dT r => simp [PyData.canLay0] at l
def dEq (a b : PyData) : Option Bool := if SeqAt.shaped a = true ∧ SeqAt.shaped b = true then some (PyData.eqv a b) else none
def dNe (a b : PyData) : Option Bool := if SeqAt.shaped a = true ∧ SeqAt.shaped b = true then some (!PyData.eqv a b) else none
theorem ok_eq {K : PySem.W.Frag} : OpOkB (rEqD K) dEq := by
  intro F H x y a b k Q e cx cy q kk
  unfold dEq at q
  split at q
  · rename_i hl
    cases q
    exact ⟨a, b, cx.dp e (SeqAt.canLay_of_shaped hl.1), cy.dp e (SeqAt.canLay_of_shaped hl.2), hl.1, hl.2, kk⟩
  · cases q
theorem ok_ne {K : PySem.W.Frag} : OpOkB (rNeD K) dNe := by
  intro F H x y a b k Q e cx cy q kk
  unfold dNe at q
  split at q
  · rename_i hl
    cases q
    exact ⟨a, b, cx.dp e (SeqAt.canLay_of_shaped hl.1), cy.dp e (SeqAt.canLay_of_shaped hl.2), hl.1, hl.2, kk⟩
  · cases q
def dCmp (p : Int → Int → Bool) : PyData → PyData → Option Bool
  | .int i, .int j => some (p i j)
  | _, _ => none
theorem ok_cmp {p : Int → Int → Bool} : OpOkB (rI0 fun i j => .bl (p i j)) (dCmp p) := by
  intro F H x y a b k Q e cx cy q kk
  unfold dCmp at q
  split at q
  · cases q; cases cx.int; cases cy.int
    exact ⟨_, _, rfl, rfl, kk⟩
  · cases q
abbrev dLt := dCmp fun i j => decide (i < j)
abbrev dLe := dCmp fun i j => decide (i ≤ j)
abbrev dGt := dCmp fun i j => decide (j < i)
abbrev dGe := dCmp fun i j => decide (j ≤ i)
def isNone : PyData → Bool
  | .none => true
  | _ => false
def dIsN (a b : PyData) : Option Bool := if isNone b then some (isNone a) else none
def dNotN (a b : PyData) : Option Bool := if isNone b then some (!isNone a) else none
theorem cur_none {F H : Hp} {x : V} {a : PyData} (c : Cur F H x a) : decide (x = V.non) = isNone a := by
  cases c with
  | r q => cases q <;> simp [isNone]
  | o h q => cases q <;> simp [isNone]
theorem isNone_eq {b : PyData} (h : isNone b = true) : b = .none := by cases b <;> first | rfl | cases h
theorem ok_isN : OpOkB (fun x y H Q => y = .non ∧ Q (.bl (decide (x = .non))) H) dIsN := by
  intro F H x y a b k Q e cx cy q kk
  unfold dIsN at q
  split at q
  · rename_i hl
    cases q
    cases isNone_eq hl
    exact ⟨cy.none, by rw [cur_none cx]; exact kk⟩
  · cases q
theorem ok_notN : OpOkB (fun x y H Q => y = .non ∧ Q (.bl (!decide (x = .non))) H) dNotN := by
  intro F H x y a b k Q e cx cy q kk
  unfold dNotN at q
  split at q
  · rename_i hl
    cases q
    cases isNone_eq hl
    exact ⟨cy.none, by rw [cur_none cx]; exact kk⟩
  · cases q
def dIsB : PyData → PyData → Option Bool
  | .bool a, .bool b => some (a == b)
  | _, _ => none
def dNotB : PyData → PyData → Option Bool
  | .bool a, .bool b => some (!(a == b))
  | _, _ => none
theorem beq_dec (a b : Bool) : decide (a = b) = (a == b) := by cases a <;> cases b <;> rfl
theorem ok_isB : OpOkB rIsB dIsB := by
  intro F H x y a b k Q e cx cy q kk
  unfold dIsB at q
  split at q
  · cases q; cases cx.bool; cases cy.bool
    exact ⟨_, _, rfl, rfl, by rw [beq_dec]; exact kk⟩
  · cases q
theorem ok_notB : OpOkB rNotB dNotB := by
  intro F H x y a b k Q e cx cy q kk
  unfold dNotB at q
  split at q
  · cases q; cases cx.bool; cases cy.bool
    exact ⟨_, _, rfl, rfl, by rw [beq_dec]; exact kk⟩
  · cases q
def strIn (x y : Str) : Bool := !(Builtin.Str.occurrences y x 0 y.length 1).isEmpty
def dIn : PyData → PyData → Option Bool
  | .str x, .str y => some (strIn x y)
  | d, .list ds => if SeqAt.shaped d = true ∧ SeqAt.shaped (.list ds) = true then some (ds.any fun z => PyData.eqv z d) else none
  | _, _ => none
def dNotIn (a b : PyData) : Option Bool := (dIn a b).map (!·)
def rInA (K : PySem.W.Frag) : R2 := fun x y H Q => rInD K x y H Q ∨ ∃ i j, x = .str i ∧ y = .str j ∧ Q (.bl (!(Builtin.Str.occurrences j i 0 j.length 1).isEmpty)) H
def rNotInA (K : PySem.W.Frag) : R2 := fun x y H Q => rNotInD K x y H Q ∨ ∃ i j, x = .str i ∧ y = .str j ∧ Q (.bl (!(!(Builtin.Str.occurrences j i 0 j.length 1).isEmpty))) H
theorem op_inA {X : Cx} (hu : X.A.units + 65 < cLine) : OpR X (compareOp .In) (rInA X.K) := OpR.or (op_inD hu) op_in_str
theorem op_notInA {X : Cx} (hu : X.A.units + 65 < cLine) : OpR X (compareOp .NotIn) (rNotInA X.K) := OpR.or (op_notInD hu) op_notIn_str
theorem ok_in {K : PySem.W.Frag} : OpOkB (rInA K) dIn := by
  intro F H x y a b k Q e cx cy q kk
  unfold dIn at q
  split at q
  · cases q; cases cx.str; cases cy.str
    exact .inr ⟨_, _, rfl, rfl, kk⟩
  · split at q
    · rename_i hl
      cases q
      exact .inl ⟨_, _, cx.dp e (SeqAt.canLay_of_shaped hl.1), cy.dp e (SeqAt.canLay_of_shaped hl.2), hl.1, hl.2, kk⟩
    · cases q
  · cases q
theorem ok_notIn {K : PySem.W.Frag} : OpOkB (rNotInA K) dNotIn := by
  intro F H x y a b k Q e cx cy q kk
  unfold dNotIn at q
  rw [Option.map_eq_some_iff] at q
  obtain ⟨k', q, rfl⟩ := q
  unfold dIn at q
  split at q
  · cases q; cases cx.str; cases cy.str
    exact .inr ⟨_, _, rfl, rfl, kk⟩
  · split at q
    · rename_i hl
      cases q
      exact .inl ⟨_, _, cx.dp e (SeqAt.canLay_of_shaped hl.1), cy.dp e (SeqAt.canLay_of_shaped hl.2), hl.1, hl.2, kk⟩
    · cases q
  · cases q

/-! ### indices -/
def dIx : PyData → PyData → Option PyData
  | .list xs, .int i => atI xs i
  | .tuple xs, .int i => atI xs i
  | .str x, .int i => if x.length ≤ 16000000 then (atI x.cps.toList i).map fun c => .str ⟨#[c]⟩ else none
  | .dict kvs, k => (kvs.find? fun p => PyData.eqv p.1 k).map (·.2)
  | _, _ => none
theorem RpAll.atI {F : Hp} {vs : List V} {ds : List PyData} (r : RpAll F vs ds) {i : Int} {d : PyData} (h : atI ds i = some d) : ∃ v, L2.atI vs i = some v ∧ Rp F v d := by
  unfold L2.atI at h ⊢
  rw [r.length]
  rw [Option.bind_eq_some_iff] at h
  obtain ⟨j, h1, h2⟩ := h
  obtain ⟨v, q1, q2⟩ := r.get h2
  exact ⟨v, by rw [h1]; exact q1, q2⟩
def dIxS : PyData → PyData → Option Hd
  | .list xs, .int i => (atI xs i).map .v
  | .tuple xs, .int i => (atI xs i).map .v
  | .str x, .int i => if x.length ≤ 16000000 then (atI x.cps.toList i).map fun c => .v (.str ⟨#[c]⟩) else none
  | _, _ => none
theorem ok_ix {K : PySem.W.Frag} : OpOk (rIx K) dIxS := by
  intro F H x y a b h Q e cx cy q k
  unfold dIxS at q
  split at q
  · rw [Option.map_eq_some_iff] at q
    obtain ⟨d, q1, rfl⟩ := q
    cases cy.int
    obtain ⟨l, vs, rfl, h1, r1⟩ := cx.list e
    obtain ⟨v, q2, q3⟩ := r1.atI q1
    exact .inl ⟨_, _, _, _, rfl, rfl, .inl (.inl h1), q2, k _ _ _ (Ans.val' e q3)⟩
  · rw [Option.map_eq_some_iff] at q
    obtain ⟨d, q1, rfl⟩ := q
    cases cy.int
    obtain ⟨l, vs, rfl, _, h1, r1⟩ := cx.tuple e
    obtain ⟨v, q2, q3⟩ := r1.atI q1
    exact .inr (.inl ⟨_, _, _, _, rfl, rfl, .inl (.inl h1), q2, k _ _ _ (Ans.val' e q3)⟩)
  · split at q
    · rename_i hl
      rw [Option.map_eq_some_iff] at q
      obtain ⟨c, q1, rfl⟩ := q
      cases cx.str; cases cy.int
      exact .inr (.inr ⟨_, _, _, rfl, rfl, lim_le hl, q1, k _ _ _ (Ans.val' e (.str _))⟩)
    · cases q
  · cases q
section
variable {X : Cx} {a b : Expr} {fa fb : FE} {pos : Pos}
theorem se_ix (ha : SE X a fa) (hb : SE X b fb) (hs : PlainIx b := by exact fun _ _ => rfl) : SE X (.Subscript a b pos) (s2 dIxS fa fb) := PEimp (pe_ix ix_seq ha hb hs) (s2_ok ok_ix)
end
end TL

namespace TL
open PySem PySem.Spec PyProof.Rows L2

/-! ### tests -/
def dB : PyData → Option Bool
  | .bool b => some b
  | _ => none
def tV (f : FE) : FT := fun r => (f r).bind fun p => (cur p.1 p.2).bind fun d => (dB d).map fun b => (b, p.2)
theorem dB_eq {d : PyData} {b : Bool} (h : dB d = some b) : d = .bool b := by cases d <;> first | (cases h; rfl) | cases h
theorem tV_ok {K : PySem.W.Frag} {f : FE} : ∀ σ H Q, tIT K (tV f) σ H Q → tB (tI K f) σ H Q := by
  rintro σ H Q ⟨F, ρ, k, ρ', R, e, kk⟩
  simp only [tV, Option.bind_eq_some_iff, Option.map_eq_some_iff] at e
  obtain ⟨⟨h, ρ1⟩, e1, d, e2, b, e3, e4⟩ := e
  cases e4
  cases dB_eq e3
  refine ⟨F, ρ, h, ρ1, R, e1, fun x F1 H1 R1 S1 q1 n1 => ?_⟩
  have c := (cur_ok R1 q1 e2).bool
  exact ⟨_, c, kk F1 H1 R1 S1⟩
def tNt (f : FT) : FT := fun r => (f r).map fun p => (!p.1, p.2)
def tAn (f g : FT) : FT := fun r => (f r).bind fun p => if p.1 = true then g p.2 else some (false, p.2)
def tOr' (f g : FT) : FT := fun r => (f r).bind fun p => if p.1 = true then some (true, p.2) else g p.2
theorem tNt_ok {K : PySem.W.Frag} {f : FT} : ∀ σ H Q, tIT K (tNt f) σ H Q → tNot (tIT K f) σ H Q := by
  rintro σ H Q ⟨F, ρ, k, ρ', R, e, kk⟩
  simp only [tNt, Option.map_eq_some_iff] at e
  obtain ⟨⟨b, ρ1⟩, e1, e2⟩ := e
  cases e2
  exact ⟨F, ρ, b, ρ1, R, e1, kk⟩
theorem tAn_ok {K : PySem.W.Frag} {f g : FT} : ∀ σ H Q, tIT K (tAn f g) σ H Q → tAnd (tIT K f) (tIT K g) σ H Q := by
  rintro σ H Q ⟨F, ρ, k, ρ', R, e, kk⟩
  simp only [tAn, Option.bind_eq_some_iff] at e
  obtain ⟨⟨b, ρ1⟩, e1, e2⟩ := e
  refine ⟨F, ρ, b, ρ1, R, e1, fun F1 H1 R1 S1 => ?_⟩
  cases b with
  | true =>
    rw [if_pos rfl] at e2 ⊢
    exact ⟨F1, ρ1, k, ρ', R1, e2, fun F2 H2 R2 S2 => kk F2 H2 R2 (S1.trans S2)⟩
  | false =>
    rw [if_neg Bool.false_ne_true] at e2 ⊢
    cases e2
    exact kk F1 H1 R1 S1
theorem tOr_ok {K : PySem.W.Frag} {f g : FT} : ∀ σ H Q, tIT K (tOr' f g) σ H Q → tOr (tIT K f) (tIT K g) σ H Q := by
  rintro σ H Q ⟨F, ρ, k, ρ', R, e, kk⟩
  simp only [tOr', Option.bind_eq_some_iff] at e
  obtain ⟨⟨b, ρ1⟩, e1, e2⟩ := e
  refine ⟨F, ρ, b, ρ1, R, e1, fun F1 H1 R1 S1 => ?_⟩
  cases b with
  | true =>
    rw [if_pos rfl] at e2 ⊢
    cases e2
    exact kk F1 H1 R1 S1
  | false =>
    rw [if_neg Bool.false_ne_true] at e2 ⊢
    exact ⟨F1, ρ1, k, ρ', R1, e2, fun F2 H2 R2 S2 => kk F2 H2 R2 (S1.trans S2)⟩
abbrev SW (X : Cx) (e : Expr) (f : FT) : Prop := PW X e (tIT X.K f)
section
variable {X : Cx} {a b : Expr} {rest : List Expr} {pos : Pos} {f g : FT} {fa fb : FE}
theorem st_val (h : SE X a fa) (he : ∀ whole, isTrue a X.env whole = (do let v ← whole; standAt a.pos; holding [v] (truthy v)) := by intro _; rfl) : ST X a (tV fa) := PTimp (pt_val h he) tV_ok
theorem st_not (h : ST X a f) : ST X (.UnaryOp .Not a pos) (tNt f) := PTimp (pt_not h) tNt_ok
theorem sw_and1 (h : ST X a f) : SW X (.BoolOp .And [a] pos) f := pw_and1 h
theorem sw_or1 (h : ST X a f) : SW X (.BoolOp .Or [a] pos) f := pw_or1 h
theorem sw_and (h : ST X a f) (hb : SW X (.BoolOp .And (b :: rest) pos) g) : SW X (.BoolOp .And (a :: b :: rest) pos) (tAn f g) := PWimp (pw_and h hb) tAn_ok
theorem sw_or (h : ST X a f) (hb : SW X (.BoolOp .Or (b :: rest) pos) g) : SW X (.BoolOp .Or (a :: b :: rest) pos) (tOr' f g) := PWimp (pw_or h hb) tOr_ok
theorem st_w {e : Expr} (h : SW X e f) : ST X e f := h.pt
end
/-! ### and, or, not as values -/
def sAn (f g : FE) : FE := fun r => (f r).bind fun p => (cur p.1 p.2).bind fun d => (dB d).bind fun b => if b = true then g p.2 else some (.v (.bool false), p.2)
def sOr (f g : FE) : FE := fun r => (f r).bind fun p => (cur p.1 p.2).bind fun d => (dB d).bind fun b => if b = true then some (.v (.bool true), p.2) else g p.2
def sNt (f : FE) : FE := fun r => (f r).bind fun p => (cur p.1 p.2).bind fun d => (dB d).map fun b => (.v (.bool (!b)), p.2)
theorem sAn_ok {K : PySem.W.Frag} {f g : FE} : ∀ σ H Q, tI K (sAn f g) σ H Q → tAndV (tI K f) (tI K g) σ H Q := by
  rintro σ H Q ⟨F, ρ, k, ρ', R, e, kk⟩
  simp only [sAn, Option.bind_eq_some_iff] at e
  obtain ⟨⟨h, ρ1⟩, e1, d, e2, b, e3, e4⟩ := e
  cases dB_eq e3
  refine ⟨F, ρ, h, ρ1, R, e1, fun x F1 H1 R1 S1 q1 n1 => ⟨b, (cur_ok R1 q1 e2).bool, ?_⟩⟩
  cases b with
  | true =>
    rw [if_pos rfl] at e4 ⊢
    exact ⟨F1, ρ1, k, ρ', R1, e4, fun y F2 H2 R2 S2 q2 n2 => kk y F2 H2 R2 (S1.trans S2) q2 (n2.back S1)⟩
  | false =>
    rw [if_neg Bool.false_ne_true] at e4 ⊢
    cases e4
    exact kk _ F1 H1 R1 S1 (.v (.bl _)) nw_v
theorem sOr_ok {K : PySem.W.Frag} {f g : FE} : ∀ σ H Q, tI K (sOr f g) σ H Q → tOrV (tI K f) (tI K g) σ H Q := by
  rintro σ H Q ⟨F, ρ, k, ρ', R, e, kk⟩
  simp only [sOr, Option.bind_eq_some_iff] at e
  obtain ⟨⟨h, ρ1⟩, e1, d, e2, b, e3, e4⟩ := e
  cases dB_eq e3
  refine ⟨F, ρ, h, ρ1, R, e1, fun x F1 H1 R1 S1 q1 n1 => ⟨b, (cur_ok R1 q1 e2).bool, ?_⟩⟩
  cases b with
  | true =>
    rw [if_pos rfl] at e4 ⊢
    cases e4
    exact kk _ F1 H1 R1 S1 (.v (.bl _)) nw_v
  | false =>
    rw [if_neg Bool.false_ne_true] at e4 ⊢
    exact ⟨F1, ρ1, k, ρ', R1, e4, fun y F2 H2 R2 S2 q2 n2 => kk y F2 H2 R2 (S1.trans S2) q2 (n2.back S1)⟩
theorem sNt_ok {K : PySem.W.Frag} {f : FE} : ∀ σ H Q, tI K (sNt f) σ H Q → tNotV (tI K f) σ H Q := by
  rintro σ H Q ⟨F, ρ, k, ρ', R, e, kk⟩
  simp only [sNt, Option.bind_eq_some_iff, Option.map_eq_some_iff] at e
  obtain ⟨⟨h, ρ1⟩, e1, d, e2, b, e3, e4⟩ := e
  cases e4
  cases dB_eq e3
  exact ⟨F, ρ, h, ρ1, R, e1, fun x F1 H1 R1 S1 q1 n1 => ⟨b, (cur_ok R1 q1 e2).bool, kk _ F1 H1 R1 S1 (.v (.bl _)) nw_v⟩⟩
def sIf (c : FT) (f g : FE) : FE := fun r => (c r).bind fun p => if p.1 = true then f p.2 else g p.2
theorem sIf_ok {K : PySem.W.Frag} {c : FT} {f g : FE} : ∀ σ H Q, tI K (sIf c f g) σ H Q → tIf (tIT K c) (tI K f) (tI K g) σ H Q := by
  rintro σ H Q ⟨F, ρ, k, ρ', R, e, kk⟩
  simp only [sIf, Option.bind_eq_some_iff] at e
  obtain ⟨⟨b, ρ1⟩, e1, e2⟩ := e
  refine ⟨F, ρ, b, ρ1, R, e1, fun F1 H1 R1 S1 => ?_⟩
  cases b with
  | true =>
    rw [if_pos rfl] at e2 ⊢
    exact ⟨F1, ρ1, k, ρ', R1, e2, fun y F2 H2 R2 S2 q2 n2 => kk y F2 H2 R2 (S1.trans S2) q2 (n2.back S1)⟩
  | false =>
    rw [if_neg Bool.false_ne_true] at e2 ⊢
    exact ⟨F1, ρ1, k, ρ', R1, e2, fun y F2 H2 R2 S2 q2 n2 => kk y F2 H2 R2 (S1.trans S2) q2 (n2.back S1)⟩
section
variable {X : Cx} {a b c : Expr} {rest : List Expr} {pos : Pos} {fa fb : FE} {fc : FT}
theorem se_one {op} (h : SE X a fa) : SE X (.BoolOp op [a] pos) fa := pe_one h
theorem se_and (h : SE X a fa) (hb : SE X (.BoolOp .And (b :: rest) pos) fb) : SE X (.BoolOp .And (a :: b :: rest) pos) (sAn fa fb) := PEimp (pe_and h hb) sAn_ok
theorem se_or (h : SE X a fa) (hb : SE X (.BoolOp .Or (b :: rest) pos) fb) : SE X (.BoolOp .Or (a :: b :: rest) pos) (sOr fa fb) := PEimp (pe_or h hb) sOr_ok
theorem se_not (h : SE X a fa) : SE X (.UnaryOp .Not a pos) (sNt fa) := PEimp (pe_not h) sNt_ok
theorem se_ite (hc : ST X c fc) (ha : SE X a fa) (hb : SE X b fb) : SE X (.IfExp c a b pos) (sIf fc fa fb) := PEimp (pe_ifExp hc ha hb) sIf_ok
end
/-! ### one operand -/
def s1 (op : PyData → Option Hd) (f : FE) : FE := fun r => (f r).bind fun p => (cur p.1 p.2).bind fun d => (op d).map fun h => (h, p.2)
def OpOk1 (r : V → Hp → VK → Prop) (op : PyData → Option Hd) : Prop := ∀ (F H : Hp) (x : V) (a : PyData) (h : Hd) (Q : VK), Ext F H → Cur F H x a → op a = some h → (∀ z F' H', Ans F H h z F' H' → Q z H') → r x H Q
theorem s1_ok {K : PySem.W.Frag} {r : V → Hp → VK → Prop} {op : PyData → Option Hd} {f : FE} (ok : OpOk1 r op) : ∀ σ H Q, tI K (s1 op f) σ H Q → tI K f σ H (fun x H1 => r x H1 Q) := by
  rintro σ H Q ⟨F, ρ, h, ρ', R, e, k⟩
  simp only [s1, Option.bind_eq_some_iff, Option.map_eq_some_iff] at e
  obtain ⟨⟨ha, ρ1⟩, e1, a, e3, hr, e5, e6⟩ := e
  cases e6
  refine ⟨F, ρ, ha, ρ1, R, e1, fun x F1 H1 R1 S1 q1 n1 => ?_⟩
  refine ok F1 H1 x a h Q R1.sub (cur_ok R1 q1 e3) e5 fun z F3 H3 A => ?_
  obtain ⟨R3, S3, q3, n3⟩ := R1.ans A
  exact k z F3 H3 R3 (S1.trans S3) q3 (n3.back S1)
def dNeg : PyData → Option Hd
  | .int i => some (.v (.int (-i)))
  | _ => none
def dInv : PyData → Option Hd
  | .int i => some (.v (.int (Builtin.bitNot i)))
  | _ => none
theorem ok_neg : OpOk1 (rU fun i => .int (-i)) dNeg := by
  intro F H x a h Q e cx q k
  unfold dNeg at q
  split at q
  · cases q; cases cx.int; exact ⟨_, rfl, k _ _ _ (Ans.val' e (.int _))⟩
  · cases q
theorem ok_inv : OpOk1 (rU fun i => .int (Builtin.bitNot i)) dInv := by
  intro F H x a h Q e cx q k
  unfold dInv at q
  split at q
  · cases q; cases cx.int; exact ⟨_, rfl, k _ _ _ (Ans.val' e (.int _))⟩
  · cases q
def dRev : PyData → Option Hd
  | .list xs => some (.n (.list xs.reverse))
  | _ => none
theorem ok_rev {K : PySem.W.Frag} : OpOk1 (fun x H Q => ∃ a xs, x = .ref a ∧ SqL K H a xs ∧ ∀ p, H p = none → Q (.ref p) (upd H p (.lst xs.reverse))) dRev := by
  intro F H x a h Q e cx q k
  unfold dRev at q
  split at q
  · cases q
    obtain ⟨l, vs, rfl, h1, r1⟩ := cx.list e
    exact ⟨_, _, rfl, .inl (.inl h1), fun p hp => k _ _ _ (Ans.new e hp (.lst r1.reverse))⟩
  · cases q
def dBits : PyData → Option Hd
  | .int i => some (.v (.int (Builtin.Int.intBits i : Nat)))
  | _ => none
theorem ok_bits : OpOk1 (fun x H Q => ∃ i, x = .int i ∧ Q (.int (Builtin.Int.intBits i : Nat)) H) dBits := by
  intro F H x a h Q e cx q k
  unfold dBits at q
  split at q
  · cases q; cases cx.int; exact ⟨_, rfl, k _ _ _ (Ans.val' e (.int _))⟩
  · cases q
section
variable {X : Cx} {a : Expr} {pos : Pos} {fa : FE}
theorem se_neg (h : SE X a fa) : SE X (.UnaryOp .USub a pos) (s1 dNeg fa) := PEimp (pe_un un_neg h) (s1_ok ok_neg)
theorem se_inv (h : SE X a fa) : SE X (.UnaryOp .Invert a pos) (s1 dInv fa) := PEimp (pe_un un_inv h) (s1_ok ok_inv)
theorem se_rev {k : Nat} {p1 p2 p3 : Pos} (h : SE X a fa) : SE X (.Subscript a (.Slice none none (some (.UnaryOp .USub (.Constant (.int 1) k p1) p2)) p3) pos) (s1 dRev fa) := PEimp (pe_revL h) (s1_ok ok_rev)
theorem se_bits {apos : Pos} (h : SE X a fa) (hbase : attributeBase a "bit_length" X.env (eval a X.env) = eval a X.env := by rfl) (hline : (apos.endLine == pos.line) = true := by rfl) : SE X (.Call (.Attribute a "bit_length" apos) [] [] pos) (s1 dBits fa) := PEimp (pe_bits h hbase hline) (s1_ok ok_bits)
end
/-! ### slices -/
abbrev FO := Ev → Option (Option Int × Ev)
def tIO (K : PySem.W.Frag) (f : FO) : TO := fun σ H Q => ∃ F r b r', Rel K F r σ H ∧ f r = some (b, r') ∧
  ∀ F' H', Rel K F' r' σ H' → Stp r σ F H r' σ F' H' → Q b H'
abbrev SO (X : Cx) (e : Option Expr) (f : FO) : Prop := PO X e (tIO X.K f)
def oNo : FO := fun r => some (none, r)
def dI : PyData → Option Int
  | .int i => some i
  | _ => none
theorem dI_eq {d : PyData} {b : Int} (h : dI d = some b) : d = .int b := by cases d <;> first | (cases h; rfl) | cases h
def oSo (f : FE) : FO := fun r => (f r).bind fun p => (cur p.1 p.2).bind fun d => (dI d).map fun i => (some i, p.2)
section
variable {X : Cx} {e : Expr} {f : FE}
theorem POimp {o : Option Expr} {t t' : TO} (h : PO X o t) (w : ∀ σ H Q, t' σ H Q → t σ H Q) : PO X o t' := by
  constructor
  intros
  rename_i q
  exact h.run _ _ _ _ _ (by assumption) (w _ _ _ q)
theorem so_none : SO X none oNo := POimp po_none fun σ H Q ⟨F, r, b, r', R, e, k⟩ => by
  cases e
  exact k F H R (Stp.refl ..)
theorem so_some (h : SE X e f) : SO X (some e) (oSo f) := POimp (po_some h) fun σ H Q ⟨F, r, b, r', R, e, k⟩ => by
  simp only [oSo, Option.bind_eq_some_iff, Option.map_eq_some_iff] at e
  obtain ⟨⟨h, ρ1⟩, e1, d, e2, i, e3, e4⟩ := e
  cases e4
  cases dI_eq e3
  exact ⟨F, r, h, ρ1, R, e1, fun x F1 H1 R1 S1 q1 n1 => ⟨i, (cur_ok R1 q1 e2).int, k F1 H1 R1 S1⟩⟩
end
def cutD (xs : List PyData) (lo hi : Option Int) : List PyData := (xs.drop (HT.sIx xs.length 0 lo)).take (HT.sIx xs.length xs.length hi - HT.sIx xs.length 0 lo)
def dSl (d : PyData) (lo hi : Option Int) : Option Hd := match d with
  | .list xs => some (.n (.list (cutD xs lo hi)))
  | .str x => if x.length ≤ 16000000 then some (.v (.str (cutS x lo hi))) else none
  | _ => none
def rSlLS (K : PySem.W.Frag) : V → Option Int → Option Int → Hp → VK → Prop := fun x lo hi H Q => rSlL K x lo hi H Q ∨ rSlS x lo hi H Q
theorem sl_ls {X : Cx} : SlR X (rSlLS X.K) := fun pins s σ H x v vl vu lo hi sl Q I rx hs pl pu h => h.elim (sl_list pins s σ H x v vl vu lo hi sl Q I rx hs pl pu) (sl_str pins s σ H x v vl vu lo hi sl Q I rx hs pl pu)
def sSl (f : FE) (l h : FO) : FE := fun r => (f r).bind fun p => (l p.2).bind fun q => (h q.2).bind fun u => (cur p.1 u.2).bind fun d => (dSl d q.1 u.1).map fun hd => (hd, u.2)
theorem RpAll.cut {F : Hp} {vs : List V} {ds : List PyData} (r : RpAll F vs ds) (lo hi : Option Int) : RpAll F (cutV vs lo hi) (cutD ds lo hi) := by
  unfold cutV cutD
  rw [r.length]
  exact (r.drop _).take _
theorem sSl_ok {K : PySem.W.Frag} {f : FE} {l u : FO} : ∀ σ H Q, tI K (sSl f l u) σ H Q → tSl (rSlLS K) (tI K f) (tIO K l) (tIO K u) σ H Q := by
  rintro σ H Q ⟨F, ρ, h, ρ', R, e, k⟩
  simp only [sSl, Option.bind_eq_some_iff, Option.map_eq_some_iff] at e
  obtain ⟨⟨ha, ρ1⟩, e1, ⟨lo, ρ2⟩, e2, ⟨hi, ρ3⟩, e3, d, e4, hd, e5, e6⟩ := e
  cases e6
  refine ⟨F, ρ, ha, ρ1, R, e1, fun x F1 H1 R1 S1 q1 n1 => ⟨F1, ρ1, lo, ρ2, R1, e2, fun F2 H2 R2 S2 => ⟨F2, ρ2, hi, ρ3, R2, e3, fun F3 H3 R3 S3 => ?_⟩⟩⟩
  have c := cur_ok R3 ((q1.step S2).step S3) e4
  dsimp only at e5
  unfold dSl at e5
  split at e5
  · cases e5
    obtain ⟨a, vs, rfl, h1, r1⟩ := c.list R3.sub
    refine .inl ⟨a, vs, rfl, .inl (.inl h1), fun p hp => ?_⟩
    obtain ⟨R4, S4, q4, n4⟩ := R3.ans (Ans.new R3.sub hp (.lst (r1.cut lo hi)))
    exact k _ _ _ R4 (((S1.trans S2).trans S3).trans S4) q4 (((n4.back S3).back S2).back S1)
  · split at e5
    · rename_i hl
      cases e5
      cases c.str
      exact .inr ⟨_, rfl, lim_le hl, k _ F3 H3 R3 ((S1.trans S2).trans S3) (.v (.str _)) nw_v⟩
    · cases e5
  · cases e5
section
variable {X : Cx} {a : Expr} {lo hi : Option Expr} {p2 pos : Pos} {fa : FE} {fl fh : FO}
theorem se_sl (ha : SE X a fa) (hl : SO X lo fl) (hh : SO X hi fh) : SE X (.Subscript a (.Slice lo hi none p2) pos) (sSl fa fl fh) := PEimp (pe_slice sl_ls ha hl hh) sSl_ok
end
end TL

namespace TL
open PySem PySem.Spec PyProof.Rows L2

/-! ### argument lists -/
/-- what a handle brings, looked at -/
theorem HdRep.at {F : Hp} {r : Ev} {σ : L2.St} {H : Hp} {h : Hd} {x : V} {a : Addr} (q : HdRep F r σ H h x) (ha : HdA H h x a) : H a ≠ none ∧ F a = none ∧ ¬ Owned r σ H a := by
  cases q with
  | v q => exact ha.elim
  | s q => exact ha.elim
  | n h1 h2 h3 h4 => cases ha; exact ⟨by rw [h1]; simp, h2, h3⟩
  | t q m =>
    obtain ⟨F', fp', t, hm⟩ := ha
    rw [← q.uniq t] at hm
    exact ⟨(q.at a hm).1, (q.at a hm).2, m a hm⟩
theorem HdRep.aback {F F' : Hp} {r r' : Ev} {σ : L2.St} {H H' : Hp} {h : Hd} {x : V} {a : Addr} (q : HdRep F r σ H h x) (S : Stp r σ F H r' σ F' H') (ha : HdA H' h x a) : HdA H h x a := by
  cases q with
  | v q => exact ha.elim
  | s q => exact ha.elim
  | n h1 h2 h3 h4 => exact ha
  | t q m =>
    obtain ⟨F2, fp', t, hm⟩ := ha
    have k := fun a ha => S.pres a (q.at a ha).1 (m a ha)
    have t2 := q.frame S.ext fun a ha => ⟨(k a ha).1, (k a ha).2.1⟩
    rw [← t2.uniq t] at hm
    exact ⟨F, _, q, hm⟩
structure HdsRep (F : Hp) (r : Ev) (σ : L2.St) (H0 : Addr → Prop) (H : Hp) (hs : List Hd) (xs : List V) : Prop where
  len : hs.length = xs.length
  rep : ∀ (j : Nat) h x, hs[j]? = some h → xs[j]? = some x → HdRep F r σ H h x
  nw : ∀ (j : Nat) h x, hs[j]? = some h → xs[j]? = some x → NewAt H0 H h x
  apart : ∀ (i j : Nat) h g x y a, hs[i]? = some h → hs[j]? = some g → xs[i]? = some x → xs[j]? = some y → HdA H h x a → HdA H g y a → i = j
theorem HdsRep.nil {F : Hp} {r : Ev} {σ : L2.St} {H0 : Addr → Prop} {H : Hp} : HdsRep F r σ H0 H [] [] := ⟨rfl, fun _ _ _ e => by simp at e, fun _ _ _ e => by simp at e, fun _ _ _ _ _ _ _ e => by simp at e⟩
theorem HdsRep.cons' {F : Hp} {r : Ev} {σ : L2.St} {H0 : Addr → Prop} {H : Hp} {h : Hd} {x : V} {hs : List Hd} {xs : List V} (q : HdRep F r σ H h x) (n : NewAt H0 H h x) (t : HdsRep F r σ H0 H hs xs)
    (ap : ∀ (j : Nat) g y a, HdA H h x a → hs[j]? = some g → xs[j]? = some y → HdA H g y a → False) : HdsRep F r σ H0 H (h :: hs) (x :: xs) := by
  refine ⟨by rw [List.length_cons, List.length_cons, t.len], fun j g y e1 e2 => ?_, fun j g y e1 e2 => ?_, fun i j g1 g2 y1 y2 a e1 e2 e3 e4 a1 a2 => ?_⟩
  · cases j with
    | zero => simp at e1 e2; subst e1; subst e2; exact q
    | succ j => simp at e1 e2; exact t.rep j g y e1 e2
  · cases j with
    | zero => simp at e1 e2; subst e1; subst e2; exact n
    | succ j => simp at e1 e2; exact t.nw j g y e1 e2
  · cases i with
    | zero => cases j with
      | zero => rfl
      | succ j => simp at e1 e2 e3 e4; subst e1; subst e3; exact (ap j g2 y2 a a1 e2 e4 a2).elim
    | succ i => cases j with
      | zero => simp at e1 e2 e3 e4; subst e2; subst e4; exact (ap i g1 y1 a a2 e1 e3 a1).elim
      | succ j => simp at e1 e2 e3 e4; rw [t.apart i j g1 g2 y1 y2 a e1 e2 e3 e4 a1 a2]
theorem HdsRep.tail {F : Hp} {r : Ev} {σ : L2.St} {H0 : Addr → Prop} {H : Hp} {h : Hd} {x : V} {hs : List Hd} {xs : List V} (t : HdsRep F r σ H0 H (h :: hs) (x :: xs)) : HdsRep F r σ H0 H hs xs :=
  ⟨by have := t.len; simpa using this, fun j g y g1 g2 => t.rep (j + 1) g y (by simpa using g1) (by simpa using g2), fun j g y g1 g2 => t.nw (j + 1) g y (by simpa using g1) (by simpa using g2), fun i j g1 g2 y1 y2 a e1 e2 e3 e4 a1 a2 => by
    have := t.apart (i + 1) (j + 1) g1 g2 y1 y2 a (by simpa using e1) (by simpa using e2) (by simpa using e3) (by simpa using e4) a1 a2
    omega⟩
theorem HdsRep.cons {F F1 : Hp} {r r1 r2 : Ev} {σ : L2.St} {H H1 H2 : Hp} {F2 : Hp} {h : Hd} {x : V} {hs : List Hd} {xs : List V} (S1 : Stp r σ F H r1 σ F1 H1) (q : HdRep F1 r1 σ H1 h x) (n : NewAt (Fsh r σ H) H1 h x) (S2 : Stp r1 σ F1 H1 r2 σ F2 H2)
    (t : HdsRep F2 r2 σ (Fsh r1 σ H1) H2 hs xs) : HdsRep F2 r2 σ (Fsh r σ H) H2 (h :: hs) (x :: xs) := by
  refine .cons' (q.step S2) (n.fwd q S2) ⟨t.len, t.rep, fun j g y e1 e2 => (t.nw j g y e1 e2).back S1, t.apart⟩ fun j g y a ha e1 e2 hg => ?_
  have z := q.at (q.aback S2 ha)
  exact (t.nw j g y e1 e2 a hg).elim z.1 z.2.2
theorem HdsRep.step {F F2 : Hp} {r r2 : Ev} {σ : L2.St} {H0 : Addr → Prop} {H H2 : Hp} {hs : List Hd} {xs : List V} (t : HdsRep F r σ H0 H hs xs) (S : Stp r σ F H r2 σ F2 H2) : HdsRep F2 r2 σ H0 H2 hs xs :=
  ⟨t.len, fun j g y g1 g2 => (t.rep j g y g1 g2).step S, fun j g y g1 g2 => (t.nw j g y g1 g2).fwd (t.rep j g y g1 g2) S, fun i j h g x y a e1 e2 e3 e4 a1 a2 => t.apart i j h g x y a e1 e2 e3 e4 ((t.rep i h x e1 e3).aback S a1) ((t.rep j g y e2 e4).aback S a2)⟩
def tIA (K : PySem.W.Frag) (f : FA) : TA := fun σ H Q => ∃ F r hs r', Rel K F r σ H ∧ f r = some (hs, r') ∧
  ∀ xs F' H', Rel K F' r' σ H' → Stp r σ F H r' σ F' H' → HdsRep F' r' σ (Fsh r σ H) H' hs xs → Q xs H'
abbrev SA (X : Cx) (es : List Expr) (f : FA) : Prop := PA X es (tIA X.K f)
def aNil : FA := fun r => some ([], r)
def aCons (f : FE) (g : FA) : FA := fun r => (f r).bind fun p => (g p.2).map fun q => (p.1 :: q.1, q.2)
theorem aCons_ok {K : PySem.W.Frag} {f : FE} {g : FA} : ∀ σ H Q, tIA K (aCons f g) σ H Q → tCons (tI K f) (tIA K g) σ H Q := by
  rintro σ H Q ⟨F, ρ, hs, ρ', R, e, k⟩
  simp only [aCons, Option.bind_eq_some_iff, Option.map_eq_some_iff] at e
  obtain ⟨⟨h, ρ1⟩, e1, ⟨hs', ρ2⟩, e2, e3⟩ := e
  cases e3
  exact ⟨F, ρ, h, ρ1, R, e1, fun x F1 H1 R1 S1 q1 n1 => ⟨F1, ρ1, hs', ρ2, R1, e2, fun xs F2 H2 R2 S2 t => k (x :: xs) F2 H2 R2 (S1.trans S2) (.cons S1 q1 n1 S2 t)⟩⟩
section
variable {X : Cx} {e : Expr} {es : List Expr} {f : FE} {g : FA}
theorem sa_nil : SA X [] aNil := PAimp pa_nil fun σ H Q ⟨F, r, hs, r', R, e, k⟩ => by
  cases e
  exact k [] F H R (Stp.refl ..) .nil
theorem sa_cons (h : SE X e f) (t : SA X es g) (hs : starEach (e :: es) X.env = (false, eval e X.env) :: starEach es X.env := by rfl) : SA X (e :: es) (aCons f g) := PAimp (pa_cons h t hs) aCons_ok
end
/-! ### letting all go -/
def escAll : List Hd → Ev → Option (List PyData × Ev)
  | [], r => some ([], r)
  | h :: hs, r => (esc h r).bind fun p => (escAll hs p.2).map fun q => (p.1 :: q.1, q.2)
theorem HdRep.frozen {F F2 : Hp} {r r2 : Ev} {σ : L2.St} {H : Hp} {h : Hd} {x : V} (z : HdRep F r σ H h x) (x2 : Ext F F2) (o2 : ∀ a, ¬ Owned r σ H a → ¬ Owned r2 σ H a) (f2 : ∀ a, HdA H h x a → F a = none → ¬ Owned r σ H a → F2 a = none) : HdRep F2 r2 σ H h x := by
  cases z with
  | v z => exact .v (z.mono x2)
  | n z1 z2 z3 z4 => exact .n z1 (f2 _ rfl z2 z3) (o2 _ z3) (z4.mono x2)
  | s z => exact .s z
  | t z m => exact .t (z.frame x2 fun a ha => ⟨rfl, by rw [f2 a ⟨F, _, z, ha⟩ (z.at a ha).2 (m a ha), (z.at a ha).2]⟩) fun a ha => o2 a (m a ha)
theorem escAll_ok {K : PySem.W.Frag} {σ σ1 : L2.St} {F H H1 : Hp} {r : Ev} : ∀ {hs : List Hd} {xs : List V} {ds : List PyData} {r1 r2 : Ev} {F1 : Hp}, Stp r σ F H r1 σ1 F1 H1 → Rel K F1 r1 σ1 H1 → HdsRep F1 r1 σ1 (Fsh r σ H) H1 hs xs → escAll hs r1 = some (ds, r2) →
    ∃ F2, Rel K F2 r2 σ1 H1 ∧ Stp r σ F H r2 σ1 F2 H1 ∧ RpAll F2 xs ds ∧ Ext F1 F2 ∧ (∀ a, ¬ Owned r1 σ1 H1 a → ¬ Owned r2 σ1 H1 a) ∧ (∀ a, F1 a = none → ¬ Owned r1 σ1 H1 a → (∀ (j : Nat) h x, hs[j]? = some h → xs[j]? = some x → ¬ HdA H1 h x a) → F2 a = none)
  | [], xs, ds, r1, r2, F1, S, R, t, e => by
    cases e
    cases xs with
    | nil => exact ⟨F1, R, S, .nil, Ext.refl _, fun _ h => h, fun _ h _ _ => h⟩
    | cons _ _ => cases t.len
  | h :: hs, [], ds, r1, r2, F1, S, R, t, e => by cases t.len
  | h :: hs, x :: xs, ds, r1, r2, F1, S, R, t, e => by
    simp only [escAll, Option.bind_eq_some_iff, Option.map_eq_some_iff] at e
    obtain ⟨⟨d, r3⟩, e1, ⟨ds', r4⟩, e2, e3⟩ := e
    cases e3
    have q := t.rep 0 h x rfl rfl
    obtain ⟨F2, R2, S2, p2, x2, o2, f2⟩ := esc_ok S R q (t.nw 0 h x rfl rfl) e1
    have t2 : HdsRep F2 r3 σ1 (Fsh r σ H) H1 hs xs := by
      have tt := t.tail
      refine ⟨tt.len, fun j g y g1 g2 => (tt.rep j g y g1 g2).frozen x2 o2 fun a ha z1 z2 => f2 a z1 z2 fun hx => ?_, tt.nw, tt.apart⟩
      have := t.apart 0 (j + 1) h g x y a rfl (by simpa using g1) rfl (by simpa using g2) hx ha
      cases this
    obtain ⟨F3, R3, S3, p3, x3, o3, f3⟩ := escAll_ok S2 R2 t2 e2
    refine ⟨F3, R3, S3, .cons (p2.mono x3) p3, x2.trans x3, fun a h => o3 a (o2 a h), fun a ha hn hh => f3 a (f2 a ha hn (hh 0 h x rfl rfl)) (o2 a hn) fun j g y g1 g2 => hh (j + 1) g y (by simpa using g1) (by simpa using g2)⟩
def sLst (f : FA) : FE := fun r => (f r).bind fun p => if p.1.length ≤ 16000000 then (escAll p.1 p.2).map fun q => (.n (.list q.1), q.2) else none
def sTup (f : FA) : FE := fun r => (f r).bind fun p => if p.1.length ≤ 16000000 then (escAll p.1 p.2).map fun q => (.v (.tuple q.1), q.2) else none
theorem sLst_ok {K : PySem.W.Frag} {f : FA} : ∀ σ H Q, tI K (sLst f) σ H Q → tLst (tIA K f) σ H Q := by
  rintro σ H Q ⟨F, ρ, h, ρ', R, e, k⟩
  simp only [sLst, Option.bind_eq_some_iff] at e
  obtain ⟨⟨hs, ρ1⟩, e1, e2⟩ := e
  split at e2
  · rename_i hl
    rw [Option.map_eq_some_iff] at e2
    obtain ⟨⟨ds, ρ2⟩, e3, e4⟩ := e2
    cases e4
    refine ⟨F, ρ, hs, ρ1, R, e1, fun xs F1 H1 R1 S1 t => ⟨lim_le (by rw [← t.len]; exact hl), fun p hp => ?_⟩⟩
    obtain ⟨F2, R2, S2, p2, x2, _⟩ := escAll_ok S1 R1 t e3
    obtain ⟨R4, S4, q4, n4⟩ := R2.ans (Ans.new R2.sub hp (.lst p2))
    exact k _ _ _ R4 (S2.trans S4) q4 (n4.back S2)
  · cases e2
theorem sTup_ok {K : PySem.W.Frag} {f : FA} : ∀ σ H Q, tI K (sTup f) σ H Q → tTup (tIA K f) σ H Q := by
  rintro σ H Q ⟨F, ρ, h, ρ', R, e, k⟩
  simp only [sTup, Option.bind_eq_some_iff] at e
  obtain ⟨⟨hs, ρ1⟩, e1, e2⟩ := e
  split at e2
  · rename_i hl
    rw [Option.map_eq_some_iff] at e2
    obtain ⟨⟨ds, ρ2⟩, e3, e4⟩ := e2
    cases e4
    refine ⟨F, ρ, hs, ρ1, R, e1, fun xs F1 H1 R1 S1 t => ⟨lim_le (by rw [← t.len]; exact hl), fun p hp => ?_⟩⟩
    obtain ⟨F2, R2, S2, p2, x2, _⟩ := escAll_ok S1 R1 t e3
    obtain ⟨R4, S4, q4, n4⟩ := R2.ans (Ans.tup R2.sub hp p2)
    exact k _ _ _ R4 (S2.trans S4) q4 (n4.back S2)
  · cases e2
section
variable {X : Cx} {es : List Expr} {g : FA} {pos : Pos}
theorem se_lst (h : SA X es g) : SE X (.List es pos) (sLst g) := PEimp (pe_lst h) sLst_ok
theorem se_tup {k} (h : SA X es g) : SE X (.Tuple es k pos) (sTup g) := PEimp (pe_tup h) sTup_ok
end
/-! ### built-ins by name -/
def curAll : List Hd → Ev → Option (List PyData)
  | [], _ => some []
  | h :: hs, r => (cur h r).bind fun d => (curAll hs r).map fun ds => d :: ds
def sBc (op : List PyData → Option Hd) (f : FA) : FE := fun r => (f r).bind fun p => (curAll p.1 p.2).bind fun ds => (op ds).map fun h => (h, p.2)
inductive CurAll (F H : Hp) : List V → List PyData → Prop
  | nil : CurAll F H [] []
  | cons {x : V} {d : PyData} {xs : List V} {ds : List PyData} : Cur F H x d → CurAll F H xs ds → CurAll F H (x :: xs) (d :: ds)
def CallOk (r : List V → Hp → VK → Prop) (op : List PyData → Option Hd) : Prop := ∀ (F H : Hp) (xs : List V) (ds : List PyData) (h : Hd) (Q : VK), Ext F H → CurAll F H xs ds → op ds = some h → (∀ z F' H', Ans F H h z F' H' → Q z H') → r xs H Q
theorem curAll_ok {K : PySem.W.Frag} {F : Hp} {r : Ev} {σ : L2.St} {H0 : Addr → Prop} {H : Hp} (R : Rel K F r σ H) : ∀ {hs : List Hd} {xs : List V} {ds : List PyData}, HdsRep F r σ H0 H hs xs → curAll hs r = some ds → CurAll F H xs ds
  | [], [], ds, t, e => by cases e; exact .nil
  | [], x :: xs, ds, t, e => by cases t.len
  | h :: hs, [], ds, t, e => by cases t.len
  | h :: hs, x :: xs, ds, t, e => by
    simp only [curAll, Option.bind_eq_some_iff, Option.map_eq_some_iff] at e
    obtain ⟨d, e1, ds', e2, rfl⟩ := e
    exact .cons (cur_ok R (t.rep 0 h x rfl rfl) e1) (curAll_ok R t.tail e2)
theorem sBc_ok {K : PySem.W.Frag} {r : List V → Hp → VK → Prop} {op : List PyData → Option Hd} {f : FA} (ok : CallOk r op) : ∀ σ H Q, tI K (sBc op f) σ H Q → tCB r (tIA K f) σ H Q := by
  rintro σ H Q ⟨F, ρ, h, ρ', R, e, k⟩
  simp only [sBc, Option.bind_eq_some_iff, Option.map_eq_some_iff] at e
  obtain ⟨⟨hs, ρ1⟩, e1, ds, e2, hd, e3, e4⟩ := e
  cases e4
  refine ⟨F, ρ, hs, ρ1, R, e1, fun xs F1 H1 R1 S1 t => ok F1 H1 xs ds h Q R1.sub (curAll_ok R1 t e2) e3 fun z F3 H3 A => ?_⟩
  obtain ⟨R3, S3, q3, n3⟩ := R1.ans A
  exact k z F3 H3 R3 (S1.trans S3) q3 (n3.back S1)
section
variable {X : Cx} {x : Str} {p pos : Pos} {e : Expr} {es : List Expr} {g : FA} {id T : String} {r : List V → Hp → VK → Prop} {op : List PyData → Option Hd}
theorem se_bc (hc : CallR X (.builtin id) r) (ok : CallOk r op) (hv : bootBuiltins x = some (.builtin id)) (hm : X.mg x = none) (ha : SA X (e :: es) g) (hg : Gl X x := by rfl) (hn : x ≠ "__name__" := by decide) (hdb : (x == ("__debug__" : Str)) = false := by decide)
    (he : starEach (e :: es) X.env = (false, eval e X.env) :: starEach es X.env := by rfl) (hpl : (backTo pos (starEach es X.env)).any (·.1) = false := by rfl) : SE X (.Call (.Name x p) (e :: es) [] pos) (sBc op g) := PEimp (pe_callB hc hg hm hv ha hn hdb he hpl) (sBc_ok ok)
theorem se_bt (hc : CallR X (.type T) r) (ok : CallOk r op) (hv : bootBuiltins x = some (.type T)) (hm : X.mg x = none) (ha : SA X (e :: es) g) (hg : Gl X x := by rfl) (hn : x ≠ "__name__" := by decide) (hdb : (x == ("__debug__" : Str)) = false := by decide)
    (he : starEach (e :: es) X.env = (false, eval e X.env) :: starEach es X.env := by rfl) (hpl : (backTo pos (starEach es X.env)).any (·.1) = false := by rfl) : SE X (.Call (.Name x p) (e :: es) [] pos) (sBc op g) := PEimp (pe_callTy hc hg hm hv ha hn hdb he hpl) (sBc_ok ok)
end
theorem CurAll.one {F H : Hp} {xs : List V} {d : PyData} (c : CurAll F H xs [d]) : ∃ x, xs = [x] ∧ Cur F H x d := by
  cases c with
  | cons a b => cases b; exact ⟨_, rfl, a⟩
theorem CurAll.two {F H : Hp} {xs : List V} {d e : PyData} (c : CurAll F H xs [d, e]) : ∃ x y, xs = [x, y] ∧ Cur F H x d ∧ Cur F H y e := by
  cases c with
  | cons a b => cases b with
    | cons a' b' => cases b'; exact ⟨_, _, rfl, a, a'⟩
def bLen : List PyData → Option Hd
  | [.list xs] => some (.v (.int xs.length))
  | [.tuple xs] => some (.v (.int xs.length))
  | [.str x] => if x.length ≤ 16000000 then some (.v (.int x.length)) else none
  | _ => none
theorem cok_len {K : PySem.W.Frag} : CallOk (fun xs H Q => ∃ x n, xs = [x] ∧ LenV K x H n ∧ Q (.int n) H) bLen := by
  intro F H xs ds h Q e c q k
  unfold bLen at q
  split at q
  · cases q
    obtain ⟨x, rfl, cx⟩ := c.one
    obtain ⟨a, vs, rfl, h1, r1⟩ := cx.list e
    refine ⟨_, vs.length, rfl, .inl ⟨vs, .inl (.inl h1), rfl⟩, ?_⟩
    rw [r1.length]
    exact k _ _ _ (Ans.val' e (.int _))
  · cases q
    obtain ⟨x, rfl, cx⟩ := c.one
    obtain ⟨a, vs, rfl, _, h1, r1⟩ := cx.tuple e
    refine ⟨_, vs.length, rfl, .inr ⟨vs, .inl (.inl h1), rfl⟩, ?_⟩
    rw [r1.length]
    exact k _ _ _ (Ans.val' e (.int _))
  · split at q
    · rename_i hl
      cases q
      obtain ⟨x, rfl, cx⟩ := c.one
      cases cx.str
      exact ⟨_, _, rfl, ⟨lim_le hl, rfl⟩, k _ _ _ (Ans.val' e (.int _))⟩
    · cases q
  · cases q
def bInt : List PyData → Option Hd
  | [.int i] => some (.v (.int i))
  | [.bool b] => some (.v (.int (if b then 1 else 0)))
  | _ => none
theorem cok_int : CallOk (fun xs H Q => (∃ i, xs = [.int i] ∧ Q (.int i) H) ∨ ∃ k, xs = [.bl k] ∧ Q (.int (if k then 1 else 0)) H) bInt := by
  intro F H xs ds h Q e c q k
  unfold bInt at q
  split at q
  · cases q
    obtain ⟨x, rfl, cx⟩ := c.one
    cases cx.int
    exact .inl ⟨_, rfl, k _ _ _ (Ans.val' e (.int _))⟩
  · cases q
    obtain ⟨x, rfl, cx⟩ := c.one
    cases cx.bool
    exact .inr ⟨_, rfl, k _ _ _ (Ans.val' e (.int _))⟩
  · cases q
def bMax : List PyData → Option Hd
  | [.int i, .int j] => some (.v (.int (if j > i then j else i)))
  | _ => none
def bMin : List PyData → Option Hd
  | [.int i, .int j] => some (.v (.int (if j < i then j else i)))
  | _ => none
theorem cok_max : CallOk (fun xs H Q => ∃ i j, xs = [.int i, .int j] ∧ Q (.int (if j > i then j else i)) H) bMax := by
  intro F H xs ds h Q e c q k
  unfold bMax at q
  split at q
  · cases q
    obtain ⟨x, y, rfl, cx, cy⟩ := c.two
    cases cx.int; cases cy.int
    exact ⟨_, _, rfl, k _ _ _ (Ans.val' e (.int _))⟩
  · cases q
theorem cok_min : CallOk (fun xs H Q => ∃ i j, xs = [.int i, .int j] ∧ Q (.int (if j < i then j else i)) H) bMin := by
  intro F H xs ds h Q e c q k
  unfold bMin at q
  split at q
  · cases q
    obtain ⟨x, y, rfl, cx, cy⟩ := c.two
    cases cx.int; cases cy.int
    exact ⟨_, _, rfl, k _ _ _ (Ans.val' e (.int _))⟩
  · cases q
/-- a list that holds ints alone -/
def intsOf : List PyData → Option (List Int)
  | [] => some []
  | .int i :: r => (intsOf r).map fun is => i :: is
  | _ => none
theorem intsOf_eq : ∀ {ds : List PyData} {ns : List Int}, intsOf ds = some ns → ds = ns.map .int
  | [], ns, h => by cases h; rfl
  | d :: r, ns, h => by
    cases d <;> simp only [intsOf, reduceCtorEq] at h
    rw [Option.map_eq_some_iff] at h
    obtain ⟨is, h1, rfl⟩ := h
    rw [intsOf_eq h1]; rfl
theorem intsOf_map (ns : List Int) : intsOf (ns.map .int) = some ns := by
  induction ns with
  | nil => rfl
  | cons n ns ih => rw [List.map_cons]; simp only [intsOf, ih, Option.map_some]
def bSum : List PyData → Option Hd
  | [.list xs] => (intsOf xs).map fun ns => .v (.int ns.sum)
  | _ => none
theorem cok_sum {K : PySem.W.Frag} : CallOk (rSum K) bSum := by
  intro F H xs ds h Q e c q k
  unfold bSum at q
  split at q
  · rw [Option.map_eq_some_iff] at q
    obtain ⟨ns, q1, rfl⟩ := q
    obtain ⟨x, rfl, cx⟩ := c.one
    rw [intsOf_eq q1] at cx
    obtain ⟨a, vs, rfl, h1, r1⟩ := cx.list e
    rw [r1.ints] at h1
    exact ⟨a, ns, rfl, .inl (.inl h1), k _ _ _ (Ans.val' e (.int _))⟩
  · cases q
def maxD : List Int → Int
  | [] => 0
  | x :: r => r.foldl (fun a b => if b > a then b else a) x
def minD : List Int → Int
  | [] => 0
  | x :: r => r.foldl (fun a b => if b < a then b else a) x
theorem foldmax (r : List Int) : ∀ x : Int, (r.foldl (fun a b => if b > a then b else a) x ∈ x :: r) ∧ ∀ y ∈ x :: r, y ≤ r.foldl (fun a b => if b > a then b else a) x := by
  induction r with
  | nil => intro x; exact ⟨by simp, by simp⟩
  | cons b r ih =>
    intro x
    rw [List.foldl_cons]
    have hg : ∀ g, g = (if b > x then b else x) → (x ≤ g ∧ b ≤ g) ∧ (g = x ∨ g = b) := by intro g e; subst e; split <;> omega
    generalize hgg : (if b > x then b else x) = g
    obtain ⟨⟨g1, g2⟩, g3⟩ := hg g hgg.symm
    obtain ⟨h1, h2⟩ := ih g
    refine ⟨?_, fun y hy => ?_⟩
    · rcases List.mem_cons.mp h1 with h | h
      · rw [h]; rcases g3 with z | z <;> simp [z]
      · simp [h]
    · have h3 := h2 _ (List.mem_cons_self ..)
      rcases List.mem_cons.mp hy with rfl | hy
      · omega
      · rcases List.mem_cons.mp hy with rfl | hy
        · omega
        · exact h2 y (List.mem_cons_of_mem _ hy)
theorem foldmin (r : List Int) : ∀ x : Int, (r.foldl (fun a b => if b < a then b else a) x ∈ x :: r) ∧ ∀ y ∈ x :: r, r.foldl (fun a b => if b < a then b else a) x ≤ y := by
  induction r with
  | nil => intro x; exact ⟨by simp, by simp⟩
  | cons b r ih =>
    intro x
    rw [List.foldl_cons]
    have hg : ∀ g, g = (if b < x then b else x) → (g ≤ x ∧ g ≤ b) ∧ (g = x ∨ g = b) := by intro g e; subst e; split <;> omega
    generalize hgg : (if b < x then b else x) = g
    obtain ⟨⟨g1, g2⟩, g3⟩ := hg g hgg.symm
    obtain ⟨h1, h2⟩ := ih g
    refine ⟨?_, fun y hy => ?_⟩
    · rcases List.mem_cons.mp h1 with h | h
      · rw [h]; rcases g3 with z | z <;> simp [z]
      · simp [h]
    · have h3 := h2 _ (List.mem_cons_self ..)
      rcases List.mem_cons.mp hy with rfl | hy
      · omega
      · rcases List.mem_cons.mp hy with rfl | hy
        · omega
        · exact h2 y (List.mem_cons_of_mem _ hy)
def bMaxL : List PyData → Option Hd
  | [.list xs] => (intsOf xs).bind fun ns => if ns.length = 0 then none else some (.v (.int (maxD ns)))
  | _ => none
def bMinL : List PyData → Option Hd
  | [.list xs] => (intsOf xs).bind fun ns => if ns.length = 0 then none else some (.v (.int (minD ns)))
  | _ => none
theorem cok_maxL {K : PySem.W.Frag} : CallOk (rMax K) bMaxL := by
  intro F H xs ds h Q e c q k
  unfold bMaxL at q
  split at q
  · rw [Option.bind_eq_some_iff] at q
    obtain ⟨ns, q1, q2⟩ := q
    split at q2
    · cases q2
    · rename_i hn
      cases q2
      obtain ⟨x, rfl, cx⟩ := c.one
      rw [intsOf_eq q1] at cx
      obtain ⟨a, vs, rfl, h1, r1⟩ := cx.list e
      rw [r1.ints] at h1
      refine ⟨a, ns, rfl, .inl (.inl h1), by omega, fun m m1 m2 => ?_⟩
      have : m = maxD ns := by
        cases ns with
        | nil => exact absurd rfl hn
        | cons x r =>
          obtain ⟨f1, f2⟩ := foldmax r x
          have a1 := f2 m m1
          have a2 := m2 _ f1
          show m = r.foldl _ x
          omega
      rw [this]
      exact k _ _ _ (Ans.val' e (.int _))
  · cases q
theorem cok_minL {K : PySem.W.Frag} : CallOk (rMin K) bMinL := by
  intro F H xs ds h Q e c q k
  unfold bMinL at q
  split at q
  · rw [Option.bind_eq_some_iff] at q
    obtain ⟨ns, q1, q2⟩ := q
    split at q2
    · cases q2
    · rename_i hn
      cases q2
      obtain ⟨x, rfl, cx⟩ := c.one
      rw [intsOf_eq q1] at cx
      obtain ⟨a, vs, rfl, h1, r1⟩ := cx.list e
      rw [r1.ints] at h1
      refine ⟨a, ns, rfl, .inl (.inl h1), by omega, fun m m1 m2 => ?_⟩
      have : m = minD ns := by
        cases ns with
        | nil => exact absurd rfl hn
        | cons x r =>
          obtain ⟨f1, f2⟩ := foldmin r x
          have a1 := f2 m m1
          have a2 := m2 _ f1
          show m = r.foldl _ x
          omega
      rw [this]
      exact k _ _ _ (Ans.val' e (.int _))
  · cases q
def sortI (ns : List Int) : List Int := ns.mergeSort fun a b => decide (a ≤ b)
theorem sortI_eq {ns ns' : List Int} (p : ns'.Perm ns) (s : ns'.Pairwise (· ≤ ·)) : ns' = sortI ns := by
  have s2 : (sortI ns).Pairwise (· ≤ ·) := by
    have := List.pairwise_mergeSort (le := fun a b : Int => decide (a ≤ b)) (fun a b c h1 h2 => by simp at *; omega) (fun a b => by simp; omega) ns
    exact this.imp fun h => by simpa using h
  exact List.Perm.eq_of_pairwise (fun a b _ _ h1 h2 => by omega) s s2 (p.trans (List.mergeSort_perm ..).symm)
/-- sorted of alike data -/
def isTup1 : PyData → Bool
  | .tuple (_ :: _) => true
  | _ => false
def notTup : PyData → Bool
  | .tuple _ => false
  | .none => false
  | _ => true
def sOk (ds : List PyData) : Bool := (ds.all fun d => ds.all fun d' => PySem.W.alike d d') && ((ds.all isTup1 || ds.all notTup) && (ds.all fun d => d.canLay0 && decide (d.depth ≤ 60)))
def sortD (ds : List PyData) : List PyData := ds.mergeSort (PySem.W.dataLe false id)
def rSortedA (K : PySem.W.Frag) : List V → Hp → VK → Prop := fun vs H Q => ∃ (a : Addr) (xs : List V) (ds : List PyData), vs = [V.ref a] ∧ SqL K H a xs ∧ DpAll K H xs ds ∧ sOk ds = true ∧
  ∀ (p : Addr) (ps : List (V × PyData)), ps.Perm (xs.zip ds) → ps.map (·.2) = sortD ds → H p = none → Q (.ref p) (upd H p (.lst (ps.map (·.1))))
theorem dpall_len {K : PySem.W.Frag} {H : Hp} : ∀ {xs : List V} {ds : List PyData}, DpAll K H xs ds → xs.length = ds.length
  | _, _, .nil => rfl
  | _, _, .cons _ r => congrArg (· + 1) (dpall_len r)
theorem zip_each {X : Cx} {pins : List (Addr × Obj)} {σ : L2.St} {H : Hp} {s : Shared} (I : Inv X pins σ H s) : ∀ {xs : List V} {ds : List PyData} {us : List Value}, Vals xs us → DpAll X.K H xs ds →
    PySem.W.EachIs (fun (u : Value) (z : V × PyData) => RelV z.1 u) us (xs.zip ds) ∧ PySem.W.EachIs (fun (u : Value) (z : V × PyData) => ∃ as, Reads s.heap u z.2 as) us (xs.zip ds)
  | _, _, _, .nil, .nil => ⟨.nil, .nil⟩
  | x :: xs, d :: ds, u :: us, .cons r rs, .cons h hs => by
    obtain ⟨h1, h2⟩ := zip_each I rs hs
    exact ⟨.cons r h1, .cons (Dp.reads I d x u h r) h2⟩
theorem each_vals : ∀ {us : List Value} {zs : List (V × PyData)}, PySem.W.EachIs (fun (u : Value) (z : V × PyData) => RelV z.1 u) us zs → Vals (zs.map (·.1)) us
  | _, _, .nil => .nil
  | _, _, .cons h r => .cons h (each_vals r)
theorem cr_sortedA {X : Cx} (hu : X.A.units + 65 < cLine) : CallR X (.builtin "sorted") (rSortedA X.K) := by
  intro pins s σ H vs us Q I r h
  obtain ⟨a, xs, ds, rfl, hs, hd, ok, q⟩ := h
  obtain ⟨its, rv, hl, hz⟩ := I.list hs
  rw [Vals.ref1 r]
  simp only [sOk, Bool.and_eq_true, Bool.or_eq_true, List.all_eq_true, decide_eq_true_eq] at ok
  obtain ⟨ok1, ok2, ok3⟩ := ok
  obtain ⟨e1, e2⟩ := zip_each I rv hd
  have hlen := dpall_len hd
  have hm : (xs.zip ds).map (·.2) = ds := by rw [List.map_snd_zip]; omega
  have hzl : (xs.zip ds).length ≤ sizeLine := by rw [List.length_zip]; omega
  refine PySem.W.sorted_data (enc := fun z : V × PyData => z.2) hl.isList e1 e2 (by rw [hm]; exact fun d h1 d' h2 => ok1 d h1 d' h2) ?_ hzl (fun b hb => ?_) fun out ho eo => ?_
  · rw [hm]
    rcases ok2 with h | h
    · refine .inl fun d h1 => ?_
      have := h d h1
      unfold isTup1 at this
      split at this
      · exact ⟨_, _, rfl⟩
      · cases this
    · refine .inr fun d h1 => ?_
      have := h d h1
      refine ⟨fun e => ?_, fun zs e => ?_⟩ <;> (subst e; cases this)
  · have := (ok3 b.2 (List.of_mem_zip hb).2).2
    omega
  · obtain ⟨ep, he'⟩ := PyProof.Rows.sortedAll_at s.heap its out.toArray
    have hps := List.mergeSort_perm (xs.zip ds) (PySem.W.dataLe false fun z : V × PyData => z.2)
    have hl2 : (((xs.zip ds).mergeSort (PySem.W.dataLe false fun z : V × PyData => z.2)).map (·.1)).length ≤ sizeLine := by
      rw [List.length_map, hps.length_eq]; exact hzl
    refine ⟨.ref _, upd H (s.heap.objs.size + 1) (.lst (((xs.zip ds).mergeSort (PySem.W.dataLe false fun z : V × PyData => z.2)).map (·.1))), I.laid (t' := s.toks) (fun _ _ => PyProof.Rows.sortedAll_old) (Nat.le_succ _) ⟨hl2, out, ep, each_vals eo, he'⟩, rfl, q _ _ hps ?_ (I.hok.fresh (Nat.le_succ _))⟩
    show ((xs.zip ds).mergeSort (PySem.W.dataLe false fun z : V × PyData => z.2)).map (fun z => z.2) = sortD ds
    have := List.map_mergeSort (r := PySem.W.dataLe false fun z : V × PyData => z.2) (s := PySem.W.dataLe false id) (f := fun z : V × PyData => z.2) (l := xs.zip ds) (fun _ _ _ _ => rfl)
    rw [this, hm]
    rfl
def rSortedX (K : PySem.W.Frag) : List V → Hp → VK → Prop := fun vs H Q => rSortedI K vs H Q ∨ rSortedA K vs H Q
theorem cr_sortedX {X : Cx} (hu : X.A.units + 65 < cLine) : CallR X (.builtin "sorted") (rSortedX X.K) := fun pins s σ H vs us Q I r h => h.elim (cr_sortedI pins s σ H vs us Q I r) (cr_sortedA hu pins s σ H vs us Q I r)
def bSorted : List PyData → Option Hd
  | [.list xs] => match intsOf xs with
    | some ns => some (.n (.list ((sortI ns).map .int)))
    | none => if sOk xs = true then some (.n (.list (sortD xs))) else none
  | _ => none
theorem RpAll.perm {F : Hp} : ∀ {vs : List V} {ds : List PyData}, RpAll F vs ds → ∀ z ∈ vs.zip ds, Rp F z.1 z.2
  | _, _, .nil, _, h => by cases h
  | _, _, .cons q r, z, h => by
    rw [List.zip_cons_cons] at h
    rcases List.mem_cons.mp h with rfl | h
    · exact q
    · exact r.perm z h
theorem RpAll.ofZip {F : Hp} : ∀ {ps : List (V × PyData)}, (∀ z ∈ ps, Rp F z.1 z.2) → RpAll F (ps.map (·.1)) (ps.map (·.2))
  | [], _ => .nil
  | p :: ps, h => .cons (h p List.mem_cons_self) (RpAll.ofZip fun z hz => h z (List.mem_cons_of_mem _ hz))
theorem canLayAll_of : ∀ {ds : List PyData}, (∀ d ∈ ds, d.canLay0 = true) → PyData.canLayAll0 ds = true
  | [], _ => by simp [PyData.canLayAll0]
  | d :: ds, h => by
    simp only [PyData.canLayAll0, Bool.and_eq_true]
    exact ⟨h d List.mem_cons_self, canLayAll_of fun z hz => h z (List.mem_cons_of_mem _ hz)⟩
theorem cok_sorted {K : PySem.W.Frag} : CallOk (rSortedX K) bSorted := by
  intro F H xs ds h Q e c q k
  unfold bSorted at q
  split at q
  · split at q
    · rename_i ns q1
      cases q
      obtain ⟨x, rfl, cx⟩ := c.one
      rw [intsOf_eq q1] at cx
      obtain ⟨a, vs, rfl, h1, r1⟩ := cx.list e
      rw [r1.ints] at h1
      refine .inl ⟨a, ns, rfl, .inl (.inl h1), fun ns' p pm ps hp => ?_⟩
      rw [sortI_eq pm ps]
      exact k _ _ _ (Ans.new e hp (.lst (RpAll.ofInts _)))
    · split at q
      · rename_i ok
        cases q
        obtain ⟨x, rfl, cx⟩ := c.one
        obtain ⟨a, vs, rfl, h1, r1⟩ := cx.list e
        have cl : PyData.canLayAll0 _ = true := canLayAll_of fun d hd => by
          simp only [sOk, Bool.and_eq_true, List.all_eq_true] at ok
          exact (ok.2.2 d hd).1
        refine .inr ⟨a, vs, _, rfl, .inl (.inl h1), r1.dp e cl, ok, fun p ps pm hm hp => ?_⟩
        have r2 := RpAll.ofZip (ps := ps) fun z hz => r1.perm z (pm.subset hz)
        rw [hm] at r2
        exact k _ _ _ (Ans.new e hp (.lst r2))
      · cases q
  · cases q
def bList : List PyData → Option Hd
  | [.list xs] => some (.n (.list xs))
  | [.tuple xs] => some (.n (.list xs))
  | _ => none
theorem cok_list {K : PySem.W.Frag} : CallOk (fun xs H Q => ∃ p ys, xs = [.ref p] ∧ (SqL K H p ys ∨ SqT K H p ys) ∧ ∀ l, H l = none → Q (.ref l) (upd H l (.lst ys))) bList := by
  intro F H xs ds h Q e c q k
  unfold bList at q
  split at q
  · cases q
    obtain ⟨x, rfl, cx⟩ := c.one
    obtain ⟨a, vs, rfl, h1, r1⟩ := cx.list e
    exact ⟨a, vs, rfl, .inl (.inl (.inl h1)), fun l hl => k _ _ _ (Ans.new e hl (.lst r1))⟩
  · cases q
    obtain ⟨x, rfl, cx⟩ := c.one
    obtain ⟨a, vs, rfl, _, h1, r1⟩ := cx.tuple e
    exact ⟨a, vs, rfl, .inr (.inl (.inl h1)), fun l hl => k _ _ _ (Ans.new e hl (.lst r1))⟩
  · cases q
def bTuple : List PyData → Option Hd
  | [.list xs] => some (.v (.tuple xs))
  | [.tuple xs] => some (.v (.tuple xs))
  | _ => none
theorem cok_tuple {K : PySem.W.Frag} : CallOk (fun xs H Q => ∃ p ys, xs = [.ref p] ∧ ((SqL K H p ys ∧ ∀ l, H l = none → Q (.ref l) (upd H l (.tup ys))) ∨ (SqT K H p ys ∧ Q (.ref p) H))) bTuple := by
  intro F H xs ds h Q e c q k
  unfold bTuple at q
  split at q
  · cases q
    obtain ⟨x, rfl, cx⟩ := c.one
    obtain ⟨a, vs, rfl, h1, r1⟩ := cx.list e
    exact ⟨a, vs, rfl, .inl ⟨.inl (.inl h1), fun l hl => k _ _ _ (Ans.tup e hl r1)⟩⟩
  · cases q
    obtain ⟨x, rfl, cx⟩ := c.one
    obtain ⟨a, vs, rfl, h0, h1, r1⟩ := cx.tuple e
    exact ⟨a, vs, rfl, .inr ⟨.inl (.inl h1), k _ _ _ (Ans.val' e (.tup h0 r1))⟩⟩
  · cases q
/-! ### isinstance of a built-in type -/
def tyName : PyData → String
  | .none => "NoneType"
  | .bool _ => "bool"
  | .int _ => "int"
  | .str _ => "str"
  | .list _ => "list"
  | .tuple _ => "tuple"
  | .dict _ => "dict"
theorem Cur.ty {K : PySem.W.Frag} {F H : Hp} (e : Ext F H) {x : V} {d : PyData} (c : Cur F H x d) : TyX K H x (.type (tyName d)) := by
  refine .base ?_
  cases c with
  | r q => cases q with
    | non => exact .non
    | bl b => exact .bl b
    | int i => exact .int i
    | str s => exact .str s
    | lst h r => exact .lst (e _ _ h)
    | tup h r => exact .tup (e _ _ h)
    | dK h r => exact .dK (e _ _ h)
    | dT h r => exact .dT (e _ _ h)
  | o h q => cases q with
    | lst r => exact .lst h
    | dK r => exact .dK h
    | dT r => exact .dT h
/-- one argument given, the class written -/
def s1A (op : PyData → Option Hd) (f : FE) : FE := s1 op f
def isiT (T : String) (a : PyData) : Option Hd := (kitB (tyName a) T).map fun b => .v (.bool b)
theorem kitB_all : ∀ a b : String, kitB a b = kitB a b := fun _ _ => rfl
section
variable {X : Cx} {x : Str} {p pos : Pos} {e t : Expr} {f : FE} {T : String}
theorem se_isi (hm : X.mg "isinstance" = none) (ha : SE X e f) (ht : PE X t (tC (.ty T))) (hg : Gl X "isinstance" := by rfl)
    (he : starEach [e, t] X.env = (false, eval e X.env) :: starEach [t] X.env := by rfl) (he2 : starEach [t] X.env = (false, eval t X.env) :: starEach [] X.env := by rfl) (hpl : (backTo pos (starEach [t] X.env)).any (·.1) = false := by rfl) :
    SE X (.Call (.Name "isinstance" p) [e, t] [] pos) (s1 (isiT T) f) := by
  refine PEimp (pe_callB call_isi hg hm (by decide +kernel) (pa_cons ha (pa_cons ht pa_nil he2) he) (by decide) (by decide) he hpl) ?_
  rintro σ H Q ⟨F, ρ, h, ρ', R, e, k⟩
  simp only [s1, Option.bind_eq_some_iff, Option.map_eq_some_iff] at e
  obtain ⟨⟨ha, ρ1⟩, e1, a, e3, hr, e5, e6⟩ := e
  cases e6
  refine ⟨F, ρ, ha, ρ1, R, e1, fun x F1 H1 R1 S1 q1 n1 => ?_⟩
  have c := cur_ok R1 q1 e3
  unfold isiT at e5
  rw [Option.map_eq_some_iff] at e5
  obtain ⟨b, e7, rfl⟩ := e5
  exact ⟨x, .ty T, _, .type T, b, rfl, .ty T, c.ty R1.sub, kit_ty e7, k _ F1 H1 R1 S1 (.v (.bl b)) nw_v⟩
end
/-! ### list(range(..)) -/
def rgD (a b : Int) : List PyData := (List.range (b - a).toNat).map fun i => .int (a + (i : Nat))
def sRg1 (f : FE) : FE := fun r => (f r).bind fun p => (cur p.1 p.2).bind fun d => (dI d).bind fun n => if okR n = true then some (.n (.list (rgD 0 n)), p.2) else none
def sRg2 (f g : FE) : FE := fun r => (f r).bind fun p => (g p.2).bind fun q => (cur p.1 q.2).bind fun d => (dI d).bind fun a => (cur q.1 q.2).bind fun d2 => (dI d2).bind fun b => if okR a = true ∧ okR b = true then some (.n (.list (rgD a b)), q.2) else none
theorem rg_rep {F : Hp} (a b : Int) : RpAll F (rgV a b) (rgD a b) := by
  unfold rgV rgD
  have : ∀ (l : List Nat), RpAll F (l.map fun i => V.int (a + (i : Nat))) (l.map fun i => .int (a + (i : Nat))) := fun l => by
    induction l with
    | nil => exact .nil
    | cons x l ih => exact .cons (.int _) ih
  exact this _
section
variable {X : Cx} {p pr pos posr : Pos} {e e2 : Expr} {f g : FE}
theorem se_lr1 (ml : X.mg "list" = none) (mr : X.mg "range" = none) (ha : SE X e f) (hc : X.calm = true := by rfl) (gl : Gl X "list" := by rfl) (gr : Gl X "range" := by rfl)
    (n1 : starEach [e] X.env = (false, eval e X.env) :: starEach [] X.env := by rfl)
    (n2 : starEach [Expr.Call (.Name "range" pr) [e] [] posr] X.env = (false, eval (.Call (.Name "range" pr) [e] [] posr) X.env) :: starEach [] X.env := by rfl) :
    SE X (.Call (.Name "list" p) [.Call (.Name "range" pr) [e] [] posr] [] pos) (sRg1 f) := by
  refine PEimp (pe_listRg hc gl ml (prg_1 gr mr ha n1) n2) ?_
  rintro σ H Q ⟨F, ρ, h, ρ', R, e, k⟩
  simp only [sRg1, Option.bind_eq_some_iff] at e
  obtain ⟨⟨ha, ρ1⟩, e1, d, e2, n, e3, e4⟩ := e
  split at e4
  · rename_i hl
    have hl := okR_of hl
    cases e4
    cases dI_eq e3
    refine ⟨F, ρ, ha, ρ1, R, e1, fun x F1 H1 R1 S1 q1 n1 => ⟨n, (cur_ok R1 q1 e2).int, RgOk.of_le (by omega) (by omega) (by omega) (by omega), fun q hq => ?_⟩⟩
    obtain ⟨R4, S4, q4, n4⟩ := R1.ans (Ans.new R1.sub hq (.lst (rg_rep 0 n)))
    exact k _ _ _ R4 (S1.trans S4) q4 (n4.back S1)
  · cases e4
theorem se_lr2 (ml : X.mg "list" = none) (mr : X.mg "range" = none) (ha : SE X e f) (hb : SE X e2 g) (hc : X.calm = true := by rfl) (gl : Gl X "list" := by rfl) (gr : Gl X "range" := by rfl)
    (n1 : starEach [e, e2] X.env = (false, eval e X.env) :: starEach [e2] X.env := by rfl) (n3 : starEach [e2] X.env = (false, eval e2 X.env) :: starEach [] X.env := by rfl) (hp : (backTo posr (starEach [e2] X.env)).any (·.1) = false := by rfl)
    (n2 : starEach [Expr.Call (.Name "range" pr) [e, e2] [] posr] X.env = (false, eval (.Call (.Name "range" pr) [e, e2] [] posr) X.env) :: starEach [] X.env := by rfl) :
    SE X (.Call (.Name "list" p) [.Call (.Name "range" pr) [e, e2] [] posr] [] pos) (sRg2 f g) := by
  refine PEimp (pe_listRg hc gl ml (prg_2 gr mr ha hb n1 n3 (hp := hp)) n2) ?_
  rintro σ H Q ⟨F, ρ, h, ρ', R, e, k⟩
  simp only [sRg2, Option.bind_eq_some_iff] at e
  obtain ⟨⟨ha, ρ1⟩, e1, ⟨hb, ρ2⟩, e1', d, e2, a, e3, d2, e4, b, e5, e6⟩ := e
  split at e6
  · rename_i hl
    have hl := And.intro (okR_of hl.1) (okR_of hl.2)
    cases e6
    cases dI_eq e3
    cases dI_eq e5
    refine ⟨F, ρ, ha, ρ1, R, e1, fun x F1 H1 R1 S1 q1 n1 => ⟨F1, ρ1, hb, ρ2, R1, e1', fun y F2 H2 R2 S2 q2 n2 => ⟨a, b, (cur_ok R2 (q1.step S2) e2).int, (cur_ok R2 q2 e4).int, RgOk.of_le (by omega) (by omega) (by omega) (by omega), fun q hq => ?_⟩⟩⟩
    obtain ⟨R4, S4, q4, n4⟩ := R2.ans (Ans.new R2.sub hq (.lst (rg_rep a b)))
    exact k _ _ _ R4 ((S1.trans S2).trans S4) q4 ((n4.back S2).back S1)
  · cases e6
end
end TL

namespace TL
open PySem PySem.Spec PyProof.Rows L2

/-! ### statements -/
def Post (K : PySem.W.Frag) (F : Hp) (r : Ev) (σ : L2.St) (H : Hp) (D : Ends) : Out → Prop
  | .nx r' => ∀ σ' F' H', Rel K F' r' σ' H' → Stp r σ F H r' σ' F' H' → D.nx σ' H'
  | .bk r' => ∀ σ' F' H', Rel K F' r' σ' H' → Stp r σ F H r' σ' F' H' → D.bk σ' H'
  | .ct r' => ∀ σ' F' H', Rel K F' r' σ' H' → Stp r σ F H r' σ' F' H' → D.ct σ' H'
  | .rt h r' => ∀ v σ' F' H', Rel K F' r' σ' H' → Stp r σ F H r' σ' F' H' → HdRep F' r' σ' H' h v → NewAt (Fsh r σ H) H' h v → D.rt v H'
def tIS (K : PySem.W.Frag) (f : FS) : TS := fun D σ H => ∃ F r o, Rel K F r σ H ∧ f r = some o ∧ Post K F r σ H D o
abbrev SS (X : Cx) (st : Stmt) (f : FS) : Prop := PS X st (tIS X.K f)
abbrev SSs (X : Cx) (st : List Stmt) (f : FS) : Prop := PSs X st (tIS X.K f)
theorem Post.step {K : PySem.W.Frag} {F F1 : Hp} {r r1 : Ev} {σ σ1 : L2.St} {H H1 : Hp} {D : Ends} {o : Out} (p : Post K F r σ H D o) (S : Stp r σ F H r1 σ1 F1 H1) : Post K F1 r1 σ1 H1 D o := by
  cases o with
  | nx r' => exact fun σ' F' H' R' S' => p σ' F' H' R' (S.trans S')
  | bk r' => exact fun σ' F' H' R' S' => p σ' F' H' R' (S.trans S')
  | ct r' => exact fun σ' F' H' R' S' => p σ' F' H' R' (S.trans S')
  | rt h r' => exact fun v σ' F' H' R' S' q n => p v σ' F' H' R' (S.trans S') q (n.back S)
def fSkip : FS := fun r => some (.nx r)
def fSeq (f g : FS) : FS := fun r => (f r).bind fun o => match o with
  | .nx r' => g r'
  | o => some o
theorem fSeq_ok {K : PySem.W.Frag} {f g : FS} : ∀ D σ H, tIS K (fSeq f g) D σ H → tSeq (tIS K f) (tIS K g) D σ H := by
  rintro D σ H ⟨F, ρ, o, R, e, k⟩
  simp only [fSeq, Option.bind_eq_some_iff] at e
  obtain ⟨o1, e1, e2⟩ := e
  refine ⟨F, ρ, o1, R, e1, ?_⟩
  cases o1 with
  | nx r1 => exact fun σ' F' H' R' S' => ⟨F', r1, o, R', e2, k.step S'⟩
  | bk r1 => cases e2; exact k
  | ct r1 => cases e2; exact k
  | rt h r1 => cases e2; exact k
section
variable {X : Cx} {st : Stmt} {rest : List Stmt} {f g : FS} {pos : Pos}
theorem sss_nil : SSs X [] fSkip := PSsimp pss_nil fun D σ H ⟨F, r, o, R, e, k⟩ => by
  cases e
  exact k σ F H R (Stp.refl ..)
theorem sss_cons (h : SS X st f) (t : SSs X rest g) : SSs X (st :: rest) (fSeq f g) := PSsimp (pss_cons h t) fSeq_ok
theorem sss_one (h : SS X st f) : SSs X [st] f := pss_one h
theorem ss_pass : SS X (.Pass pos) fSkip := PSimp ps_pass fun D σ H ⟨F, r, o, R, e, k⟩ => by
  cases e
  exact k σ F H R (Stp.refl ..)
def fBreak : FS := fun r => some (.bk r)
def fCont : FS := fun r => some (.ct r)
def fNever : FS := fun _ => none
theorem ss_break : SS X (.Break pos) fBreak := PSimp ps_break fun D σ H ⟨F, r, o, R, e, k⟩ => by
  cases e
  exact k σ F H R (Stp.refl ..)
theorem ss_continue : SS X (.Continue pos) fCont := PSimp ps_continue fun D σ H ⟨F, r, o, R, e, k⟩ => by
  cases e
  exact k σ F H R (Stp.refl ..)
theorem ss_never : SS X st fNever := PSimp ps_never fun D σ H ⟨F, r, o, R, e, k⟩ => by cases e
end
/-! ### an expression as a statement, return, if -/
def fExp (f : FE) : FS := fun r => (f r).map fun p => .nx p.2
def fRet (f : FE) : FS := fun r => (f r).map fun p => .rt p.1 p.2
def fRetN : FS := fun r => some (.rt (.v .none) r)
def fIf (c : FT) (f g : FS) : FS := fun r => (c r).bind fun p => if p.1 = true then f p.2 else g p.2
section
variable {X : Cx} {c e : Expr} {a b : List Stmt} {f : FE} {g h : FS} {t : FT} {pos : Pos}
theorem ss_exp (he : SE X e f) (hs : swapsWith e none pos.line X.env = pure false := by rfl) : SS X (.Expr e pos) (fExp f) := PSimp (ps_expr he hs) fun D σ H ⟨F, r, o, R, e, k⟩ => by
  simp only [fExp, Option.map_eq_some_iff] at e
  obtain ⟨⟨h, r1⟩, e1, rfl⟩ := e
  exact ⟨F, r, h, r1, R, e1, fun x F' H' R' S' _ _ => k σ F' H' R' S'⟩
theorem ss_ret (he : SE X e f) : SS X (.Return (some e) pos) (fRet f) := PSimp (ps_ret he) fun D σ H ⟨F, r, o, R, e, k⟩ => by
  simp only [fRet, Option.map_eq_some_iff] at e
  obtain ⟨⟨h, r1⟩, e1, rfl⟩ := e
  exact ⟨F, r, h, r1, R, e1, fun x F' H' R' S' q n => k x σ F' H' R' S' q n⟩
theorem ss_retN : SS X (.Return none pos) fRetN := PSimp ps_retN fun D σ H ⟨F, r, o, R, e, k⟩ => by
  cases e
  exact k _ σ F H R (Stp.refl ..) (.v .non) nw_v
theorem ss_if (hc : ST X c t) (ha : SSs X a g) (hb : SSs X b h) : SS X (.If c a b pos) (fIf t g h) := PSimp (ps_if hc ha hb) fun D σ H ⟨F, r, o, R, e, k⟩ => by
  simp only [fIf, Option.bind_eq_some_iff] at e
  obtain ⟨⟨b, r1⟩, e1, e2⟩ := e
  refine ⟨F, r, b, r1, R, e1, fun F' H' R' S' => ?_⟩
  cases b with
  | true =>
    rw [if_pos rfl] at e2 ⊢
    exact ⟨F', r1, o, R', e2, k.step S'⟩
  | false =>
    rw [if_neg Bool.false_ne_true] at e2 ⊢
    exact ⟨F', r1, o, R', e2, k.step S'⟩
end
/-! ### storing -/
def isIo : Option (Option Slt) → Bool
  | some (some (.io _)) => true
  | some (some (.sc _)) => true
  | _ => false
def put (h : Hd) (i : Nat) (r : Ev) : Option Ev := if isIo r[i]? = true then none else match h with
  | .v d => some (r.set i (some (.fz d)))
  | .n d => some (r.set i (some (.ow d)))
  | .t d => some (r.set i (some (.tr d)))
  | .s j => (esc (.s j) r).map fun p => p.2.set i (some (.fz p.1))
/-- what a slot says -/
def Right (F H : Hp) (x : V) : Slt → Prop
  | .fz d => Rp F x d
  | .ow d => ∃ a o, x = .ref a ∧ H a = some o ∧ F a = none ∧ OC F o d
  | .tr d => ∃ fp, Tr F H x d fp
  | _ => False
theorem Rel.putG {K : PySem.W.Frag} {F : Hp} {r : Ev} {σ : L2.St} {H : Hp} {i : Nat} {s : Slt} {x : V} (R : Rel K F r σ H) (q : Right F H x s) (n : ∀ a, OwnA H s x a → ¬ Owned r σ H a) : Rel K F (r.set i (some s)) (σ.set i (some x)) H := by
  have self : i < r.length → (σ.set i (some x))[i]? = some (some x) := fun hl => by rw [List.getElem?_set_self (by rw [← R.len]; exact hl)]
  have look : ∀ {j : Nat} {t : Slt} {y : V}, (r.set i (some s))[j]? = some (some t) → (σ.set i (some x))[j]? = some (some y) → (i = j ∧ t = s ∧ y = x) ∨ (i ≠ j ∧ r[j]? = some (some t) ∧ σ[j]? = some (some y)) := fun {j t y} h1 h2 => by
    rcases get_set _ _ _ _ _ h1 with ⟨rfl, e1, hl⟩ | ⟨ne, h⟩
    · rw [self hl] at h2
      cases e1; cases h2
      exact .inl ⟨rfl, rfl, rfl⟩
    · rw [List.getElem?_set_ne ne] at h2
      exact .inr ⟨ne, h, h2⟩
  refine ⟨R.sub, by rw [List.length_set, List.length_set]; exact R.len, fun j e h => ?_, fun j e h => ?_, fun j e h => ?_, fun j ns h => ?_, fun j ns h => ?_, fun j k s1 s2 x1 x2 a h1 h2 e1 e2 o1 o2 => ?_⟩
  · rcases get_set _ _ _ _ _ h with ⟨rfl, e1, hl⟩ | ⟨ne, h⟩
    · cases e1; exact ⟨x, self hl, q⟩
    · rw [List.getElem?_set_ne ne]; exact R.fz j e h
  · rcases h with h | h
    · rcases get_set _ _ _ _ _ h with ⟨rfl, e1, hl⟩ | ⟨ne, h⟩
      · cases e1
        obtain ⟨a, o, rfl, q⟩ := q
        exact ⟨a, o, self hl, q⟩
      · rw [List.getElem?_set_ne ne]; exact R.own j e (.inl h)
    · rcases get_set _ _ _ _ _ h with ⟨rfl, e1, hl⟩ | ⟨ne, h⟩
      · cases e1; exact q.elim
      · rw [List.getElem?_set_ne ne]; exact R.own j e (.inr h)
  · rcases get_set _ _ _ _ _ h with ⟨rfl, e1, hl⟩ | ⟨ne, h⟩
    · cases e1
      obtain ⟨fp, q⟩ := q
      exact ⟨x, fp, self hl, q⟩
    · rw [List.getElem?_set_ne ne]; exact R.tr j e h
  · rcases get_set _ _ _ _ _ h with ⟨rfl, e1, hl⟩ | ⟨ne, h⟩
    · cases e1; exact q.elim
    · rw [List.getElem?_set_ne ne]; exact R.scr j ns h
  · rcases get_set _ _ _ _ _ h with ⟨rfl, e1, hl⟩ | ⟨ne, h⟩
    · cases e1; exact q.elim
    · rw [List.getElem?_set_ne ne]; exact R.xc j ns h
  · rcases look h1 e1 with ⟨rfl, rfl, rfl⟩ | ⟨n1, g1, f1⟩
    · rcases look h2 e2 with ⟨rfl, rfl, rfl⟩ | ⟨n2, g2, f2⟩
      · rfl
      · exact absurd ⟨k, s2, x2, g2, f2, o2⟩ (n a o1)
    · rcases look h2 e2 with ⟨rfl, rfl, rfl⟩ | ⟨n2, g2, f2⟩
      · exact absurd ⟨j, s1, x1, g1, f1, o1⟩ (n a o2)
      · exact R.dja j k s1 s2 x1 x2 a g1 g2 f1 f2 o1 o2
theorem io_ne {r : Ev} {i j : Nat} {d : PyData} (h : isIo r[i]? ≠ true) (e : r[j]? = some (some (.io d))) : i ≠ j := by
  rintro rfl
  rw [e] at h
  exact h rfl
theorem Stp.putG {r r1 : Ev} {σ σ1 : L2.St} {F F1 H H1 : Hp} {i : Nat} {s : Slt} {x : V} (S : Stp r σ F H r1 σ1 F1 H1) (h : isIo r1[i]? ≠ true) (n : ∀ a, OwnA H1 s x a → Fsh r σ H a) : Stp r σ F H (r1.set i (some s)) (σ1.set i (some x)) F1 H1 := by
  refine ⟨S.ext, fun a ha hn => ?_, fun j e hj => ?_, S.stay, by rw [List.length_set]; exact S.sl⟩
  · obtain ⟨q1, q2, q3⟩ := S.pres a ha hn
    refine ⟨q1, q2, fun ⟨j, t, y, h1, h2, h3⟩ => ?_⟩
    rcases get_set _ _ _ _ _ h1 with ⟨rfl, e1, _⟩ | ⟨ne, h1⟩
    · by_cases hl : i < σ1.length
      · rw [List.getElem?_set_self hl] at h2
        cases h2; cases e1
        exact (n a h3).elim ha hn
      · rw [List.getElem?_eq_none (by rw [List.length_set]; omega)] at h2; cases h2
    · rw [List.getElem?_set_ne ne] at h2
      exact q3 ⟨j, t, y, h1, h2, h3⟩
  · obtain ⟨e', q1, q2⟩ := S.io j e hj
    have ne := io_ne h q1
    exact ⟨e', by rw [List.getElem?_set_ne ne]; exact q1, by rw [List.getElem?_set_ne ne]; exact q2⟩
/-- a frozen thing stored -/
theorem Rel.putV {K : PySem.W.Frag} {F : Hp} {r : Ev} {σ : L2.St} {H : Hp} {i : Nat} {d : PyData} {x : V} (R : Rel K F r σ H) (q : Rp F x d) : Rel K F (r.set i (some (.fz d))) (σ.set i (some x)) H := R.putG (s := .fz d) q fun _ z => z.elim
theorem Stp.putV {r r1 : Ev} {σ σ1 : L2.St} {F F1 H H1 : Hp} {i : Nat} {d : PyData} {x : V} (S : Stp r σ F H r1 σ1 F1 H1) (h : isIo r1[i]? ≠ true) : Stp r σ F H (r1.set i (some (.fz d))) (σ1.set i (some x)) F1 H1 := S.putG h fun _ z => z.elim
theorem Rel.putN {K : PySem.W.Frag} {F : Hp} {r : Ev} {σ : L2.St} {H : Hp} {i : Nat} {d : PyData} {a : Addr} {o : HO} (R : Rel K F r σ H) (h1 : H a = some o) (h2 : F a = none) (h3 : ¬ Owned r σ H a) (h4 : OC F o d) : Rel K F (r.set i (some (.ow d))) (σ.set i (some (.ref a))) H := R.putG (s := .ow d) ⟨a, o, rfl, h1, h2, h4⟩ fun b z => by cases z; exact h3
theorem Stp.putN {r r1 : Ev} {σ σ1 : L2.St} {F F1 H H1 : Hp} {i : Nat} {d : PyData} {a : Addr} (S : Stp r σ F H r1 σ1 F1 H1) (h : isIo r1[i]? ≠ true) (ha : Fsh r σ H a) : Stp r σ F H (r1.set i (some (.ow d))) (σ1.set i (some (.ref a))) F1 H1 := S.putG h fun b z => by cases z; exact ha
theorem ownAt_setOw {r : Ev} {i j : Nat} {d e : PyData} (h : OwnAt (r.set i (some (.ow d))) j e) : (i = j ∧ e = d ∧ i < r.length) ∨ (i ≠ j ∧ OwnAt r j e) := by
  rcases h with h | h
  · rcases get_set _ _ _ _ _ h with ⟨rfl, e1, hl⟩ | ⟨ne, h⟩
    · cases e1; exact .inl ⟨rfl, rfl, hl⟩
    · exact .inr ⟨ne, .inl h⟩
  · rcases get_set _ _ _ _ _ h with ⟨rfl, e1, hl⟩ | ⟨ne, h⟩
    · cases e1
    · exact .inr ⟨ne, .inr h⟩
theorem esc_io {r r' : Ev} {j i : Nat} {d : PyData} (h : esc (.s j) r = some (d, r')) (hi : isIo r[i]? ≠ true) : isIo r'[i]? ≠ true := by
  simp only [esc] at h
  split at h
  · cases h; exact hi
  · rename_i hs
    cases h
    by_cases e : j = i
    · subst e
      rw [List.getElem?_set_self (List.getElem?_eq_some_iff.mp hs).1]
      simp [isIo]
    · rw [List.getElem?_set_ne e]; exact hi
  · rename_i hs
    cases h
    by_cases e : j = i
    · subst e
      rw [List.getElem?_set_self (List.getElem?_eq_some_iff.mp hs).1]
      simp [isIo]
    · rw [List.getElem?_set_ne e]; exact hi
  · cases h
theorem put_ok {K : PySem.W.Frag} {r r1 r2 : Ev} {σ σ1 : L2.St} {F H F1 H1 : Hp} {h : Hd} {x : V} {i : Nat} (S : Stp r σ F H r1 σ1 F1 H1) (R : Rel K F1 r1 σ1 H1) (q : HdRep F1 r1 σ1 H1 h x) (nw : NewAt (Fsh r σ H) H1 h x) (e : put h i r1 = some r2) :
    ∃ F2, Rel K F2 r2 (σ1.set i (some x)) H1 ∧ Stp r σ F H r2 (σ1.set i (some x)) F2 H1 := by
  unfold put at e
  split at e
  · cases e
  · rename_i hi
    cases q with
    | v q => cases e; exact ⟨F1, R.putV q, S.putV hi⟩
    | n h1 h2 h3 h4 => cases e; exact ⟨F1, R.putN h1 h2 h3 h4, S.putN hi (nw _ rfl)⟩
    | @t d x fp q m =>
      cases e
      refine ⟨F1, R.putG (s := .tr _) ⟨fp, q⟩ fun a ⟨F', fp', t, ha⟩ => m a (by rw [q.uniq t]; exact ha), S.putG hi fun a ha => nw a ha⟩
    | @s j x q =>
      dsimp only at e
      rw [Option.map_eq_some_iff] at e
      obtain ⟨⟨d, r3⟩, e1, rfl⟩ := e
      obtain ⟨F2, R2, S2, p2, _⟩ := esc_ok S R (.s q) nw_s e1
      exact ⟨F2, R2.putV p2, S2.putV (esc_io e1 hi)⟩
def fAsg (i : Nat) (f : FE) : FS := fun r => (f r).bind fun p => (put p.1 i p.2).map .nx
theorem fAsg_ok {K : PySem.W.Frag} {i : Nat} {f : FE} : ∀ D σ H, tIS K (fAsg i f) D σ H → tAsg (tI K f) (gName i) D σ H := by
  rintro D σ H ⟨F, ρ, o, R, e, k⟩
  simp only [fAsg, Option.bind_eq_some_iff, Option.map_eq_some_iff] at e
  obtain ⟨⟨h, ρ1⟩, e1, ρ2, e2, rfl⟩ := e
  refine ⟨F, ρ, h, ρ1, R, e1, fun x F1 H1 R1 S1 q1 n1 => ?_⟩
  obtain ⟨F2, R2, S2⟩ := put_ok S1 R1 q1 n1 e2
  exact k _ F2 H1 R2 S2
section
variable {X : Cx} {e : Expr} {f : FE} {pos pos' : Pos} {x : Str}
theorem ss_set (i : Nat) (hN : X.N.Nodup) (he : SE X e f) (hi : X.N[i]? = some x := by rfl) (hx : Loc X.env.scope x := by first | exact .inl rfl | exact .inr rfl) (hs : swapsWith e (some (.Name x pos')) pos.line X.env = pure false := by rfl) (hf : X.fn x = true ∨ X.env.scope.names.lookup x = some .local := by first | exact .inl rfl | exact .inr rfl) :
    SS X (.Assign [.Name x pos'] e pos) (fAsg i f) := PSimp (ps_set hN hi hx he hs hf) fAsg_ok
end
/-! ### several at once -/
def ready (hs : List Hd) (r : Ev) : Option (List Hd × Ev) := match hs with
  | [] => some ([], r)
  | .s i :: t => (esc (.s i) r).bind fun p => (ready t p.2).map fun q => (.v p.1 :: q.1, q.2)
  | h :: t => (ready t r).map fun q => (h :: q.1, q.2)
def putAll : List Hd → List Nat → Ev → Option Ev
  | [], [], r => some r
  | h :: hs, i :: is, r => (put h i r).bind fun r' => putAll hs is r'
  | _, _, _ => none
def setAll (σ : L2.St) : List Nat → List V → L2.St
  | i :: is, x :: xs => setAll (σ.set i (some x)) is xs
  | _, _ => σ
def isRdy : Hd → Bool
  | .s _ => false
  | _ => true
theorem HdA_rdy {H : Hp} {h : Hd} {x : V} {a : Addr} (ha : HdA H h x a) : isRdy h = true := by
  cases h with
  | s i => exact ha.elim
  | v d => rfl
  | n d => rfl
  | t d => rfl
theorem ready_ok {K : PySem.W.Frag} {σ σ1 : L2.St} {F H H1 : Hp} {r : Ev} : ∀ {hs hs' : List Hd} {xs : List V} {r1 r2 : Ev} {F1 : Hp}, Stp r σ F H r1 σ1 F1 H1 → Rel K F1 r1 σ1 H1 → HdsRep F1 r1 σ1 (Fsh r σ H) H1 hs xs → ready hs r1 = some (hs', r2) →
    ∃ F2, Rel K F2 r2 σ1 H1 ∧ Stp r σ F H r2 σ1 F2 H1 ∧ HdsRep F2 r2 σ1 (Fsh r σ H) H1 hs' xs ∧ Ext F1 F2 ∧ (∀ a, ¬ Owned r1 σ1 H1 a → ¬ Owned r2 σ1 H1 a) ∧ (∀ a, F1 a = none → ¬ Owned r1 σ1 H1 a → F2 a = none) ∧ hs'.all isRdy = true ∧ ∀ (j : Nat) g y a, hs'[j]? = some g → HdA H1 g y a → hs[j]? = some g
  | [], hs', xs, r1, r2, F1, S, R, t, e => by
    cases e
    exact ⟨F1, R, S, t, Ext.refl _, fun _ h => h, fun _ h _ => h, rfl, fun j g y a h => by simp at h⟩
  | h :: hs, hs', [], r1, r2, F1, S, R, t, e => by cases t.len
  | h :: hs, hs', x :: xs, r1, r2, F1, S, R, t, e => by
    by_cases hs0 : isRdy h = false
    · cases h with
      | v d => cases hs0
      | n d => cases hs0
      | t d => cases hs0
      | s i =>
      simp only [ready, Option.bind_eq_some_iff, Option.map_eq_some_iff] at e
      obtain ⟨⟨d, r3⟩, e1, ⟨hs2, r4⟩, e2, e3⟩ := e
      cases e3
      obtain ⟨F2, R2, S2, p2, x2, o2, f2⟩ := esc_ok S R (t.rep 0 _ x rfl rfl) (t.nw 0 _ x rfl rfl) e1
      have t2 : HdsRep F2 r3 σ1 (Fsh r σ H) H1 hs xs := by
        have tt := t.tail
        exact ⟨tt.len, fun j g y g1 g2 => (tt.rep j g y g1 g2).frozen x2 o2 fun a _ z1 z2 => f2 a z1 z2 (fun z => z.elim), tt.nw, tt.apart⟩
      obtain ⟨F3, R3, S3, t3, x3, o3, f3, al, nn⟩ := ready_ok S2 R2 t2 e2
      refine ⟨F3, R3, S3, .cons' (.v (p2.mono x3)) nw_v t3 (fun _ _ _ _ z => z.elim), x2.trans x3, fun a h => o3 a (o2 a h), fun a z1 z2 => f3 a (f2 a z1 z2 (fun z => z.elim)) (o2 a z2), by simpa [isRdy] using al, fun j g y a h ha => ?_⟩
      cases j with
      | zero => simp at h; subst h; exact ha.elim
      | succ j => simp at h ⊢; exact nn j g y a h ha
    · have e : (ready hs r1).map (fun q => (h :: q.1, q.2)) = some (hs', r2) := by
        cases h with
        | s i => exact absurd rfl hs0
        | v d => exact e
        | n d => exact e
        | t d => exact e
      simp only [Option.map_eq_some_iff] at e
      obtain ⟨⟨hs2, r4⟩, e2, e3⟩ := e
      cases e3
      obtain ⟨F3, R3, S3, t3, x3, o3, f3, al, nn⟩ := ready_ok S R t.tail e2
      refine ⟨F3, R3, S3, .cons' ((t.rep 0 _ x rfl rfl).frozen x3 o3 (fun a _ z1 z2 => f3 a z1 z2)) (t.nw 0 _ x rfl rfl) t3 (fun j g y a z1 z2 z3 z4 => ?_), x3, o3, f3, by simp only [List.all_cons, al, Bool.and_true]; simpa using hs0, fun j g y a hh ha => ?_⟩
      · have := t.apart 0 (j + 1) h g x y a rfl (by simpa using nn j g y a z2 z4) rfl (by simpa using z3) z1 z4
        cases this
      · cases j with
        | zero => simpa using hh
        | succ j => simp at hh ⊢; exact nn j g y a hh ha
theorem putAll_ok {K : PySem.W.Frag} {σ : L2.St} {F H H1 : Hp} {r : Ev} : ∀ {hs : List Hd} {is : List Nat} {xs : List V} {r1 r2 : Ev} {σ1 : L2.St} {F1 : Hp}, Stp r σ F H r1 σ1 F1 H1 → Rel K F1 r1 σ1 H1 → HdsRep F1 r1 σ1 (Fsh r σ H) H1 hs xs → hs.all isRdy = true → putAll hs is r1 = some r2 →
    ∃ F2, Rel K F2 r2 (setAll σ1 is xs) H1 ∧ Stp r σ F H r2 (setAll σ1 is xs) F2 H1
  | [], [], xs, r1, r2, σ1, F1, S, R, t, al, e => by
    cases e
    exact ⟨F1, R, S⟩
  | [], i :: is, xs, r1, r2, σ1, F1, S, R, t, al, e => by cases e
  | h :: hs, [], xs, r1, r2, σ1, F1, S, R, t, al, e => by cases e
  | h :: hs, i :: is, [], r1, r2, σ1, F1, S, R, t, al, e => by cases t.len
  | h :: hs, i :: is, x :: xs, r1, r2, σ1, F1, S, R, t, al, e => by
    simp only [putAll, Option.bind_eq_some_iff] at e
    obtain ⟨r3, e1, e2⟩ := e
    simp only [List.all_cons, Bool.and_eq_true] at al
    have q := t.rep 0 h x rfl rfl
    have n0 := t.nw 0 h x rfl rfl
    unfold put at e1
    split at e1
    · cases e1
    · rename_i hi
      have key : ∀ (s : Slt), Right F1 H1 x s → (∀ a, OwnA H1 s x a → HdA H1 h x a) → r3 = r1.set i (some s) → ∃ F2, Rel K F2 r2 (setAll (σ1.set i (some x)) is xs) H1 ∧ Stp r σ F H r2 (setAll (σ1.set i (some x)) is xs) F2 H1 := fun s rt own er => by
        subst er
        refine putAll_ok (is := is) (xs := xs) (S.putG hi fun a ha => n0 a (own a ha)) (R.putG rt fun a ha => (q.at (own a ha)).2.2) ⟨t.tail.len, fun j g y g1 g2 => ?_, t.tail.nw, t.tail.apart⟩ al.2 e2
        have z := t.tail.rep j g y g1 g2
        have no : ∀ a, HdA H1 g y a → ¬ Owned (r1.set i (some s)) (σ1.set i (some x)) H1 a := fun a ha ⟨k, u, w, h1, h2, h3⟩ => by
          rcases get_set _ _ _ _ _ h1 with ⟨rfl, e1, hl⟩ | ⟨ne, h1⟩
          · rw [List.getElem?_set_self (by rw [← R.len]; exact hl)] at h2
            cases e1; cases h2
            have := t.apart 0 (j + 1) h g x y a rfl (by simpa using g1) rfl (by simpa using g2) (own a h3) ha
            cases this
          · rw [List.getElem?_set_ne ne] at h2
            exact (z.at ha).2.2 ⟨k, u, w, h1, h2, h3⟩
        cases z with
        | v z => exact .v z
        | n z1 z2 z3 z4 => exact .n z1 z2 (no _ rfl) z4
        | t z m => exact .t z fun a ha => no a ⟨F1, _, z, ha⟩
        | s z => exact absurd (List.all_eq_true.mp al.2 _ (List.mem_of_getElem? g1)) (by simp [isRdy])
      cases q with
      | s q => cases al.1
      | v q => cases e1; exact key (.fz _) q (fun a z => z.elim) rfl
      | @n d a o h1 h2 h3 h4 => cases e1; exact key (.ow _) ⟨a, o, rfl, h1, h2, h4⟩ (fun a z => z) rfl
      | t q m => cases e1; exact key (.tr _) ⟨_, q⟩ (fun a z => z) rfl
def fPar (is : List Nat) (f : FA) : FS := fun r => (f r).bind fun p => (ready p.1 p.2).bind fun q => (putAll q.1 is q.2).map .nx
theorem putAll_len : ∀ {hs : List Hd} {is : List Nat} {r r' : Ev}, putAll hs is r = some r' → hs.length = is.length
  | [], [], _, _, _ => rfl
  | [], _ :: _, _, _, h => by cases h
  | _ :: _, [], _, _, h => by cases h
  | h :: hs, i :: is, r, r', e => by
    simp only [putAll, Option.bind_eq_some_iff] at e
    obtain ⟨r3, _, e2⟩ := e
    rw [List.length_cons, List.length_cons, putAll_len e2]
theorem fPar_core {K : PySem.W.Frag} {is : List Nat} {f : FA} {D : Ends} {σ : L2.St} {H : Hp} {o : Out} {F : Hp} {ρ : Ev} (R : Rel K F ρ σ H) (e : fPar is f ρ = some o) (k : Post K F ρ σ H D o) :
    tIA K f σ H fun xs H1 => xs.length = is.length ∧ ∀ H2, (∀ a, H1 a ≠ none → H2 a = H1 a) → D.nx (setAll σ is xs) H2 := by
  simp only [fPar, Option.bind_eq_some_iff, Option.map_eq_some_iff] at e
  obtain ⟨⟨hs, ρ1⟩, e1, ⟨hs2, ρ2⟩, e2, ρ3, e3, rfl⟩ := e
  refine ⟨F, ρ, hs, ρ1, R, e1, fun xs F1 H1 R1 S1 t => ?_⟩
  obtain ⟨F2, R2, S2, t2, _, _, _, al, _⟩ := ready_ok S1 R1 t e2
  refine ⟨by rw [← t2.len]; exact putAll_len e3, fun H2 keep => ?_⟩
  obtain ⟨R3, S3⟩ := R2.grow (Ext.refl _) (H' := H2) (fun a o h => by rw [keep a (by rw [R2.sub a o h]; simp)]; exact R2.sub a o h) (fun a h => ⟨keep a h, rfl⟩)
  have t3 : HdsRep F2 ρ2 σ (Fsh ρ σ H) H2 hs2 xs := t2.step S3
  obtain ⟨F4, R4, S4⟩ := putAll_ok (S2.trans S3) R3 t3 al e3
  exact k _ F4 H2 R4 S4
section
variable {X : Cx} {a b c : Expr} {es : List Expr} {g : FA} {px py pz pt pt2 pos : Pos} {kt k2 : Nat} {x y z : Str}
theorem ss_par2 (i j : Nat) (hN : X.N.Nodup) (ha : SA X [a, b] g) (hc : X.calm = true := by rfl) (hi : X.N[i]? = some x := by rfl) (hj : X.N[j]? = some y := by rfl) (hij : i ≠ j := by decide)
    (hx : X.env.scope.names.lookup x = some .local := by rfl) (hy : X.env.scope.names.lookup y = some .local := by rfl)
    (hw : swappedStores [.Tuple [.Name x px, .Name y py] kt pt] (.Tuple [a, b] k2 pt2) X.env = pure (some [x, y]) := by rfl)
    (hs : swapsWithSole [.Tuple [.Name x px, .Name y py] kt pt] (.Tuple [a, b] k2 pt2) pos.line X.env = pure false := by rfl) :
    SS X (.Assign [.Tuple [.Name x px, .Name y py] kt pt] (.Tuple [a, b] k2 pt2) pos) (fPar [i, j] g) := by
  refine PSimp (ps_par hc hN hi hj hij hx hy ha hw hs) ?_
  rintro D σ H ⟨F, ρ, o, R, e, k⟩
  have h := fPar_core R e k
  obtain ⟨F', r', hs', r'', h1, h2, h3⟩ := h
  refine ⟨F', r', hs', r'', h1, h2, fun xs F1 H1 R1 S1 t => ?_⟩
  obtain ⟨hl, hq⟩ := h3 xs F1 H1 R1 S1 t
  match xs, hl with
  | [v, w], _ => exact ⟨v, w, rfl, hq H1 fun _ _ => rfl⟩
theorem ss_par3 (i j l : Nat) (hN : X.N.Nodup) (ha : SA X [a, b, c] g) (hc : X.calm = true := by rfl) (hi : X.N[i]? = some x := by rfl) (hj : X.N[j]? = some y := by rfl) (hl : X.N[l]? = some z := by rfl) (hij : i ≠ j := by decide) (hil : i ≠ l := by decide) (hjl : j ≠ l := by decide)
    (hx : X.env.scope.names.lookup x = some .local := by rfl) (hy : X.env.scope.names.lookup y = some .local := by rfl) (hz : X.env.scope.names.lookup z = some .local := by rfl)
    (hw : swappedStores [.Tuple [.Name x px, .Name y py, .Name z pz] kt pt] (.Tuple [a, b, c] k2 pt2) X.env = pure (some [x, y, z]) := by rfl)
    (hs : swapsWithSole [.Tuple [.Name x px, .Name y py, .Name z pz] kt pt] (.Tuple [a, b, c] k2 pt2) pos.line X.env = pure false := by rfl) :
    SS X (.Assign [.Tuple [.Name x px, .Name y py, .Name z pz] kt pt] (.Tuple [a, b, c] k2 pt2) pos) (fPar [i, j, l] g) := by
  refine PSimp (ps_par3 hc hN hi hj hl hij hil hjl hx hy hz ha hw hs) ?_
  rintro D σ H ⟨F, ρ, o, R, e, k⟩
  have h := fPar_core R e k
  obtain ⟨F', r', hs', r'', h1, h2, h3⟩ := h
  refine ⟨F', r', hs', r'', h1, h2, fun xs F1 H1 R1 S1 t => ?_⟩
  obtain ⟨hl, hq⟩ := h3 xs F1 H1 R1 S1 t
  match xs, hl with
  | [v, w, u], _ => exact ⟨v, w, u, rfl, hq H1 fun _ _ => rfl⟩
end
/-- names as targets, one by one -/
def gNames : List Nat → TGs
  | [] => gNil
  | i :: is => gCons (gName i) (gNames is)
theorem gNames_ok : ∀ {is : List Nat} {xs : List V} {σ : L2.St} {H : Hp} {Q : L2.St → Hp → Prop}, xs.length = is.length → Q (setAll σ is xs) H → gNames is xs σ H Q
  | [], [], σ, H, Q, _, q => ⟨rfl, q⟩
  | [], _ :: _, σ, H, Q, h, q => by cases h
  | _ :: _, [], σ, H, Q, h, q => by cases h
  | i :: is, x :: xs, σ, H, Q, h, q => ⟨x, xs, rfl, gNames_ok (by simpa using h) q⟩
section
variable {X : Cx} {es : List Expr} {ts : List Expr} {g : FA} {pt pt2 pos : Pos} {kt k2 n : Nat} {is : List Nat}
/-- a, b, .. = x, y, .. where a tuple is made -/
theorem ss_parT (is : List Nat) (hg : PGs X ts (gNames is)) (ha : SA X es g) (hlen : is.length ≤ 1000 := by decide) (hc : X.calm = true := by rfl) (hn : (assignEach ts X.env).length = is.length := by rfl) (hst : (assignEach ts X.env).findIdx? (·.1) = none := by rfl)
    (hs : swapsWithSole [.Tuple ts kt pt] (.Tuple es k2 pt2) pos.line X.env = pure false := by rfl) (hw : swappedStores [.Tuple ts kt pt] (.Tuple es k2 pt2) X.env = pure none := by rfl)
    (h1 : (assignEach [Expr.Tuple ts kt pt] X.env).map (·.2) = [assign (.Tuple ts kt pt) X.env] := by rfl) :
    SS X (.Assign [.Tuple ts kt pt] (.Tuple es k2 pt2) pos) (fPar is g) := by
  refine PSimp (ps_asg (pe_tup ha) (pg_tup hc hg hn hst) hs hw h1) ?_
  rintro D σ H ⟨F, ρ, o, R, e, k⟩
  have h := fPar_core R e k
  obtain ⟨F', r', hs', r'', h1, h2, h3⟩ := h
  refine ⟨F', r', hs', r'', h1, h2, fun xs F1 H1 R1 S1 t => ?_⟩
  obtain ⟨hl, hq⟩ := h3 xs F1 H1 R1 S1 t
  refine ⟨lim_le (by rw [hl]; omega), fun p hp => ⟨p, xs, rfl, .inl (.inl upd_same), hl, gNames_ok hl (hq _ fun b hb => upd_ne fun z => hb (z ▸ hp))⟩⟩
end
/-- a, b, .. = something that is a tuple -/
def dTup : PyData → Option (List PyData)
  | .tuple ds => some ds
  | _ => none
def putDs : List PyData → List Nat → Ev → Option Ev
  | [], [], r => some r
  | d :: ds, i :: is, r => (put (.v d) i r).bind fun r' => putDs ds is r'
  | _, _, _ => none
theorem dTup_eq {d : PyData} {ds : List PyData} (h : dTup d = some ds) : d = .tuple ds := by cases d <;> first | (cases h; rfl) | cases h
theorem putDs_ok {K : PySem.W.Frag} {σ : L2.St} {F H H1 : Hp} {r : Ev} : ∀ {ds : List PyData} {is : List Nat} {xs : List V} {r1 r2 : Ev} {σ1 : L2.St} {F1 : Hp}, Stp r σ F H r1 σ1 F1 H1 → Rel K F1 r1 σ1 H1 → RpAll F1 xs ds → putDs ds is r1 = some r2 →
    xs.length = is.length ∧ Rel K F1 r2 (setAll σ1 is xs) H1 ∧ Stp r σ F H r2 (setAll σ1 is xs) F1 H1
  | [], [], [], r1, r2, σ1, F1, S, R, t, e => by cases e; exact ⟨rfl, R, S⟩
  | [], [], _ :: _, r1, r2, σ1, F1, S, R, t, e => by cases t
  | [], _ :: _, _, r1, r2, σ1, F1, S, R, t, e => by cases e
  | _ :: _, [], _, r1, r2, σ1, F1, S, R, t, e => by cases e
  | _ :: _, _ :: _, [], r1, r2, σ1, F1, S, R, t, e => by cases t
  | d :: ds, i :: is, x :: xs, r1, r2, σ1, F1, S, R, t, e => by
    simp only [putDs, Option.bind_eq_some_iff] at e
    obtain ⟨r3, e1, e2⟩ := e
    cases t with
    | cons q t =>
      unfold put at e1
      split at e1
      · cases e1
      · rename_i hi
        cases e1
        obtain ⟨h1, h2, h3⟩ := putDs_ok (S.putV hi (x := x)) (R.putV q) t e2
        exact ⟨by rw [List.length_cons, List.length_cons, h1], h2, h3⟩
def fUnp (is : List Nat) (f : FE) : FS := fun r => (f r).bind fun p => (cur p.1 p.2).bind fun d => (dTup d).bind fun ds => (putDs ds is p.2).map .nx
section
variable {X : Cx} {e : Expr} {ts : List Expr} {f : FE} {pt pos : Pos} {kt : Nat}
theorem ss_unp (is : List Nat) (hg : PGs X ts (gNames is)) (ha : SE X e f) (hc : X.calm = true := by rfl) (hn : (assignEach ts X.env).length = is.length := by rfl) (hst : (assignEach ts X.env).findIdx? (·.1) = none := by rfl)
    (hs : swapsWithSole [.Tuple ts kt pt] e pos.line X.env = pure false := by rfl) (hw : swappedStores [.Tuple ts kt pt] e X.env = pure none := by rfl)
    (h1 : (assignEach [Expr.Tuple ts kt pt] X.env).map (·.2) = [assign (.Tuple ts kt pt) X.env] := by rfl) :
    SS X (.Assign [.Tuple ts kt pt] e pos) (fUnp is f) := by
  refine PSimp (ps_asg ha (pg_tup hc hg hn hst) hs hw h1) ?_
  rintro D σ H ⟨F, ρ, o, R, e, k⟩
  simp only [fUnp, Option.bind_eq_some_iff, Option.map_eq_some_iff] at e
  obtain ⟨⟨h, ρ1⟩, e1, d, e2, ds, e3, ρ3, e4, rfl⟩ := e
  cases dTup_eq e3
  refine ⟨F, ρ, h, ρ1, R, e1, fun x F1 H1 R1 S1 q1 n1 => ?_⟩
  obtain ⟨a, vs, rfl, h0, h1, r1⟩ := (cur_ok R1 q1 e2).tuple R1.sub
  obtain ⟨hl, R2, S2⟩ := putDs_ok S1 R1 r1 e4
  exact ⟨a, vs, rfl, .inl (.inl h1), hl, gNames_ok hl (k _ F1 H1 R2 S2)⟩
end
end TL

namespace TL
open PySem PySem.Spec PyProof.Rows L2

/-! ### changing what a slot owns -/
def ownD (k : Nat) (r : Ev) : Option PyData := match r[k]? with
  | some (some (.ow d)) => some d
  | some (some (.io d)) => some d
  | _ => none
def setD (k : Nat) (d : PyData) (r : Ev) : Option Ev := match r[k]? with
  | some (some (.ow _)) => some (r.set k (some (.ow d)))
  | some (some (.io _)) => some (r.set k (some (.io d)))
  | _ => none
theorem ownD_at {k : Nat} {r : Ev} {d : PyData} (h : ownD k r = some d) : OwnAt r k d := by
  unfold ownD at h
  split at h
  · rename_i hs; cases h; exact .inl hs
  · rename_i hs; cases h; exact .inr hs
  · cases h
theorem setD_own {k : Nat} {r r' : Ev} {d : PyData} (h : setD k d r = some r') : (∃ j e, k = j ∧ OwnAt r k e) ∧ r'.length = r.length ∧ OwnAt r' k d ∧ (∀ j, j ≠ k → r'[j]? = r[j]?) ∧ ((∃ e, r[k]? = some (some (.io e))) → r'[k]? = some (some (.io d))) ∧ (∀ e, r'[k]? ≠ some (some (.fz e))) ∧ ∀ e, r'[k]? ≠ some (some (.sc e)) := by
  unfold setD at h
  split at h
  · rename_i hs
    cases h
    have hl : k < r.length := (List.getElem?_eq_some_iff.mp hs).1
    refine ⟨⟨k, _, rfl, .inl hs⟩, List.length_set .., .inl (by rw [List.getElem?_set_self hl]), fun j hj => by rw [List.getElem?_set_ne (Ne.symm hj)], fun ⟨e, he⟩ => (by rw [hs] at he; cases he), fun e he => (by rw [List.getElem?_set_self hl] at he; cases he), fun e he => (by rw [List.getElem?_set_self hl] at he; cases he)⟩
  · rename_i hs
    cases h
    have hl : k < r.length := (List.getElem?_eq_some_iff.mp hs).1
    refine ⟨⟨k, _, rfl, .inr hs⟩, List.length_set .., .inr (by rw [List.getElem?_set_self hl]), fun j hj => by rw [List.getElem?_set_ne (Ne.symm hj)], fun ⟨e, he⟩ => by rw [List.getElem?_set_self hl], fun e he => (by rw [List.getElem?_set_self hl] at he; cases he), fun e he => (by rw [List.getElem?_set_self hl] at he; cases he)⟩
  · cases h
theorem ownAt_inj {r : Ev} {k : Nat} {d e : PyData} (h1 : OwnAt r k d) (h2 : OwnAt r k e) : d = e := by
  rcases h1 with h1 | h1 <;> rcases h2 with h2 | h2 <;> (rw [h1] at h2; cases h2 <;> rfl)
/-- a slot's object has changed, all else stands -/
theorem rel_own {K : PySem.W.Frag} {F F' H H' : Hp} {r r' : Ev} {σ : L2.St} {k : Nat} {d d' : PyData} {p : Addr} {o' : HO} (R : Rel K F r σ H) (ho : ownD k r = some d) (hs : setD k d' r = some r') (hp : σ[k]? = some (some (.ref p))) (ext : Ext F F') (sub : Ext F' H')
    (keep : ∀ a, a ≠ p → H a ≠ none → H' a = H a ∧ F' a = F a) (stay : ∀ a, H a ≠ none → H' a ≠ none) (h1 : H' p = some o') (h2 : F' p = none) (h3 : OC F' o' d') : Rel K F' r' σ H' ∧ Stp r σ F H r' σ F' H' := by
  have hk := ownD_at ho
  obtain ⟨_, hlen, hk', hj, hio, nfz, nsc⟩ := setD_own hs
  have tr : ∀ {j e}, j ≠ k → OwnAt r' j e → OwnAt r j e := fun {j e} ne h => by unfold OwnAt at h ⊢; rw [hj j ne] at h; exact h
  obtain ⟨sk, hsk, osk⟩ := hk.a
  -- of any other slot
  have kk : ∀ {j : Nat} {s : Slt} {x : V} {a : Addr}, j ≠ k → r[j]? = some (some s) → σ[j]? = some (some x) → OwnA H s x a → H' a = H a ∧ F' a = F a := fun {j s x a} ne w1 w2 w3 => by
    refine keep a ?_ (R.ownA w1 w2 w3).1
    rintro rfl
    exact ne (R.dja j k s sk x _ _ w1 hsk w2 hp w3 (osk H _))
  have bk : ∀ {j : Nat} {s : Slt} {x : V} {a : Addr}, j ≠ k → r[j]? = some (some s) → σ[j]? = some (some x) → OwnA H' s x a → OwnA H s x a := fun ne w1 w2 w3 => ownA_back R w1 w2 (fun b hb => (kk ne w1 w2 hb).1) w3
  have self : ∀ {s : Slt} {x : V} {a : Addr}, r'[k]? = some (some s) → σ[k]? = some (some x) → OwnA H' s x a → a = p := fun {s x a} w1 w2 w3 => by
    rw [hp] at w2; cases w2
    rcases hk' with z | z <;> (rw [z] at w1; cases w1; cases w3; rfl)
  have back : ∀ {j : Nat} {s : Slt} {x : V} {a : Addr}, r'[j]? = some (some s) → σ[j]? = some (some x) → OwnA H' s x a → ∃ s0, r[j]? = some (some s0) ∧ OwnA H s0 x a := fun {j s x a} w1 w2 w3 => by
    by_cases ne : j = k
    · subst ne
      have := self w1 w2 w3
      subst this
      rw [hp] at w2; cases w2
      exact ⟨sk, hsk, osk H _⟩
    · rw [hj j ne] at w1
      exact ⟨s, w1, bk ne w1 w2 w3⟩
  refine ⟨⟨sub, by rw [hlen]; exact R.len, fun j e h => ?_, fun j e h => ?_, fun j e h => ?_, fun j ns h => ?_, fun j ns h => ?_, fun i j s t x y c g1 g2 q1 q2 o1 o2 => ?_⟩, ⟨ext, fun c hc hn => ?_, fun j e h => ?_, stay, rfl⟩⟩
  · by_cases ne : j = k
    · subst ne; exact absurd h (nfz e)
    · rw [hj j ne] at h
      obtain ⟨v, q1, q2⟩ := R.fz j e h
      exact ⟨v, q1, q2.mono ext⟩
  · by_cases ne : j = k
    · subst ne
      cases ownAt_inj h hk'
      exact ⟨p, o', hp, h1, h2, h3⟩
    · have g := tr ne h
      obtain ⟨c, u, q1, q2, q3, q4⟩ := R.own j e g
      obtain ⟨s, w1, w2⟩ := g.a
      have q := kk ne w1 q1 (w2 H c)
      exact ⟨c, u, q1, q.1.trans q2, q.2.trans q3, q4.mono ext⟩
  · by_cases ne : j = k
    · subst ne
      rcases hk' with z | z <;> (rw [z] at h; cases h)
    · rw [hj j ne] at h
      exact R.trKeep ext h fun x b ex ob => kk ne h ex ob
  · by_cases ne : j = k
    · subst ne; exact absurd h (nsc ns)
    · rw [hj j ne] at h
      obtain ⟨c, q1, q2⟩ := R.scr j ns h
      exact ⟨c, q1, SqL.ext ext q2⟩
  · by_cases ne : j = k
    · subst ne; rcases hk' with z | z <;> (rw [z] at h; cases h)
    · rw [hj j ne] at h
      obtain ⟨c, q1, q2⟩ := R.xc j ns h
      exact ⟨c, q1, XcAt.ext ext q2⟩
  · obtain ⟨s0, w1, w2⟩ := back g1 q1 o1
    obtain ⟨t0, w3, w4⟩ := back g2 q2 o2
    exact R.dja i j s0 t0 x y c w1 w3 q1 q2 w2 w4
  · have nca : c ≠ p := by
      rintro rfl
      exact hn (.of hk hp)
    have q := keep c nca hc
    refine ⟨q.1, q.2, fun ⟨j, s, x, g1, g2, g3⟩ => ?_⟩
    obtain ⟨s0, w1, w2⟩ := back g1 g2 g3
    exact hn ⟨j, s0, x, w1, g2, w2⟩
  · by_cases ne : j = k
    · subst ne; exact ⟨d', hio ⟨e, h⟩, rfl⟩
    · exact ⟨e, by rw [hj j ne]; exact h, rfl⟩
theorem Rel.mut {K : PySem.W.Frag} {F : Hp} {r r' : Ev} {σ : L2.St} {H : Hp} {k : Nat} {d d' : PyData} {a : Addr} {o' : HO} (R : Rel K F r σ H) (h1 : ownD k r = some d) (h2 : setD k d' r = some r') (h3 : σ[k]? = some (some (.ref a))) (h4 : OC F o' d') :
    Rel K F r' σ (upd H a o') ∧ Stp r σ F H r' σ F (upd H a o') := by
  obtain ⟨b, o, e1, e2, e3, e4⟩ := R.own k d (ownD_at h1)
  rw [h3] at e1; cases e1
  refine rel_own R h1 h2 h3 (Ext.refl F) (fun c u hc => ?_) (fun c hc _ => ⟨upd_ne hc, rfl⟩) (fun c hc => ?_) upd_same e3 h4
  · rw [upd_ne (by rintro rfl; rw [e3] at hc; cases hc)]
    exact R.sub c u hc
  · by_cases hca : c = a
    · subst hca; rw [upd_same]; simp
    · rw [upd_ne hca]; exact hc
theorem Rel.ownAt {K : PySem.W.Frag} {F : Hp} {r : Ev} {σ : L2.St} {H : Hp} {k : Nat} {d : PyData} (R : Rel K F r σ H) (h : ownD k r = some d) : ∃ a o, σ[k]? = some (some (.ref a)) ∧ H a = some o ∧ OC F o d := by
  obtain ⟨a, o, h1, h2, _, h4⟩ := R.own k d (ownD_at h)
  exact ⟨a, o, h1, h2, h4⟩
def isL : PyData → Option (List PyData)
  | .list ds => some ds
  | _ => none
theorem isL_eq {d : PyData} {ds : List PyData} (h : isL d = some ds) : d = .list ds := by cases d <;> first | (cases h; rfl) | cases h
theorem OC.list {F : Hp} {o : HO} {ds : List PyData} (h : OC F o (.list ds)) : ∃ vs, o = .lst vs ∧ RpAll F vs ds := by
  cases h with
  | lst r => exact ⟨_, rfl, r⟩
def sApp (k : Nat) (f : FE) : FE := fun r => ((ownD k r).bind isL).bind fun _ => (f r).bind fun p => (esc p.1 p.2).bind fun q => ((ownD k q.2).bind isL).bind fun xs =>
  if xs.length < 16000000 then (setD k (.list (xs ++ [q.1])) q.2).map fun r' => (.v .none, r') else none
theorem sApp_ok {K : PySem.W.Frag} {k : Nat} {f : FE} : ∀ σ H Q, tI K (sApp k f) σ H Q → tBM K "list" rAppend (tVar k) (tCons (tI K f) tNil) σ H Q := by
  rintro σ H Q ⟨F, ρ, h, ρ', R, e, kk⟩
  simp only [sApp, Option.bind_eq_some_iff] at e
  obtain ⟨_, ⟨d0, e1, e1'⟩, ⟨h1, ρ1⟩, e2, ⟨d, ρ2⟩, e3, xs, ⟨d2, e4, e4'⟩, e5⟩ := e
  split at e5
  · rename_i hl
    rw [Option.map_eq_some_iff] at e5
    obtain ⟨ρ3, e6, e7⟩ := e5
    cases e7
    cases isL_eq e1'
    cases isL_eq e4'
    obtain ⟨a, o, s1, s2, s3⟩ := R.ownAt e1
    obtain ⟨vs, rfl, _⟩ := s3.list
    refine ⟨.ref a, s1, .inl ⟨rfl, vs, .inl (.inl s2)⟩, F, ρ, h1, ρ1, R, e2, fun x F1 H1 R1 S1 q1 n1 => ?_⟩
    obtain ⟨F2, R2, S2, p2, _⟩ := esc_ok S1 R1 q1 n1 e3
    obtain ⟨a', o', t1, t2, t3⟩ := R2.ownAt e4
    rw [s1] at t1; cases t1
    obtain ⟨ws, rfl, rw'⟩ := t3.list
    obtain ⟨R3, S3⟩ := R2.mut e4 e6 s1 (.lst (rw'.append (.cons p2 .nil)))
    exact ⟨a, ws, x, rfl, rfl, t2, lim_lt (by rw [rw'.length]; exact hl), kk _ _ _ R3 (S2.trans S3) (.v .non) nw_v⟩
  · cases e5
def sPop (k : Nat) : FE := fun r => ((ownD k r).bind isL).bind fun xs => (xs[xs.length - 1]?).bind fun y => (setD k (.list xs.dropLast) r).map fun r' => (.v y, r')
theorem sPop_ok {K : PySem.W.Frag} {k : Nat} : ∀ σ H Q, tI K (sPop k) σ H Q → tBM0 K "list" rPop (tVar k) σ H Q := by
  rintro σ H Q ⟨F, ρ, h, ρ', R, e, kk⟩
  simp only [sPop, Option.bind_eq_some_iff, Option.map_eq_some_iff] at e
  obtain ⟨xs, ⟨d0, e1, e1'⟩, y, e2, ρ1, e3, e4⟩ := e
  cases e4
  cases isL_eq e1'
  obtain ⟨a, o, s1, s2, s3⟩ := R.ownAt e1
  obtain ⟨vs, rfl, r1⟩ := s3.list
  obtain ⟨v, q1, q2⟩ := r1.get e2
  obtain ⟨R3, S3⟩ := R.mut e1 e3 s1 (.lst r1.dropLast)
  refine ⟨.ref a, s1, .inl ⟨rfl, vs, .inl (.inl s2)⟩, a, vs, v, rfl, rfl, s2, by rw [r1.length]; exact q1, kk _ _ _ R3 S3 (.v q2) nw_v⟩
def sPopAt (k : Nat) (f : FE) : FE := fun r => ((ownD k r).bind isL).bind fun _ => (f r).bind fun p => (cur p.1 p.2).bind fun d => (dI d).bind fun i => ((ownD k p.2).bind isL).bind fun xs =>
  if okR i = true ∧ i.toNat < xs.length ∧ i.toNat < 16000000 then (xs[i.toNat]?).bind fun y => (setD k (.list (xs.eraseIdx i.toNat)) p.2).map fun r' => (.v y, r') else none
theorem sPopAt_ok {K : PySem.W.Frag} {k : Nat} {f : FE} : ∀ σ H Q, tI K (sPopAt k f) σ H Q → tBM K "list" rPopAt (tVar k) (tCons (tI K f) tNil) σ H Q := by
  rintro σ H Q ⟨F, ρ, h, ρ', R, e, kk⟩
  simp only [sPopAt, Option.bind_eq_some_iff] at e
  obtain ⟨_, ⟨d0, e1, e1'⟩, ⟨h1, ρ1⟩, e2, d, e3, i, e3', xs, ⟨d2, e4, e4'⟩, e5⟩ := e
  split at e5
  · rename_i hl
    simp only [Option.bind_eq_some_iff, Option.map_eq_some_iff] at e5
    obtain ⟨y, e6, ρ3, e7, e8⟩ := e5
    cases e8
    cases isL_eq e1'
    cases isL_eq e4'
    cases dI_eq e3'
    obtain ⟨a, o, s1, s2, s3⟩ := R.ownAt e1
    obtain ⟨vs, rfl, _⟩ := s3.list
    refine ⟨.ref a, s1, .inl ⟨rfl, vs, .inl (.inl s2)⟩, F, ρ, h1, ρ1, R, e2, fun x F1 H1 R1 S1 q1 n1 => ?_⟩
    obtain ⟨a', o', t1, t2, t3⟩ := R1.ownAt e4
    rw [s1] at t1; cases t1
    obtain ⟨ws, rfl, rw'⟩ := t3.list
    obtain ⟨v, g1, g2⟩ := rw'.get e6
    obtain ⟨R3, S3⟩ := R1.mut e4 e7 s1 (.lst (rw'.eraseIdx _))
    cases (cur_ok R1 q1 e3).int
    have h0 := (okR_of hl.1).1
    have hz : i < (ws.length : Int) := by rw [rw'.length]; have := hl.2.1; omega
    exact ⟨a, ws, i, i.toNat, v, rfl, rfl, t2, by omega, by omega, PySem.StrLaws.seqIndex_nonneg h0 hz, g1, kk _ _ _ R3 (S1.trans S3) (.v g2) nw_v⟩
  · cases e5
def sRevM (k : Nat) : FE := fun r => ((ownD k r).bind isL).bind fun xs => (setD k (.list xs.reverse) r).map fun r' => (.v .none, r')
theorem sRevM_ok {K : PySem.W.Frag} {k : Nat} : ∀ σ H Q, tI K (sRevM k) σ H Q → tBM0 K "list" rReverse (tVar k) σ H Q := by
  rintro σ H Q ⟨F, ρ, h, ρ', R, e, kk⟩
  simp only [sRevM, Option.bind_eq_some_iff, Option.map_eq_some_iff] at e
  obtain ⟨xs, ⟨d0, e1, e1'⟩, ρ1, e3, e4⟩ := e
  cases e4
  cases isL_eq e1'
  obtain ⟨a, o, s1, s2, s3⟩ := R.ownAt e1
  obtain ⟨vs, rfl, r1⟩ := s3.list
  obtain ⟨R3, S3⟩ := R.mut e1 e3 s1 (.lst r1.reverse)
  exact ⟨.ref a, s1, .inl ⟨rfl, vs, .inl (.inl s2)⟩, a, vs, rfl, rfl, s2, kk _ _ _ R3 S3 (.v .non) nw_v⟩
section
variable {X : Cx} {x : Str} {px apos pos : Pos} {e : Expr} {f : FE}
theorem pv' (i : Nat) {pos : Pos} (hN : X.N[i]? = some x := by rfl) (hv : Vis X.env.scope x := by first | exact Or.inl rfl | exact Or.inr (Or.inl rfl) | exact Or.inr (Or.inr rfl)) (hd : (x == ("__debug__" : Str)) = false := by decide)
    (hcd : (x == ("__classdict__" : Str)) = false := by decide) : PE X (.Name x pos) (tVar i) := pe_var hN hv hd hcd
end
/-! ### methods that change nothing -/
def sMt (tn : String) (op : PyData → List PyData → Option Hd) (f : FE) (g : FA) : FE := fun r => (f r).bind fun p => (cur p.1 p.2).bind fun b0 => if tyName b0 = tn then (g p.2).bind fun q => (cur p.1 q.2).bind fun b => (curAll q.1 q.2).bind fun ds => (op b ds).map fun h => (h, q.2) else none
def MtOk (r : V → List V → Hp → VK → Prop) (op : PyData → List PyData → Option Hd) : Prop := ∀ (F H : Hp) (x : V) (b : PyData) (xs : List V) (ds : List PyData) (h : Hd) (Q : VK), Ext F H → Cur F H x b → CurAll F H xs ds → op b ds = some h → (∀ z F' H', Ans F H h z F' H' → Q z H') → r x xs H Q
theorem Cur.tyV {K : PySem.W.Frag} {F H : Hp} (e : Ext F H) {x : V} {d : PyData} (c : Cur F H x d) {T : String} (h : tyName d = T) (ht : T = "list" ∨ T = "str") : tyV K T x H := by
  cases d with
  | list ds =>
    obtain ⟨a, vs, rfl, h1, _⟩ := c.list e
    exact .inl ⟨h.symm, vs, .inl (.inl h1)⟩
  | str s => cases c.str; exact h.symm
  | none => rcases ht with rfl | rfl <;> exact absurd (show "NoneType" = _ from h) (by decide)
  | bool b => rcases ht with rfl | rfl <;> exact absurd (show "bool" = _ from h) (by decide)
  | int b => rcases ht with rfl | rfl <;> exact absurd (show "int" = _ from h) (by decide)
  | tuple b => rcases ht with rfl | rfl <;> exact absurd (show "tuple" = _ from h) (by decide)
  | dict b => rcases ht with rfl | rfl <;> exact absurd (show "dict" = _ from h) (by decide)
theorem sMt_ok {K : PySem.W.Frag} {T : String} {r : V → List V → Hp → VK → Prop} {op : PyData → List PyData → Option Hd} {f : FE} {g : FA} (ht : T = "list" ∨ T = "str") (ok : MtOk r op) : ∀ σ H Q, tI K (sMt T op f g) σ H Q → tBM K T r (tI K f) (tIA K g) σ H Q := by
  rintro σ H Q ⟨F, ρ, h, ρ', R, e, kk⟩
  simp only [sMt, Option.bind_eq_some_iff] at e
  obtain ⟨⟨h1, ρ1⟩, e1, b0, e2, e3⟩ := e
  split at e3
  · rename_i hty
    simp only [Option.bind_eq_some_iff, Option.map_eq_some_iff] at e3
    obtain ⟨⟨hs, ρ2⟩, e4, b, e5, ds, e6, hd, e7, e8⟩ := e3
    cases e8
    refine ⟨F, ρ, h1, ρ1, R, e1, fun x F1 H1 R1 S1 q1 n1 => ⟨(cur_ok R1 q1 e2).tyV R1.sub hty ht, F1, ρ1, hs, ρ2, R1, e4, fun xs F2 H2 R2 S2 t => ?_⟩⟩
    refine ok F2 H2 x b xs ds h Q R2.sub (cur_ok R2 (q1.step S2) e5) (curAll_ok R2 t e6) e7 fun z F3 H3 A => ?_
    obtain ⟨R3, S3, q3, n3⟩ := R2.ans A
    exact kk z F3 H3 R3 ((S1.trans S2).trans S3) q3 ((n3.back S2).back S1)
  · cases e3
/-- xs.index(d): the first place -/
def firstAt (ds : List PyData) (d : PyData) : Option Nat := ds.findIdx? fun z => PyData.eqv z d
def mIndex : PyData → List PyData → Option Hd
  | .list ds, [d] => if SeqAt.shaped d = true ∧ SeqAt.shaped (.list ds) = true ∧ ds.length ≤ 16000000 then (firstAt ds d).map fun j => .v (.int (j : Nat)) else none
  | _, _ => none
theorem mok_index {K : PySem.W.Frag} : MtOk (rIndexD K) mIndex := by
  intro F H x b xs ds h Q e cx cxs q k
  unfold mIndex at q
  split at q
  · rename_i ds d
    split at q
    · rename_i hl
      rw [Option.map_eq_some_iff] at q
      obtain ⟨j, q1, rfl⟩ := q
      obtain ⟨y, rfl, cy⟩ := cxs.one
      obtain ⟨a, vs, rfl, h1, r1⟩ := cx.list e
      unfold firstAt at q1
      rw [List.findIdx?_eq_some_iff_getElem] at q1
      obtain ⟨hj, q2, q3⟩ := q1
      exact ⟨a, y, d, ds, j, ds[j], rfl, rfl, cx.dp e (SeqAt.canLay_of_shaped hl.2.1), cy.dp e (SeqAt.canLay_of_shaped hl.1), hl.2.1, hl.1, List.getElem?_eq_getElem hj, q2, fun m z' hm hz => by
        have := q3 m hm
        rw [List.getElem?_eq_getElem (by omega)] at hz
        cases hz
        simpa using this, k _ _ _ (Ans.val' e (.int _))⟩
    · cases q
  · cases q
/-! ### what a loop walks -/
structure ItOk (J : It) (F0 : Hp) (ds : List PyData) : Prop where
  go : ∀ (i : Nat) (F H : Hp), Ext F0 F → Ext F H → i < ds.length → J.go i H
  yld : ∀ (i : Nat) (F H : Hp) (x : V) (H' : Hp) (d : PyData), Ext F0 F → Ext F H → J.yld i H x H' → ds[i]? = some d → ∃ F', Ans F H (.v d) x F' H'
  stop : ∀ (i : Nat) (F H : Hp), Ext F0 F → Ext F H → ds.length ≤ i → J.stop i H
abbrev FW := Ev → Option (List PyData × Ev)
def tIW (K : PySem.W.Frag) (f : FW) : TI := fun σ H R => ∃ F r ds r', Rel K F r σ H ∧ f r = some (ds, r') ∧
  ∀ J F' H', Rel K F' r' σ H' → Stp r σ F H r' σ F' H' → ItOk J F' ds → R J H'
abbrev SI (X : Cx) (tg it : Expr) (f : FW) : Prop := PI X tg it (tIW X.K f)
theorem PIimp {X : Cx} {tg it : Expr} {t t' : TI} (h : PI X tg it t) (w : ∀ σ H R, t' σ H R → t σ H R) : PI X tg it t' := ⟨fun pins s σ H R I q => h.run pins s σ H R I (w σ H R q)⟩
theorem PIor {X : Cx} {tg it : Expr} {t t' : TI} (h : PI X tg it t) (h' : PI X tg it t') : PI X tg it (fun σ H R => t σ H R ∨ t' σ H R) := ⟨fun pins s σ H R I q => q.elim (h.run pins s σ H R I) (h'.run pins s σ H R I)⟩
def seqD : PyData → Option (List PyData)
  | .list ds => some ds
  | .tuple ds => some ds
  | .str x => some (x.cps.toList.map fun c => .str ⟨#[c]⟩)
  | _ => none
/-- a list, a tuple, a text -/
def wSeq (f : FE) : FW := fun r => (f r).bind fun p => (esc p.1 p.2).bind fun q => (seqD q.1).map fun ds => (ds, q.2)
theorem itl_ok {K : PySem.W.Frag} {F0 : Hp} {a : Addr} {vs : List V} {ds : List PyData} (h : F0 a = some (.lst vs)) (r : RpAll F0 vs ds) : ItOk (Itl K a) F0 ds := by
  have sq : ∀ {F H : Hp}, Ext F0 F → Ext F H → SqL K H a vs := fun e1 e2 => .inl (.inl (e2 _ _ (e1 _ _ h)))
  refine ⟨fun i F H e1 e2 hi => ?_, fun i F H x H' d e1 e2 y hd => ?_, fun i F H e1 e2 hi => ⟨vs, sq e1 e2, by rw [r.length]; exact hi⟩⟩
  · have hi' : i < vs.length := by rw [r.length]; exact hi
    exact ⟨vs, vs[i], sq e1 e2, List.getElem?_eq_getElem hi'⟩
  · obtain ⟨rfl, y⟩ := y
    obtain ⟨v, q1, q2⟩ := r.get hd
    have z := y vs (sq e1 e2)
    rw [q1] at z; cases z
    exact ⟨F, Ans.val' e2 (q2.mono e1)⟩
theorem itt_ok {K : PySem.W.Frag} {F0 : Hp} {a : Addr} {vs : List V} {ds : List PyData} (h : F0 a = some (.tup vs)) (r : RpAll F0 vs ds) : ItOk (Itt K a) F0 ds := by
  have sq : ∀ {F H : Hp}, Ext F0 F → Ext F H → SqT K H a vs := fun e1 e2 => .inl (.inl (e2 _ _ (e1 _ _ h)))
  refine ⟨fun i F H e1 e2 hi => ?_, fun i F H x H' d e1 e2 y hd => ?_, fun i F H e1 e2 hi => ⟨vs, sq e1 e2, by rw [r.length]; exact hi⟩⟩
  · have hi' : i < vs.length := by rw [r.length]; exact hi
    exact ⟨vs, vs[i], sq e1 e2, List.getElem?_eq_getElem hi'⟩
  · obtain ⟨rfl, y⟩ := y
    obtain ⟨v, q1, q2⟩ := r.get hd
    have z := y vs (sq e1 e2)
    rw [q1] at z; cases z
    exact ⟨F, Ans.val' e2 (q2.mono e1)⟩
theorem its_ok {F0 : Hp} {x : Str} : ItOk (Its x) F0 (x.cps.toList.map fun c => .str ⟨#[c]⟩) := by
  refine ⟨fun i F H e1 e2 hi => ?_, fun i F H v H' d e1 e2 y hd => ?_, fun i F H e1 e2 hi => ?_⟩
  · show i < x.cps.size
    simpa using hi
  · obtain ⟨rfl, c, y1, rfl⟩ := y
    rw [List.getElem?_map, Array.getElem?_toList, y1] at hd
    cases hd
    exact ⟨F, Ans.val' e2 (.str _)⟩
  · show x.cps.size ≤ i
    simpa using hi
theorem wSeq_ok {K : PySem.W.Frag} {f : FE} : ∀ σ H R, tIW K (wSeq f) σ H R → (iList K (tI K f) σ H R ∨ iTup K (tI K f) σ H R) ∨ iStr (tI K f) σ H R := by
  rintro σ H Q ⟨F, ρ, ds, ρ', R, e, k⟩
  simp only [wSeq, Option.bind_eq_some_iff, Option.map_eq_some_iff] at e
  obtain ⟨⟨h, ρ1⟩, e1, ⟨d, ρ2⟩, e2, ds', e3, e4⟩ := e
  cases e4
  cases d with
  | list ds2 =>
    cases e3
    refine .inl (.inl ⟨F, ρ, h, ρ1, R, e1, fun x F1 H1 R1 S1 q1 n1 => ?_⟩)
    obtain ⟨F2, R2, S2, p2, _⟩ := esc_ok S1 R1 q1 n1 e2
    cases p2 with
    | lst h1 r1 => exact ⟨_, rfl, ⟨_, .inl (.inl (R2.sub _ _ h1))⟩, k _ F2 H1 R2 S2 (itl_ok h1 r1)⟩
  | tuple ds2 =>
    cases e3
    refine .inl (.inr ⟨F, ρ, h, ρ1, R, e1, fun x F1 H1 R1 S1 q1 n1 => ?_⟩)
    obtain ⟨F2, R2, S2, p2, _⟩ := esc_ok S1 R1 q1 n1 e2
    cases p2 with
    | tup h1 r1 => exact ⟨_, rfl, ⟨_, .inl (.inl (R2.sub _ _ h1))⟩, k _ F2 H1 R2 S2 (itt_ok h1 r1)⟩
  | str s =>
    cases e3
    refine .inr ⟨F, ρ, h, ρ1, R, e1, fun x F1 H1 R1 S1 q1 n1 => ?_⟩
    obtain ⟨F2, R2, S2, p2, _⟩ := esc_ok S1 R1 q1 n1 e2
    cases p2
    exact ⟨s, rfl, k _ F2 H1 R2 S2 its_ok⟩
  | none => cases e3
  | bool b => cases e3
  | int b => cases e3
  | dict b => cases e3
theorem si_seq {X : Cx} {tg e : Expr} {f : FE} (h : SE X e f) : SI X tg e (wSeq f) := PIimp (PIor (PIor (pi_list h) (pi_tup h)) (pi_str h)) wSeq_ok
/-- ranges -/
theorem rgD_get {a b : Int} {i : Nat} {d : PyData} (h : (rgD a b)[i]? = some d) : d = .int (a + (i : Nat)) := by
  unfold rgD at h
  rw [List.getElem?_map] at h
  cases z : (List.range (b - a).toNat)[i]? with
  | none => rw [z] at h; cases h
  | some j =>
    rw [z] at h
    cases h
    have := (List.getElem?_eq_some_iff.mp z).2
    rw [List.getElem_range] at this
    subst this; rfl
theorem rgD_len (a b : Int) : (rgD a b).length = (b - a).toNat := by unfold rgD; rw [List.length_map, List.length_range]
theorem itr_ok {F0 : Hp} {a b : Int} : ItOk (Itr a (b - a).toNat) F0 (rgD a b) := by
  refine ⟨fun i F H e1 e2 hi => by rw [rgD_len] at hi; exact hi, fun i F H x H' d e1 e2 y hd => ?_, fun i F H e1 e2 hi => by rw [rgD_len] at hi; exact hi⟩
  obtain ⟨rfl, rfl⟩ := y
  rw [rgD_get hd]
  exact ⟨F, Ans.val' e2 (.int _)⟩
def LIM : Int := 4611686018427387904
def inLim (n : Int) : Bool := Nat.ble n.natAbs 4000000000
theorem lim_big : (4000000000 : Int) < LIM := by unfold LIM; decide
theorem inLim_of {n : Int} (h : inLim n = true) : -LIM ≤ n ∧ n < LIM := by
  have h1 := Nat.le_of_ble_eq_true h
  have := lim_big
  omega
theorem inLim_nat {n : Nat} (h : n ≤ 16000000) : inLim (n : Int) = true := Nat.ble_eq_true_of_le (by omega)
theorem inLim_int {n : Int} (h : 0 ≤ n) (h2 : n ≤ 16000000) : inLim n = true := Nat.ble_eq_true_of_le (by omega)
def wRg1 (f : FE) : FW := fun r => (f r).bind fun p => (cur p.1 p.2).bind fun d => (dI d).bind fun n => if inLim n = true then some (rgD 0 n, p.2) else none
def wRg2 (f g : FE) : FW := fun r => (f r).bind fun p => (g p.2).bind fun q => (cur p.1 q.2).bind fun d => (dI d).bind fun a => (cur q.1 q.2).bind fun d2 => (dI d2).bind fun b => if inLim a = true ∧ inLim b = true then some (rgD a b, q.2) else none
section
variable {X : Cx} {tg e e2 : Expr} {f g : FE} {p pos : Pos}
theorem si_rg1 (mr : X.mg "range" = none) (ha : SE X e f) (gr : Gl X "range" := by rfl) (n1 : starEach [e] X.env = (false, eval e X.env) :: starEach [] X.env := by rfl) (hs : starEach [e] X.env = [(false, eval e X.env)] := by rfl) : SI X tg (.Call (.Name "range" p) [e] [] pos) (wRg1 f) := by
  refine PIimp (pi_range1 gr mr (pa_cons ha pa_nil n1) hs) ?_
  rintro σ H Q ⟨F, ρ, ds, ρ', R, e, k⟩
  simp only [wRg1, Option.bind_eq_some_iff] at e
  obtain ⟨⟨ha, ρ1⟩, e1, d, e2, n, e3, e4⟩ := e
  split at e4
  · rename_i hl
    have hl := inLim_of hl
    cases e4
    cases dI_eq e3
    refine ⟨F, ρ, ha, ρ1, R, e1, fun x F1 H1 R1 S1 q1 n1 => ⟨n, ?_, hl.1, hl.2, ?_⟩⟩
    · rw [(cur_ok R1 q1 e2).int]
    · have := k (Itr 0 (n - 0).toNat) F1 H1 R1 S1 itr_ok
      simpa using this
  · cases e4
theorem si_rg2 (mr : X.mg "range" = none) (ha : SE X e f) (hb : SE X e2 g) (gr : Gl X "range" := by rfl) (n1 : starEach [e, e2] X.env = (false, eval e X.env) :: starEach [e2] X.env := by rfl) (n2 : starEach [e2] X.env = (false, eval e2 X.env) :: starEach [] X.env := by rfl)
    (hs : starEach [e, e2] X.env = [(false, eval e X.env), (false, eval e2 X.env)] := by rfl) (hs2 : starEach [e2] X.env = [(false, eval e2 X.env)] := by rfl) : SI X tg (.Call (.Name "range" p) [e, e2] [] pos) (wRg2 f g) := by
  refine PIimp (pi_range2 gr mr (pa_cons ha (pa_cons hb pa_nil n2) n1) hs hs2) ?_
  rintro σ H Q ⟨F, ρ, ds, ρ', R, e, k⟩
  simp only [wRg2, Option.bind_eq_some_iff] at e
  obtain ⟨⟨ha, ρ1⟩, e1, ⟨hb, ρ2⟩, e1', d, e2, a, e3, d2, e4, b, e5, e6⟩ := e
  split at e6
  · rename_i hl
    have hl := And.intro (inLim_of hl.1) (inLim_of hl.2)
    cases e6
    cases dI_eq e3
    cases dI_eq e5
    refine ⟨F, ρ, ha, ρ1, R, e1, fun x F1 H1 R1 S1 q1 n1 => ⟨F1, ρ1, hb, ρ2, R1, e1', fun y F2 H2 R2 S2 q2 n2 => ⟨a, b, ?_, ⟨hl.1.1, hl.1.2, hl.2.1, hl.2.2⟩, k _ F2 H2 R2 (S1.trans S2) itr_ok⟩⟩⟩
    rw [(cur_ok R2 (q1.step S2) e2).int, (cur_ok R2 q2 e4).int]
  · cases e6
end
/-- enumerate, zip -/
def enumD : Nat → List PyData → List PyData
  | _, [] => []
  | n, d :: ds => .tuple [.int (n : Nat), d] :: enumD (n + 1) ds
def zipD : List PyData → List PyData → List PyData
  | d :: ds, e :: es => .tuple [d, e] :: zipD ds es
  | _, _ => []
theorem enumD_len : ∀ (n : Nat) (ds : List PyData), (enumD n ds).length = ds.length
  | _, [] => rfl
  | n, d :: ds => congrArg (· + 1) (enumD_len (n + 1) ds)
theorem enumD_get : ∀ (n : Nat) (ds : List PyData) (i : Nat), (enumD n ds)[i]? = (ds[i]?).map fun d => .tuple [.int ((n + i : Nat) : Int), d]
  | _, [], i => by simp [enumD]
  | n, d :: ds, 0 => by simp [enumD]
  | n, d :: ds, i + 1 => by
    simp only [enumD, List.getElem?_cons_succ]
    rw [enumD_get (n + 1) ds i, show n + 1 + i = n + (i + 1) by omega]
theorem zipD_len : ∀ (ds es : List PyData), (zipD ds es).length = min ds.length es.length
  | [], es => by simp [zipD]
  | d :: ds, [] => by simp [zipD]
  | d :: ds, e :: es => by simp only [zipD, List.length_cons]; rw [zipD_len]; omega
theorem zipD_get : ∀ (ds es : List PyData) (i : Nat) (d e : PyData), ds[i]? = some d → es[i]? = some e → (zipD ds es)[i]? = some (.tuple [d, e])
  | [], es, i, d, e, h, _ => by simp at h
  | _ :: _, [], i, d, e, _, h => by simp at h
  | d :: ds, e :: es, 0, _, _, h1, h2 => by simp at h1 h2; subst h1; subst h2; rfl
  | d :: ds, e :: es, i + 1, _, _, h1, h2 => by simp only [zipD, List.getElem?_cons_succ]; exact zipD_get ds es i _ _ (by simpa using h1) (by simpa using h2)
theorem ite_ok {K : PySem.W.Frag} {F0 : Hp} {a : Addr} {vs : List V} {ds : List PyData} (h : F0 a = some (.lst vs)) (r : RpAll F0 vs ds) : ItOk (Ite K a) F0 (enumD 0 ds) := by
  have sq : ∀ {F H : Hp}, Ext F0 F → Ext F H → SqL K H a vs := fun e1 e2 => .inl (.inl (e2 _ _ (e1 _ _ h)))
  refine ⟨fun i F H e1 e2 hi => ?_, fun i F H x H' d e1 e2 y hd => ?_, fun i F H e1 e2 hi => ⟨vs, sq e1 e2, by rw [r.length]; rw [enumD_len] at hi; exact hi⟩⟩
  · rw [enumD_len] at hi
    have hi' : i < vs.length := by rw [r.length]; exact hi
    exact ⟨vs, vs[i], sq e1 e2, List.getElem?_eq_getElem hi'⟩
  · obtain ⟨T, x', rfl, hT, rfl, y⟩ := y
    rw [enumD_get] at hd
    rw [Option.map_eq_some_iff] at hd
    obtain ⟨d', hd, rfl⟩ := hd
    obtain ⟨v, q1, q2⟩ := r.get hd
    have z := y vs (sq e1 e2)
    rw [q1] at z; cases z
    have e0 : ((0 + i : Nat) : Int) = ((i : Nat) : Int) := by rw [Nat.zero_add]
    rw [e0]
    exact ⟨_, Ans.tup e2 hT (.cons (.int _) (.cons (q2.mono e1) .nil))⟩
theorem itz_ok {K : PySem.W.Frag} {F0 : Hp} {a b : Addr} {vs ws : List V} {ds es : List PyData} (h : F0 a = some (.lst vs)) (r : RpAll F0 vs ds) (h2 : F0 b = some (.lst ws)) (r2 : RpAll F0 ws es) : ItOk (Itz K a b) F0 (zipD ds es) := by
  have sq : ∀ {F H : Hp}, Ext F0 F → Ext F H → SqL K H a vs := fun e1 e2 => .inl (.inl (e2 _ _ (e1 _ _ h)))
  have sq2 : ∀ {F H : Hp}, Ext F0 F → Ext F H → SqL K H b ws := fun e1 e2 => .inl (.inl (e2 _ _ (e1 _ _ h2)))
  refine ⟨fun i F H e1 e2 hi => ?_, fun i F H x H' d e1 e2 y hd => ?_, fun i F H e1 e2 hi => ⟨vs, ws, sq e1 e2, sq2 e1 e2, by rw [r.length, r2.length]; rw [zipD_len] at hi; omega⟩⟩
  · rw [zipD_len] at hi
    have hi' : i < vs.length := by rw [r.length]; omega
    have hi2 : i < ws.length := by rw [r2.length]; omega
    exact ⟨vs, ws, vs[i], ws[i], sq e1 e2, sq2 e1 e2, List.getElem?_eq_getElem hi', List.getElem?_eq_getElem hi2⟩
  · obtain ⟨T, x', y', rfl, hT, rfl, y, y2⟩ := y
    have hl := (List.getElem?_eq_some_iff.mp hd).1
    rw [zipD_len] at hl
    obtain ⟨v, q1, q2⟩ := r.get (List.getElem?_eq_getElem (show i < ds.length by omega))
    obtain ⟨v2, q3, q4⟩ := r2.get (List.getElem?_eq_getElem (show i < es.length by omega))
    have z := y vs (sq e1 e2)
    rw [q1] at z; cases z
    have z2 := y2 ws (sq2 e1 e2)
    rw [q3] at z2; cases z2
    rw [zipD_get ds es i _ _ (List.getElem?_eq_getElem (by omega)) (List.getElem?_eq_getElem (by omega))] at hd
    cases hd
    exact ⟨_, Ans.tup e2 hT (.cons (q2.mono e1) (.cons (q4.mono e1) .nil))⟩
def wEnum (f : FE) : FW := fun r => (f r).bind fun p => (esc p.1 p.2).bind fun q => (isL q.1).map fun ds => (enumD 0 ds, q.2)
def wZip (f : FA) : FW := fun r => (f r).bind fun p => (escAll p.1 p.2).bind fun q => match q.1 with
  | [.list ds, .list es] => some (zipD ds es, q.2)
  | _ => none
section
variable {X : Cx} {e e2 : Expr} {f : FE} {g : FA} {p pos tpos : Pos} {elts : List Expr} {kk : Nat}
theorem si_enum (me : X.mg "enumerate" = none) (ha : SE X e f) (ge : Gl X "enumerate" := by rfl) (n1 : starEach [e] X.env = (false, eval e X.env) :: starEach [] X.env := by rfl) (hs : starEach [e] X.env = [(false, eval e X.env)] := by rfl) : SI X (.Tuple elts kk tpos) (.Call (.Name "enumerate" p) [e] [] pos) (wEnum f) := by
  refine PIimp (pi_enum ge me (pa_cons ha pa_nil n1) hs) ?_
  rintro σ H Q ⟨F, ρ, ds, ρ', R, e, k⟩
  simp only [wEnum, Option.bind_eq_some_iff, Option.map_eq_some_iff] at e
  obtain ⟨⟨h, ρ1⟩, e1, ⟨d, ρ2⟩, e2, ds', e3, e4⟩ := e
  cases e4
  cases isL_eq e3
  refine ⟨F, ρ, h, ρ1, R, e1, fun x F1 H1 R1 S1 q1 n1 => ?_⟩
  obtain ⟨F2, R2, S2, p2, _⟩ := esc_ok S1 R1 q1 n1 e2
  cases p2 with
  | lst h1 r1 => exact ⟨_, _, rfl, .inl (.inl (R2.sub _ _ h1)), k _ F2 H1 R2 S2 (ite_ok h1 r1)⟩
theorem si_zip (mz : X.mg "zip" = none) (ha : SA X [e, e2] g) (gz : Gl X "zip" := by rfl) (hs : starEach [e, e2] X.env = (false, eval e X.env) :: starEach [e2] X.env := by rfl) (hpl : (backTo pos (starEach [e2] X.env)).any (·.1) = false := by rfl) : SI X (.Tuple elts kk tpos) (.Call (.Name "zip" p) [e, e2] [] pos) (wZip g) := by
  refine PIimp (pi_zip gz mz ha hs hpl) ?_
  rintro σ H Q ⟨F, ρ, ds, ρ', R, e, k⟩
  simp only [wZip, Option.bind_eq_some_iff] at e
  obtain ⟨⟨h, ρ1⟩, e1, ⟨d, ρ2⟩, e2, e3⟩ := e
  dsimp only at e3
  split at e3
  · cases e3
    refine ⟨F, ρ, h, ρ1, R, e1, fun xs F1 H1 R1 S1 t => ?_⟩
    obtain ⟨F2, R2, S2, p2, _⟩ := escAll_ok S1 R1 t e2
    cases p2 with
    | cons a b => cases b with
      | cons a' b' =>
        cases b'
        cases a with
        | lst h1 r1 => cases a' with
          | lst h2 r2 => exact ⟨_, _, _, _, rfl, .inl (.inl (R2.sub _ _ h1)), .inl (.inl (R2.sub _ _ h2)), k _ F2 H1 R2 S2 (itz_ok h1 r1 h2 r2)⟩
  · cases e3
end
end TL

namespace TL
open PySem PySem.Spec PyProof.Rows L2

/-! ### targets of loops -/
def BdOk (K : PySem.W.Frag) (is : List Nat) (g : TG) (bd : PyData → Ev → Option Ev) : Prop :=
  ∀ (F H : Hp) (r r2 : Ev) (σ : L2.St) (d : PyData) (x : V), Rel K F r σ H → Rp F x d → bd d r = some r2 →
    ∃ xs, Rel K F r2 (setAll σ is xs) H ∧ Stp r σ F H r2 (setAll σ is xs) F H ∧ ∀ Q : L2.St → Hp → Prop, Q (setAll σ is xs) H → g x σ H Q
def bNm (i : Nat) : PyData → Ev → Option Ev := fun d r => put (.v d) i r
def bTp (is : List Nat) : PyData → Ev → Option Ev := fun d r => (dTup d).bind fun ds => putDs ds is r
theorem bd_nm {K : PySem.W.Frag} {i : Nat} : BdOk K [i] (gName i) (bNm i) := by
  intro F H r r2 σ d x R q e
  unfold bNm put at e
  split at e
  · cases e
  · rename_i hi
    cases e
    exact ⟨[x], R.putV q, (Stp.refl ..).putV hi, fun Q h => h⟩
theorem bd_tp {K : PySem.W.Frag} {is : List Nat} : BdOk K is (gTup K is.length (gNames is)) (bTp is) := by
  intro F H r r2 σ d x R q e
  unfold bTp at e
  rw [Option.bind_eq_some_iff] at e
  obtain ⟨ds, e1, e2⟩ := e
  cases dTup_eq e1
  cases q with
  | tup h1 r1 =>
    obtain ⟨hl, R2, S2⟩ := putDs_ok (Stp.refl r σ F H) R r1 e2
    exact ⟨_, R2, S2, fun Q h => ⟨_, _, rfl, .inl (.inl (R.sub _ _ h1)), hl, gNames_ok hl h⟩⟩

/-! ### for -/
def loopD (bd : PyData → Ev → Option Ev) (body : FS) : List PyData → Ev → Option Out
  | [], r => some (.nx r)
  | d :: ds, r => (bd d r).bind fun r1 => (body r1).bind fun o => match o with
    | .nx r2 => loopD bd body ds r2
    | .ct r2 => loopD bd body ds r2
    | .bk r2 => some (.nx r2)
    | .rt h r2 => some (.rt h r2)
def fFor (src : FW) (bd : PyData → Ev → Option Ev) (body : FS) : FS := fun r => (src r).bind fun p => loopD bd body p.1 p.2
theorem fFor_ok {K : PySem.W.Frag} {src : FW} {is : List Nat} {g : TG} {bd : PyData → Ev → Option Ev} {body : FS} (hb : BdOk K is g bd) : ∀ D σ H, tIS K (fFor src bd body) D σ H → tFor (tIW K src) g (tIS K body) D σ H := by
  rintro D σ H ⟨F, ρ, o, R, e, k⟩
  simp only [fFor, Option.bind_eq_some_iff] at e
  obtain ⟨⟨ds, ρ1⟩, e1, e2⟩ := e
  refine ⟨F, ρ, ds, ρ1, R, e1, fun J F1 H1 R1 S1 I => ?_⟩
  refine ⟨fun i m σ' H' => ∃ F' ρ', Rel K F' ρ' σ' H' ∧ Stp ρ1 σ F1 H1 ρ' σ' F' H' ∧ m = ds.length - i ∧ i ≤ ds.length ∧ loopD bd body (ds.drop i) ρ' = some o, ⟨ds.length, F1, ρ1, R1, Stp.refl .., rfl, Nat.zero_le _, e2⟩, ?_⟩
  rintro i m σ' H' ⟨F', ρ', R', S', rfl, hi, hl⟩
  by_cases hlt : i < ds.length
  · have hd : ds.drop i = ds[i] :: ds.drop (i + 1) := by rw [List.drop_eq_getElem_cons hlt]
    rw [hd] at hl
    simp only [loopD, Option.bind_eq_some_iff] at hl
    obtain ⟨ρ2, l1, ob, l2, l3⟩ := hl
    refine .inr ⟨I.go i F' H' S'.ext R'.sub hlt, fun σ3 H3 => ∃ F3 ρ3, Rel K F3 ρ3 σ3 H3 ∧ Stp ρ1 σ F1 H1 ρ3 σ3 F3 H3 ∧ loopD bd body (ds.drop (i + 1)) ρ3 = some o, fun σ3 H3 ⟨F3, ρ3, q1, q2, q3⟩ => ⟨ds.length - (i + 1), by omega, F3, ρ3, q1, q2, rfl, hlt, q3⟩, fun x H2 y => ?_⟩
    obtain ⟨F2, A⟩ := I.yld i F' H' x H2 ds[i] S'.ext R'.sub y (List.getElem?_eq_getElem hlt)
    obtain ⟨R2, S2⟩ := R'.grow A.ext A.sub A.keep
    cases A.val with
    | v q =>
      obtain ⟨xs, R3, S3, hQ⟩ := hb F2 H2 ρ' ρ2 σ' ds[i] x R2 q l1
      refine hQ _ ⟨F2, ρ2, ob, R3, l2, ?_⟩
      have S4 := (S'.trans S2).trans S3
      cases ob with
      | nx r2 => exact fun σ4 F4 H4 R4 S5 => ⟨F4, r2, R4, S4.trans S5, l3⟩
      | ct r2 => exact fun σ4 F4 H4 R4 S5 => ⟨F4, r2, R4, S4.trans S5, l3⟩
      | bk r2 =>
        cases l3
        exact fun σ4 F4 H4 R4 S5 => k σ4 F4 H4 R4 (S1.trans (S4.trans S5))
      | rt h r2 =>
        cases l3
        exact fun v σ4 F4 H4 R4 S5 q n => k v σ4 F4 H4 R4 (S1.trans (S4.trans S5)) q ((n.back S4).back S1)
  · have hd : ds.drop i = [] := List.drop_eq_nil_of_le (by omega)
    rw [hd] at hl
    cases hl
    exact .inl ⟨I.stop i F' H' S'.ext R'.sub (by omega), k σ' F' H' R' (S1.trans S')⟩
/-! ### while -/
def whD (c : FT) (body : FS) : Nat → Ev → Option Out
  | 0, _ => none
  | n + 1, r => (c r).bind fun p => if p.1 = true then (body p.2).bind fun o => match o with
    | .nx r2 => whD c body n r2
    | .ct r2 => whD c body n r2
    | .bk r2 => some (.nx r2)
    | .rt h r2 => some (.rt h r2) else some (.nx p.2)
def fWhile (W : Nat) (c : FT) (body : FS) : FS := whD c body W
theorem fWhile_ok {K : PySem.W.Frag} {W : Nat} {c : FT} {body : FS} : ∀ D σ H, tIS K (fWhile W c body) D σ H → tWhile (tIT K c) (tIS K body) D σ H := by
  rintro D σ H ⟨F, ρ, o, R, e, k⟩
  refine ⟨fun m σ' H' => ∃ F' ρ', Rel K F' ρ' σ' H' ∧ Stp ρ σ F H ρ' σ' F' H' ∧ whD c body m ρ' = some o, ⟨W, F, ρ, R, Stp.refl .., e⟩, ?_⟩
  rintro m σ' H' ⟨F', ρ', R', S', hw⟩
  cases m with
  | zero => cases hw
  | succ n =>
    simp only [whD, Option.bind_eq_some_iff] at hw
    obtain ⟨⟨b, ρ1⟩, e1, e2⟩ := hw
    refine ⟨F', ρ', b, ρ1, R', e1, fun F1 H1 R1 S1 => ?_⟩
    cases b with
    | true =>
      rw [if_pos rfl] at e2 ⊢
      rw [Option.bind_eq_some_iff] at e2
      obtain ⟨ob, e3, e4⟩ := e2
      refine ⟨fun σ3 H3 => ∃ F3 ρ3, Rel K F3 ρ3 σ3 H3 ∧ Stp ρ σ F H ρ3 σ3 F3 H3 ∧ whD c body n ρ3 = some o, fun σ3 H3 ⟨F3, ρ3, q1, q2, q3⟩ => ⟨n, Nat.lt_succ_self n, F3, ρ3, q1, q2, q3⟩, F1, ρ1, ob, R1, e3, ?_⟩
      have S4 := S'.trans S1
      cases ob with
      | nx r2 => exact fun σ4 F4 H4 R4 S5 => ⟨F4, r2, R4, S4.trans S5, e4⟩
      | ct r2 => exact fun σ4 F4 H4 R4 S5 => ⟨F4, r2, R4, S4.trans S5, e4⟩
      | bk r2 =>
        cases e4
        exact fun σ4 F4 H4 R4 S5 => k σ4 F4 H4 R4 (S4.trans S5)
      | rt h r2 =>
        cases e4
        exact fun v σ4 F4 H4 R4 S5 q n => k v σ4 F4 H4 R4 (S4.trans S5) q (n.back S4)
    | false =>
      rw [if_neg Bool.false_ne_true] at e2 ⊢
      cases e2
      exact k σ' F1 H1 R1 (S'.trans S1)
section
variable {X : Cx} {tg it c : Expr} {body : List Stmt} {src : FW} {is : List Nat} {g : TG} {bd : PyData → Ev → Option Ev} {fb : FS} {ft : FT} {pos : Pos}
theorem ss_for (hp : PassesOwn (model X.prog X.w) X.A X.env X.xe) (hi : SI X tg it src) (hg : PG X tg g) (hb : BdOk X.K is g bd) (hbody : SSs X body fb) (hc : X.calm = true := by rfl)
    (hs : ∀ x, foldedSetIterable it X.env x = pure x := by intro _; rfl) : SS X (.For tg it body [] pos) (fFor src bd fb) := PSimp (ps_for hp hc hi hg hbody hs) (fFor_ok hb)
theorem ss_while (W : Nat) (hp : PassesOwn (model X.prog X.w) X.A X.env X.xe) (hc : ST X c ft) (hbody : SSs X body fb) : SS X (.While c body [] pos) (fWhile W ft fb) := PSimp (ps_while hp hc hbody) fWhile_ok
end

/-! ### a def's meaning -/
def spI (K : PySem.W.Frag) (m : FE) : Sp := fun vs H Q _ => ∃ F r h r', Rel K F r (vs.map some) H ∧ m r = some (h, r') ∧ isRdy h = true ∧
  ∀ x F' H', Rel K F' r' (vs.map some) H' → Stp r (vs.map some) F H r' (vs.map some) F' H' → HdRep F' r' (vs.map some) H' h x → NewAt (Nn H) H' h x → Q x H'
def isIoS : Option Slt → Bool
  | some (.io _) => true
  | _ => false
def outs (r r0 : Ev) : Ev := List.zipWith (fun s s0 => if isIoS s = true then s0 else s) r r0
def resH (h : Hd) (r0 : Ev) : Option Hd := match h with
  | .v d => some (.v d)
  | .n d => some (.n d)
  | .t d => some (.t d)
  | .s i => match r0[i]? with
    | some (some (.fz d)) => some (.v d)
    | some (some (.ow d)) => some (.n d)
    | some (some (.tr d)) => some (.t d)
    | _ => none
def finish (r : Ev) : Out → Option (Hd × Ev)
  | .rt h r0 => (resH h r0).map fun h' => (h', outs r r0)
  | .nx r0 => some (.v .none, outs r r0)
  | _ => none
/-- n: how many names, k: how many parameters -/
def argOk : Option Slt → Bool
  | some (.fz _) => true
  | some (.io _) => true
  | some (.sc _) => true
  | _ => false
def defM0 (n k : Nat) (body : FS) : FE := fun r => if r.length = k ∧ r.all argOk = true then (body (r ++ List.replicate (n - k) none)).bind (finish r) else none
theorem defM_ex : ∃ f : Nat → Nat → FS → FE, f = defM0 := ⟨_, rfl⟩
/-- no kernel sees through it -/
noncomputable def defM : Nat → Nat → FS → FE := Classical.choose defM_ex
theorem defM_eq : defM = defM0 := Classical.choose_spec defM_ex
theorem outs_len {r r0 : Ev} (h : r.length ≤ r0.length) : (outs r r0).length = r.length := by unfold outs; rw [List.length_zipWith]; omega
theorem outs_get {r r0 : Ev} {i : Nat} {s : Option Slt} (h : (outs r r0)[i]? = some s) : ∃ s1 s0, r[i]? = some s1 ∧ r0[i]? = some s0 ∧ s = if isIoS s1 = true then s0 else s1 := by
  unfold outs at h
  rw [List.getElem?_zipWith] at h
  cases e1 : r[i]? with
  | none => rw [e1] at h; simp at h
  | some a => cases e2 : r0[i]? with
    | none => rw [e1, e2] at h; simp at h
    | some b => rw [e1, e2] at h; simp at h; exact ⟨a, b, rfl, rfl, h.symm⟩
theorem pad_get {r : Ev} {m i : Nat} {s : Slt} (h : (r ++ List.replicate m none)[i]? = some (some s)) : r[i]? = some (some s) := by
  by_cases hi : i < r.length
  · rwa [List.getElem?_append_left hi] at h
  · rw [List.getElem?_append_right (by omega), List.getElem?_replicate] at h
    split at h <;> cases h
theorem pad_own {r : Ev} {m i : Nat} {d : PyData} (h : OwnAt (r ++ List.replicate m none) i d) : OwnAt r i d := by
  rcases h with h | h
  · exact .inl (pad_get h)
  · exact .inr (pad_get h)
theorem Rel.pad {K : PySem.W.Frag} {F H : Hp} {r : Ev} {vs : List V} (R : Rel K F r (vs.map some) H) (m : Nat) : Rel K F (r ++ List.replicate m none) (vs.map some ++ List.replicate m none) H := by
  have up : ∀ {i x}, (vs.map some)[i]? = some x → (vs.map some ++ List.replicate m none)[i]? = some x := fun {i x} h => by
    rw [List.getElem?_append_left (List.getElem?_eq_some_iff.mp h).1]; exact h
  have dn : ∀ {i : Nat} {x : V}, (vs.map some ++ List.replicate m none)[i]? = some (some x) → (vs.map some)[i]? = some (some x) := fun {i x} h => by
    by_cases hi : i < (vs.map some).length
    · rwa [List.getElem?_append_left hi] at h
    · rw [List.getElem?_append_right (by omega), List.getElem?_replicate] at h
      split at h <;> cases h
  refine ⟨R.sub, by rw [List.length_append, List.length_append, R.len, List.length_replicate, List.length_replicate], fun i d h => ?_, fun i d h => ?_, fun i d h => ?_, fun i ns h => ?_, fun i ns h => ?_, fun i j s t x y a h1 h2 e1 e2 o1 o2 => R.dja i j s t x y a (pad_get h1) (pad_get h2) (dn e1) (dn e2) o1 o2⟩
  · obtain ⟨v, q1, q2⟩ := R.fz i d (pad_get h)
    exact ⟨v, up q1, q2⟩
  · obtain ⟨a, o, q1, q2⟩ := R.own i d (pad_own h)
    exact ⟨a, o, up q1, q2⟩
  · obtain ⟨x, fp, q1, q2⟩ := R.tr i d (pad_get h)
    exact ⟨x, fp, up q1, q2⟩
  · obtain ⟨a, q1, q2⟩ := R.scr i ns (pad_get h)
    exact ⟨a, up q1, q2⟩
  · obtain ⟨a, q1, q2⟩ := R.xc i ns (pad_get h)
    exact ⟨a, up q1, q2⟩
theorem pad_ref {vs : List V} {m i : Nat} {x : V} (h : (vs.map some ++ List.replicate m (none : Option V))[i]? = some (some x)) : (vs.map some)[i]? = some (some x) := by
  by_cases hi : i < (vs.map some).length
  · rwa [List.getElem?_append_left hi] at h
  · rw [List.getElem?_append_right (by omega), List.getElem?_replicate] at h
    split at h <;> cases h
/-- behind a body -/
theorem body_end {K : PySem.W.Frag} {F H F' H' : Hp} {r r0 : Ev} {vs : List V} {m : Nat} {σ' : L2.St} (R : Rel K F r (vs.map some) H) (R' : Rel K F' r0 σ' H') (S : Stp (r ++ List.replicate m none) (vs.map some ++ List.replicate m none) F H r0 σ' F' H') (hlen : r.length ≤ r0.length) (hao : r.all argOk = true) :
    Rel K F' (outs r r0) (vs.map some) H' ∧ Stp r (vs.map some) F H (outs r r0) (vs.map some) F' H' ∧ (∀ (j : Nat) (s : Slt) (x : V) (a : Addr), (outs r r0)[j]? = some (some s) → (vs.map some)[j]? = some (some x) → OwnA H' s x a → ∃ d, s = .io d ∧ r0[j]? = some (some (.io d)) ∧ σ'[j]? = some (some x)) := by
  have up : ∀ {i : Nat} {s}, r[i]? = some s → (r ++ List.replicate m none)[i]? = some s := fun {i s} h => by
    rw [List.getElem?_append_left (List.getElem?_eq_some_iff.mp h).1]; exact h
  have upv : ∀ {i : Nat} {x}, (vs.map some)[i]? = some x → (vs.map some ++ List.replicate m none)[i]? = some x := fun {i x} h => by
    rw [List.getElem?_append_left (List.getElem?_eq_some_iff.mp h).1]; exact h
  -- slots of outs
  have key : ∀ {i : Nat} {s : Slt}, (outs r r0)[i]? = some (some s) → (∃ d d', r[i]? = some (some (.io d)) ∧ s = .io d' ∧ r0[i]? = some (some (.io d')) ∧ σ'[i]? = (vs.map some)[i]?) ∨ (r[i]? = some (some s) ∧ isIoS (some s) = false) := fun {i s} h => by
    obtain ⟨s1, s0, e1, e2, e3⟩ := outs_get h
    by_cases hio : isIoS s1 = true
    · rw [if_pos hio] at e3
      subst e3
      cases s1 with
      | none => cases hio
      | some s1 => cases s1 with
        | io d =>
          obtain ⟨d', q1, q2⟩ := S.io i d (up e1)
          rw [e2] at q1; cases q1
          obtain ⟨a, o, z1, _⟩ := R.own i d (.inr e1)
          exact .inl ⟨d, d', e1, rfl, e2, by rw [q2, upv z1, z1]⟩
        | fz d => cases hio
        | ow d => cases hio
        | sc d => cases hio
        | xc d => cases hio
        | tr d => cases hio
    · rw [if_neg hio] at e3
      subst e3
      exact .inr ⟨e1, by simpa using hio⟩
  have noow : ∀ i d, r[i]? ≠ some (some (Slt.ow d)) := fun i d h => by
    have := List.all_eq_true.mp hao _ (List.mem_of_getElem? h)
    cases this
  have notr : ∀ i d, r[i]? ≠ some (some (Slt.tr d)) := fun i d h => by
    have := List.all_eq_true.mp hao _ (List.mem_of_getElem? h)
    cases this
  have ownk : ∀ (j : Nat) (s : Slt) (x : V) (a : Addr), (outs r r0)[j]? = some (some s) → (vs.map some)[j]? = some (some x) → OwnA H' s x a → ∃ d, s = .io d ∧ r0[j]? = some (some (.io d)) ∧ σ'[j]? = some (some x) ∧ ∃ d0, r[j]? = some (some (.io d0)) := fun j s x a h hx ho => by
    rcases key h with ⟨d0, d', z0, z, q1, q2⟩ | ⟨q, z⟩
    · exact ⟨d', z, q1, q2.trans hx, d0, z0⟩
    · cases s with
      | fz d => exact ho.elim
      | sc d => exact ho.elim
      | xc d => exact ho.elim
      | ow d => exact absurd q (noow j d)
      | tr d => exact absurd q (notr j d)
      | io d => cases z
  refine ⟨⟨R'.sub, by rw [outs_len hlen]; exact R.len, fun i d h => ?_, fun j d h => ?_, fun j d h => ?_, fun i ns h => ?_, fun i ns h => ?_, fun i j s t x y a h1 h2 e1 e2 o1 o2 => ?_⟩, ⟨S.ext, fun a ha hn => ?_, fun i d h => ?_, S.stay, rfl⟩, fun j s x a h1 h2 h3 => ?_⟩
  · rcases key h with ⟨_, _, _, z, _⟩ | ⟨q, _⟩
    · cases z
    · obtain ⟨v, q1, q2⟩ := R.fz i d q
      exact ⟨v, q1, q2.mono S.ext⟩
  · rcases h with h | h
    · rcases key h with ⟨_, _, _, z, _⟩ | ⟨q, _⟩
      · cases z
      · exact absurd q (noow j d)
    · rcases key h with ⟨d0, _, z0, z, q1, q2⟩ | ⟨q, z⟩
      · cases z
        obtain ⟨a, o, z1, z2⟩ := R'.own j d (.inr q1)
        exact ⟨a, o, q2 ▸ z1, z2⟩
      · cases z
  · rcases key h with ⟨_, _, _, z, _⟩ | ⟨q, _⟩
    · cases z
    · exact absurd q (notr j d)
  · rcases key h with ⟨_, _, _, z, _⟩ | ⟨q, _⟩
    · cases z
    · obtain ⟨a, q1, q2⟩ := R.scr i ns q
      exact ⟨a, q1, SqL.ext S.ext q2⟩
  · rcases key h with ⟨_, _, _, z, _⟩ | ⟨q, _⟩
    · cases z
    · obtain ⟨a, q1, q2⟩ := R.xc i ns q
      exact ⟨a, q1, XcAt.ext S.ext q2⟩
  · obtain ⟨d1, rfl, q1, q2, _⟩ := ownk i s x a h1 e1 o1
    obtain ⟨d2, rfl, p1, p2, _⟩ := ownk j t y a h2 e2 o2
    exact R'.dja i j _ _ x y a q1 p1 q2 p2 o1 o2
  · have hn' : ¬ Owned (r ++ List.replicate m none) (vs.map some ++ List.replicate m none) H a := fun ⟨j, s, x, h1, h2, h3⟩ => hn ⟨j, s, x, pad_get h1, pad_ref h2, h3⟩
    obtain ⟨q1, q2, _⟩ := S.pres a ha hn'
    refine ⟨q1, q2, fun ⟨j, s, x, h1, h2, h3⟩ => ?_⟩
    obtain ⟨d, rfl, _, _, d0, z⟩ := ownk j s x a h1 h2 h3
    exact hn ⟨j, _, x, z, h2, h3⟩
  · obtain ⟨d', q1, q2⟩ := S.io i d (up h)
    refine ⟨d', ?_, rfl⟩
    unfold outs
    rw [List.getElem?_zipWith, h, q1]
    rfl
  · obtain ⟨d, z1, z2, z3, _⟩ := ownk j s x a h1 h2 h3
    exact ⟨d, z1, z2, z3⟩
theorem finish_ok {K : PySem.W.Frag} {F H F' H' : Hp} {r r0 : Ev} {vs : List V} {m : Nat} {σ' : L2.St} {h0 h : Hd} {x : V} (R : Rel K F r (vs.map some) H) (R' : Rel K F' r0 σ' H') (S : Stp (r ++ List.replicate m none) (vs.map some ++ List.replicate m none) F H r0 σ' F' H') (hlen : r.length ≤ r0.length) (hao : r.all argOk = true)
    (q : HdRep F' r0 σ' H' h0 x) (nw : NewAt (Fsh (r ++ List.replicate m none) (vs.map some ++ List.replicate m none) H) H' h0 x) (e : resH h0 r0 = some h) : HdRep F' (outs r r0) (vs.map some) H' h x ∧ NewAt (Nn H) H' h x ∧ isRdy h = true := by
  obtain ⟨R2, S2, ow⟩ := body_end R R' S hlen hao
  have tr : ∀ {a}, ¬ Owned r0 σ' H' a → ¬ Owned (outs r r0) (vs.map some) H' a := fun {a} hn ⟨j, s, y, h1, h2, h3⟩ => by
    obtain ⟨d, rfl, q1, q2⟩ := ow j s y a h1 h2 h3
    exact hn ⟨j, _, y, q1, q2, h3⟩
  -- what a slot that is no parameter's owns
  have lone : ∀ {i : Nat} {s : Slt} {a : Addr}, r0[i]? = some (some s) → (∀ d, s ≠ .io d) → σ'[i]? = some (some x) → OwnA H' s x a → ¬ Owned (outs r r0) (vs.map some) H' a ∧ H a = none := fun {i s a} hs hio hx ho => by
    have nio : ∀ (j : Nat) (d' : PyData) (y : V), r0[j]? = some (some (Slt.io d')) → σ'[j]? = some (some y) → OwnA H' (.io d') y a → False := fun j d' y z1 z2 z3 => by
      have := R'.dja i j _ _ x y a hs z1 hx z2 ho z3
      subst this
      rw [hs] at z1; cases z1
      exact hio _ rfl
    refine ⟨fun ⟨j, t, y, z1, z2, z3⟩ => ?_, ?_⟩
    · obtain ⟨d, rfl, q1, q2⟩ := ow j t y a z1 z2 z3
      exact nio j d y q1 q2 z3
    · rcases S.old ⟨i, s, x, hs, hx, ho⟩ with z | ⟨j, t, y, z1, z2, z3⟩
      · exact z
      · exfalso
        have z1' := pad_get z1
        have z2' := pad_ref z2
        have := List.all_eq_true.mp hao _ (List.mem_of_getElem? z1')
        cases t with
        | fz d => exact z3.elim
        | sc d => exact z3.elim
        | xc d => exact z3.elim
        | ow d => cases this
        | tr d => cases this
        | io d2 =>
          obtain ⟨d', q1, q2⟩ := S.io j d2 z1
          exact nio j d' y q1 (q2.trans z2) z3
  have strong : ∀ {a}, Fsh (r ++ List.replicate m none) (vs.map some ++ List.replicate m none) H a → ¬ Owned r0 σ' H' a → H a = none := fun {a} f no => by
    rcases f with z | ⟨j, t, y, z1, z2, z3⟩
    · exact z
    · exfalso
      have z1' := pad_get z1
      have := List.all_eq_true.mp hao _ (List.mem_of_getElem? z1')
      cases t with
      | fz d => exact z3.elim
      | sc d => exact z3.elim
      | xc d => exact z3.elim
      | ow d => cases this
      | tr d => cases this
      | io d2 =>
        obtain ⟨d', q1, q2⟩ := S.io j d2 z1
        exact no ⟨j, _, y, q1, q2.trans z2, z3⟩
  cases q with
  | v q => cases e; exact ⟨.v q, nw_v, rfl⟩
  | n h1 h2 h3 h4 =>
    cases e
    exact ⟨.n h1 h2 (tr h3) h4, fun a ha => by cases ha; exact strong (nw _ rfl) h3, rfl⟩
  | t q m =>
    cases e
    refine ⟨.t q fun a ha => tr (m a ha), fun a ha => strong (nw a ha) ?_, rfl⟩
    obtain ⟨F2, fp2, t2, hb⟩ := ha
    rw [← q.uniq t2] at hb
    exact m a hb
  | @s i x q =>
    simp only [resH] at e
    split at e
    · rename_i d hs
      cases e
      obtain ⟨v, e1, e2⟩ := R'.fz i _ hs
      rw [q] at e1; cases e1
      exact ⟨.v e2, nw_v, rfl⟩
    · rename_i d hs
      cases e
      obtain ⟨a, o, e1, e2, e3, e4⟩ := R'.own i _ (.inl hs)
      rw [q] at e1; cases e1
      have l := lone (a := a) hs (fun d z => by cases z) q rfl
      exact ⟨.n e2 e3 l.1 e4, fun b eb => by cases eb; exact l.2, rfl⟩
    · rename_i d hs
      cases e
      obtain ⟨y, fp, e1, e2⟩ := R'.tr i _ hs
      rw [q] at e1; cases e1
      have l := fun a ha => lone (a := a) hs (fun d z => by cases z) q ⟨F', fp, e2, ha⟩
      refine ⟨.t e2 fun a ha => (l a ha).1, fun b ⟨F2, fp2, t2, hb⟩ => ?_, rfl⟩
      rw [← e2.uniq t2] at hb
      exact (l b hb).2
    · cases e
theorem Rel.lenS {K : PySem.W.Frag} {F H : Hp} {r : Ev} {σ : L2.St} (R : Rel K F r σ H) : r.length = σ.length := R.len
section
variable {P : Program} {w : World} {K : PySem.W.Frag} {mg : Str → Option Value} {base : Heap}
/-- a def keeps the promise of its body's meaning -/
theorem fn_ok {x qual : Str} {st : Stmt} {f : Addr} {fd : FuncData} {N ps : List Str} {k : Nat} {fb : FS} (Fu : Fun K x qual st f fd) (S : FnScope N ps (defScope st)) (hl : ps.length ≤ N.length)
    (hbody : ∀ (cdv : Value) (A : Around) (outer : List Env) (s : Shared) (H : Hp) (Q : VK) (E : XK), Room k (A.deeper (envOfC qual (defScope st) s.heap.objs.size f cdv)) →
      SSs (cxOf CX0 P w K mg base N qual (defScope st) f cdv A outer s H E).nox (defBody st) fb) : FnOk P w K mg base CX0 (k + 1) f fd ps (spI K (defM N.length ps.length fb)) := by
  refine Fu.ok S (fun vs H Q E h => ?_) (fun cdv A outer s H vs Q E hr h => ⟨_, hbody cdv A outer s H Q E hr, ?_⟩)
  · obtain ⟨F, r, hd, r', R, e, _⟩ := h
    rw [defM_eq] at e; unfold defM0 at e
    split at e
    · rename_i hk
      have := R.len
      rw [List.length_map] at this
      omega
    · cases e
  · obtain ⟨F, r, hd, r', R, e, hrd, kk⟩ := h
    rw [defM_eq] at e; unfold defM0 at e
    split at e
    · rename_i hk
      rw [Option.bind_eq_some_iff] at e
      obtain ⟨o, e1, e2⟩ := e
      have hvs : vs.length = ps.length := by
        have := R.len
        rw [List.length_map] at this
        omega
      have hst : L2.start N vs = vs.map some ++ List.replicate (N.length - ps.length) none := by unfold L2.start; rw [hvs]
      rw [hst]
      refine ⟨F, _, o, R.pad _, e1, ?_⟩
      cases o with
      | nx r0 =>
        cases e2
        intro σ' F' H' R' S'
        have hlen : r.length ≤ r0.length := by
          have z1 := R'.len
          have z2 := S'.sl
          rw [List.length_append, List.length_map] at z2
          omega
        obtain ⟨R2, S2, _⟩ := body_end R R' S' hlen hk.2
        exact kk _ F' H' R2 S2 (.v .non) nw_v
      | rt h0 r0 =>
        rw [show finish r (.rt h0 r0) = (resH h0 r0).map fun h' => (h', outs r r0) from rfl, Option.map_eq_some_iff] at e2
        obtain ⟨h1, e3, e4⟩ := e2
        cases e4
        intro v σ' F' H' R' S' q n
        have hlen : r.length ≤ r0.length := by
          have z1 := R'.len
          have z2 := S'.sl
          rw [List.length_append, List.length_map] at z2
          omega
        obtain ⟨R2, S2, _⟩ := body_end R R' S' hlen hk.2
        obtain ⟨q2, n2, _⟩ := finish_ok R R' S' hlen hk.2 q n e3
        exact kk v F' H' R2 S2 q2 n2
      | bk r0 => cases e2
      | ct r0 => cases e2
    · cases e
end
end TL

namespace TL
open PySem PySem.Spec PyProof.Rows L2

/-! ### calls -/
def fzs (ds : List PyData) : Ev := ds.map fun d => some (Slt.fz d)
def ioAt (j : Nat) (r : Ev) : Option PyData := match r[j]? with
  | some (some (.io d)) => some d
  | _ => none
def callN (m : FE) (hs : List Hd) (r : Ev) : Option (Hd × Ev) := (escAll hs r).bind fun q => (m (fzs q.1)).bind fun u => if isRdy u.1 = true then some (u.1, q.2) else none
def flat : Hd → Bool
  | .v d => scal2 d
  | .n (.list ds) => ds.all scal2
  | .t _ => true
  | _ => false
/-- the arguments stay the caller's own where the answer refers to none of them -/
def callG (m : FE) (hs : List Hd) (r : Ev) : Option (Hd × Ev) := (curAll hs r).bind fun ds => (m (fzs ds)).bind fun u => if flat u.1 = true then some (u.1, r) else callN m hs r
def callJ (m : FE) (j : Nat) (hs : List Hd) (r : Ev) : Option (Hd × Ev) := (hs[j]?).bind fun h => (escAll (hs.set j (.v .none)) r).bind fun q => match h with
  | .n d => (m ((fzs q.1).set j (some (.io d)))).bind fun u => if isRdy u.1 = true then some (u.1, q.2) else none
  | .s k => match q.2[k]? with
    | some (some (.sc ns)) => (m ((fzs q.1).set j (some (.sc ns)))).bind fun u => if isRdy u.1 = true then some (u.1, q.2) else none
    | some (some (.ow d)) => (m ((fzs q.1).set j (some (.io d)))).bind fun u => if isRdy u.1 = true then (ioAt j u.2).bind fun d' => (setD k d' q.2).map fun r' => (u.1, r') else none
    | some (some (.io d)) => (m ((fzs q.1).set j (some (.io d)))).bind fun u => if isRdy u.1 = true then (ioAt j u.2).bind fun d' => (setD k d' q.2).map fun r' => (u.1, r') else none
    | _ => none
  | .v _ => none
  | .t _ => none
def callD (m : FE) (io : Option Nat) (hs : List Hd) (r : Ev) : Option (Hd × Ev) := match io with
  | none => callG m hs r
  | some j => callJ m j hs r
def sCall (m : FE) (io : Option Nat) (f : FA) : FE := fun r => (f r).bind fun p => callD m io p.1 p.2
theorem fzs_get {ds : List PyData} {i : Nat} {s : Option Slt} (h : (fzs ds)[i]? = some s) : ∃ d, ds[i]? = some d ∧ s = some (.fz d) := by
  unfold fzs at h
  rw [List.getElem?_map, Option.map_eq_some_iff] at h
  obtain ⟨d, h1, h2⟩ := h
  exact ⟨d, h1, h2.symm⟩
theorem mapsome_get {xs : List V} {i : Nat} {x : V} (h : xs[i]? = some x) : (xs.map some)[i]? = some (some x) := by rw [List.getElem?_map, h]; rfl
theorem mapsome_of {xs : List V} {i : Nat} {x : V} (h : (xs.map some)[i]? = some (some x)) : xs[i]? = some x := by
  rw [List.getElem?_map, Option.map_eq_some_iff] at h
  obtain ⟨y, h1, h2⟩ := h
  cases h2; exact h1
theorem fzs_noown {ds : List PyData} {i : Nat} {d : PyData} (h : OwnAt (fzs ds) i d) : False := by
  rcases h with h | h <;> (obtain ⟨_, _, z⟩ := fzs_get h; cases z)
theorem rel_fzs {K : PySem.W.Frag} {F H : Hp} {xs : List V} {ds : List PyData} (e : Ext F H) (r : RpAll F xs ds) : Rel K F (fzs ds) (xs.map some) H := by
  refine ⟨e, by unfold fzs; rw [List.length_map, List.length_map, r.length], fun i d h => ?_, fun i d h => (fzs_noown h).elim, fun i d h => ?_, fun i ns h => ?_, fun i ns h => ?_, fun i j s t x y a h1 h2 e1 e2 o1 o2 => ?_⟩
  · obtain ⟨d', h1, h2⟩ := fzs_get h
    cases h2
    obtain ⟨v, q1, q2⟩ := r.get h1
    exact ⟨v, mapsome_get q1, q2⟩
  · obtain ⟨_, _, z⟩ := fzs_get h; cases z
  · obtain ⟨_, _, z⟩ := fzs_get h; cases z
  · obtain ⟨_, _, z⟩ := fzs_get h; cases z
  · obtain ⟨_, _, z⟩ := fzs_get h1; cases z; exact o1.elim
theorem fzs_no {ds : List PyData} {σ : L2.St} {H : Hp} {a : Addr} (h : Owned (fzs ds) σ H a) : False := by
  obtain ⟨i, s, x, h1, _, o1⟩ := h
  obtain ⟨_, _, z⟩ := fzs_get h1; cases z; exact o1.elim
theorem HdRep.rdy {F : Hp} {r r' : Ev} {σ σ' : L2.St} {H : Hp} {h : Hd} {x : V} (q : HdRep F r σ H h x) (hr : isRdy h = true) (ho : ∀ a, HdA H h x a → ¬ Owned r' σ' H a) : HdRep F r' σ' H h x := by
  cases q with
  | v q => exact .v q
  | n h1 h2 h3 h4 => exact .n h1 h2 (ho _ rfl) h4
  | s q => cases hr
  | t q m => exact .t q fun a ha => ho a ⟨F, _, q, ha⟩
/-- one argument's place is another's -/
def one (j : Nat) (s : Slt) (ds : List PyData) : Ev := (fzs ds).set j (some s)
theorem one_get {j i : Nat} {s : Slt} {ds : List PyData} {t : Slt} (h : (one j s ds)[i]? = some (some t)) : (i = j ∧ t = s ∧ j < ds.length) ∨ (i ≠ j ∧ ∃ d, ds[i]? = some d ∧ t = .fz d) := by
  rcases get_set _ _ _ _ _ h with ⟨rfl, h1, hl⟩ | ⟨ne, h⟩
  · cases h1
    exact .inl ⟨rfl, rfl, by unfold fzs at hl; rwa [List.length_map] at hl⟩
  · obtain ⟨d, h1, h2⟩ := fzs_get h
    cases h2
    exact .inr ⟨Ne.symm ne, d, h1, rfl⟩
theorem rel_one {K : PySem.W.Frag} {F H : Hp} {xs : List V} {ds : List PyData} {j : Nat} {s : Slt} {a : Addr} (e : Ext F H) (r : RpAll F (xs.set j .non) ds) (hx : xs[j]? = some (.ref a))
    (hs : (∃ d o, s = .io d ∧ H a = some o ∧ F a = none ∧ OC F o d) ∨ ∃ ns, s = .sc ns ∧ SqL K F a (ns.map V.int)) : Rel K F (one j s ds) (xs.map some) H := by
  have sx : ∀ {i : Nat} {v : V}, i ≠ j → (xs.set j .non)[i]? = some v → (xs.map some)[i]? = some (some v) := fun {i v} ne h => by
    rw [List.getElem?_set_ne (Ne.symm ne)] at h
    exact mapsome_get h
  refine ⟨e, ?_, fun i d h => ?_, fun i d h => ?_, fun i d h => ?_, fun i ns h => ?_, fun i ns h => ?_, fun i k s1 s2 y1 y2 b h1 h2 e1 e2 o1 o2 => ?_⟩
  · unfold one fzs
    have := r.length
    rw [List.length_set] at this
    rw [List.length_set, List.length_map, List.length_map, this]
  · rcases one_get h with ⟨rfl, h1, _⟩ | ⟨ne, d', h1, h2⟩
    · subst h1
      rcases hs with ⟨_, _, z, _⟩ | ⟨_, z, _⟩ <;> cases z
    · cases h2
      obtain ⟨v, q1, q2⟩ := r.get h1
      exact ⟨v, sx ne q1, q2⟩
  · have hj : i = j ∧ s = .io d := by
      rcases h with h | h <;> rcases one_get h with ⟨rfl, h1, _⟩ | ⟨ne, d', h1, h2⟩
      · subst h1; rcases hs with ⟨_, _, z, _⟩ | ⟨_, z, _⟩ <;> cases z
      · cases h2
      · exact ⟨rfl, h1.symm⟩
      · cases h2
    obtain ⟨rfl, rfl⟩ := hj
    rcases hs with ⟨d', o, z, q1, q2, q3⟩ | ⟨_, z, _⟩
    · cases z; exact ⟨a, o, mapsome_get hx, q1, q2, q3⟩
    · cases z
  · rcases one_get h with ⟨rfl, h1, _⟩ | ⟨ne, d', h1, h2⟩
    · subst h1
      rcases hs with ⟨_, _, z, _⟩ | ⟨_, z, _⟩ <;> cases z
    · cases h2
  · rcases one_get h with ⟨rfl, h1, _⟩ | ⟨ne, d', h1, h2⟩
    · subst h1
      rcases hs with ⟨_, _, z, _⟩ | ⟨ns', z, q⟩
      · cases z
      · cases z; exact ⟨a, mapsome_get hx, q⟩
    · cases h2
  · rcases one_get h with ⟨rfl, h1, _⟩ | ⟨ne, d', h1, h2⟩
    · subst h1
      rcases hs with ⟨_, _, z, _⟩ | ⟨ns', z, q⟩
      · cases z
      · cases z
    · cases h2
  · have k1 : ∀ {i : Nat} {t : Slt} {y : V}, (one j s ds)[i]? = some (some t) → OwnA H t y b → i = j := fun {i t y} h o => by
      rcases one_get h with ⟨rfl, h1, _⟩ | ⟨ne, d', h1, h2⟩
      · rfl
      · subst h2; exact o.elim
    rw [k1 h1 o1, k1 h2 o2]
theorem one_owned {xs : List V} {ds : List PyData} {j : Nat} {s : Slt} {a b : Addr} {H : Hp} (hx : xs[j]? = some (.ref a)) (hs : ∀ d, s ≠ .tr d) (h : Owned (one j s ds) (xs.map some) H b) : b = a := by
  obtain ⟨i, t, x, h1, h2, h3⟩ := h
  rcases one_get h1 with ⟨rfl, e1, _⟩ | ⟨ne, d', e1, e2⟩
  · have := mapsome_of h2
    rw [hx] at this; cases this
    subst e1
    cases t with
    | fz d => exact h3.elim
    | sc d => exact h3.elim
    | xc d => exact h3.elim
    | ow d => cases h3; rfl
    | io d => cases h3; rfl
    | tr d => exact absurd rfl (hs d)
  · subst e2; exact h3.elim
/-- the caller behind a call that may have changed the object at p -/
theorem rel_but {K : PySem.W.Frag} {F F' H0 H H' F0 : Hp} {r r0 : Ev} {σ σ0 : L2.St} {p : Addr} (R : Rel K F r σ H) (S : Stp r0 σ0 F0 H0 r σ F H) (ext : Ext F F') (sub : Ext F' H') (keep : ∀ a, a ≠ p → H a ≠ none → H' a = H a ∧ F' a = F a) (stay : ∀ a, H a ≠ none → H' a ≠ none)
    (hp : Fsh r0 σ0 H0 p) (hn : ¬ Owned r σ H p) : Rel K F' r σ H' ∧ Stp r0 σ0 F0 H0 r σ F' H' := by
  have kk : ∀ {j : Nat} {s : Slt} {x : V} {a : Addr}, r[j]? = some (some s) → σ[j]? = some (some x) → OwnA H s x a → H' a = H a ∧ F' a = F a := fun {j s x a} w1 w2 w3 => keep a (by rintro rfl; exact hn ⟨j, s, x, w1, w2, w3⟩) (R.ownA w1 w2 w3).1
  have bk : ∀ {j : Nat} {s : Slt} {x : V} {a : Addr}, r[j]? = some (some s) → σ[j]? = some (some x) → OwnA H' s x a → OwnA H s x a := fun w1 w2 w3 => ownA_back R w1 w2 (fun b hb => (kk w1 w2 hb).1) w3
  refine ⟨⟨sub, R.len, fun i d h => ?_, fun i d h => ?_, fun i d h => R.trKeep ext h fun x b ex ob => kk h ex ob, fun i ns h => ?_, fun i ns h => ?_, fun i j s t x y a h1 h2 e1 e2 o1 o2 => R.dja i j s t x y a h1 h2 e1 e2 (bk h1 e1 o1) (bk h2 e2 o2)⟩, S.ext.trans ext, fun a ha hno => ?_, S.io, fun a ha => stay a (S.stay a ha), S.sl⟩
  · obtain ⟨v, q1, q2⟩ := R.fz i d h
    exact ⟨v, q1, q2.mono ext⟩
  · obtain ⟨b, u, q1, q2, q3, q4⟩ := R.own i d h
    obtain ⟨s, w1, w2⟩ := h.a
    have k := kk w1 q1 (w2 H b)
    exact ⟨b, u, q1, k.1.trans q2, k.2.trans q3, q4.mono ext⟩
  · obtain ⟨b, q1, q2⟩ := R.scr i ns h
    exact ⟨b, q1, SqL.ext ext q2⟩
  · obtain ⟨b, q1, q2⟩ := R.xc i ns h
    exact ⟨b, q1, XcAt.ext ext q2⟩
  · obtain ⟨q1, q2, q3⟩ := S.pres a ha hno
    have k := keep a (by rintro rfl; exact hp.elim ha hno) (by rw [q1]; exact ha)
    exact ⟨k.1.trans q1, k.2.trans q2, fun ⟨j, s, x, w1, w2, w3⟩ => q3 ⟨j, s, x, w1, w2, bk w1 w2 w3⟩⟩
theorem setD_owned {k : Nat} {r r' : Ev} {d : PyData} {σ : L2.St} {a : Addr} {H : Hp} (h : setD k d r = some r') (ho : Owned r' σ H a) : Owned r σ H a := by
  obtain ⟨⟨_, e0, rfl, hk0⟩, hlen, hk', hj, _⟩ := setD_own h
  obtain ⟨j, s, x, h1, h2, h3⟩ := ho
  by_cases ne : j = k
  · subst ne
    obtain ⟨s0, w1, w2⟩ := hk0.a
    refine ⟨j, s0, x, w1, h2, ?_⟩
    rcases hk' with z | z <;> (rw [z] at h1; cases h1; cases h3; exact w2 H _)
  · refine ⟨j, s, x, ?_, h2, h3⟩
    rw [hj j ne] at h1; exact h1
theorem Rel.noNew {K : PySem.W.Frag} {F : Hp} {r : Ev} {σ : L2.St} {H H' : Hp} (R : Rel K F r σ H) (keep : ∀ a, Owned r σ H a → H' a = H a) {a : Addr} (ha : H a = none) : ¬ Owned r σ H' a := fun ⟨i, s, x, h1, h2, h3⟩ => (R.ownA h1 h2 (ownA_back R h1 h2 (fun b hb => keep b ⟨i, s, x, h1, h2, hb⟩) h3)).1 ha
theorem Rel.noNewUpd {K : PySem.W.Frag} {F F' : Hp} {r : Ev} {σ : L2.St} {H : Hp} {D : Addr} {o : HO} (_ : Rel K F' r σ (upd H D o)) (R : Rel K F r σ H) (hD : H D = none) : ¬ Owned r σ (upd H D o) D :=
  R.noNew (fun a ha => upd_ne (by rintro rfl; exact (R.ownedAt ha).1 hD)) hD
theorem callN_ok {K : PySem.W.Frag} {m : FE} {E : XK} {σ : L2.St} {H H1 : Hp} {Q : VK} {F F1 : Hp} {ρ ρ1 ρ' : Ev} {hs : List Hd} {xs : List V} {h : Hd} (S1 : Stp ρ σ F H ρ1 σ F1 H1) (R1 : Rel K F1 ρ1 σ H1) (t : HdsRep F1 ρ1 σ (Fsh ρ σ H) H1 hs xs) (e2 : callN m hs ρ1 = some (h, ρ'))
    (kk : ∀ x F' H', Rel K F' ρ' σ H' → Stp ρ σ F H ρ' σ F' H' → HdRep F' ρ' σ H' h x → NewAt (Fsh ρ σ H) H' h x → Q x H') : spI K m xs H1 Q E := by
  simp only [callN, Option.bind_eq_some_iff] at e2
  obtain ⟨⟨ds, ρ2⟩, e3, ⟨u, r'⟩, e4, e5⟩ := e2
  split at e5
  · rename_i hr
    cases e5
    obtain ⟨F2, R2, S2, p2, _⟩ := escAll_ok S1 R1 t e3
    refine ⟨F2, fzs ds, u, r', rel_fzs R2.sub p2, e4, hr, fun x F' H' R' S' q n => ?_⟩
    obtain ⟨R3, S3⟩ := R2.grow S'.ext R'.sub (fun a ha => by
      obtain ⟨z1, z2, _⟩ := S'.pres a ha fun z => fzs_no z
      exact ⟨z1, z2⟩)
    exact kk x F' H' R3 (S2.trans S3) (q.rdy hr fun a ha => R2.noNew (fun b hb => (S'.pres b (R2.ownedAt hb).1 fun z => fzs_no z).1) (n a ha)) (n.up.back S2)
  · cases e5
theorem Cur.frz {F H : Hp} (e : Ext F H) {x : V} {d : PyData} (c : Cur F H x d) : Rp H x d := by
  cases c with
  | r q => exact q.mono e
  | o h q => exact OC.rp h (q.mono e)
theorem CurAll.frz {F H : Hp} (e : Ext F H) : ∀ {xs : List V} {ds : List PyData}, CurAll F H xs ds → RpAll H xs ds
  | _, _, .nil => .nil
  | _, _, .cons a b => .cons (a.frz e) (b.frz e)
theorem Rp.scal {F F' : Hp} {x : V} {d : PyData} (h : Rp F x d) (s : TL.scal d = true) : Rp F' x d := by
  cases h <;> first | cases s | skip
  · exact .non
  · exact .bl _
  · exact .int _
  · exact .str _
theorem RpAll.scal {F F' : Hp} : ∀ {xs : List V} {ds : List PyData}, RpAll F xs ds → ds.all TL.scal = true → RpAll F' xs ds
  | _, _, .nil, _ => .nil
  | _, _, .cons a b, s => by
    simp only [List.all_cons, Bool.and_eq_true] at s
    exact .cons (a.scal s.1) (b.scal s.2)
/-- the frozen heap that the called def begins with: the arguments' objects beside what was frozen -/
noncomputable def frzA (F H : Hp) (xs : List V) : Hp := fun a => match F a with
  | some o => some o
  | none => if V.ref a ∈ xs then H a else none
theorem frzA_ext {F H : Hp} {xs : List V} : Ext F (frzA F H xs) := fun a o h => by simp only [frzA, h]
theorem frzA_sub {F H : Hp} {xs : List V} (e : Ext F H) : Ext (frzA F H xs) H := fun a o h => by
  unfold frzA at h
  cases q : F a with
  | some o' => rw [q] at h; cases h; exact e a _ q
  | none => rw [q] at h; simp only at h; split at h
            · exact h
            · cases h
theorem frzA_cur {F H : Hp} {xs : List V} {x : V} {d : PyData} (hx : x ∈ xs) (c : Cur F H x d) (e : Ext F H) : Rp (frzA F H xs) x d := by
  cases c with
  | r q => exact q.mono frzA_ext
  | @o a o d h q =>
    refine OC.rp ?_ (q.mono frzA_ext)
    unfold frzA
    cases z : F a with
    | some o' =>
      have := e a _ z
      rw [h] at this; cases this; rfl
    | none => simp only [if_pos hx, h]
theorem frzA_curAll {F H : Hp} {ys : List V} (e : Ext F H) : ∀ {xs : List V} {ds : List PyData}, (∀ x ∈ xs, x ∈ ys) → CurAll F H xs ds → RpAll (frzA F H ys) xs ds
  | _, _, _, .nil => .nil
  | _, _, hs, .cons a b => .cons (frzA_cur (hs _ List.mem_cons_self) a e) (frzA_curAll e (fun x hx => hs x (List.mem_cons_of_mem _ hx)) b)
theorem CurAll.mem {F H : Hp} : ∀ {xs : List V} {ds : List PyData} {x : V}, CurAll F H xs ds → x ∈ xs → ∃ d, Cur F H x d
  | _, _, _, .nil, h => by cases h
  | _, _, _, .cons a b, h => by
    rcases List.mem_cons.mp h with rfl | h
    · exact ⟨_, a⟩
    · exact b.mem h
/-- a tuple that the call's begin held frozen stood frozen before -/
theorem frzA_tup {F H : Hp} {xs : List V} {ds : List PyData} {a : Addr} {vs : List V} (c : CurAll F H xs ds) (e : Ext F H) (h : frzA F H xs a = some (.tup vs)) : F a = some (.tup vs) := by
  unfold frzA at h
  cases q : F a with
  | some o => rw [q] at h; exact h
  | none =>
    rw [q] at h
    simp only at h
    split at h
    · rename_i hm
      obtain ⟨d, c⟩ := c.mem hm
      cases c with
      | r z =>
        cases z with
        | lst z _ => rw [q] at z; cases z
        | tup z _ => rw [q] at z; cases z
        | dK z _ => rw [q] at z; cases z
        | dT z _ => rw [q] at z; cases z
      | o z w =>
        rw [h] at z; cases z
        cases w
    · cases h
theorem Rp.scal2 {F F' : Hp} {x : V} {d : PyData} (h : Rp F x d) (s : TL.scal2 d = true) (ht : ∀ a vs, F a = some (.tup vs) → F' a = some (.tup vs)) : Rp F' x d := by
  cases h with
  | tup z r => exact .tup (ht _ _ z) (r.scal s)
  | non => exact .non
  | bl => exact .bl _
  | int => exact .int _
  | str => exact .str _
  | lst => cases s
  | dK => cases s
  | dT => cases s
theorem RpAll.scal2 {F F' : Hp} (ht : ∀ a vs, F a = some (.tup vs) → F' a = some (.tup vs)) : ∀ {xs : List V} {ds : List PyData}, RpAll F xs ds → ds.all TL.scal2 = true → RpAll F' xs ds
  | _, _, .nil, _ => .nil
  | _, _, .cons a b, s => by
    simp only [List.all_cons, Bool.and_eq_true] at s
    exact .cons (a.scal2 s.1 ht) (b.scal2 ht s.2)
/-- an object that nobody else knows has changed -/
theorem rel_at {K : PySem.W.Frag} {F H0 H F0 : Hp} {r r0 : Ev} {σ σ0 : L2.St} {D : Addr} {o : HO} (R : Rel K F r σ H) (S : Stp r0 σ0 F0 H0 r σ F H) (hp : Fsh r0 σ0 H0 D) (hF : F D = none) (hn : ¬ Owned r σ H D) :
    Rel K F r σ (upd H D o) ∧ Stp r0 σ0 F0 H0 r σ F (upd H D o) ∧ ∀ a, ¬ Owned r σ H a → ¬ Owned r σ (upd H D o) a := by
  have kp : ∀ a, a ≠ D → H a ≠ none → upd H D o a = H a ∧ F a = F a := fun a ha _ => ⟨upd_ne ha, rfl⟩
  obtain ⟨R2, S2⟩ := rel_but (p := D) R S (Ext.refl F) (fun a u ha => by rw [upd_ne (by rintro rfl; rw [hF] at ha; cases ha)]; exact R.sub a u ha) kp (fun a ha => by
    by_cases z : a = D
    · subst z; rw [upd_same]; simp
    · rw [upd_ne z]; exact ha) hp hn
  refine ⟨R2, S2, fun a ha ⟨i, s, x, h1, h2, h3⟩ => ha ⟨i, s, x, h1, h2, ownA_back R h1 h2 (fun b hb => (kp b (by rintro rfl; exact hn ⟨i, s, x, h1, h2, hb⟩) (R.ownA h1 h2 hb).1).1) h3⟩⟩
mutual
theorem Tr.scal {F F' H : Hp} (ht : ∀ a vs, F a = some (.tup vs) → F' a = some (.tup vs)) : ∀ {x d fp}, Tr F H x d fp → (∀ a ∈ fp, F' a = none) → Tr F' H x d fp
  | _, _, _, .leaf s r, _ => .leaf s (r.scal2 s ht)
  | _, _, _, .ls h1 h2 r n, k => .ls h1 (k _ List.mem_cons_self) (Trs.scal ht r fun a h => k a (List.mem_cons_of_mem _ h)) n
  | _, _, _, .tp s h1 h2 r n, k => .tp s h1 (k _ List.mem_cons_self) (Trs.scal ht r fun a h => k a (List.mem_cons_of_mem _ h)) n
theorem Trs.scal {F F' H : Hp} (ht : ∀ a vs, F a = some (.tup vs) → F' a = some (.tup vs)) : ∀ {x d fp}, Trs F H x d fp → (∀ a ∈ fp, F' a = none) → Trs F' H x d fp
  | _, _, _, .nil, _ => .nil
  | _, _, _, .cons q r n, k => .cons (Tr.scal ht q fun a h => k a (List.mem_append_left _ h)) (Trs.scal ht r fun a h => k a (List.mem_append_right _ h)) n
end
/-- an answer that refers to nothing frozen but tuples, under another frozen heap -/
theorem HdRep.flatTo {F F' : Hp} {r r' : Ev} {σ σ' : L2.St} {H0 H : Hp} {h : Hd} {x : V} (q : HdRep F r σ H h x) (hf : flat h = true) (n : NewAt (Nn H0) H h x) (ht : ∀ a vs, F a = some (.tup vs) → F' a = some (.tup vs)) (hn : ∀ a, H0 a = none → F' a = F a ∧ ¬ Owned r' σ' H a) : HdRep F' r' σ' H h x := by
  cases q with
  | v q => exact .v (q.scal2 hf ht)
  | n h1 h2 h3 h4 =>
    have ha := hn _ (n _ rfl)
    refine .n h1 (ha.1.trans h2) ha.2 ?_
    cases h4 with
    | lst r => exact .lst (r.scal2 ht hf)
    | dK r => cases hf
    | dT r => cases hf
  | s q => cases hf
  | t q m =>
    have k := fun a ha => hn a (n a ⟨F, _, q, ha⟩)
    exact .t (q.scal ht fun a ha => (k a ha).1.trans (q.at a ha).2) fun a ha => (k a ha).2
/-- the caller's own things stand behind what was done by value alone -/
theorem byval {K : PySem.W.Frag} {F1 F' H1 H' : Hp} {r r' : Ev} {σ : L2.St} {xs : List V} {ds : List PyData} (R1 : Rel K F1 r σ H1) (ca : CurAll F1 H1 xs ds) (sub' : Ext F' H') (pres : ∀ a, H1 a ≠ none → H' a = H1 a ∧ F' a = frzA F1 H1 xs a) :
    ∃ F2, Rel K F2 r σ H' ∧ Stp r σ F1 H1 r σ F2 H' ∧ (∀ a vs, F' a = some (.tup vs) → F2 a = some (.tup vs)) ∧ ∀ a, H1 a = none → F2 a = F' a ∧ ¬ Owned r σ H' a := by
  classical
  let F2 : Hp := fun a => if H1 a = none then F' a else F1 a
  have hn : ∀ a, H1 a = none → F2 a = F' a := fun a ha => if_pos ha
  have ho : ∀ a, H1 a ≠ none → F2 a = F1 a := fun a ha => if_neg ha
  have x2 : Ext F1 F2 := fun a o ha => by
    rw [ho a (by rw [R1.sub a o ha]; simp)]; exact ha
  have s2 : Ext F2 H' := fun a o ha => by
    by_cases z : H1 a = none
    · rw [hn a z] at ha; exact sub' a o ha
    · rw [ho a z] at ha
      rw [(pres a z).1]; exact R1.sub a o ha
  have ht : ∀ a vs, F' a = some (.tup vs) → F2 a = some (.tup vs) := fun a vs ha => by
    by_cases z : H1 a = none
    · rw [hn a z]; exact ha
    · rw [ho a z]
      rw [(pres a z).2] at ha
      exact frzA_tup ca R1.sub ha
  obtain ⟨R3, S3⟩ := R1.grow x2 s2 (fun a ha => ⟨(pres a ha).1, ho a ha⟩)
  exact ⟨F2, R3, S3, ht, fun a ha => ⟨hn a ha, R1.noNew (fun b hb => (pres b (R1.ownedAt hb).1).1) ha⟩⟩
theorem callG_ok {K : PySem.W.Frag} {m : FE} {E : XK} {σ : L2.St} {H H1 : Hp} {Q : VK} {F F1 : Hp} {ρ ρ1 ρ' : Ev} {hs : List Hd} {xs : List V} {h : Hd} (S1 : Stp ρ σ F H ρ1 σ F1 H1) (R1 : Rel K F1 ρ1 σ H1) (t : HdsRep F1 ρ1 σ (Fsh ρ σ H) H1 hs xs) (e2 : callG m hs ρ1 = some (h, ρ'))
    (kk : ∀ x F' H', Rel K F' ρ' σ H' → Stp ρ σ F H ρ' σ F' H' → HdRep F' ρ' σ H' h x → NewAt (Fsh ρ σ H) H' h x → Q x H') : spI K m xs H1 Q E := by
  simp only [callG, Option.bind_eq_some_iff] at e2
  obtain ⟨ds, e3, ⟨u, r'⟩, e4, e5⟩ := e2
  split at e5
  · rename_i hf
    cases e5
    have ca := curAll_ok R1 t e3
    have ra := frzA_curAll R1.sub (fun x hx => hx) ca
    have hr : isRdy u = true := by
      cases u with
      | s i => cases hf
      | v d => rfl
      | n d => rfl
      | t d => rfl
    refine ⟨frzA F1 H1 xs, fzs ds, u, r', rel_fzs (frzA_sub R1.sub) ra, e4, hr, fun x F' H' R' S' q n => ?_⟩
    have pres : ∀ a, H1 a ≠ none → H' a = H1 a ∧ F' a = frzA F1 H1 xs a := fun a ha => by
      obtain ⟨z1, z2, _⟩ := S'.pres a ha fun z => fzs_no z
      exact ⟨z1, z2⟩
    obtain ⟨F2, R3, S3, ht, hn⟩ := byval (r' := ρ1) R1 ca R'.sub pres
    exact kk x F2 H' R3 (S1.trans S3) (q.flatTo hf n ht hn) (n.up.back S1)
  · exact callN_ok S1 R1 t e5 kk
theorem sCall_ok {K : PySem.W.Frag} {m : FE} {io : Option Nat} {f : FA} {E : XK} : ∀ σ H Q, tI K (sCall m io f) σ H Q → tCall (spI K m) [] E (tIA K f) σ H Q := by
  rintro σ H Q ⟨F, ρ, h, ρ', R, e, kk⟩
  simp only [sCall, Option.bind_eq_some_iff] at e
  obtain ⟨⟨hs, ρ1⟩, e1, e2⟩ := e
  refine ⟨F, ρ, hs, ρ1, R, e1, fun xs F1 H1 R1 S1 t => ?_⟩
  show spI K m (xs ++ []) H1 Q E
  rw [List.append_nil]
  cases io with
  | none => exact callG_ok S1 R1 t e2 kk
  | some j =>
    simp only [callD, callJ, Option.bind_eq_some_iff] at e2
    obtain ⟨hj, e0, ⟨ds, ρ2⟩, e3, e4⟩ := e2
    have hlt : j < xs.length := by
      have := (List.getElem?_eq_some_iff.mp e0).1
      rw [t.len] at this; exact this
    have setx : ∀ {i : Nat} {g : Hd} {y : V}, (hs.set j (.v .none))[i]? = some g → (xs.set j .non)[i]? = some y → (i = j ∧ g = .v .none ∧ y = .non) ∨ (i ≠ j ∧ hs[i]? = some g ∧ xs[i]? = some y) := fun {i g y} g1 g2 => by
      rcases get_set _ _ _ _ _ g1 with ⟨rfl, z1, _⟩ | ⟨ne, z1⟩
      · rw [List.getElem?_set_self hlt] at g2
        cases g2; exact .inl ⟨rfl, z1, rfl⟩
      · rw [List.getElem?_set_ne ne] at g2
        exact .inr ⟨Ne.symm ne, z1, g2⟩
    have t2 : HdsRep F1 ρ1 σ (Fsh ρ σ H) H1 (hs.set j (.v .none)) (xs.set j .non) := by
      refine ⟨by rw [List.length_set, List.length_set]; exact t.len, fun i g y g1 g2 => ?_, fun i g y g1 g2 => ?_, fun i k g1 g2 y1 y2 a z1 z2 z3 z4 a1 a2 => ?_⟩
      · rcases setx g1 g2 with ⟨_, rfl, rfl⟩ | ⟨_, w1, w2⟩
        · exact .v .non
        · exact t.rep i g y w1 w2
      · rcases setx g1 g2 with ⟨_, rfl, rfl⟩ | ⟨_, w1, w2⟩
        · exact nw_v
        · exact t.nw i g y w1 w2
      · rcases setx z1 z3 with ⟨_, rfl, rfl⟩ | ⟨_, w1, w2⟩
        · exact a1.elim
        · rcases setx z2 z4 with ⟨_, rfl, rfl⟩ | ⟨_, w3, w4⟩
          · exact a2.elim
          · exact t.apart i k g1 g2 y1 y2 a w1 w3 w2 w4 a1 a2
    obtain ⟨F2, R2, S2, p2, x2, o2, f2⟩ := escAll_ok S1 R1 t2 e3
    obtain ⟨xj, hxj⟩ : ∃ xj, xs[j]? = some xj := ⟨xs[j], List.getElem?_eq_getElem hlt⟩
    have qj := t.rep j hj xj e0 hxj
    cases qj with
    | v q => cases e4
    | t q m => cases e4
    | @n d a o g1 g2 g3 g4 =>
      simp only [Option.bind_eq_some_iff] at e4
      obtain ⟨⟨u, r'⟩, e5, e6⟩ := e4
      split at e6
      · rename_i hr
        cases e6
        -- a fresh object handed in
        have ha := t.nw j _ _ e0 hxj a rfl
        have n2 := o2 a g3
        have fa : F2 a = none := f2 a g2 g3 fun i g y w1 w2 w3 => by
          rcases setx w1 w2 with ⟨_, rfl, rfl⟩ | ⟨ne, z1, z2⟩
          · exact w3
          · exact ne (t.apart i j g (.n d) y (.ref a) a z1 e0 z2 hxj w3 rfl)
        have Ra := rel_one (K := K) (s := .io d) R2.sub p2 hxj (.inl ⟨d, o, rfl, g1, fa, g4.mono x2⟩)
        refine ⟨F2, one j (.io d) ds, u, r', Ra, e5, hr, fun x F' H' R' S' q n => ?_⟩
        have kp : ∀ b, b ≠ a → H1 b ≠ none → H' b = H1 b ∧ F' b = F2 b := fun b hb hh => by
          obtain ⟨z1, z2, _⟩ := S'.pres b hh fun ho => hb (one_owned hxj (fun d z => by cases z) ho)
          exact ⟨z1, z2⟩
        obtain ⟨R3, S3⟩ := rel_but (p := a) R2 S2 S'.ext R'.sub kp S'.stay ha n2
        refine kk x F' H' R3 S3 (q.rdy hr fun b hb => R2.noNew (fun c hc => (kp c ?_ (R2.ownedAt hc).1).1) (n b hb)) (n.up.back S2)
        rintro rfl
        exact n2 hc
      · cases e6
    | @s k x q =>
      have own : ∀ d, ownD k ρ2 = some d → ((m (one j (.io d) ds)).bind fun u => if isRdy u.1 = true then (ioAt j u.2).bind fun d' => (setD k d' ρ2).map fun r' => (u.1, r') else none) = some (h, ρ') → spI K m xs H1 Q E := fun d hd e5 => by
        simp only [Option.bind_eq_some_iff] at e5
        obtain ⟨⟨u, r'⟩, e5, e6⟩ := e5
        split at e6
        · rename_i hr
          simp only [Option.bind_eq_some_iff, Option.map_eq_some_iff] at e6
          obtain ⟨d', e7, r3, e8, e9⟩ := e6
          cases e9
          obtain ⟨a, o, w1, w2, w3, w4⟩ := R2.own k d (ownD_at hd)
          rw [q] at w1; cases w1
          have Ra := rel_one (K := K) (s := .io d) R2.sub p2 hxj (.inl ⟨d, o, rfl, w2, w3, w4⟩)
          refine ⟨F2, one j (.io d) ds, _, r', Ra, e5, hr, fun x F' H' R' S' q' n => ?_⟩
          unfold ioAt at e7
          split at e7
          · rename_i hio
            cases e7
            obtain ⟨b, o', v1, v2, v3, v4⟩ := R'.own j _ (.inr hio)
            have := mapsome_of v1
            rw [hxj] at this; cases this
            have kp : ∀ b, b ≠ a → H1 b ≠ none → H' b = H1 b ∧ F' b = F2 b := fun b hb hh => by
              obtain ⟨z1, z2, _⟩ := S'.pres b hh fun ho => hb (one_owned hxj (fun d z => by cases z) ho)
              exact ⟨z1, z2⟩
            obtain ⟨R3, S3⟩ := rel_own R2 hd e8 q S'.ext R'.sub kp S'.stay v2 v3 v4
            refine kk x F' H' R3 (S2.trans S3) (q'.rdy hr fun b hb ho => ?_) (n.up.back S2)
            -- what the caller owns is none of the answer's new things
            rcases S3.old ho with z | z
            · have ho2 := setD_owned e8 ho
              obtain ⟨i, s, y, g1, g2, g3⟩ := ho2
              by_cases ik : i = k
              · subst ik
                rw [q] at g2; cases g2
                have hk := ownD_at hd
                rcases hk with hk | hk <;> (rw [hk] at g1; cases g1; cases g3; rw [w2] at z; cases z)
              · have g4 := ownA_back R2 g1 g2 (fun c hc => (kp c (by
                  rintro rfl
                  obtain ⟨sk, z1, z2⟩ := (ownD_at hd).a
                  exact ik (R2.dja i k s sk y _ _ g1 z1 g2 q hc (z2 H1 _))) (R2.ownA g1 g2 hc).1).1) g3
                exact (R2.ownA g1 g2 g4).1 z
            · exact (R2.ownedAt z).1 (n b hb)
          · cases e7
        · cases e6
      dsimp only at e4
      split at e4
      · rename_i ns hns
        simp only [Option.bind_eq_some_iff] at e4
        obtain ⟨⟨u, r'⟩, e5, e6⟩ := e4
        split at e6
        · rename_i hr
          cases e6
          obtain ⟨a, w1, w2⟩ := R2.scr k ns hns
          rw [q] at w1; cases w1
          have Ra := rel_one (K := K) (s := .sc ns) R2.sub p2 hxj (.inr ⟨ns, rfl, w2⟩)
          refine ⟨F2, one j (.sc ns) ds, u, r', Ra, e5, hr, fun x F' H' R' S' q' n => ?_⟩
          have kp : ∀ b, H1 b ≠ none → H' b = H1 b ∧ F' b = F2 b := fun b hh => by
            obtain ⟨z1, z2, _⟩ := S'.pres b hh fun ⟨i, s, y, g1, g2, g3⟩ => by
              rcases one_get g1 with ⟨_, z, _⟩ | ⟨_, _, _, z⟩ <;> (subst z; exact g3.elim)
            exact ⟨z1, z2⟩
          obtain ⟨R3, S3⟩ := R2.grow S'.ext R'.sub kp
          exact kk x F' H' R3 (S2.trans S3) (q'.rdy hr fun b hb => R2.noNew (fun c hc => (kp c (R2.ownedAt hc).1).1) (n b hb)) (n.up.back S2)
        · cases e6
      · rename_i d hd
        exact own d (by unfold ownD; rw [hd]) e4
      · rename_i d hd
        exact own d (by unfold ownD; rw [hd]) e4
      · cases e4
end TL

namespace TL
open PySem PySem.Spec PyProof.Rows L2

/-! ### comprehensions -/
def wipeR (r : Ev) : List Nat → Ev
  | [] => r
  | v :: vs => (wipeR r vs).set v none
theorem wipeR_len (r : Ev) : ∀ vs : List Nat, (wipeR r vs).length = r.length
  | [] => rfl
  | v :: vs => by unfold wipeR; rw [List.length_set, wipeR_len r vs]
theorem wipeR_get {r : Ev} {i : Nat} {s : Slt} : ∀ {vs : List Nat}, (wipeR r vs)[i]? = some (some s) → r[i]? = some (some s) ∧ i ∉ vs
  | [], h => ⟨h, by simp⟩
  | v :: vs, h => by
    unfold wipeR at h
    rcases get_set _ _ _ _ _ h with ⟨_, z, _⟩ | ⟨ne, h⟩
    · cases z
    · obtain ⟨h1, h2⟩ := wipeR_get h
      exact ⟨h1, by simp only [List.mem_cons, not_or]; exact ⟨fun e => ne e.symm, h2⟩⟩
theorem wipeR_out {r : Ev} {i : Nat} : ∀ {vs : List Nat}, i ∉ vs → (wipeR r vs)[i]? = r[i]?
  | [], _ => rfl
  | v :: vs, h => by
    simp only [List.mem_cons, not_or] at h
    unfold wipeR
    rw [List.getElem?_set_ne (fun e => h.1 e.symm), wipeR_out h.2]
theorem wipe_out' {σ : L2.St} {i : Nat} : ∀ {vs : List Nat}, i ∉ vs → (wipe σ vs)[i]? = σ[i]?
  | [], _ => rfl
  | v :: vs, h => by
    simp only [List.mem_cons, not_or] at h
    unfold wipe
    rw [List.getElem?_set_ne (fun e => h.1 e.symm), wipe_out' h.2]
theorem wipe_in {σ : L2.St} {i : Nat} : ∀ {vs : List Nat}, i ∈ vs → i < σ.length → (wipe σ vs)[i]? = some none
  | [], h, _ => by simp at h
  | v :: vs, h, hl => by
    unfold wipe
    by_cases e : v = i
    · subst e
      rw [List.getElem?_set_self (by rw [wipe_length]; exact hl)]
    · rw [List.getElem?_set_ne e]
      exact wipe_in ((List.mem_cons.mp h).resolve_left fun z => e z.symm) hl
theorem wipe_eq {σ σ' : L2.St} {vs : List Nat} (hl : σ'.length = σ.length) (h : ∀ i, i ∉ vs → σ'[i]? = σ[i]?) : wipe σ' vs = wipe σ vs := by
  apply List.ext_getElem?
  intro i
  by_cases hi : i ∈ vs
  · by_cases hlt : i < σ.length
    · rw [wipe_in hi (by rw [hl]; exact hlt), wipe_in hi hlt]
    · rw [List.getElem?_eq_none (by rw [wipe_length]; omega), List.getElem?_eq_none (by rw [wipe_length]; omega)]
  · rw [wipe_out' hi, wipe_out' hi, h i hi]
theorem setAll_len : ∀ {is : List Nat} {xs : List V} {σ : L2.St}, (setAll σ is xs).length = σ.length
  | [], _, _ => rfl
  | _ :: _, [], _ => rfl
  | i :: is, x :: xs, σ => by unfold setAll; rw [setAll_len, List.length_set]
theorem setAll_out : ∀ {is : List Nat} {xs : List V} {σ : L2.St} {i : Nat}, i ∉ is → (setAll σ is xs)[i]? = σ[i]?
  | [], _, _, _, _ => rfl
  | _ :: _, [], _, _, _ => rfl
  | j :: is, x :: xs, σ, i, h => by
    simp only [List.mem_cons, not_or] at h
    unfold setAll
    rw [setAll_out h.2, List.getElem?_set_ne fun e => h.1 e.symm]
theorem wipe_setAll {σ : L2.St} {own is : List Nat} {xs : List V} (hs : ∀ i ∈ is, i ∈ own) : wipe (setAll (wipe σ own) is xs) own = wipe σ own :=
  wipe_eq (by rw [setAll_len, wipe_length]) fun i hi => by rw [setAll_out fun z => hi (hs i z), wipe_out' hi]
theorem wiped_get {r : Ev} {σ : L2.St} {own : List Nat} {j : Nat} {s : Slt} {x : V} (h1 : (wipeR r own)[j]? = some (some s)) (h2 : (L2.wipe σ own)[j]? = some (some x)) : r[j]? = some (some s) ∧ σ[j]? = some (some x) ∧ j ∉ own := by
  obtain ⟨a, b⟩ := wipeR_get h1
  rw [wipe_out' b] at h2
  exact ⟨a, h2, b⟩
theorem wiped_no {r : Ev} {σ : L2.St} {own : List Nat} {H : Hp} {a : Addr} (n : ¬ Owned r σ H a) : ¬ Owned (wipeR r own) (L2.wipe σ own) H a := fun ⟨j, s, x, h1, h2, h3⟩ => by
  obtain ⟨w1, w2, _⟩ := wiped_get h1 h2
  exact n ⟨j, s, x, w1, w2, h3⟩
theorem Rel.wipe {K : PySem.W.Frag} {F H : Hp} {r : Ev} {σ : L2.St} (R : Rel K F r σ H) (own : List Nat) : Rel K F (wipeR r own) (L2.wipe σ own) H := by
  refine ⟨R.sub, by rw [wipeR_len, wipe_length]; exact R.len, fun i d h => ?_, fun i d h => ?_, fun i d h => ?_, fun i ns h => ?_, fun i ns h => ?_, fun i j s t x y a h1 h2 e1 e2 o1 o2 => ?_⟩
  · obtain ⟨h1, h2⟩ := wipeR_get h
    rw [wipe_out' h2]; exact R.fz i d h1
  · have : OwnAt r i d ∧ i ∉ own := by
      rcases h with h | h
      · exact ⟨.inl (wipeR_get h).1, (wipeR_get h).2⟩
      · exact ⟨.inr (wipeR_get h).1, (wipeR_get h).2⟩
    rw [wipe_out' this.2]; exact R.own i d this.1
  · obtain ⟨h1, h2⟩ := wipeR_get h
    rw [wipe_out' h2]; exact R.tr i d h1
  · obtain ⟨h1, h2⟩ := wipeR_get h
    rw [wipe_out' h2]; exact R.scr i ns h1
  · obtain ⟨h1, h2⟩ := wipeR_get h
    rw [wipe_out' h2]; exact R.xc i ns h1
  · obtain ⟨g1, f1, _⟩ := wiped_get h1 e1
    obtain ⟨g2, f2, _⟩ := wiped_get h2 e2
    exact R.dja i j s t x y a g1 g2 f1 f2 o1 o2
def noIo (r : Ev) (own : List Nat) : Bool := own.all fun i => !isIo r[i]?
theorem Stp.wipe {r r1 : Ev} {σ σ1 : L2.St} {F F1 H H1 : Hp} {own : List Nat} (S : Stp r σ F H r1 σ1 F1 H1) (hn : noIo r own = true) : Stp r σ F H (wipeR r1 own) (L2.wipe σ1 own) F1 H1 := by
  refine ⟨S.ext, fun a ha ho => ?_, fun i d h => ?_, S.stay, by rw [wipe_length]; exact S.sl⟩
  · obtain ⟨q1, q2, q3⟩ := S.pres a ha ho
    exact ⟨q1, q2, wiped_no q3⟩
  · obtain ⟨d', q1, q2⟩ := S.io i d h
    have ni : i ∉ own := fun hi => by
      have := List.all_eq_true.mp hn i hi
      rw [h] at this
      cases this
    exact ⟨d', by rw [wipeR_out ni]; exact q1, by rw [wipe_out' ni]; exact q2⟩
/-- the slots of the block's own names as they stood, where that is known -/
def restore (r0 r : Ev) : List Nat → Ev
  | [] => r
  | v :: vs => match r0[v]? with
    | some (some (.fz d)) => (restore r0 r vs).set v (some (.fz d))
    | _ => (restore r0 r vs).set v none
theorem restore_get {r0 r : Ev} {i : Nat} {s : Slt} : ∀ {vs : List Nat}, (restore r0 r vs)[i]? = some (some s) → (i ∉ vs ∧ r[i]? = some (some s)) ∨ (r0[i]? = some (some s) ∧ ∃ d, s = .fz d)
  | [], h => .inl ⟨by simp, h⟩
  | v :: vs, h => by
    unfold restore at h
    split at h
    · rename_i d hd
      rcases get_set _ _ _ _ _ h with ⟨rfl, z, _⟩ | ⟨ne, h⟩
      · cases z; exact .inr ⟨hd, d, rfl⟩
      · rcases restore_get h with ⟨h1, h2⟩ | h
        · exact .inl ⟨by simp only [List.mem_cons, not_or]; exact ⟨fun e => ne e.symm, h1⟩, h2⟩
        · exact .inr h
    · rcases get_set _ _ _ _ _ h with ⟨rfl, z, _⟩ | ⟨ne, h⟩
      · cases z
      · rcases restore_get h with ⟨h1, h2⟩ | h
        · exact .inl ⟨by simp only [List.mem_cons, not_or]; exact ⟨fun e => ne e.symm, h1⟩, h2⟩
        · exact .inr h
theorem restore_len {r0 r : Ev} : ∀ vs : List Nat, (restore r0 r vs).length = r.length
  | [] => rfl
  | v :: vs => by
    unfold restore
    split <;> rw [List.length_set, restore_len vs]
theorem restore_out {r0 r : Ev} {i : Nat} : ∀ {vs : List Nat}, i ∉ vs → (restore r0 r vs)[i]? = r[i]?
  | [], _ => rfl
  | v :: vs, h => by
    simp only [List.mem_cons, not_or] at h
    unfold restore
    split <;> rw [List.getElem?_set_ne (fun e => h.1 e.symm), restore_out h.2]
theorem restored_get {r0 r : Ev} {σ : L2.St} {own : List Nat} {j : Nat} {s : Slt} {x : V} {H : Hp} {a : Addr} (h1 : (TL.restore r0 r own)[j]? = some (some s)) (h2 : σ[j]? = some (some x)) (h3 : OwnA H s x a) : r[j]? = some (some s) ∧ (L2.wipe σ own)[j]? = some (some x) ∧ j ∉ own := by
  rcases restore_get h1 with ⟨w1, w2⟩ | ⟨_, d', z⟩
  · exact ⟨w2, by rw [wipe_out' w1]; exact h2, w1⟩
  · subst z; exact h3.elim
theorem restored_no {r0 r : Ev} {σ : L2.St} {own : List Nat} {H : Hp} {a : Addr} (n : ¬ Owned r (L2.wipe σ own) H a) : ¬ Owned (TL.restore r0 r own) σ H a := fun ⟨j, s, x, h1, h2, h3⟩ => by
  obtain ⟨w1, w2, _⟩ := restored_get h1 h2 h3
  exact n ⟨j, s, x, w1, w2, h3⟩
theorem Rel.restore {K : PySem.W.Frag} {F0 F H0 H : Hp} {r0 r : Ev} {σ : L2.St} {own : List Nat} (R0 : Rel K F0 r0 σ H0) (R : Rel K F r (L2.wipe σ own) H) (ext : Ext F0 F) : Rel K F (restore r0 r own) σ H := by
  have ow : ∀ {i d}, OwnAt (TL.restore r0 r own) i d → OwnAt r i d ∧ i ∉ own := fun {i d} h => by
    rcases h with h | h
    · rcases restore_get h with ⟨h1, h2⟩ | ⟨_, d', z⟩
      · exact ⟨.inl h2, h1⟩
      · cases z
    · rcases restore_get h with ⟨h1, h2⟩ | ⟨_, d', z⟩
      · exact ⟨.inr h2, h1⟩
      · cases z
  refine ⟨R.sub, by rw [restore_len, R.len, wipe_length], fun i d h => ?_, fun i d h => ?_, fun i d h => ?_, fun i ns h => ?_, fun i ns h => ?_, fun i j s t x y a h1 h2 e1 e2 o1 o2 => ?_⟩
  · rcases restore_get h with ⟨h1, h2⟩ | ⟨h1, _⟩
    · obtain ⟨v, q1, q2⟩ := R.fz i d h2
      rw [wipe_out' h1] at q1
      exact ⟨v, q1, q2⟩
    · obtain ⟨v, q1, q2⟩ := R0.fz i d h1
      exact ⟨v, q1, q2.mono ext⟩
  · obtain ⟨h1, h2⟩ := ow h
    obtain ⟨a, o, q1, q2⟩ := R.own i d h1
    rw [wipe_out' h2] at q1
    exact ⟨a, o, q1, q2⟩
  · rcases restore_get h with ⟨h1, h2⟩ | ⟨_, d', z⟩
    · obtain ⟨x, fp, q1, q2⟩ := R.tr i d h2
      rw [wipe_out' h1] at q1
      exact ⟨x, fp, q1, q2⟩
    · cases z
  · rcases restore_get h with ⟨h1, h2⟩ | ⟨_, d', z⟩
    · obtain ⟨a, q1, q2⟩ := R.scr i ns h2
      rw [wipe_out' h1] at q1
      exact ⟨a, q1, q2⟩
    · cases z
  · rcases restore_get h with ⟨h1, h2⟩ | ⟨_, d', z⟩
    · obtain ⟨a, q1, q2⟩ := R.xc i ns h2
      rw [wipe_out' h1] at q1
      exact ⟨a, q1, q2⟩
    · cases z
  · obtain ⟨g1, f1, _⟩ := restored_get h1 e1 o1
    obtain ⟨g2, f2, _⟩ := restored_get h2 e2 o2
    exact R.dja i j s t x y a g1 g2 f1 f2 o1 o2
theorem Stp.restore {r0 r : Ev} {σ : L2.St} {F0 F H0 H : Hp} {own : List Nat} (S : Stp r0 σ F0 H0 r (L2.wipe σ own) F H) (hn : noIo r0 own = true) : Stp r0 σ F0 H0 (restore r0 r own) σ F H := by
  refine ⟨S.ext, fun a ha ho => ?_, fun i d h => ?_, S.stay, rfl⟩
  · obtain ⟨q1, q2, q3⟩ := S.pres a ha ho
    exact ⟨q1, q2, restored_no q3⟩
  · obtain ⟨d', q1, q2⟩ := S.io i d h
    have ni : i ∉ own := fun hi => by
      have := List.all_eq_true.mp hn i hi
      rw [h] at this
      cases this
    exact ⟨d', by rw [restore_out ni]; exact q1, rfl⟩
/-- the loop of a comprehension: what is made, and the slots -/
def lcD (own : List Nat) (bd : PyData → Ev → Option Ev) (c : FT) (elt : FE) : List PyData → Ev → List PyData → Option (List PyData × Ev)
  | [], r, acc => some (acc, r)
  | d :: ds, r, acc => (bd d r).bind fun r1 => (c r1).bind fun p => if p.1 = true then
      (elt p.2).bind fun q => (esc q.1 q.2).bind fun u => if acc.length < 16000000 then lcD own bd c elt ds (wipeR u.2 own) (acc ++ [u.1]) else none
    else lcD own bd c elt ds (wipeR p.2 own) acc
def cYes : FT := fun r => some (true, r)
def sLc (own : List Nat) (src : FW) (bd : PyData → Ev → Option Ev) (c : FT) (elt : FE) : FE := fun r => (src r).bind fun p => if noIo p.2 own = true then (lcD own bd c elt p.1 (wipeR p.2 own) []).map fun q => (.n (.list q.1), restore p.2 q.2 own) else none
theorem sLc_ok {K : PySem.W.Frag} {own is : List Nat} {src : FW} {g : TG} {bd : PyData → Ev → Option Ev} {c : FT} {elt : FE} (hb : BdOk K is g bd) (hs : ∀ i ∈ is, i ∈ own) :
    ∀ σ H Q, tI K (sLc own src bd c elt) σ H Q → tLc (tIW K src) g (tIT K c) (tI K elt) own σ H Q := by
  rintro σ H Q ⟨F, ρ, h, ρ', R, e, kk⟩
  simp only [sLc, Option.bind_eq_some_iff] at e
  obtain ⟨⟨ds, ρ1⟩, e1, e2⟩ := e
  split at e2
  · rename_i hio
    rw [Option.map_eq_some_iff] at e2
    obtain ⟨⟨res, ρe⟩, e3, e4⟩ := e2
    cases e4
    refine ⟨F, ρ, ds, ρ1, R, e1, fun J F1 H1 R1 S1 I D hD => ?_⟩
    refine ⟨fun i m H' => ∃ F' r' vs acc, Rel K F' r' (L2.wipe σ own) H' ∧ Stp ρ1 σ F1 H1 r' (L2.wipe σ own) F' H' ∧ H' D = some (.lst vs) ∧ F' D = none ∧ ¬ Owned r' (L2.wipe σ own) H' D ∧ RpAll F' vs acc ∧ m = ds.length - i ∧ i ≤ ds.length ∧ lcD own bd c elt (ds.drop i) r' acc = some (res, ρe), ⟨ds.length, ?_⟩, ?_⟩
    · obtain ⟨R2, S2⟩ := R1.grow (Ext.refl F1) (H' := upd H1 D (.lst [])) (R1.sub.trans (Ext.new hD)) (fun a ha => ⟨upd_ne fun z => ha (z ▸ hD), rfl⟩)
      refine ⟨F1, wipeR ρ1 own, [], [], R2.wipe own, S2.wipe hio, upd_same, fnone R1.sub hD, wiped_no (R2.noNewUpd R1 hD), .nil, rfl, Nat.zero_le _, e3⟩
    · rintro i m H' ⟨F', r', vs, acc, R', S', hv, fD, nO, ra, rfl, hi, hl⟩
      by_cases hlt : i < ds.length
      · have hd : ds.drop i = ds[i] :: ds.drop (i + 1) := by rw [List.drop_eq_getElem_cons hlt]
        rw [hd] at hl
        simp only [lcD, Option.bind_eq_some_iff] at hl
        obtain ⟨r2, l1, ⟨b, r3⟩, l2, l3⟩ := hl
        refine .inr ⟨I.go i F' H' S'.ext R'.sub hlt, fun H3 => ∃ F3 r3 vs acc, Rel K F3 r3 (L2.wipe σ own) H3 ∧ Stp ρ1 σ F1 H1 r3 (L2.wipe σ own) F3 H3 ∧ H3 D = some (.lst vs) ∧ F3 D = none ∧ ¬ Owned r3 (L2.wipe σ own) H3 D ∧ RpAll F3 vs acc ∧ lcD own bd c elt (ds.drop (i + 1)) r3 acc = some (res, ρe),
          fun H3 ⟨F3, r3, vs3, acc3, a1, a2, a3, a4, a5, a6, a7⟩ => ⟨ds.length - (i + 1), by omega, F3, r3, vs3, acc3, a1, a2, a3, a4, a5, a6, rfl, hlt, a7⟩, fun x H2 y => ?_⟩
        obtain ⟨F2, A⟩ := I.yld i F' H' x H2 ds[i] S'.ext R'.sub y (List.getElem?_eq_getElem hlt)
        obtain ⟨R2, S2⟩ := R'.grow A.ext A.sub A.keep
        cases A.val with
        | v q =>
          obtain ⟨xs, R3, S3, hQ⟩ := hb F2 H2 r' r2 (L2.wipe σ own) ds[i] x R2 q l1
          have hw : L2.wipe (setAll (L2.wipe σ own) is xs) own = L2.wipe σ own := wipe_setAll hs
          refine hQ _ ⟨hw, F2, r2, b, r3, R3, l2, fun F4 H4 R4 S4 => ?_⟩
          have S5 := (S2.trans S3).trans S4
          obtain ⟨d1, d2, d3⟩ := S5.pres D (by rw [hv]; simp) nO
          cases b with
          | false =>
            rw [if_neg Bool.false_ne_true] at l3
            refine iteF ?_
            have Rw := R4.wipe own
            have Sw := (S'.trans S5).wipe hio
            rw [hw] at Rw Sw
            refine ⟨F4, wipeR r3 own, vs, acc, Rw, Sw, d1.trans hv, d2.trans fD, hw ▸ wiped_no (own := own) d3, ra.mono S5.ext, l3⟩
          | true =>
            rw [if_pos rfl] at l3
            refine iteT ?_
            simp only [Option.bind_eq_some_iff] at l3
            obtain ⟨⟨he, r5⟩, l4, ⟨de, r6⟩, l5, l6⟩ := l3
            split at l6
            · rename_i hlen
              refine ⟨F4, r3, he, r5, R4, l4, fun ye F5 H5 R5 S6 q6 n6 => ?_⟩
              have S7 := S5.trans S6
              obtain ⟨F6, R6, S8, p6, x6, o6, f6⟩ := esc_ok S6 R5 q6 n6 l5
              have S9 := S5.trans S8
              obtain ⟨d4, d5, d6⟩ := S9.pres D (by rw [hv]; simp) nO
              have hD5 : H5 D = some (.lst vs) := d4.trans hv
              refine ⟨vs, hD5, lim_lt (by rw [(ra.length)]; exact hlen), ?_⟩
              -- the list grows
              have F6D : F6 D = none := d5.trans fD
              obtain ⟨Rg, Sg, Ng⟩ := rel_at (o := .lst (vs ++ [ye])) R6 (S'.trans S9) (.inl hD) F6D d6
              have Rw := Rg.wipe own
              have Sw := Sg.wipe hio
              rw [hw] at Rw Sw
              refine ⟨F6, wipeR r6 own, vs ++ [ye], acc ++ [de], Rw, Sw, upd_same, F6D, hw ▸ wiped_no (own := own) (Ng D d6), (ra.mono S9.ext).append (.cons p6 .nil), l6⟩
            · cases l6
      · have hd : ds.drop i = [] := List.drop_eq_nil_of_le (by omega)
        rw [hd] at hl
        cases hl
        refine .inl ⟨I.stop i F' H' S'.ext R'.sub (by omega), ?_⟩
        have Rr := Rel.restore R1 R' S'.ext
        have Sr := S'.restore hio
        refine kk (.ref D) F' H' Rr (S1.trans Sr) (.n hv fD (restored_no nO) (.lst ra)) fun a ea => ?_
        cases ea
        exact Fsh.back (.inl hD) S1
  · cases e2
abbrev STs (X : Cx) (ifs : List Expr) (f : FT) : Prop := PTs X ifs (tIT X.K f)
section
variable {X : Cx} {c : Expr} {f : FT}
theorem sts_nil : STs X [] cYes := ⟨fun pins s σ H Q I ⟨F, r, b, r', R, e, k⟩ => by
  cases e
  exact pts_nil.run pins s σ H Q I (k F H R (Stp.refl ..))⟩
theorem sts_one (h : ST X c f) : STs X [c] f := pts_one h
end
section
variable {X : Cx} {elt tg iter : Expr} {ifs : List Expr} {scope : Scope} {own : List (Str × Nat)} {pos : Pos} {src : FW} {is : List Nat} {g : TG} {bd : PyData → Ev → Option Ev} {c : FT} {fe : FE}
theorem se_lc (hN : X.N.Nodup) (hi : SI X tg iter src) (ok : BlkOk X.N X.env.scope scope own) (hb : BdOk X.K is g bd) (hs : ∀ i ∈ is, i ∈ own.map (·.2))
    (hg : ∀ (s : Shared) (H : Hp) (C : Addr) (cl : List (Str × Addr)) (fp : List Addr), PG (X.blk s H scope (compEnvC scope cl C X.env) fp) tg g) (ht : ∀ (s : Shared) (H : Hp) (C : Addr) (cl : List (Str × Addr)) (fp : List Addr), STs (X.blk s H scope (compEnvC scope cl C X.env) fp) ifs c)
    (he : ∀ (s : Shared) (H : Hp) (C : Addr) (cl : List (Str × Addr)) (fp : List Addr), SE (X.blk s H scope (compEnvC scope cl C X.env) fp) elt fe) (hc : X.calm = true := by rfl) (hf : ∀ x, foldedSetIterable iter X.env x = pure x := by intro _; rfl) :
    SE X (.ListComp elt [⟨tg, iter, ifs, 0⟩] scope pos) (sLc (own.map (·.2)) src bd c fe) := PEimp (pe_lc hc hN hi ok hg ht he hf) (sLc_ok hb hs)
theorem ss_setLc {y : Str} {py spos : Pos} (i : Nat) (hN : X.N.Nodup) (hi : SI X tg iter src) (ok : BlkOk X.N X.env.scope scope own) (hb : BdOk X.K is g bd) (hs : ∀ i ∈ is, i ∈ own.map (·.2))
    (hg : ∀ (s : Shared) (H : Hp) (C : Addr) (cl : List (Str × Addr)) (fp : List Addr), PG (X.blk s H scope (compEnvC scope cl C X.env) fp) tg g) (ht : ∀ (s : Shared) (H : Hp) (C : Addr) (cl : List (Str × Addr)) (fp : List Addr), STs (X.blk s H scope (compEnvC scope cl C X.env) fp) ifs c)
    (he : ∀ (s : Shared) (H : Hp) (C : Addr) (cl : List (Str × Addr)) (fp : List Addr), SE (X.blk s H scope (compEnvC scope cl C X.env) fp) elt fe)
    (hsw : swapsWith (.ListComp elt [⟨tg, iter, ifs, 0⟩] scope pos) (some (.Name y py)) spos.line X.env = pure true) (hy : X.N[i]? = some y := by rfl) (hyl : X.env.scope.names.lookup y = some .local := by rfl) (hc : X.calm = true := by rfl) (hf : ∀ x, foldedSetIterable iter X.env x = pure x := by intro _; rfl) :
    SS X (.Assign [.Name y py] (.ListComp elt [⟨tg, iter, ifs, 0⟩] scope pos) spos) (fAsg i (sLc (own.map (·.2)) src bd c fe)) :=
  PSimp (ps_setLc hc hN hy hyl hsw hi ok hg ht he hf) fun D σ H q => by
    have z := fAsg_ok D σ H q
    exact sLc_ok hb hs σ H _ z
end
end TL

namespace TL
open PySem PySem.Spec PyProof.Rows L2

/-! ### calls with keywords -/
theorem perm_rep {F : Hp} {r : Ev} {σ : L2.St} {H0 : Addr → Prop} {H : Hp} {hs : List Hd} {xs : List V} {pm : List Nat} (t : HdsRep F r σ H0 H hs xs) (nd : pm.Nodup) (hl : ∀ i ∈ pm, i < hs.length) :
    HdsRep F r σ H0 H (pm.map fun i => hs.getD i (.v .none)) (pm.map fun i => xs.getD i .non) := by
  have at1 : ∀ {j : Nat} {h : Hd}, (pm.map fun i => hs.getD i (.v .none))[j]? = some h → ∃ i, pm[j]? = some i ∧ hs[i]? = some h := fun {j h} e => by
    rw [List.getElem?_map, Option.map_eq_some_iff] at e
    obtain ⟨i, h1, h2⟩ := e
    have := hl i (List.mem_of_getElem? h1)
    rw [List.getD_eq_getElem?_getD, List.getElem?_eq_getElem this] at h2
    exact ⟨i, h1, by rw [List.getElem?_eq_getElem this]; exact congrArg some h2⟩
  have at2 : ∀ {j : Nat} {x : V} {i : Nat}, pm[j]? = some i → (pm.map fun i => xs.getD i .non)[j]? = some x → xs[i]? = some x := fun {j x i} h1 e => by
    rw [List.getElem?_map, h1] at e
    have := hl i (List.mem_of_getElem? h1)
    rw [t.len] at this
    rw [Option.map_some, List.getD_eq_getElem?_getD, List.getElem?_eq_getElem this] at e
    rw [List.getElem?_eq_getElem this]; exact e
  refine ⟨by rw [List.length_map, List.length_map], fun j h x e1 e2 => ?_, fun j h x e1 e2 => ?_, fun i j d e y1 y2 a e1 e2 e3 e4 a1 a2 => ?_⟩
  · obtain ⟨i, h1, h2⟩ := at1 e1
    exact t.rep i h x h2 (at2 h1 e2)
  · obtain ⟨i, h1, h2⟩ := at1 e1
    exact t.nw i h x h2 (at2 h1 e2)
  · obtain ⟨i1, h1, h2⟩ := at1 e1
    obtain ⟨i2, h3, h4⟩ := at1 e2
    have := t.apart i1 i2 d e y1 y2 a h2 h4 (at2 h1 e3) (at2 h3 e4) a1 a2
    subst this
    exact nd_ix nd h1 h3
def sCallK (m : FE) (pm : List Nat) (f g : FA) : FE := fun r => (f r).bind fun p => (g p.2).bind fun q => if pm.Nodup ∧ pm.all (fun i => decide (i < (p.1 ++ q.1).length)) = true then callG m (pm.map fun i => (p.1 ++ q.1).getD i (.v .none)) q.2 else none
theorem HdsRep.append {F F1 : Hp} {r r1 r2 : Ev} {σ : L2.St} {H H1 H2 F2 : Hp} {hs hs2 : List Hd} {xs xs2 : List V} (S1 : Stp r σ F H r1 σ F1 H1) (t : HdsRep F1 r1 σ (Fsh r σ H) H1 hs xs) (S2 : Stp r1 σ F1 H1 r2 σ F2 H2) (t2 : HdsRep F2 r2 σ (Fsh r1 σ H1) H2 hs2 xs2) : HdsRep F2 r2 σ (Fsh r σ H) H2 (hs ++ hs2) (xs ++ xs2) := by
  have hlen := t.len
  have ex : ∀ {j : Nat} {h : Hd} {x : V} {a : Addr}, hs[j]? = some h → xs[j]? = some x → HdA H2 h x a → Fsh r1 σ H1 a → False := fun {j h x a} e1 e2 ha f => f.elim ((t.rep j _ _ e1 e2).at ((t.rep j _ _ e1 e2).aback S2 ha)).1 ((t.rep j _ _ e1 e2).at ((t.rep j _ _ e1 e2).aback S2 ha)).2.2
  have sp : ∀ {α : Type} {l l2 : List α} {j : Nat} {x : α}, (l ++ l2)[j]? = some x → (j < l.length ∧ l[j]? = some x) ∨ (l.length ≤ j ∧ l2[j - l.length]? = some x) := fun {α l l2 j x} h => by
    by_cases hj : j < l.length
    · rw [List.getElem?_append_left hj] at h; exact .inl ⟨hj, h⟩
    · rw [List.getElem?_append_right (by omega)] at h; exact .inr ⟨by omega, h⟩
  refine ⟨by rw [List.length_append, List.length_append, hlen, t2.len], fun j h x e1 e2 => ?_, fun j h x e1 e2 => ?_, fun i j d e y1 y2 a e1 e2 e3 e4 a1 a2 => ?_⟩
  · rcases sp e1 with ⟨l1, e1⟩ | ⟨l1, e1⟩ <;> rcases sp e2 with ⟨l2, e2⟩ | ⟨l2, e2⟩ <;> first | omega | skip
    · exact (t.rep j h x e1 e2).step S2
    · rw [← hlen] at e2; exact t2.rep _ h x e1 e2
  · rcases sp e1 with ⟨l1, e1⟩ | ⟨l1, e1⟩ <;> rcases sp e2 with ⟨l2, e2⟩ | ⟨l2, e2⟩ <;> first | omega | skip
    · exact (t.nw j h x e1 e2).fwd (t.rep j h x e1 e2) S2
    · rw [← hlen] at e2; exact (t2.nw _ h x e1 e2).back S1
  · rcases sp e1 with ⟨l1, e1⟩ | ⟨l1, e1⟩ <;> rcases sp e2 with ⟨l2, e2⟩ | ⟨l2, e2⟩ <;> rcases sp e3 with ⟨l3, e3⟩ | ⟨l3, e3⟩ <;> rcases sp e4 with ⟨l4, e4⟩ | ⟨l4, e4⟩ <;> first | omega | skip
    · exact t.apart i j d e y1 y2 a e1 e2 e3 e4 ((t.rep i d y1 e1 e3).aback S2 a1) ((t.rep j e y2 e2 e4).aback S2 a2)
    · rw [← hlen] at e4
      exact (ex e1 e3 a1 (t2.nw _ _ _ e2 e4 a a2)).elim
    · rw [← hlen] at e3
      exact (ex e2 e4 a2 (t2.nw _ _ _ e1 e3 a a1)).elim
    · rw [← hlen] at e3 e4
      have := t2.apart _ _ d e y1 y2 a e1 e2 e3 e4 a1 a2
      omega
def gvP (pm : List Nat) (vs zs : List V) : List V := pm.map fun i => (vs ++ zs).getD i .non
def guP (pm : List Nat) (us ws : List Value) : List Value := pm.map fun i => (us ++ ws).getD i .none
theorem gv_rel (pm : List Nat) {vs : List V} {us : List Value} {zs : List V} {ws : List Value} (r1 : Vals vs us) (r2 : Vals zs ws) : Vals (gvP pm vs zs) (guP pm us ws) := by
  have r := r1.append r2
  unfold gvP guP
  induction pm with
  | nil => exact .nil
  | cons i pm ih =>
    rw [List.map_cons, List.map_cons]
    refine .cons ?_ ih
    rw [List.getD_eq_getElem?_getD, List.getD_eq_getElem?_getD]
    cases h : (vs ++ zs)[i]? with
    | none => rw [r.none_of h]; rfl
    | some x =>
      obtain ⟨u, h1, h2⟩ := r.get h
      rw [h1]; exact h2
theorem sCallK_ok {K : PySem.W.Frag} {m : FE} {pm : List Nat} {f g : FA} {E : XK} : ∀ σ H Q, tI K (sCallK m pm f g) σ H Q → tCallK (spI K m) (gvP pm) E (tIA K f) (tIA K g) σ H Q := by
  rintro σ H Q ⟨F, ρ, h, ρ', R, e, kk⟩
  simp only [sCallK, Option.bind_eq_some_iff] at e
  obtain ⟨⟨hs, ρ1⟩, e1, ⟨hs2, ρ2⟩, e2, e3⟩ := e
  split at e3
  · rename_i hc
    refine ⟨F, ρ, hs, ρ1, R, e1, fun xs F1 H1 R1 S1 t => ⟨F1, ρ1, hs2, ρ2, R1, e2, fun xs2 F2 H2 R2 S2 t2 => ?_⟩⟩
    have tt := HdsRep.append S1 t S2 t2
    exact callG_ok (S1.trans S2) R2 (perm_rep tt hc.1 fun i hi => by simpa using List.all_eq_true.mp hc.2 i hi) e3 kk
  · cases e3
abbrev SK (X : Cx) (kws : List Keyword) (f : FA) : Prop := PK X kws (tIA X.K f)
section
variable {X : Cx} {e : Expr} {kws : List Keyword} {f : FE} {g : FA} {nm : Option Str} {kpos : Pos}
theorem PKimp {t t' : TA} (h : PK X kws t) (w : ∀ σ H Q, t' σ H Q → t σ H Q) : PK X kws t' := ⟨fun pos pins s σ H Q I q => h.run pos pins s σ H Q I (w σ H Q q)⟩
theorem sk_nil : SK X [] aNil := PKimp pk_nil fun σ H Q ⟨F, r, hs, r', R, e, k⟩ => by
  cases e
  exact k [] F H R (Stp.refl ..) .nil
theorem sk_cons (h : SE X e f) (t : SK X kws g) : SK X (⟨nm, e, kpos⟩ :: kws) (aCons f g) := PKimp (pk_cons h t) aCons_ok
end
section
variable {X : Cx} {CX : CXT} {k : Nat} {f : Addr} {fd : FuncData} {ps ks : List Str} {sp : Sp} {E : XK} {x : Str} {p pos : Pos} {kws : List Keyword} {tk : TA} {g : List Value → List Value → List Value} {gV : List V → List V → List V}
theorem pe_callK0 (F : FnOk X.prog X.w X.K X.mg X.base CX k f fd ps sp) (hr : Room k X.A) (hg : Gl X x) (hm : X.mg x = some (.ref f)) (hk : PySem.W.keepIn X.K (.ref f) = true) (hb : KBinds X.K fd ps ks g gV) (hx : Passes CX X E)
    (hkw : PK X kws tk) (hall : (backToKw pos (keywordEach kws X.env)).all (·.1.isSome) = true := by rfl) (hks : (backToKw pos (keywordEach kws X.env)).filterMap (·.1) = ks := by rfl)
    (hdb : (x == ("__debug__" : Str)) = false := by decide) (hpl : ((backTo pos (starEach [] X.env)).any (·.1) || (backToKw pos (keywordEach kws X.env)).any (·.1.isNone)) = false := by rfl) : PE X (.Call (.Name x p) [] kws pos) (tCallK sp gV E tNil tk) := by
  refine ⟨fun pins s σ H Q I h => ?_⟩
  have h : tk σ H (fun zs H2 => sp (gV [] zs) H2 Q E) := h
  refine wpAny_Call_Name_kw (ld_glob I hg hm ?_ hdb)
  refine PySem.W.callWith_KW0 (h₀ := X.base) I.ok.mod.kin hk hall (thn (hkw.run pos pins s σ H _ I h) fun ws s2 ⟨zs, H2, I2, rz, q2⟩ => ⟨I2.kIn, ?_⟩) hpl
  rw [hks]
  exact run_fnk (us := []) F hr hb hx I2 .nil rz q2
theorem tNil_ok {K : PySem.W.Frag} : ∀ σ H Q, tIA K aNil σ H Q → tNil σ H Q := fun σ H Q ⟨F, r, hs, r', R, e, k⟩ => by
  cases e
  exact k [] F H R (Stp.refl ..) .nil
end

/-! ### dicts -/
def keyEq0 : PyData → PyData → Bool
  | .int i, .int j => i == j
  | .str x, .str y => x == y
  | _, _ => false
def keysEq : List PyData → List PyData → Bool
  | [], [] => true
  | x :: xs, y :: ys => keyEq0 x y && keysEq xs ys
  | _, _ => false
def keyEq : PyData → PyData → Bool
  | .tuple xs, .tuple ys => keysEq xs ys
  | x, y => keyEq0 x y
def keyOf : PyData → Option Key
  | .int i => some (.inl i)
  | .str x => some (.inr x)
  | _ => none
def keysOf : List PyData → Option (List Key)
  | [] => some []
  | d :: r => (keyOf d).bind fun k => (keysOf r).map fun ks => k :: ks
theorem keyOf_eq {d : PyData} {k : Key} (h : keyOf d = some k) : d = keyD k := by cases d <;> first | (cases h; rfl) | cases h
theorem keysOf_eq : ∀ {ds : List PyData} {ks : List Key}, keysOf ds = some ks → ds = ks.map keyD
  | [], ks, h => by cases h; rfl
  | d :: r, ks, h => by
    simp only [keysOf, Option.bind_eq_some_iff, Option.map_eq_some_iff] at h
    obtain ⟨k, h1, ks', h2, rfl⟩ := h
    rw [keyOf_eq h1, keysOf_eq h2]; rfl
theorem keyEq0_D (a b : Key) : keyEq0 (keyD a) (keyD b) = decide (a = b) := by
  cases a <;> cases b
  · simp only [keyD, keyEq0]; exact (key_ll _ _).symm
  · simp only [keyD, keyEq0]; exact (key_lr _ _).symm
  · simp only [keyD, keyEq0]; exact (key_rl _ _).symm
  · simp only [keyD, keyEq0]
    rw [key_rr]
    rename_i x y
    by_cases e : x = y <;> simp [e]
theorem keyEq_D (a b : Key) : keyEq (keyD a) (keyD b) = decide (a = b) := by
  rw [← keyEq0_D]
  cases a <;> cases b <;> rfl
theorem keysEq_D : ∀ a b : List Key, keysEq (a.map keyD) (b.map keyD) = decide (a = b)
  | [], [] => rfl
  | [], _ :: _ => rfl
  | _ :: _, [] => rfl
  | x :: a, y :: b => by
    simp only [List.map_cons, keysEq, keyEq0_D, keysEq_D a b]
    by_cases h1 : x = y <;> by_cases h2 : a = b <;> simp [h1, h2]
abbrev KD := List (PyData × PyData)
def lookK (ds : KD) (k : PyData) : Option PyData := (ds.find? fun p => keyEq p.1 k).map (·.2)
def putKD (ds : KD) (k v : PyData) : KD := if (ds.any fun p => keyEq p.1 k) = true then ds.map (fun p => if keyEq p.1 k = true then (p.1, v) else p) else ds ++ [(k, v)]
theorem look_K {F : Hp} {k : Key} : ∀ {kvs : List (Key × V)} {ds : KD}, RpKv F kvs ds → (∀ d, lookK ds (keyD k) = some d → ∃ v, valV kvs k = some v ∧ Rp F v d) ∧ (lookK ds (keyD k) = none → valV kvs k = none)
  | _, _, .nil => ⟨fun d h => (by cases h), fun _ => rfl⟩
  | _, _, .cons (k := k') (v := v') (vs := vs) (d := d') (ds := ds') q r => by
    have ih := look_K (k := k) r
    have e1 : lookK ((keyD k', d') :: ds') (keyD k) = if k' = k then some d' else lookK ds' (keyD k) := by
      unfold lookK
      rw [List.find?_cons, keyEq_D]
      by_cases h : k' = k <;> simp [h]
    by_cases h : k' = k
    · rw [e1, if_pos h, valV_pos (p := (k', v')) h]
      exact ⟨fun d z => (by cases z; exact ⟨v', rfl, q⟩), fun z => (by cases z)⟩
    · rw [e1, if_neg h, valV_neg (p := (k', v')) h]; exact ih
theorem look_T {F : Hp} {k : List Key} : ∀ {kvs : List (List Key × V)} {ds : KD}, RpTv F kvs ds → (∀ d, lookK ds (.tuple (k.map keyD)) = some d → ∃ v, valV kvs k = some v ∧ Rp F v d) ∧ (lookK ds (.tuple (k.map keyD)) = none → valV kvs k = none)
  | _, _, .nil => ⟨fun d h => (by cases h), fun _ => rfl⟩
  | _, _, .cons (k := k') (v := v') (vs := vs) (d := d') (ds := ds') q r => by
    have ih := look_T (k := k) r
    have e1 : lookK ((.tuple (k'.map keyD), d') :: ds') (.tuple (k.map keyD)) = if k' = k then some d' else lookK ds' (.tuple (k.map keyD)) := by
      unfold lookK
      rw [List.find?_cons]
      simp only [keyEq, keysEq_D]
      by_cases h : k' = k <;> simp [h]
    by_cases h : k' = k
    · rw [e1, if_pos h, valV_pos (p := (k', v')) h]
      exact ⟨fun d z => (by cases z; exact ⟨v', rfl, q⟩), fun z => (by cases z)⟩
    · rw [e1, if_neg h, valV_neg (p := (k', v')) h]; exact ih
theorem any_K {F : Hp} {k : Key} : ∀ {kvs : List (Key × V)} {ds : KD}, RpKv F kvs ds → (ds.any fun p => keyEq p.1 (keyD k)) = kvs.any fun kv => decide (kv.1 = k)
  | _, _, .nil => rfl
  | _, _, .cons q r => by simp only [List.any_cons, keyEq_D, any_K r]
theorem any_T {F : Hp} {k : List Key} : ∀ {kvs : List (List Key × V)} {ds : KD}, RpTv F kvs ds → (ds.any fun p => keyEq p.1 (.tuple (k.map keyD))) = kvs.any fun kv => decide (kv.1 = k)
  | _, _, .nil => rfl
  | _, _, .cons (k := k') q r => by
    rw [List.any_cons, List.any_cons, any_T r]
    show (keysEq (k'.map keyD) (k.map keyD) || _) = _
    rw [keysEq_D]
theorem map_K {F : Hp} {k : Key} {v : V} {d : PyData} (h : Rp F v d) : ∀ {kvs : List (Key × V)} {ds : KD}, RpKv F kvs ds → RpKv F (kvs.map fun kv => if kv.1 = k then (kv.1, v) else kv) (ds.map fun p => if keyEq p.1 (keyD k) = true then (p.1, d) else p)
  | _, _, .nil => .nil
  | _, _, .cons (k := k') q r => by
    simp only [List.map_cons, keyEq_D]
    by_cases e : k' = k
    · subst e; simp; exact .cons h (by simpa [keyEq_D] using map_K h r)
    · simp [e]; exact .cons q (by simpa [keyEq_D] using map_K h r)
theorem map_T {F : Hp} {k : List Key} {v : V} {d : PyData} (h : Rp F v d) : ∀ {kvs : List (List Key × V)} {ds : KD}, RpTv F kvs ds → RpTv F (kvs.map fun kv => if kv.1 = k then (kv.1, v) else kv) (ds.map fun p => if keyEq p.1 (.tuple (k.map keyD)) = true then (p.1, d) else p)
  | _, _, .nil => .nil
  | _, _, .cons (k := k') q r => by
    simp only [List.map_cons, keyEq, keysEq_D]
    by_cases e : k' = k
    · subst e; simp; exact .cons h (map_T h r)
    · simp [e]; exact .cons q (map_T h r)
theorem RpKv.append {F : Hp} : ∀ {a b : List (Key × V)} {c d : KD}, RpKv F a c → RpKv F b d → RpKv F (a ++ b) (c ++ d)
  | _, _, _, _, .nil, s => s
  | _, _, _, _, .cons h r, s => .cons h (r.append s)
theorem RpTv.append {F : Hp} : ∀ {a b : List (List Key × V)} {c d : KD}, RpTv F a c → RpTv F b d → RpTv F (a ++ b) (c ++ d)
  | _, _, _, _, .nil, s => s
  | _, _, _, _, .cons h r, s => .cons h (r.append s)
theorem put_K {F : Hp} {k : Key} {v : V} {d : PyData} (h : Rp F v d) {kvs : List (Key × V)} {ds : KD} (r : RpKv F kvs ds) : RpKv F (putK kvs k v) (putKD ds (keyD k) d) := by
  unfold putK putKD
  rw [any_K r]
  split
  · exact map_K h r
  · exact r.append (.cons h .nil)
theorem put_T {F : Hp} {k : List Key} {v : V} {d : PyData} (h : Rp F v d) {kvs : List (List Key × V)} {ds : KD} (r : RpTv F kvs ds) : RpTv F (putK kvs k v) (putKD ds (.tuple (k.map keyD)) d) := by
  unfold putK putKD
  rw [any_T r]
  split
  · exact map_T h r
  · exact r.append (.cons h .nil)
theorem RpKv.length {F : Hp} : ∀ {a : List (Key × V)} {c : KD}, RpKv F a c → a.length = c.length
  | _, _, .nil => rfl
  | _, _, .cons _ r => congrArg (· + 1) r.length
theorem RpTv.length {F : Hp} : ∀ {a : List (List Key × V)} {c : KD}, RpTv F a c → a.length = c.length
  | _, _, .nil => rfl
  | _, _, .cons _ r => congrArg (· + 1) r.length
theorem rp_keyV {F : Hp} {k : Key} {v : V} (h : Rp F v (keyD k)) : v = kV k := by cases k <;> (cases h; rfl)
theorem rp_keysV {F : Hp} : ∀ {ks : List Key} {vs : List V}, RpAll F vs (ks.map keyD) → vs = ks.map kV
  | [], _, .nil => rfl
  | k :: ks, _, .cons h r => by rw [rp_keyV h, rp_keysV r]; rfl
/-- what kind of key, and the pairs behind the mark -/
def isMk : KD → Option KD
  | (.none, .none) :: r => some r
  | _ => none
theorem mk_kv {F : Hp} {kvs : List (Key × V)} {ds : KD} (r : RpKv F kvs ds) : isMk ds = none := by
  cases r with
  | nil => rfl
  | cons q r =>
    rename_i k _ _ _ _
    cases k <;> rfl
def dSel (ds : KD) (k : PyData) : Option (Bool × KD) := match isMk ds with
  | some r => (match k with
    | .tuple ks => (keysOf ks).map fun _ => (true, r)
    | _ => none)
  | none => (keyOf k).map fun _ => (false, ds)
def dGet (d k : PyData) : Option PyData := match d with
  | .dict ds => (dSel ds k).bind fun p => lookK p.2 k
  | _ => none
/-- what DGet says -/
theorem dSel_ok {F H : Hp} (e : Ext F H) {x y : V} {ds : KD} {k : PyData} {p : Bool × KD} (c : Cur F H x (.dict ds)) (cy : Cur F H y k) (hs : dSel ds k = some p) :
    ∃ a, x = .ref a ∧ ((∃ (kvs : List (Key × V)) (k' : Key), p.1 = false ∧ ds = p.2 ∧ H a = some (.dK kvs) ∧ RpKv F kvs p.2 ∧ k = keyD k' ∧ y = kV k') ∨
      (∃ (kvs : List (List Key × V)) (k' : List Key) (b : Addr), p.1 = true ∧ ds = (.none, .none) :: p.2 ∧ H a = some (.dT kvs) ∧ RpTv F kvs p.2 ∧ k = .tuple (k'.map keyD) ∧ y = .ref b ∧ H b = some (.tup (k'.map kV)))) := by
  rcases c.dict e with ⟨a, kvs, rfl, h2, r⟩ | ⟨a, kvs, ds2, rfl, rfl, h2, r⟩
  · unfold dSel at hs
    rw [mk_kv r] at hs
    dsimp only at hs
    rw [Option.map_eq_some_iff] at hs
    obtain ⟨k', h1, rfl⟩ := hs
    cases keyOf_eq h1
    have hy : y = kV k' := by
      cases cy with
      | r q => exact rp_keyV q
      | o h q => cases k' <;> cases q
    exact ⟨a, rfl, .inl ⟨kvs, k', rfl, rfl, h2, r, rfl, hy⟩⟩
  · unfold dSel isMk at hs
    dsimp only at hs
    split at hs
    · rename_i ks
      rw [Option.map_eq_some_iff] at hs
      obtain ⟨k', h1, rfl⟩ := hs
      cases keysOf_eq h1
      obtain ⟨b, vs, rfl, h0, h3, r3⟩ := cy.tuple e
      exact ⟨a, rfl, .inr ⟨kvs, k', b, rfl, rfl, h2, r, rfl, rfl, by rw [h3, rp_keysV r3]⟩⟩
    · cases hs
/-- a[y] is there -/
theorem dGet_ok {F H : Hp} (e : Ext F H) {x y : V} {ds : KD} {k d : PyData} (c : Cur F H x (.dict ds)) (cy : Cur F H y k) (h : dGet (.dict ds) k = some d) : ∃ a v, x = .ref a ∧ DGet H a y (some v) ∧ Rp F v d := by
  simp only [dGet, Option.bind_eq_some_iff] at h
  obtain ⟨⟨b, ds'⟩, h1, h2⟩ := h
  obtain ⟨a, rfl, ⟨kvs, k', _, rfl, h3, r, rfl, rfl⟩ | ⟨kvs, k', b', _, rfl, h3, r, rfl, rfl, h4⟩⟩ := dSel_ok e c cy h1
  · obtain ⟨v, q1, q2⟩ := (look_K r).1 d h2
    exact ⟨a, v, rfl, .inl ⟨kvs, k', .inl h3, rfl, q1.symm⟩, q2⟩
  · obtain ⟨v, q1, q2⟩ := (look_T r).1 d h2
    exact ⟨a, v, rfl, .inr ⟨kvs, k', b', .inl h3, rfl, h4, q1.symm⟩, q2⟩
/-- .. or not -/
theorem dGet_any {F H : Hp} (e : Ext F H) {x y : V} {ds : KD} {k : PyData} {p : Bool × KD} (c : Cur F H x (.dict ds)) (cy : Cur F H y k) (h1 : dSel ds k = some p) : ∃ a o, x = .ref a ∧ DGet H a y o ∧ (∀ d, lookK p.2 k = some d → ∃ v, o = some v ∧ Rp F v d) ∧ (lookK p.2 k = none → o = none) := by
  obtain ⟨a, rfl, ⟨kvs, k', _, rfl, h3, r, rfl, rfl⟩ | ⟨kvs, k', b', _, rfl, h3, r, rfl, rfl, h4⟩⟩ := dSel_ok e c cy h1
  · exact ⟨a, _, rfl, .inl ⟨kvs, k', .inl h3, rfl, rfl⟩, (look_K r).1, (look_K r).2⟩
  · exact ⟨a, _, rfl, .inr ⟨kvs, k', b', .inl h3, rfl, h4, rfl⟩, (look_T r).1, (look_T r).2⟩
/-- items of anything -/
def dIxA (d k : PyData) : Option Hd := match d with
  | .dict ds => (dGet (.dict ds) k).map .v
  | d => dIxS d k
def rDGet : R2 := fun x y H Q => ∃ a v, x = .ref a ∧ DGet H a y (some v) ∧ Q v H
theorem ok_dget : OpOk rDGet (fun d k => match d with
  | .dict ds => (dGet (.dict ds) k).map .v
  | _ => none) := by
  intro F H x y a b h Q e cx cy q k
  dsimp only at q
  split at q
  · rw [Option.map_eq_some_iff] at q
    obtain ⟨d, q1, rfl⟩ := q
    obtain ⟨a, v, rfl, g, r⟩ := dGet_ok e cx cy q1
    exact ⟨a, v, rfl, g, k _ _ _ (Ans.val' e r)⟩
  · cases q
section
variable {X : Cx} {o i : Expr} {fa fb : FE} {pos : Pos}
theorem PEor {e : Expr} {t t' : TE} (h : PE X e t) (h' : PE X e t') : PE X e (fun σ H Q => t σ H Q ∨ t' σ H Q) := ⟨fun pins s σ H Q I q => q.elim (h.run pins s σ H Q I) (h'.run pins s σ H Q I)⟩
theorem se_ixA (hu : X.A.units + 1 < cLine) (ha : SE X o fa) (hb : SE X i fb) (hs : PlainIx i := by exact fun _ _ => rfl) (hs2 : NoSl i := by exact fun _ _ => rfl) : SE X (.Subscript o i pos) (s2 dIxA fa fb) := by
  refine PEimp (PEor (pe_ix ix_seq ha hb hs) (pe_dget hu ha hb hs2)) ?_
  rintro σ H Q ⟨F, ρ, h, ρ', R, e, k⟩
  simp only [s2, Option.bind_eq_some_iff, Option.map_eq_some_iff] at e
  obtain ⟨⟨h1, ρ1⟩, e1, ⟨h2, ρ2⟩, e2, a, e3, b, e4, hr, e5, e6⟩ := e
  cases e6
  cases a with
  | dict ds =>
    refine .inr (s2_ok (r := rDGet) ok_dget σ H Q ⟨F, ρ, h, ρ2, R, ?_, k⟩)
    simp only [s2, e1, e2, Option.bind_some, e3, e4]
    simp only [dIxA] at e5
    simp only [e5, Option.map_some]
  | _ =>
    refine .inl (s2_ok ok_ix σ H Q ⟨F, ρ, h, ρ2, R, ?_, k⟩)
    simp only [s2, e1, e2, Option.bind_some, e3, e4]
    simp only [dIxA] at e5
    simp only [e5, Option.map_some]
end
end TL

namespace TL
open PySem PySem.Spec PyProof.Rows L2

/-! ### x[i] = v -/
theorem PSor {X : Cx} {st : Stmt} {t t' : TS} (h : PS X st t) (h' : PS X st t') : PS X st (fun D σ H => t D σ H ∨ t' D σ H) := ⟨fun pins s σ H D I q => q.elim (h.run pins s σ H D I) (h'.run pins s σ H D I)⟩
def setItemD (d ix v : PyData) : Option PyData := match d with
  | .list xs => (dI ix).bind fun i => (ixN xs.length i).map fun j => .list (xs.set j v)
  | .dict ds => (dSel ds ix).bind fun p => if p.2.length < 16000000 then some (.dict (if p.1 = true then (.none, .none) :: putKD p.2 ix v else putKD p.2 ix v)) else none
  | _ => none
def fSetI (k : Nat) (f g : FE) : FS := fun r => (ownD k r).bind fun _ => (f r).bind fun p => (g p.2).bind fun q => (esc p.1 q.2).bind fun u => (cur q.1 u.2).bind fun ix => (ownD k u.2).bind fun d => (setItemD d ix u.1).bind fun d' => (setD k d' u.2).map .nx
theorem fSetI_ok {K : PySem.W.Frag} {k : Nat} {f g : FE} : ∀ D σ H, tIS K (fSetI k f g) D σ H → tAsg (tI K f) (gSub (tVar k) (tI K g) rSetL) D σ H ∨ sDPut (tVar k) (tI K g) (tI K f) D σ H := by
  rintro D σ H ⟨F, ρ, o, R, e, kk⟩
  simp only [fSetI, Option.bind_eq_some_iff, Option.map_eq_some_iff] at e
  obtain ⟨d0, e0, ⟨h1, ρ1⟩, e1, ⟨h2, ρ2⟩, e2, ⟨dv, ρ3⟩, e3, ix, e4, d, e5, d', e6, ρ4, e7, rfl⟩ := e
  obtain ⟨a, _, w0, _⟩ := R.own k d0 (ownD_at e0)
  -- what stands behind both expressions
  have fin : ∀ {x y : V} {F1 H1 F2 H2 : Hp}, Rel K F1 ρ1 σ H1 → Stp ρ σ F H ρ1 σ F1 H1 → HdRep F1 ρ1 σ H1 h1 x → NewAt (Fsh ρ σ H) H1 h1 x → Rel K F2 ρ2 σ H2 → Stp ρ1 σ F1 H1 ρ2 σ F2 H2 → HdRep F2 ρ2 σ H2 h2 y → NewAt (Fsh ρ1 σ H1) H2 h2 y →
      ∃ F3 o, Rel K F3 ρ3 σ H2 ∧ Stp ρ σ F H ρ3 σ F3 H2 ∧ Rp F3 x dv ∧ H2 a = some o ∧ OC F3 o d ∧ Cur F3 H2 y ix := fun {x y F1 H1 F2 H2} R1 S1 q1 n1 R2 S2 q2 n2 => by
    obtain ⟨F3, R3, S3, p3, x3, o3, f3⟩ := esc_ok (S1.trans S2) R2 (q1.step S2) (n1.fwd q1 S2) e3
    obtain ⟨a', o, w1, w2, w3, w4⟩ := R3.own k d (ownD_at e5)
    rw [w0] at w1; cases w1
    refine ⟨F3, o, R3, S3, p3, w2, w4, ?_⟩
    cases q2 with
    | v q => cases e4; exact .r (q.mono x3)
    | n z1 _ _ z4 => cases e4; exact .o z1 (z4.mono x3)
    | @s i x q => exact cur_ok R3 (.s q) e4
    | t q m => cases e4
  cases d with
  | list xs =>
    simp only [setItemD, Option.bind_eq_some_iff, Option.map_eq_some_iff] at e6
    obtain ⟨i, e8, j, e9, rfl⟩ := e6
    cases dI_eq e8
    refine .inl ⟨F, ρ, h1, ρ1, R, e1, fun x F1 H1 R1 S1 q1 n1 => ⟨.ref a, w0, F1, ρ1, h2, ρ2, R1, e2, fun y F2 H2 R2 S2 q2 n2 => ?_⟩⟩
    obtain ⟨F3, o, R3, S3, p3, w2, w4, cy⟩ := fin R1 S1 q1 n1 R2 S2 q2 n2
    obtain ⟨vs, rfl, r4⟩ := w4.list
    obtain ⟨R5, S5⟩ := R3.mut e5 e7 w0 (.lst (r4.set p3 j))
    exact ⟨a, vs, i, j, rfl, cy.int, w2, by rw [r4.length]; exact e9, kk σ F3 _ R5 (S3.trans S5)⟩
  | dict ds =>
    simp only [setItemD, Option.bind_eq_some_iff] at e6
    obtain ⟨⟨b, ds'⟩, e8, e9⟩ := e6
    split at e9
    · rename_i hlen
      cases e9
      refine .inr ⟨F, ρ, h1, ρ1, R, e1, fun x F1 H1 R1 S1 q1 n1 => ⟨.ref a, w0, F1, ρ1, h2, ρ2, R1, e2, fun y F2 H2 R2 S2 q2 n2 => ?_⟩⟩
      obtain ⟨F3, o, R3, S3, p3, w2, w4, cy⟩ := fin R1 S1 q1 n1 R2 S2 q2 n2
      obtain ⟨a', ea, ⟨kvs, k', hb, hds, h3, r, rfl, rfl⟩ | ⟨kvs, k', b', hb, hds, h3, r, rfl, rfl, h4⟩⟩ := dSel_ok R3.sub (.o w2 w4) cy e8
      · cases ea
        dsimp only at hb hds hlen r
        subst hb
        obtain ⟨R5, S5⟩ := R3.mut e5 e7 w0 (.dK (put_K p3 r))
        refine ⟨a, _, rfl, .inl ⟨kvs, k', h3, rfl, lim_lt (by rw [r.length]; exact hlen), rfl⟩, kk σ F3 _ R5 (S3.trans S5)⟩
      · cases ea
        dsimp only at hb hds hlen r
        subst hb
        obtain ⟨R5, S5⟩ := R3.mut e5 e7 w0 (.dT (put_T p3 r))
        refine ⟨a, _, rfl, .inr ⟨kvs, k', b', h3, rfl, h4, lim_lt (by rw [r.length]; exact hlen), rfl⟩, kk σ F3 _ R5 (S3.trans S5)⟩
    · cases e9
  | none => cases e6
  | bool b => cases e6
  | int b => cases e6
  | str b => cases e6
  | tuple b => cases e6
section
variable {X : Cx} {e i : Expr} {f g : FE} {px p2 pos : Pos} {x : Str}
theorem ss_setI (k : Nat) (hu : X.A.units + 1 < cLine) (he : SE X e f) (hi : SE X i g) (hN : X.N[k]? = some x := by rfl) (hv : Vis X.env.scope x := by first | exact Or.inl rfl | exact Or.inr (Or.inl rfl) | exact Or.inr (Or.inr rfl))
    (hs0 : swapsWith e (some (.Subscript (.Name x px) i p2)) pos.line X.env = pure false := by rfl)
    (hs : swapsWithSole [.Subscript (.Name x px) i p2] e pos.line X.env = pure false := by rfl) (hw : swappedStores [.Subscript (.Name x px) i p2] e X.env = pure none := by rfl)
    (h1 : (assignEach [Expr.Subscript (.Name x px) i p2] X.env).map (·.2) = [assign (.Subscript (.Name x px) i p2) X.env] := by rfl) (hd : (x == ("__debug__" : Str)) = false := by decide) (hcd : (x == ("__classdict__" : Str)) = false := by decide)
    (ha : ∀ v, assign (.Subscript (.Name x px) i p2) X.env v = (do
      let ov ← holding [v] (eval (.Name x px) X.env)
      let iv ← holding [v, ov] (eval i X.env)
      standAt p2
      holding [v, ov, iv] (setItem ov iv v)
      release [v, ov, iv] []) := by intro _; rfl) :
    SS X (.Assign [.Subscript (.Name x px) i p2] e pos) (fSetI k f g) :=
  PSimp (PSor (ps_asg he (pg_sub (pe_var hN hv hd hcd) hi set_list ha) hs hw h1) (ps_dput hu (pe_var hN hv hd hcd) hi he hs0)) fSetI_ok
end
/-! ### x[:] = v -/
section
variable {prog : Program} {w : World} {A : Around} {E : Value → Shared → Prop} {s : Shared}
set_option maxRecDepth 100000 in
theorem set_whole {l b sl : Addr} {its new : Array Value} {n n2 : Nat} {Q : Unit → Shared → Prop} (e : s.heap.get? l = some { cls := .type "list", data := .seq its n }) (e2 : s.heap.get? b = some { cls := .type "list", data := .seq new n2 }) (hne : l ≠ b) (hs : s.heap.IsSliceOf sl .none .none .none) (hz : its.size + new.size ≤ sizeLine)
    (h : Q () { s with heap := s.heap.update l (Obj.mapSeq fun xs => xs.extract 0 0 ++ new ++ xs.extract its.size xs.size) }) : wpAny (model prog w) A (setItem (.ref l) (.ref sl) (.ref b)) Q E s := by
  have hl : s.heap.IsList l its := PySem.IsL.isList e
  have hb : s.heap.IsList b new := PySem.IsL.isList e2
  obtain ⟨os, ho, hc, hd⟩ := id hs
  have ty : s.TypeIs (.ref sl) "slice" := ⟨os, ho, hc⟩
  have nostep : ¬ ((rawPart none == rawInt 0) = true) := Bool.false_ne_true
  have same : Builtin.List.listSameRef (.ref l) (.ref b) = false := by unfold Builtin.List.listSameRef; exact beq_eq_false_iff_ne.mpr hne
  have hm : (max (0 : Int) (its.size : Int)).toNat = its.size := by omega
  have hz2 : ((fun xs : Array Value => xs.extract 0 0 ++ new ++ xs.extract its.size xs.size) its).size ≤ sizeLine + 1 := by simp only [Array.size_append, Array.size_extract]; omega
  have bnd : sliceBounds none none none its.size = ((0 : Int), (its.size : Int), 1) := by simp [sliceBounds]
  unfold setItem
  (try with_reducible refine wpAny_holding ?_); (first | refine wpAny_bind (wpAny_pure ?_) | skip)
  refine wpAny_bind (wpAny_sequenceKey hl.typeIs (by decide) (wpAny_bind (wpAny_callSpecial?_slot (name := Str.ofString "__setitem__") hl.typeIs slot_list_setitem (wpAny_call_entry slot_list_setitem hl.typeIs entry_list_setitem ?_ (args_list_setitem _ _ _)))))
  show wpAny _ _ (Builtin.List.listSubscript? (.ref sl) >>= _) _ _ s
  refine wpAny_bind ?_; unfold Builtin.List.listSubscript?
  refine wpAny_bind (wpAny_specialOf ty slice_no_index ?_); simp only [Option.isNone_none, if_true]
  refine wpAny_pure ?_; show wpAny _ _ (typeOf (.ref sl) >>= _) _ _ s
  refine wpAny_bind (wpAny_typeOf ty ?_); (first | rw [if_neg (by decide)] | refine PySem.W.KFB.if_not (by decide) ?_); rw [listSliceParts_eq]
  refine wpAny_bind (wpAny_bind (wpAny_field ho hd (x := .none) rfl (wpAny_bind (wpAny_listPart .none ?_)))); rw [if_neg nostep]
  refine wpAny_bind (wpAny_field ho hd (x := .none) rfl (wpAny_bind (wpAny_listPart .none (wpAny_bind (wpAny_field ho hd (x := .none) rfl (wpAny_bind (wpAny_listPart .none (wpAny_pure ?_)))))))); (first | simp only [same, Bool.false_eq_true, if_false] | refine PySem.W.KFB.if_not same ?_)
  refine wpAny_bind (m := Builtin.List.listAllItems (.ref b) "must assign iterable to extended slice") ?_; unfold Builtin.List.listAllItems; refine wpAny_bind (wpAny_typeOf hb.typeIs ?_)
  (first | refine PySem.W.KFB.if_so (by decide) ?_ | rw [if_pos (by decide)] | simp only [beq_self_eq_true, Bool.true_or, if_true]); unfold Builtin.List.listItems
  refine wpAny_bind (wpAny_seqItems e2 rfl (wpAny_pure (wpAny_bind (wpAny_bind (wpAny_seqItems e rfl (wpAny_pure ?_))))))
  refine wpAny_bind (wpAny_of_eq ((sliceIndices_raw none none none its.size (by simp)).trans (congrArg (pure : Int × Int × Int → Sem (Int × Int × Int)) bnd)) ?_); show wpAny _ _ (if ((1 : Int) == 1) = true then _ else _) _ _ s
  rw [if_pos (by decide)]; refine wpAny_bind (wpAny_rule ?_); (first | simp only [notLongL hz, Bool.false_eq_true, if_false] | refine PySem.W.KFB.if_not (notLongL hz) ?_); (first | refine wpAny_bind (wpAny_pure ?_) | skip)
  show wpAny _ _ (updateSeq l (fun xs => xs.extract 0 ((0 : Int)).toNat ++ new ++ xs.extract (max (0 : Int) (its.size : Int)).toNat xs.size) >>= _) _ _ s
  rw [hm, show ((0 : Int)).toNat = 0 from rfl]; refine wpAny_bind (wpAny_updateSeq (hz := Nat.le_trans (Nat.le_add_right _ _) hz) (_hz' := hz2) e rfl (wpAny_bind (wpAny_letGo ?_)))
  (first | exact wpAny_bind (wpAny_pure (wpAny_pure ⟨.none, rfl, wpAny_pure h⟩)) | exact wpAny_pure ⟨.none, rfl, wpAny_pure h⟩)
end
section
variable {X : Cx} {o e : Expr} {to te : TE} {p2 p3 pos : Pos}
def gAll (to : TE) : TG := fun v σ H Q => to σ H fun x H2 => ∃ l b xs ys, x = .ref l ∧ v = .ref b ∧ H2 l = some (.lst xs) ∧ H2 b = some (.lst ys) ∧ l ≠ b ∧ xs.length + ys.length ≤ sizeLine ∧ Q σ (upd H2 l (.lst ys))
theorem pg_all (ho : PE X o to) (ha : ∀ v, assign (.Subscript o (.Slice none none none p2) p3) X.env v = (do
      let ov ← holding [v] (eval o X.env)
      let iv ← holding [v, ov] (eval (.Slice none none none p2) X.env)
      standAt p3
      holding [v, ov, iv] (setItem ov iv v)
      release [iv, v, ov] []) := by intro _; rfl) : PG X (.Subscript o (.Slice none none none p2) p3) (gAll to) := by
  refine ⟨fun pins s σ H v u Q I r h => ?_⟩
  rw [ha]
  refine wpAny_bind (wpAny_holding (thn (ho.run pins s σ H _ I h) fun ov s1 ⟨x, H1, I1, r1, l, b, xs, ys, e1, e2, hl, hb, hne, hz, q1⟩ => ?_))
  subst e1; subst e2
  cases r1; cases r
  refine wpAny_bind (wpAny_holding ?_)
  refine wpAny_Slice ?_
  rw [evalPart_none]
  refine wpAny_pure (wpAny_pure (wpAny_pure ?_))
  have I2 : Inv X pins σ H1 { s1 with heap := s1.heap.push { cls := .type "slice", data := .fields #[.none, .none, .none] } } := I1.kept (t' := s1.toks) fun b ob q => Heap.get?_push_of_some _ q
  refine wpAny_bind (wpAny_standAt (wpAny_bind (wpAny_holding ?_)))
  obtain ⟨z, its, n, rr, hln, g1⟩ := I2.lstM hl
  obtain ⟨z2, its2, n2, rr2, hln2, g2⟩ := I2.lstM hb
  refine set_whole (sl := s1.heap.objs.size) g1 g2 hne (Heap.IsSliceOf.new ..) (by rw [List.size_toArray, List.size_toArray]; omega) ?_
  refine wpAny_release ⟨σ, _, ?_, q1⟩
  refine I2.lset (its' := its2) (t' := s1.toks) hl g1 ?_ rr2 (by omega)
  have := splice_eq its its2 0 its.length
  rw [List.size_toArray] at this ⊢
  rw [this]
  simp
end
def notSlot (k : Nat) : Hd → Bool
  | .s j => j != k
  | _ => true
def fSetAll (k : Nat) (f : FE) : FS := fun r => (ownD k r).bind fun _ => (f r).bind fun p => ((cur p.1 p.2).bind isL).bind fun ys => ((ownD k p.2).bind isL).bind fun xs =>
  if xs.length + ys.length ≤ 16000000 ∧ notSlot k p.1 = true then (setD k (.list ys) p.2).map .nx else none
theorem fSetAll_ok {K : PySem.W.Frag} {k : Nat} {f : FE} : ∀ D σ H, tIS K (fSetAll k f) D σ H → tAsg (tI K f) (gAll (tVar k)) D σ H := by
  rintro D σ H ⟨F, ρ, o, R, e, kk⟩
  simp only [fSetAll, Option.bind_eq_some_iff] at e
  obtain ⟨d0, e0, ⟨h1, ρ1⟩, e1, ys, ⟨dy, e2, e2'⟩, xs, ⟨dx, e3, e3'⟩, e4⟩ := e
  split at e4
  · rename_i hc
    rw [Option.map_eq_some_iff] at e4
    obtain ⟨ρ2, e5, rfl⟩ := e4
    cases isL_eq e2'
    cases isL_eq e3'
    obtain ⟨a, _, w0, _⟩ := R.own k d0 (ownD_at e0)
    refine ⟨F, ρ, h1, ρ1, R, e1, fun x F1 H1 R1 S1 q1 n1 => ⟨.ref a, w0, ?_⟩⟩
    obtain ⟨b, vs, rfl, h2, r2⟩ := (cur_ok R1 q1 e2).list R1.sub
    obtain ⟨a', o, w1, w2, w3, w4⟩ := R1.own k _ (ownD_at e3)
    rw [w0] at w1; cases w1
    obtain ⟨ws, rfl, r4⟩ := w4.list
    have ne : a ≠ b := by
      rintro rfl
      generalize hb : (V.ref a) = xb at q1
      cases q1 with
      | v q =>
        subst hb
        cases q with
        | lst z _ => rw [w3] at z; cases z
        | tup z _ => rw [w3] at z; cases z
        | dK z _ => rw [w3] at z; cases z
        | dT z _ => rw [w3] at z; cases z
      | n z1 z2 z3 z4 =>
        cases hb
        exact z3 (.of (ownD_at e3) w0)
      | t q m => cases e2
      | @s j x q =>
        subst hb
        have hjk : j ≠ k := by simpa [notSlot] using hc.2
        -- another slot that holds the same object
        simp only [cur] at e2
        split at e2
        · rename_i s hs
          cases s with
          | fz d =>
            obtain ⟨v, g1, g2⟩ := R1.fz j d hs
            rw [q] at g1; cases g1
            cases g2 with
            | lst z _ => rw [w3] at z; cases z
            | tup z _ => rw [w3] at z; cases z
            | dK z _ => rw [w3] at z; cases z
            | dT z _ => rw [w3] at z; cases z
          | ow d => exact hjk (R1.dj j k d _ a (.inl hs) (ownD_at e3) q w0)
          | io d => exact hjk (R1.dj j k d _ a (.inr hs) (ownD_at e3) q w0)
          | sc ns => cases e2
          | xc ns => cases e2
          | tr d => cases e2
        · cases e2
    obtain ⟨R5, S5⟩ := R1.mut e3 e5 w0 (.lst r2)
    exact ⟨a, b, ws, vs, rfl, rfl, w2, h2, ne, lim_le (by rw [r4.length, r2.length]; exact hc.1), kk σ F1 _ R5 (S1.trans S5)⟩
  · cases e4
/-! ### texts -/
def strRev (x : Str) : Str := Txt.sliceBy x none none (-1, 0)
def tRevS (te : TE) : TE := fun σ H Q => te σ H fun x H1 => ∃ z, x = .str z ∧ z.length ≤ sizeLine ∧ Q (.str (strRev z)) H1
section
variable {X : Cx} {e : Expr} {te : TE} {k : Nat} {p1 p2 p3 pos : Pos}
theorem pe_revS (he : PE X e te) : PE X (.Subscript e (.Slice none none (some (.UnaryOp .USub (.Constant (.int 1) k p1) p2)) p3) pos) (tRevS te) := by
  refine ⟨fun pins s σ H Q I h => ?_⟩
  refine Subscript_ (thn (he.run pins s σ H _ I h) fun v s1 ⟨x, H1, I1, r1, z, ex, hz, q⟩ => ?_)
  subst ex
  obtain ⟨t, rfl⟩ := r1
  have hst : PO X (some (.UnaryOp .USub (.Constant (.int 1) k p1) p2)) (tPart (tUn (rU fun i => .int (-i)) (tC (.int 1)))) := po_some (pe_un un_neg pe_int)
  refine wpAny_Slice ?_
  rw [evalPart_none]
  refine wpAny_pure (wpAny_pure ?_)
  refine thn (hst.run pins s1 σ H1 (fun o H4 => o = some (-1) ∧ H4 = H1) I1 ⟨1, rfl, -1, rfl, rfl, rfl⟩) fun vs s4 ⟨o, H4, I4, ps, eo, e4⟩ => ?_
  subst eo; subst e4
  obtain ⟨st, rfl, hst2⟩ := IsPart.raw ps
  cases st with
  | none => cases hst2
  | some st =>
    obtain ⟨sv, su⟩ := st
    have hsv : sv = -1 := by simpa using hst2
    subst hsv
    have I5 : Inv X pins σ H4 { s4 with heap := s4.heap.push { cls := .type "slice", data := .fields #[.none, .none, .int (-1) su] } } := I4.kept (t' := s4.toks) fun b ob q => Heap.get?_push_of_some _ q
    show wpAny (model X.prog X.w) X.A (subscriptTail e (.Slice none none (some (.UnaryOp .USub (.Constant (.int 1) k p1) p2)) p3) (.str z t) (.ref s4.heap.objs.size)) (EP X pins σ Q) X.xe { s4 with heap := s4.heap.push { cls := .type "slice", data := .fields #[.none, .none, .int (-1) su] } }
    refine tail_any (ops := [.ref s4.heap.objs.size, .str z t]) (typeIs_str _ z t) F.slot_str_getitem.lookup ?_ (by with_unfolding_all rfl)
    refine wpAny_getItem_str_slice (l := none) (u := none) (st := some (-1, su)) ⟨_, Heap.get?_push_size _ rfl, rfl, rfl⟩ rfl (post_val_or_str ⟨Nat.le_trans (Txt.sliceBy_le z none none (-1, su) (show (-1 : Int) ≠ 0 by decide)) hz, fun t' c => ?_⟩)
    exact ⟨.str (strRev z), H4, I5.tok _, ⟨_, rfl⟩, q⟩
end
def dRevA : PyData → Option Hd
  | .list xs => some (.n (.list xs.reverse))
  | .str x => if x.length ≤ 16000000 then some (.v (.str (strRev x))) else none
  | _ => none
section
variable {X : Cx} {a : Expr} {pos : Pos} {fa : FE} {k : Nat} {p1 p2 p3 : Pos}
theorem se_revA (h : SE X a fa) : SE X (.Subscript a (.Slice none none (some (.UnaryOp .USub (.Constant (.int 1) k p1) p2)) p3) pos) (s1 dRevA fa) := by
  refine PEimp (PEor (pe_revL h) (pe_revS h)) ?_
  rintro σ H Q ⟨F, ρ, hd, ρ', R, e, kk⟩
  simp only [s1, Option.bind_eq_some_iff, Option.map_eq_some_iff] at e
  obtain ⟨⟨h1, ρ1⟩, e1, d, e2, hr, e3, e4⟩ := e
  cases e4
  cases d with
  | list xs =>
    refine .inl (s1_ok ok_rev σ H Q ⟨F, ρ, hd, ρ1, R, ?_, kk⟩)
    simp only [s1, e1, Option.bind_some, e2]
    simp only [dRevA] at e3
    simp only [dRev, e3, Option.map_some]
  | str x =>
    simp only [dRevA] at e3
    split at e3
    · rename_i hl
      cases e3
      refine .inr ⟨F, ρ, h1, ρ1, R, e1, fun x F1 H1 R1 S1 q1 n1 => ?_⟩
      cases (cur_ok R1 q1 e2).str
      exact ⟨_, rfl, lim_le hl, kk _ F1 H1 R1 S1 (.v (.str _)) nw_v⟩
    · cases e3
  | _ => cases e3
end
/-- text times int -/
def strRep (x : Str) (n : Int) : Str := if n < 1 then Str.empty else if (n == 1 || x.length == 0) = true then x else ⟨(List.replicate n.toNat x.cps).foldl (· ++ ·) #[]⟩
def CRep (x : Str) (n : Int) : Prop := -(2 ^ 63 : Int) ≤ n ∧ n < 2 ^ 62 ∧ x.length * n.toNat ≤ 16000000
def rRepS : R2 := fun x y H Q => ∃ z n, x = .str z ∧ y = .int n ∧ CRep z n ∧ z.length ≤ sizeLine ∧ Q (.str (strRep z n)) H
theorem rep_len (a : Array Nat) : ∀ k : Nat, ((List.replicate k a).foldl (· ++ ·) #[]).size = k * a.size := by
  have : ∀ (k : Nat) (b : Array Nat), ((List.replicate k a).foldl (· ++ ·) b).size = b.size + k * a.size := fun k => by
    induction k with
    | zero => intro b; simp
    | succ k ih =>
      intro b
      rw [List.replicate_succ, List.foldl_cons, ih, Array.size_append, Nat.add_mul]
      omega
  intro k
  have := this k #[]
  simpa using this
theorem op_repS {X : Cx} : OpR X (binaryOp .Mult) rRepS := by
  intro pins s σ H x y v u Q I rx ry h
  obtain ⟨z, n, rfl, rfl, ⟨h1, h2, h3⟩, hz, q⟩ := h
  obtain ⟨t, rfl⟩ := rx
  obtain ⟨t', rfl⟩ := ry
  have hs : sizeLine = 16777216 := sizeLine_eq
  refine PySem.P.mul_str ?_ (fun hn hc => ?_) (fun hn hc => ?_) ?_
  · have e1 : decide (n < -(2 ^ 63 : Int)) = false := decide_eq_false (by omega)
    have e2 : decide (n ≥ 2 ^ 63) = false := decide_eq_false (by omega)
    rw [e1, e2]; rfl
  · have hn1 : (1 : Int) ≤ n := by omega
    intro hgt
    have hnn : ((n.toNat : Nat) : Int) = n := by omega
    have h5 := Int.ofNat_le.mpr h3
    rw [Int.natCast_mul, hnn] at h5
    have h6 : (2 ^ 63 - 1) / n < (z.length : Int) := hgt
    have h7 : (2 ^ 63 - 1 : Int) < (z.length : Int) * n := by
      exact (Int.ediv_lt_iff_lt_mul (by omega)).mp h6
    omega
  · show decide _ = false
    exact decide_eq_false (by omega)
  · unfold strRep at q
    split
    · rename_i hn
      rw [if_pos hn] at q
      exact ⟨by decide, ⟨.str _, H, I.tok _, ⟨_, rfl⟩, q⟩⟩
    · rename_i hn
      rw [if_neg hn] at q
      split
      · rename_i hc
        rw [if_pos hc] at q
        exact ⟨.str z, H, I, ⟨t, rfl⟩, q⟩
      · rename_i hc
        rw [if_neg hc] at q
        refine ⟨?_, ⟨.str _, H, I.tok _, ⟨_, rfl⟩, q⟩⟩
        show ((List.replicate n.toNat z.cps).foldl (· ++ ·) #[]).size ≤ sizeLine
        rw [rep_len, Nat.mul_comm]
        have : z.cps.size * n.toNat ≤ 16000000 := h3
        omega
instance (x : Str) (n : Int) : Decidable (CRep x n) := by unfold CRep; infer_instance
/-- (by Nat.ble: the kernel must not unfold sums with great numbers) -/
def repOk (x : Str) (n : Int) : Bool := Nat.ble x.length 16000000 && (Nat.ble n.natAbs 16000000 && Nat.ble (x.length * n.natAbs) 16000000)
theorem repOk_of {x : Str} {n : Int} (h : repOk x n = true) : CRep x n ∧ x.length ≤ 16000000 := by
  simp only [repOk, Bool.and_eq_true] at h
  obtain ⟨h1, h2, h3⟩ := h
  have h1 := Nat.le_of_ble_eq_true h1
  have h2 := Nat.le_of_ble_eq_true h2
  have h3 := Nat.le_of_ble_eq_true h3
  refine ⟨⟨?_, ?_, ?_⟩, h1⟩
  · have : (-(2 ^ 63) : Int) ≤ -16000000 := by decide
    omega
  · have : (16000000 : Int) < 2 ^ 62 := by decide
    omega
  · refine Nat.le_trans (Nat.mul_le_mul_left _ ?_) h3
    omega
theorem repOk_in {x : Str} {k : Nat} (h1 : x.length ≤ 16000000) (h2 : k ≤ 16000000) (h3 : x.length * k ≤ 16000000) : repOk x (k : Int) = true := by
  simp only [repOk, Int.natAbs_natCast, Bool.and_eq_true]
  exact ⟨Nat.ble_eq_true_of_le h1, Nat.ble_eq_true_of_le h2, Nat.ble_eq_true_of_le h3⟩
def dMulA : PyData → PyData → Option Hd
  | .str x, .int n => if repOk x n = true then some (.v (.str (strRep x n))) else none
  | a, b => dMul a b
theorem op_mulB {X : Cx} : OpR X (binaryOp .Mult) (fun x y H Q => rMulA x y H Q ∨ rRepS x y H Q) := OpR.or op_mulA op_repS
theorem ok_mulB : OpOk (fun x y H Q => rMulA x y H Q ∨ rRepS x y H Q) dMulA := by
  intro F H x y a b h Q e cx cy q k
  unfold dMulA at q
  split at q
  · split at q
    · rename_i hl
      cases q
      cases cx.str; cases cy.int
      have hl := repOk_of hl
      exact .inr ⟨_, _, rfl, rfl, hl.1, lim_le hl.2, k _ _ _ (Ans.val' e (.str _))⟩
    · cases q
  · exact .inl (ok_mul F H x y _ _ h Q e cx cy q k)
/-- sep.join(list of texts) -/
def strsOf : List PyData → Option (List Str)
  | [] => some []
  | .str x :: r => (strsOf r).map fun xs => x :: xs
  | _ => none
theorem strsOf_eq : ∀ {ds : List PyData} {xs : List Str}, strsOf ds = some xs → ds = xs.map .str
  | [], xs, h => by cases h; rfl
  | d :: r, xs, h => by
    cases d <;> simp only [strsOf, reduceCtorEq] at h
    rw [Option.map_eq_some_iff] at h
    obtain ⟨is, h1, rfl⟩ := h
    rw [strsOf_eq h1]; rfl
theorem RpAll.strs {F : Hp} : ∀ {vs} {xs : List Str}, RpAll F vs (xs.map .str) → vs = xs.map V.str
  | _, [], .nil => rfl
  | _, n :: ns, .cons h r => by cases h; rw [List.map_cons, r.strs]
def mJoin : PyData → List PyData → Option Hd
  | .str a, [.list ds] => (strsOf ds).bind fun ys => if (ys.map (·.length)).sum + ys.length * a.length ≤ 16000000 then some (.v (.str (Txt.join a ys))) else none
  | _, _ => none
theorem mok_join {K : PySem.W.Frag} : MtOk (fun x xs H Q => ∃ a p, ∃ ys : List Str, x = .str a ∧ xs = [.ref p] ∧ (SqL K H p (ys.map V.str) ∨ SqT K H p (ys.map V.str)) ∧ (ys.map (·.length)).sum + ys.length * a.length ≤ 16777216 ∧ Q (.str (Txt.join a ys)) H) mJoin := by
  intro F H x b xs ds h Q e cx cxs q k
  unfold mJoin at q
  split at q
  · rw [Option.bind_eq_some_iff] at q
    obtain ⟨ys, q1, q2⟩ := q
    split at q2
    · rename_i hl
      cases q2
      obtain ⟨y, rfl, cy⟩ := cxs.one
      cases cx.str
      rw [strsOf_eq q1] at cy
      obtain ⟨p, vs, rfl, h1, r1⟩ := cy.list e
      rw [r1.strs] at h1
      exact ⟨_, p, ys, rfl, rfl, .inl (.inl (.inl h1)), by omega, k _ _ _ (Ans.val' e (.str _))⟩
    · cases q2
  · cases q
end TL

namespace TL
open PySem PySem.Spec PyProof.Rows L2

/-! ### the script -/
def scAt (k : Nat) (r : Ev) : Option (List Int) := match r[k]? with
  | some (some (.sc ns)) => some ns
  | _ => none
theorem scAt_eq {k : Nat} {r : Ev} {ns : List Int} (h : scAt k r = some ns) : r[k]? = some (some (.sc ns)) := by
  unfold scAt at h
  split at h
  · rename_i hs; cases h; exact hs
  · cases h
def sScLen (k : Nat) : FE := fun r => (scAt k r).map fun ns => (.v (.int ns.length), r)
def sScIx (k : Nat) (f : FE) : FE := fun r => (scAt k r).bind fun _ => (f r).bind fun p => (cur p.1 p.2).bind fun d => (dI d).bind fun i => (scAt k p.2).bind fun ns => (atI ns i).map fun n => (.v (.int n), p.2)
def sScSl (k : Nat) (l h : FO) : FE := fun r => (scAt k r).bind fun _ => (l r).bind fun q => (h q.2).bind fun u => (scAt k u.2).map fun ns => (.n (.list ((HT.sIx ns.length 0 q.1 |> fun a => (ns.drop a).take (HT.sIx ns.length ns.length u.1 - a)).map .int)), u.2)
theorem atI_map {ns : List Int} {i n : Int} (h : atI ns i = some n) : atI (ns.map V.int) i = some (.int n) := by
  unfold atI at h ⊢
  rw [List.length_map]
  rw [Option.bind_eq_some_iff] at h ⊢
  obtain ⟨j, h1, h2⟩ := h
  exact ⟨j, h1, by rw [List.getElem?_map, h2]; rfl⟩
section
variable {X : Cx} {e : Expr} {f : FE} {x : Str} {px p pos p2 : Pos}
theorem Rel.scSq {K : PySem.W.Frag} {F H : Hp} {r : Ev} {σ : L2.St} (R : Rel K F r σ H) {k : Nat} {ns : List Int} (h : scAt k r = some ns) : ∃ a, σ[k]? = some (some (.ref a)) ∧ SqL K H a (ns.map V.int) := by
  obtain ⟨a, h1, h2⟩ := R.scr k ns (scAt_eq h)
  exact ⟨a, h1, SqL.ext R.sub h2⟩
theorem sScLen_ok {K : PySem.W.Frag} {k : Nat} : ∀ σ H Q, tI K (sScLen k) σ H Q → tCB (fun xs H Q => ∃ x n, xs = [x] ∧ LenV K x H n ∧ Q (.int n) H) (tCons (tVar k) tNil) σ H Q := by
  rintro σ H Q ⟨F, ρ, h, ρ', R, e, kk⟩
  simp only [sScLen, Option.map_eq_some_iff] at e
  obtain ⟨ns, e1, e2⟩ := e
  cases e2
  obtain ⟨a, w1, w2⟩ := R.scSq e1
  refine ⟨.ref a, w1, .ref a, (ns.map V.int).length, rfl, .inl ⟨_, w2, rfl⟩, ?_⟩
  rw [List.length_map]
  exact kk _ F H R (Stp.refl ..) (.v (.int _)) nw_v
theorem sScIx_ok {K : PySem.W.Frag} {k : Nat} {f : FE} : ∀ σ H Q, tI K (sScIx k f) σ H Q → tOp (rIxL K) (tVar k) (tI K f) σ H Q := by
  rintro σ H Q ⟨F, ρ, h, ρ', R, e, kk⟩
  simp only [sScIx, Option.bind_eq_some_iff, Option.map_eq_some_iff] at e
  obtain ⟨_, e0, ⟨h1, ρ1⟩, e1, d, e2, i, e3, ns, e4, n, e5, e6⟩ := e
  cases e6
  cases dI_eq e3
  obtain ⟨a, w1, w2⟩ := R.scSq e0
  refine ⟨.ref a, w1, F, ρ, h1, ρ1, R, e1, fun y F1 H1 R1 S1 q1 n1 => ?_⟩
  obtain ⟨a', w3, w4⟩ := R1.scSq e4
  rw [w1] at w3; cases w3
  exact ⟨a, _, i, _, rfl, (cur_ok R1 q1 e2).int, w4, atI_map e5, kk _ F1 H1 R1 S1 (.v (.int _)) nw_v⟩
theorem sScSl_ok {K : PySem.W.Frag} {k : Nat} {l u : FO} : ∀ σ H Q, tI K (sScSl k l u) σ H Q → tSl (rSlL K) (tVar k) (tIO K l) (tIO K u) σ H Q := by
  rintro σ H Q ⟨F, ρ, h, ρ', R, e, kk⟩
  simp only [sScSl, Option.bind_eq_some_iff, Option.map_eq_some_iff] at e
  obtain ⟨_, e0, ⟨lo, ρ1⟩, e1, ⟨hi, ρ2⟩, e2, ns, e3, e4⟩ := e
  cases e4
  obtain ⟨a, w1, w2⟩ := R.scSq e0
  refine ⟨.ref a, w1, F, ρ, lo, ρ1, R, e1, fun F1 H1 R1 S1 => ⟨F1, ρ1, hi, ρ2, R1, e2, fun F2 H2 R2 S2 => ?_⟩⟩
  obtain ⟨a', w3, w4⟩ := R2.scSq e3
  rw [w1] at w3; cases w3
  refine ⟨a, _, rfl, w4, fun p hp => ?_⟩
  have hc : RpAll F2 (cutV (ns.map V.int) lo hi) (((ns.drop (HT.sIx ns.length 0 lo)).take (HT.sIx ns.length ns.length hi - HT.sIx ns.length 0 lo)).map .int) := by
    unfold cutV
    rw [List.length_map, ← List.map_drop, ← List.map_take]
    exact RpAll.ofInts _
  obtain ⟨R4, S4, q4, n4⟩ := R2.ans (Ans.new R2.sub hp (.lst hc))
  exact kk _ _ _ R4 ((S1.trans S2).trans S4) q4 ((n4.back S2).back S1)
end

/-! ### in, not in with dicts -/
def dInA (a b : PyData) : Option Bool := match b with
  | .dict ds => (dSel ds a).map fun p => (lookK p.2 a).isSome
  | b => dIn a b
def dNotInA (a b : PyData) : Option Bool := (dInA a b).map (!·)
def rDIn : R2 := fun y x H Q => ∃ a o, x = .ref a ∧ DGet H a y o ∧ Q (.bl o.isSome) H
def rDNotIn : R2 := fun y x H Q => ∃ a o, x = .ref a ∧ DGet H a y o ∧ Q (.bl (!o.isSome)) H
def onlyD (f : PyData → PyData → Option Bool) (a b : PyData) : Option Bool := match b with
  | .dict ds => f a (.dict ds)
  | _ => none
theorem some_iff_look {F : Hp} {o : Option V} {l : Option PyData} (h1 : ∀ d, l = some d → ∃ v, o = some v ∧ Rp F v d) (h2 : l = none → o = none) : o.isSome = l.isSome := by
  cases l with
  | none => rw [h2 rfl]; rfl
  | some d => obtain ⟨v, e, _⟩ := h1 d rfl; rw [e]; rfl
theorem ok_din : OpOkB rDIn (onlyD dInA) := by
  intro F H x y a b k Q e cx cy q kk
  unfold onlyD at q
  split at q
  · simp only [dInA, Option.map_eq_some_iff] at q
    obtain ⟨p, q1, rfl⟩ := q
    obtain ⟨c, o, rfl, g, h1, h2⟩ := dGet_any e cy cx q1
    exact ⟨c, o, rfl, g, by rw [some_iff_look h1 h2]; exact kk⟩
  · cases q
theorem ok_dnotin : OpOkB rDNotIn (onlyD dNotInA) := by
  intro F H x y a b k Q e cx cy q kk
  unfold onlyD at q
  split at q
  · simp only [dNotInA, dInA, Option.map_eq_some_iff] at q
    obtain ⟨_, ⟨p, q1, rfl⟩, rfl⟩ := q
    obtain ⟨c, o, rfl, g, h1, h2⟩ := dGet_any e cy cx q1
    exact ⟨c, o, rfl, g, by rw [some_iff_look h1 h2]; exact kk⟩
  · cases q
theorem PTor {X : Cx} {e : Expr} {t t' : TT} (h : PT X e t) (h' : PT X e t') : PT X e (fun σ H Q => t σ H Q ∨ t' σ H Q) := ⟨fun pins s σ H Q I q => q.elim (h.run pins s σ H Q I) (h'.run pins s σ H Q I)⟩
theorem split_in {K : PySem.W.Frag} {f fd : PyData → PyData → Option Bool} {fa fb : FE} {σ : L2.St} {H : Hp} {R : L2.St → Hp → Prop} {T : (PyData → PyData → Option Bool) → Prop}
    (hs : ∀ (a b : PyData), f a b = onlyD f a b ∨ f a b = fd a b) {ρ : Ev} {k : Bool × Ev} (e : t2 f fa fb ρ = some k) : t2 (onlyD f) fa fb ρ = some k ∨ t2 fd fa fb ρ = some k := by
  simp only [t2, Option.bind_eq_some_iff, Option.map_eq_some_iff] at e ⊢
  obtain ⟨p, e1, q, e2, a, e3, b, e4, h, e5, e6⟩ := e
  rcases hs a b with z | z
  · exact .inl ⟨p, e1, q, e2, a, e3, b, e4, h, by rw [← z]; exact e5, e6⟩
  · exact .inr ⟨p, e1, q, e2, a, e3, b, e4, h, by rw [← z]; exact e5, e6⟩
theorem in_split (a b : PyData) : dInA a b = onlyD dInA a b ∨ dInA a b = dIn a b := by
  cases b <;> first | exact .inl rfl | exact .inr rfl
theorem notin_split (a b : PyData) : dNotInA a b = onlyD dNotInA a b ∨ dNotInA a b = dNotIn a b := by
  cases b <;> first | exact .inl rfl | exact .inr rfl
theorem split_s {f fd : PyData → PyData → Option Bool} {fa fb : FE} (hs : ∀ (a b : PyData), f a b = onlyD f a b ∨ f a b = fd a b) {ρ : Ev} {k : Hd × Ev} (e : s2b f fa fb ρ = some k) : s2b (onlyD f) fa fb ρ = some k ∨ s2b fd fa fb ρ = some k := by
  simp only [s2b, s2, Option.bind_eq_some_iff, Option.map_eq_some_iff] at e ⊢
  obtain ⟨p, e1, q, e2, a, e3, b, e4, h, ⟨h', e5, e7⟩, e6⟩ := e
  rcases hs a b with z | z
  · exact .inl ⟨p, e1, q, e2, a, e3, b, e4, h, ⟨h', by rw [← z]; exact e5, e7⟩, e6⟩
  · exact .inr ⟨p, e1, q, e2, a, e3, b, e4, h, ⟨h', by rw [← z]; exact e5, e7⟩, e6⟩
section
variable {X : Cx} {a b : Expr} {fa fb : FE} {pos : Pos}
theorem st_in (hu : X.A.units + 65 < cLine) (ha : SE X a fa) (hb : SE X b fb) (hm : behindInMarks .In b = false := by rfl) : ST X (.Compare a [.In] [b] pos) (t2 dInA fa fb) := by
  refine PTimp (PTor (pt_cmpR (op_inA hu) ha hb hm) (pt_cmp (pc_din (by omega) ha hb) hm)) ?_
  rintro σ H Q ⟨F, ρ, k, ρ', R, e, kk⟩
  rcases split_in (K := X.K) (σ := σ) (H := H) (R := fun _ _ => True) (T := fun _ => True) in_split e with e | e
  · exact .inr (t2_ok (r := rDIn) ok_din σ H Q ⟨F, ρ, k, ρ', R, e, kk⟩)
  · exact .inl (t2_ok ok_in σ H Q ⟨F, ρ, k, ρ', R, e, kk⟩)
theorem st_notin (hu : X.A.units + 65 < cLine) (ha : SE X a fa) (hb : SE X b fb) (hm : behindInMarks .NotIn b = false := by rfl) : ST X (.Compare a [.NotIn] [b] pos) (t2 dNotInA fa fb) := by
  refine PTimp (PTor (pt_cmpR (op_notInA hu) ha hb hm) (pt_cmp (pc_dnotin (by omega) ha hb) hm)) ?_
  rintro σ H Q ⟨F, ρ, k, ρ', R, e, kk⟩
  rcases split_in (K := X.K) (σ := σ) (H := H) (R := fun _ _ => True) (T := fun _ => True) notin_split e with e | e
  · exact .inr (t2_ok (r := rDNotIn) ok_dnotin σ H Q ⟨F, ρ, k, ρ', R, e, kk⟩)
  · exact .inl (t2_ok ok_notIn σ H Q ⟨F, ρ, k, ρ', R, e, kk⟩)
theorem se_in (hu : X.A.units + 65 < cLine) (ha : SE X a fa) (hb : SE X b fb) (hm : behindInMarks .In b = false := by rfl) : SE X (.Compare a [.In] [b] pos) (s2b dInA fa fb) := by
  refine PEimp (PEor (pe_cmpR (op_inA hu) ha hb hm) (pe_cmp (pc_din (by omega) ha hb) hm)) ?_
  rintro σ H Q ⟨F, ρ, k, ρ', R, e, kk⟩
  rcases split_s in_split e with e | e
  · exact .inr (s2_ok (r := rDIn) ok_din.up σ H Q ⟨F, ρ, k, ρ', R, e, kk⟩)
  · exact .inl (s2_ok ok_in.up σ H Q ⟨F, ρ, k, ρ', R, e, kk⟩)
theorem se_notin (hu : X.A.units + 65 < cLine) (ha : SE X a fa) (hb : SE X b fb) (hm : behindInMarks .NotIn b = false := by rfl) : SE X (.Compare a [.NotIn] [b] pos) (s2b dNotInA fa fb) := by
  refine PEimp (PEor (pe_cmpR (op_notInA hu) ha hb hm) (pe_cmp (pc_dnotin (by omega) ha hb) hm)) ?_
  rintro σ H Q ⟨F, ρ, k, ρ', R, e, kk⟩
  rcases split_s notin_split e with e | e
  · exact .inr (s2_ok (r := rDNotIn) ok_dnotin.up σ H Q ⟨F, ρ, k, ρ', R, e, kk⟩)
  · exact .inl (s2_ok ok_notIn.up σ H Q ⟨F, ρ, k, ρ', R, e, kk⟩)
end
/-! ### an empty dict -/
def sDk : FE := fun r => some (.n (.dict []), r)
def sDt : FE := fun r => some (.n (.dict [(.none, .none)]), r)
section
variable {X : Cx} {pos : Pos}
theorem se_dk : SE X (.Dict [] [] pos) sDk := PEimp pe_dnewK fun σ H Q ⟨F, r, h, r', R, e, k⟩ p hp => by
  cases e
  obtain ⟨R4, S4, q4, n4⟩ := R.ans (Ans.new R.sub hp (.dK .nil))
  exact k _ _ _ R4 S4 q4 n4
theorem se_dt : SE X (.Dict [] [] pos) sDt := PEimp pe_dnewT fun σ H Q ⟨F, r, h, r', R, e, k⟩ p hp => by
  cases e
  obtain ⟨R4, S4, q4, n4⟩ := R.ans (Ans.new R.sub hp (.dT .nil))
  exact k _ _ _ R4 S4 q4 n4
end
/-! ### {k: v for ..} -/
def dcD (own : List Nat) (bd : PyData → Ev → Option Ev) (c : FT) (fk fv : FE) : List PyData → Ev → KD → Option (KD × Ev)
  | [], r, acc => some (acc, r)
  | d :: ds, r, acc => (bd d r).bind fun r1 => (c r1).bind fun p => if p.1 = true then
      (fk p.2).bind fun q => (cur q.1 q.2).bind fun kd => (keyOf kd).bind fun _ => (fv q.2).bind fun v => (esc v.1 v.2).bind fun u => if acc.length < 16000000 then dcD own bd c fk fv ds (wipeR u.2 own) (putKD acc kd u.1) else none
    else dcD own bd c fk fv ds (wipeR p.2 own) acc
def sDc (own : List Nat) (src : FW) (bd : PyData → Ev → Option Ev) (c : FT) (fk fv : FE) : FE := fun r => (src r).bind fun p => if noIo p.2 own = true then (dcD own bd c fk fv p.1 (wipeR p.2 own) []).map fun q => (.n (.dict q.1), restore p.2 q.2 own) else none
theorem wiped_own {r : Ev} {own : List Nat} {j : Nat} {d : PyData} (h : OwnAt (wipeR r own) j d) : OwnAt r j d ∧ j ∉ own := by
  rcases h with h | h
  · exact ⟨.inl (wipeR_get h).1, (wipeR_get h).2⟩
  · exact ⟨.inr (wipeR_get h).1, (wipeR_get h).2⟩
theorem sDc_ok {K : PySem.W.Frag} {own is : List Nat} {src : FW} {g : TG} {bd : PyData → Ev → Option Ev} {c : FT} {fk fv : FE} (hb : BdOk K is g bd) (hs : ∀ i ∈ is, i ∈ own) :
    ∀ σ H Q, tI K (sDc own src bd c fk fv) σ H Q → tDc (tIW K src) g (tIT K c) (tI K fk) (tI K fv) own σ H Q := by
  rintro σ H Q ⟨F, ρ, h, ρ', R, e, kk⟩
  simp only [sDc, Option.bind_eq_some_iff] at e
  obtain ⟨⟨ds, ρ1⟩, e1, e2⟩ := e
  split at e2
  · rename_i hio
    rw [Option.map_eq_some_iff] at e2
    obtain ⟨⟨res, ρe⟩, e3, e4⟩ := e2
    cases e4
    refine ⟨F, ρ, ds, ρ1, R, e1, fun J F1 H1 R1 S1 I D hD => ?_⟩
    refine ⟨fun i m H' => ∃ F' r' vs acc, Rel K F' r' (L2.wipe σ own) H' ∧ Stp ρ1 σ F1 H1 r' (L2.wipe σ own) F' H' ∧ H' D = some (.dK vs) ∧ F' D = none ∧ ¬ Owned r' (L2.wipe σ own) H' D ∧ RpKv F' vs acc ∧ m = ds.length - i ∧ i ≤ ds.length ∧ dcD own bd c fk fv (ds.drop i) r' acc = some (res, ρe), ⟨ds.length, ?_⟩, ?_⟩
    · obtain ⟨R2, S2⟩ := R1.grow (Ext.refl F1) (H' := upd H1 D (.dK [])) (R1.sub.trans (Ext.new hD)) (fun a ha => ⟨upd_ne fun z => ha (z ▸ hD), rfl⟩)
      refine ⟨F1, wipeR ρ1 own, [], [], R2.wipe own, S2.wipe hio, upd_same, fnone R1.sub hD, wiped_no (R2.noNewUpd R1 hD), .nil, rfl, Nat.zero_le _, e3⟩
    · rintro i m H' ⟨F', r', vs, acc, R', S', hv, fD, nO, ra, rfl, hi, hl⟩
      by_cases hlt : i < ds.length
      · have hd : ds.drop i = ds[i] :: ds.drop (i + 1) := by rw [List.drop_eq_getElem_cons hlt]
        rw [hd] at hl
        simp only [dcD, Option.bind_eq_some_iff] at hl
        obtain ⟨r2, l1, ⟨b, r3⟩, l2, l3⟩ := hl
        refine .inr ⟨I.go i F' H' S'.ext R'.sub hlt, fun H3 => ∃ F3 r3 vs acc, Rel K F3 r3 (L2.wipe σ own) H3 ∧ Stp ρ1 σ F1 H1 r3 (L2.wipe σ own) F3 H3 ∧ H3 D = some (.dK vs) ∧ F3 D = none ∧ ¬ Owned r3 (L2.wipe σ own) H3 D ∧ RpKv F3 vs acc ∧ dcD own bd c fk fv (ds.drop (i + 1)) r3 acc = some (res, ρe),
          fun H3 ⟨F3, r3, vs3, acc3, a1, a2, a3, a4, a5, a6, a7⟩ => ⟨ds.length - (i + 1), by omega, F3, r3, vs3, acc3, a1, a2, a3, a4, a5, a6, rfl, hlt, a7⟩, fun x H2 y => ?_⟩
        obtain ⟨F2, A⟩ := I.yld i F' H' x H2 ds[i] S'.ext R'.sub y (List.getElem?_eq_getElem hlt)
        obtain ⟨R2, S2⟩ := R'.grow A.ext A.sub A.keep
        cases A.val with
        | v q =>
          obtain ⟨xs, R3, S3, hQ⟩ := hb F2 H2 r' r2 (L2.wipe σ own) ds[i] x R2 q l1
          have hw : L2.wipe (setAll (L2.wipe σ own) is xs) own = L2.wipe σ own := wipe_setAll hs
          refine hQ _ ⟨hw, F2, r2, b, r3, R3, l2, fun F4 H4 R4 S4 => ?_⟩
          have S5 := (S2.trans S3).trans S4
          obtain ⟨d1, d2, d3⟩ := S5.pres D (by rw [hv]; simp) nO
          cases b with
          | false =>
            rw [if_neg Bool.false_ne_true] at l3
            refine iteF ?_
            have Rw := R4.wipe own
            have Sw := (S'.trans S5).wipe hio
            rw [hw] at Rw Sw
            refine ⟨F4, wipeR r3 own, vs, acc, Rw, Sw, d1.trans hv, d2.trans fD, hw ▸ wiped_no (own := own) d3, ra.mono S5.ext, l3⟩
          | true =>
            rw [if_pos rfl] at l3
            refine iteT ?_
            simp only [Option.bind_eq_some_iff] at l3
            obtain ⟨⟨hk, r5⟩, l4, kd, l5, k', l6, ⟨hv2, r6⟩, l7, ⟨de, r7⟩, l8, l9⟩ := l3
            split at l9
            · rename_i hlen
              cases keyOf_eq l6
              refine ⟨F4, r3, hk, r5, R4, l4, fun yk F5 H5 R5 S6 q6 n6 => ⟨F5, r5, hv2, r6, R5, l7, fun yv F6 H6 R6 S7 q7 n7 => ?_⟩⟩
              have hyk : yk = kV k' := by
                have c6 := cur_ok R5 q6 l5
                cases c6 with
                | r q => exact rp_keyV q
                | o h q => cases k' <;> cases q
              have S67 := S5.trans (S6.trans S7)
              obtain ⟨F8, R8, S8, p8, x8, o8, f8⟩ := esc_ok S67 R6 q7 (n7.back (S5.trans S6)) l8
              obtain ⟨d4, d5, d6⟩ := S8.pres D (by rw [hv]; simp) nO
              have hD5 : H6 D = some (.dK vs) := d4.trans hv
              refine ⟨vs, k', hyk, hD5, lim_lt (by rw [ra.length]; exact hlen), ?_⟩
              have F8D : F8 D = none := d5.trans fD
              obtain ⟨Rg, Sg, Ng⟩ := rel_at (o := .dK (putK vs k' yv)) R8 (S'.trans S8) (.inl hD) F8D d6
              have Rw := Rg.wipe own
              have Sw := Sg.wipe hio
              rw [hw] at Rw Sw
              refine ⟨F8, wipeR r7 own, putK vs k' yv, putKD acc (keyD k') de, Rw, Sw, upd_same, F8D, hw ▸ wiped_no (own := own) (Ng D d6), put_K p8 (ra.mono S8.ext), l9⟩
            · cases l9
      · have hd : ds.drop i = [] := List.drop_eq_nil_of_le (by omega)
        rw [hd] at hl
        cases hl
        refine .inl ⟨I.stop i F' H' S'.ext R'.sub (by omega), ?_⟩
        have Rr := Rel.restore R1 R' S'.ext
        have Sr := S'.restore hio
        refine kk (.ref D) F' H' Rr (S1.trans Sr) (.n hv fD (restored_no nO) (.dK ra)) fun a ea => ?_
        cases ea
        exact Fsh.back (.inl hD) S1
  · cases e2
section
variable {X : Cx} {kx vx tg iter : Expr} {ifs : List Expr} {scope : Scope} {own : List (Str × Nat)} {pos : Pos} {src : FW} {is : List Nat} {g : TG} {bd : PyData → Ev → Option Ev} {c : FT} {fk fv : FE}
theorem se_dc (hN : X.N.Nodup) (hi : SI X tg iter src) (ok : BlkOk X.N X.env.scope scope own) (hb : BdOk X.K is g bd) (hs : ∀ i ∈ is, i ∈ own.map (·.2))
    (hg : ∀ (s : Shared) (H : Hp) (C : Addr) (cl : List (Str × Addr)) (fp : List Addr), PG (X.blk s H scope (compEnvC scope cl C X.env) fp) tg g) (ht : ∀ (s : Shared) (H : Hp) (C : Addr) (cl : List (Str × Addr)) (fp : List Addr), STs (X.blk s H scope (compEnvC scope cl C X.env) fp) ifs c)
    (hk : ∀ (s : Shared) (H : Hp) (C : Addr) (cl : List (Str × Addr)) (fp : List Addr), SE (X.blk s H scope (compEnvC scope cl C X.env) fp) kx fk) (he : ∀ (s : Shared) (H : Hp) (C : Addr) (cl : List (Str × Addr)) (fp : List Addr), SE (X.blk s H scope (compEnvC scope cl C X.env) fp) vx fv) (hc : X.calm = true := by rfl) (hf : ∀ x, foldedSetIterable iter X.env x = pure x := by intro _; rfl) :
    SE X (.DictComp kx vx [⟨tg, iter, ifs, 0⟩] scope pos) (sDc (own.map (·.2)) src bd c fk fv) := PEimp (pe_dc hc hN hi ok hg ht hk he hf) (sDc_ok hb hs)
end
end TL

namespace TL
open PySem PySem.Spec PyProof.Rows L2

/-! ### a op b op c -/
def sCh (o1 o2 : PyData → PyData → Option Bool) (fa fb fc : FE) : FE := fun r => (fa r).bind fun p => (fb p.2).bind fun q => (cur p.1 q.2).bind fun a => (cur q.1 q.2).bind fun b => (o1 a b).bind fun k =>
  if k = true then (fc q.2).bind fun u => (cur q.1 u.2).bind fun b' => (cur u.1 u.2).bind fun c => (o2 b' c).map fun k => (.v (.bool k), u.2) else some (.v (.bool false), q.2)
def tCh (o1 o2 : PyData → PyData → Option Bool) (fa fb fc : FE) : FT := fun r => (sCh o1 o2 fa fb fc r).bind fun p => match p.1 with
  | .v (.bool k) => some (k, p.2)
  | _ => none
theorem sCh_ok {K : PySem.W.Frag} {r r' : R2} {o1 o2 : PyData → PyData → Option Bool} {fa fb fc : FE} (ok : OpOkB r o1) (ok' : OpOkB r' o2) : ∀ σ H Q, tI K (sCh o1 o2 fa fb fc) σ H Q → tChain r r' (tI K fa) (tI K fb) (tI K fc) σ H Q := by
  rintro σ H Q ⟨F, ρ, h, ρ', R, e, kk⟩
  simp only [sCh, Option.bind_eq_some_iff] at e
  obtain ⟨⟨ha, ρ1⟩, e1, ⟨hb, ρ2⟩, e2, a, e3, b, e4, k, e5, e6⟩ := e
  refine ⟨F, ρ, ha, ρ1, R, e1, fun x F1 H1 R1 S1 q1 n1 => ⟨F1, ρ1, hb, ρ2, R1, e2, fun y F2 H2 R2 S2 q2 n2 => ?_⟩⟩
  refine ok F2 H2 x y a b k _ R2.sub (cur_ok R2 (q1.step S2) e3) (cur_ok R2 q2 e4) e5 ⟨k, rfl, ?_⟩
  cases k with
  | true =>
    rw [if_pos rfl] at e6 ⊢
    simp only [Option.bind_eq_some_iff, Option.map_eq_some_iff] at e6
    obtain ⟨⟨hc, ρ3⟩, e7, b', e8, c, e9, k', e10, e11⟩ := e6
    cases e11
    exact ⟨F2, ρ2, hc, ρ3, R2, e7, fun z F3 H3 R3 S3 q3 n3 => ok' F3 H3 y z b' c k' Q R3.sub (cur_ok R3 (q2.step S3) e8) (cur_ok R3 q3 e9) e10 (kk _ F3 H3 R3 ((S1.trans S2).trans S3) (.v (.bl _)) nw_v)⟩
  | false =>
    rw [if_neg Bool.false_ne_true] at e6 ⊢
    cases e6
    exact kk _ F2 H2 R2 (S1.trans S2) (.v (.bl _)) nw_v
theorem tCh_ok {K : PySem.W.Frag} {r r' : R2} {o1 o2 : PyData → PyData → Option Bool} {fa fb fc : FE} (ok : OpOkB r o1) (ok' : OpOkB r' o2) : ∀ σ H Q, tIT K (tCh o1 o2 fa fb fc) σ H Q → tTest (tChain r r' (tI K fa) (tI K fb) (tI K fc)) σ H Q := by
  rintro σ H Q ⟨F, ρ, k, ρ', R, e, kk⟩
  simp only [tCh, Option.bind_eq_some_iff] at e
  obtain ⟨⟨h, ρ1⟩, e1, e2⟩ := e
  split at e2
  · rename_i k' hk
    cases e2
    dsimp only at hk
    subst hk
    refine sCh_ok ok ok' σ H _ ⟨F, ρ, _, ρ1, R, e1, fun x F1 H1 R1 S1 q1 n1 => ?_⟩
    cases q1 with
    | v q => cases q; exact ⟨_, rfl, kk F1 H1 R1 S1⟩
  · cases e2
section
variable {X : Cx} {a b c : Expr} {fa fb fc : FE} {pos : Pos} {op op' : CmpOp} {r r' : R2} {o1 o2 : PyData → PyData → Option Bool}
theorem se_chain (ho : OpR X (compareOp op) r) (ok : OpOkB r o1) (ho' : OpR X (compareOp op') r') (ok' : OpOkB r' o2) (ha : SE X a fa) (hb : SE X b fb) (hc : SE X c fc) (hm : lastMarks [op, op'] [b, c] = false := by with_unfolding_all rfl) :
    SE X (.Compare a [op, op'] [b, c] pos) (sCh o1 o2 fa fb fc) := PEimp (pe_chain ho ho' ha hb hc hm) (sCh_ok ok ok')
theorem st_chain (ho : OpR X (compareOp op) r) (ok : OpOkB r o1) (ho' : OpR X (compareOp op') r') (ok' : OpOkB r' o2) (ha : SE X a fa) (hb : SE X b fb) (hc : SE X c fc) (hm : lastMarks [op, op'] [b, c] = false := by with_unfolding_all rfl) :
    ST X (.Compare a [op, op'] [b, c] pos) (tCh o1 o2 fa fb fc) := PTimp (pt_chain ho ho' ha hb hc hm) (tCh_ok ok ok')
end

/-! ### a def of the top -/
section
variable {P : Program} {w : World} {K : PySem.W.Frag} {mg : Str → Option Value} {base : Heap}
theorem fn_okD {x qual : Str} {params : Arguments} {body : List Stmt} {scope : Scope} {dvs : List V} {kws : List (Str × V)} {f : Addr} {fd : FuncData} {N ps : List Str} {k : Nat} {fb : FS} (Fu : FunD K x qual params body scope dvs kws f fd) (S : FnScope N ps scope) (hl : ps.length ≤ N.length)
    (hbody : ∀ (cdv : Value) (A : Around) (outer : List Env) (s : Shared) (H : Hp) (Q : VK) (E : XK), Room k (A.deeper (envOfC qual scope s.heap.objs.size f cdv)) →
      SSs (cxOf CX0 P w K mg base N qual scope f cdv A outer s H E).nox body fb) : FnOk P w K mg base CX0 (k + 1) f fd ps (spI K (defM N.length ps.length fb)) := by
  refine Fu.ok S (fun vs H Q E h => ?_) (fun cdv A outer s H vs Q E hr h => ⟨_, PSs.nox (hbody cdv A outer s H Q E hr), ?_⟩)
  · obtain ⟨F, r, hd, r', R, e, _⟩ := h
    rw [defM_eq] at e; unfold defM0 at e
    split at e
    · rename_i hk
      have := R.len
      rw [List.length_map] at this
      omega
    · cases e
  · obtain ⟨F, r, hd, r', R, e, hrd, kk⟩ := h
    rw [defM_eq] at e; unfold defM0 at e
    split at e
    · rename_i hk
      rw [Option.bind_eq_some_iff] at e
      obtain ⟨o, e1, e2⟩ := e
      have hvs : vs.length = ps.length := by
        have := R.len
        rw [List.length_map] at this
        omega
      have hst : L2.start N vs = vs.map some ++ List.replicate (N.length - ps.length) none := by unfold L2.start; rw [hvs]
      rw [hst]
      refine ⟨F, _, o, R.pad _, e1, ?_⟩
      cases o with
      | nx r0 =>
        cases e2
        intro σ' F' H' R' S'
        have hlen : r.length ≤ r0.length := by
          have z1 := R'.len
          have z2 := S'.sl
          rw [List.length_append, List.length_map] at z2
          omega
        obtain ⟨R2, S2, _⟩ := body_end R R' S' hlen hk.2
        exact kk _ F' H' R2 S2 (.v .non) nw_v
      | rt h0 r0 =>
        rw [show finish r (.rt h0 r0) = (resH h0 r0).map fun h' => (h', outs r r0) from rfl, Option.map_eq_some_iff] at e2
        obtain ⟨h1, e3, e4⟩ := e2
        cases e4
        intro v σ' F' H' R' S' q n
        have hlen : r.length ≤ r0.length := by
          have z1 := R'.len
          have z2 := S'.sl
          rw [List.length_append, List.length_map] at z2
          omega
        obtain ⟨R2, S2, _⟩ := body_end R R' S' hlen hk.2
        obtain ⟨q2, n2, _⟩ := finish_ok R R' S' hlen hk.2 q n e3
        exact kk v F' H' R2 S2 q2 n2
      | bk r0 => cases e2
      | ct r0 => cases e2
    · cases e
end
end TL

namespace TL
open PySem PySem.Spec PyProof.Rows L2

/-! ### the walks' small words -/
theorem hu64_of {A : Around} {k : Nat} (hr : Room k A) : A.units + 64 < cLine := by have := hr.un; omega
theorem hu65_of {A : Around} {k : Nat} (hr : Room k A) : A.units + 65 < cLine := by have := hr.un; omega
section
variable {X : Cx} {x : Str}
theorem pe_v (i : Nat) {pos : Pos} (hN : X.N[i]? = some x := by rfl) (hv : Vis X.env.scope x := by first | exact Or.inl rfl | exact Or.inr (Or.inl rfl) | exact Or.inr (Or.inr rfl)) (hd : (x == ("__debug__" : Str)) = false := by decide)
    (hcd : (x == ("__classdict__" : Str)) = false := by decide) : PE X (.Name x pos) (tVar i) := pe_var hN hv hd hcd
end
def sCallN (n l : Nat) (m : FE) (pm : List Nat) (f g : FA) : FE := fun r => (f r).bind fun p => (g p.2).bind fun q => if (p.1.length = n ∧ q.1.length = l) ∧ pm.Nodup ∧ pm.all (fun i => decide (i < (p.1 ++ q.1).length)) = true then callG m (pm.map fun i => (p.1 ++ q.1).getD i (.v .none)) q.2 else none
theorem sCallN_ok {K : PySem.W.Frag} {n l : Nat} {m : FE} {pm : List Nat} {f g : FA} {E : XK} : ∀ σ H Q, tI K (sCallN n l m pm f g) σ H Q → tCallN n l (spI K m) (gvP pm) E (tIA K f) (tIA K g) σ H Q := by
  rintro σ H Q ⟨F, ρ, h, ρ', R, e, kk⟩
  simp only [sCallN, Option.bind_eq_some_iff] at e
  obtain ⟨⟨hs, ρ1⟩, e1, ⟨hs2, ρ2⟩, e2, e3⟩ := e
  split at e3
  · rename_i hc
    refine ⟨F, ρ, hs, ρ1, R, e1, fun xs F1 H1 R1 S1 t => ⟨F1, ρ1, hs2, ρ2, R1, e2, fun xs2 F2 H2 R2 S2 t2 => ?_⟩⟩
    have tt := HdsRep.append S1 t S2 t2
    exact ⟨t.len.symm.trans hc.1.1, t2.len.symm.trans hc.1.2, callG_ok (S1.trans S2) R2 (perm_rep tt hc.2.1 fun i hi => by simpa using List.all_eq_true.mp hc.2.2 i hi) e3 kk⟩
  · cases e3
section
variable {X : Cx} {CX : CXT} {k : Nat} {f : Addr} {fd : FuncData} {ps ks : List Str} {sp : Sp} {m : FE} {E : XK} {x : Str} {p pos : Pos} {kws : List Keyword} {tk : TA} {fk : FA} {g : List Value → List Value → List Value} {gV : List V → List V → List V} {pm : List Nat}
theorem pe_callN0 (F : FnOk X.prog X.w X.K X.mg X.base CX k f fd ps sp) (hr : Room k X.A) (hg : Gl X x) (hm : X.mg x = some (.ref f)) (hk : PySem.W.keepIn X.K (.ref f) = true) (hb : KBn X.K fd ps 0 ks g gV) (hx : Passes CX X E)
    (hkw : PK X kws tk) (hall : (backToKw pos (keywordEach kws X.env)).all (·.1.isSome) = true := by rfl) (hks : (backToKw pos (keywordEach kws X.env)).filterMap (·.1) = ks := by rfl)
    (hdb : (x == ("__debug__" : Str)) = false := by decide) (hpl : ((backTo pos (starEach [] X.env)).any (·.1) || (backToKw pos (keywordEach kws X.env)).any (·.1.isNone)) = false := by rfl) : PE X (.Call (.Name x p) [] kws pos) (tCallN 0 ks.length sp gV E tNil tk) := by
  refine ⟨fun pins s σ H Q I h => ?_⟩
  have h : tk σ H (fun zs H2 => 0 = 0 ∧ zs.length = ks.length ∧ sp (gV [] zs) H2 Q E) := h
  refine wpAny_Call_Name_kw (ld_glob I hg hm ?_ hdb)
  refine PySem.W.callWith_KW0 (h₀ := X.base) I.ok.mod.kin hk hall (thn (hkw.run pos pins s σ H _ I h) fun ws s2 ⟨zs, H2, I2, rz, _, l2, q2⟩ => ⟨I2.kIn, ?_⟩) hpl
  rw [hks]
  exact run_fnN (us := []) F hr hb hx I2 .nil rz rfl l2 q2
theorem se_callN0 {l : Nat} (F : FnOk X.prog X.w X.K X.mg X.base CX k f fd ps (spI X.K m)) (hr : Room k X.A) (hg : Gl X x) (hm : X.mg x = some (.ref f)) (hk : PySem.W.keepIn X.K (.ref f) = true) (hb : KBn X.K fd ps 0 ks (guP pm) (gvP pm)) (hx : Passes CX X E)
    (hkw : SK X kws fk) (hall : (backToKw pos (keywordEach kws X.env)).all (·.1.isSome) = true := by rfl) (hks : (backToKw pos (keywordEach kws X.env)).filterMap (·.1) = ks := by rfl)
    (hdb : (x == ("__debug__" : Str)) = false := by decide) (hpl : ((backTo pos (starEach [] X.env)).any (·.1) || (backToKw pos (keywordEach kws X.env)).any (·.1.isNone)) = false := by rfl) (hl : ks.length = l := by rfl) : SE X (.Call (.Name x p) [] kws pos) (sCallN 0 l m pm aNil fk) := by
  subst hl
  exact PEimp (pe_callN0 F hr hg hm hk hb hx hkw hall hks hdb hpl) fun σ H Q z => tNil_ok σ H _ (sCallN_ok σ H Q z)
theorem se_callN {l n : Nat} {e : Expr} {es : List Expr} {fa : FA} (F : FnOk X.prog X.w X.K X.mg X.base CX k f fd ps (spI X.K m)) (hr : Room k X.A) (hg : Gl X x) (hm : X.mg x = some (.ref f)) (hk : PySem.W.keepIn X.K (.ref f) = true) (hb : KBn X.K fd ps n ks (guP pm) (gvP pm)) (hx : Passes CX X E)
    (ha : SA X (e :: es) fa) (hkw : SK X kws fk) (hall : (backToKw pos (keywordEach kws X.env)).all (·.1.isSome) = true := by rfl) (hks : (backToKw pos (keywordEach kws X.env)).filterMap (·.1) = ks := by rfl)
    (hdb : (x == ("__debug__" : Str)) = false := by decide) (he : starEach (e :: es) X.env = (false, eval e X.env) :: starEach es X.env := by rfl)
    (hpl : ((backTo pos (starEach (e :: es) X.env)).any (·.1) || (backToKw pos (keywordEach kws X.env)).any (·.1.isNone)) = false := by rfl) (hl : ks.length = l := by rfl) : SE X (.Call (.Name x p) (e :: es) kws pos) (sCallN n l m pm fa fk) := by
  subst hl
  exact PEimp (pe_callN F hr hg hm hk hb hx ha hkw hall hks hdb he hpl) fun σ H Q z => sCallN_ok σ H Q z
end
section
variable {K : PySem.W.Frag} {x qual : Str} {params : Arguments} {body : List Stmt} {scope : Scope} {kws : List (Str × V)} {f : Addr} {fd : FuncData} {ps ks : List Str}
/-- a call with keywords and no defaults -/
theorem kbN {n : Nat} {pm : List Nat} (F : FunD K x qual params body scope [] kws f fd)
    (h : ∀ (kV doc pm' : Value) (an : Option Addr) (cdv ct : Value) (us ws : List Value), us.length = n → ws.length = ks.length → bindArgs (PySem.W.fnOf x qual params body scope .none kV doc pm' an cdv ct) ⟨us, ks.zip ws⟩ = pure (ps.zip (guP pm us ws)))
    (hl : pm.length = ps.length) : KBn K fd ps n ks (guP pm) (gvP pm) := by
  obtain ⟨oc, od, dV, kV, doc, pm', an, cdv, ct, osl, rfl, lk, hcd, hD, hK⟩ := F.ex
  rcases hD with ⟨_, rfl⟩ | ⟨e, _⟩
  · exact ⟨fun s us ws X h1 h2 => .of_eq (h kV doc pm' an cdv ct us ws h1 h2), fun r1 r2 => gv_rel pm r1 r2⟩
  · exact absurd rfl e
end
/-- the law's own call -/
theorem sp_end {K : PySem.W.Frag} {m : FE} {H : Hp} {a : Addr} {ns : List Int} {E : XK} (hS : SqL K H a (ns.map V.int)) (h : ∃ r, m [some (.sc ns)] = some (.v (.bool true), r)) : spI K m [.ref a] H (fun v _ => v = .bl true) E := by
  obtain ⟨r, h⟩ := h
  have at0 : ∀ {i : Nat} {s : Slt}, [some (Slt.sc ns)][i]? = some (some s) → i = 0 ∧ s = .sc ns := fun {i s} e => by
    match i, e with
    | 0, e => cases e; exact ⟨rfl, rfl⟩
    | i + 1, e => simp at e
  refine ⟨H, [some (.sc ns)], .v (.bool true), r, ⟨Ext.refl H, rfl, fun i d e => ?_, fun i d e => ?_, fun i d e => ?_, fun i ms e => ?_, fun i p e => ?_, fun i j s t x y b h1 _ _ _ o1 _ => ?_⟩, h, rfl, fun x F' H' _ _ q _ => ?_⟩
  · cases (at0 e).2
  · rcases e with e | e <;> cases (at0 e).2
  · cases (at0 e).2
  · obtain ⟨rfl, z⟩ := at0 e
    cases z; exact ⟨a, rfl, hS⟩
  · cases (at0 e).2
  · obtain ⟨_, rfl⟩ := at0 h1
    exact o1.elim
  · cases q with
    | v q => cases q; rfl
end TL

namespace TL
open PySem PySem.Spec PyProof.Rows L2

/-! ### running a meaning by rewriting -/
section
variable {r : Ev} {i j k n : Nat} {d e : PyData} {f g h : FE} {fs gs : FA} {c t u : FT} {S T : FS} {w : FW}
@[simp] theorem x_sVar : sVar i r = match r[i]? with
  | some (some _) => some (.s i, r)
  | _ => none := (rfl)
@[simp] theorem x_sC : sC d r = some (.v d, r) := (rfl)
@[simp] theorem x_s2 {op : PyData → PyData → Option Hd} : s2 op f g r = (f r).bind fun p => (g p.2).bind fun q => (cur p.1 q.2).bind fun a => (cur q.1 q.2).bind fun b => (op a b).map fun h => (h, q.2) := (rfl)
@[simp] theorem x_s2b {op : PyData → PyData → Option Bool} : s2b op f g r = (f r).bind fun p => (g p.2).bind fun q => (cur p.1 q.2).bind fun a => (cur q.1 q.2).bind fun b => (op a b).map fun h => (.v (.bool h), q.2) := by
  unfold s2b s2
  cases f r with
  | none => rfl
  | some p => cases h1 : g p.2 with
    | none => simp [h1]
    | some q => simp [h1, Function.comp_def]
@[simp] theorem x_t2 {op : PyData → PyData → Option Bool} : t2 op f g r = (f r).bind fun p => (g p.2).bind fun q => (cur p.1 q.2).bind fun a => (cur q.1 q.2).bind fun b => (op a b).map fun h => (h, q.2) := (rfl)
@[simp] theorem x_s1 {op : PyData → Option Hd} : s1 op f r = (f r).bind fun p => (cur p.1 p.2).bind fun d => (op d).map fun h => (h, p.2) := (rfl)
@[simp] theorem x_tV : tV f r = (f r).bind fun p => (cur p.1 p.2).bind fun d => (dB d).map fun b => (b, p.2) := (rfl)
@[simp] theorem x_tNt : tNt t r = (t r).map fun p => (!p.1, p.2) := (rfl)
@[simp] theorem x_tAn : tAn t u r = (t r).bind fun p => if p.1 = true then u p.2 else some (false, p.2) := (rfl)
@[simp] theorem x_tOr : tOr' t u r = (t r).bind fun p => if p.1 = true then some (true, p.2) else u p.2 := (rfl)
@[simp] theorem x_sAn : sAn f g r = (f r).bind fun p => (cur p.1 p.2).bind fun d => (dB d).bind fun b => if b = true then g p.2 else some (.v (.bool false), p.2) := (rfl)
@[simp] theorem x_sOr : sOr f g r = (f r).bind fun p => (cur p.1 p.2).bind fun d => (dB d).bind fun b => if b = true then some (.v (.bool true), p.2) else g p.2 := (rfl)
@[simp] theorem x_sNt : sNt f r = (f r).bind fun p => (cur p.1 p.2).bind fun d => (dB d).map fun b => (.v (.bool (!b)), p.2) := (rfl)
@[simp] theorem x_sIf : sIf c f g r = (c r).bind fun p => if p.1 = true then f p.2 else g p.2 := (rfl)
@[simp] theorem x_aNil : aNil r = some ([], r) := (rfl)
@[simp] theorem x_aCons : aCons f fs r = (f r).bind fun p => (fs p.2).map fun q => (p.1 :: q.1, q.2) := (rfl)
@[simp] theorem x_sBc {op : List PyData → Option Hd} : sBc op fs r = (fs r).bind fun p => (curAll p.1 p.2).bind fun ds => (op ds).map fun h => (h, p.2) := (rfl)
@[simp] theorem x_sLst : sLst fs r = (fs r).bind fun p => if p.1.length ≤ 16000000 then (escAll p.1 p.2).map fun q => (.n (.list q.1), q.2) else none := (rfl)
@[simp] theorem x_sTup : sTup fs r = (fs r).bind fun p => if p.1.length ≤ 16000000 then (escAll p.1 p.2).map fun q => (.v (.tuple q.1), q.2) else none := (rfl)
@[simp] theorem x_oNo : oNo r = some (none, r) := (rfl)
@[simp] theorem x_oSo : oSo f r = (f r).bind fun p => (cur p.1 p.2).bind fun d => (dI d).map fun i => (some i, p.2) := (rfl)
@[simp] theorem x_sSl {l u : FO} : sSl f l u r = (f r).bind fun p => (l p.2).bind fun q => (u q.2).bind fun u => (cur p.1 u.2).bind fun d => (dSl d q.1 u.1).map fun hd => (hd, u.2) := (rfl)
@[simp] theorem x_sRg1 : sRg1 f r = (f r).bind fun p => (cur p.1 p.2).bind fun d => (dI d).bind fun n => if okR n = true then some (.n (.list (rgD 0 n)), p.2) else none := (rfl)
@[simp] theorem x_fSkip : fSkip r = some (.nx r) := (rfl)
@[simp] theorem x_fSeq : fSeq S T r = (S r).bind fun o => match o with
  | .nx r => T r
  | o => some o := by
  unfold fSeq
  cases S r with
  | none => rfl
  | some o => cases o <;> rfl
@[simp] theorem x_fBreak : fBreak r = some (.bk r) := (rfl)
@[simp] theorem x_fCont : fCont r = some (.ct r) := (rfl)
@[simp] theorem x_fExp : fExp f r = (f r).map fun p => .nx p.2 := (rfl)
@[simp] theorem x_fRet : fRet f r = (f r).map fun p => .rt p.1 p.2 := (rfl)
@[simp] theorem x_fRetN : fRetN r = some (.rt (.v .none) r) := (rfl)
@[simp] theorem x_fIf : fIf c S T r = (c r).bind fun p => if p.1 = true then S p.2 else T p.2 := (rfl)
@[simp] theorem x_fAsg : fAsg i f r = (f r).bind fun p => (put p.1 i p.2).map .nx := (rfl)
@[simp] theorem x_fPar {is : List Nat} : fPar is fs r = (fs r).bind fun p => (ready p.1 p.2).bind fun q => (putAll q.1 is q.2).map .nx := (rfl)
@[simp] theorem x_fUnp {is : List Nat} : fUnp is f r = (f r).bind fun p => (cur p.1 p.2).bind fun d => (dTup d).bind fun ds => (putDs ds is p.2).map .nx := (rfl)
@[simp] theorem x_sApp : sApp k f r = ((ownD k r).bind isL).bind fun _ => (f r).bind fun p => (esc p.1 p.2).bind fun q => ((ownD k q.2).bind isL).bind fun xs =>
  if xs.length < 16000000 then (setD k (.list (xs ++ [q.1])) q.2).map fun r' => (.v .none, r') else none := (rfl)
@[simp] theorem x_sPop : sPop k r = ((ownD k r).bind isL).bind fun xs => (xs[xs.length - 1]?).bind fun y => (setD k (.list xs.dropLast) r).map fun r' => (.v y, r') := (rfl)
@[simp] theorem x_sMt {tn : String} {op : PyData → List PyData → Option Hd} : sMt tn op f fs r = (f r).bind fun p => (cur p.1 p.2).bind fun b0 => if tyName b0 = tn then (fs p.2).bind fun q => (cur p.1 q.2).bind fun b => (curAll q.1 q.2).bind fun ds => (op b ds).map fun h => (h, q.2) else none := (rfl)
@[simp] theorem x_sCall {m : FE} {io : Option Nat} : sCall m io fs r = (fs r).bind fun p => callD m io p.1 p.2 := (rfl)
@[simp] theorem x_callD0 {m : FE} {hs : List Hd} : callD m none hs r = callG m hs r := (rfl)
@[simp] theorem x_callD1 {m : FE} {hs : List Hd} : callD m (some j) hs r = callJ m j hs r := (rfl)
@[simp] theorem x_callN {m : FE} {hs : List Hd} : callN m hs r = (escAll hs r).bind fun q => (m (fzs q.1)).bind fun u => if isRdy u.1 = true then some (u.1, q.2) else none := (rfl)
@[simp] theorem x_callG {m : FE} {hs : List Hd} : callG m hs r = (curAll hs r).bind fun ds => (m (fzs ds)).bind fun u => if flat u.1 = true then some (u.1, r) else callN m hs r := (rfl)
@[simp] theorem x_flat1 {b : Bool} : flat (.v (.bool b)) = true := (rfl)
@[simp] theorem x_flat2 {b : Int} : flat (.v (.int b)) = true := (rfl)
@[simp] theorem x_flat3 {b : Str} : flat (.v (.str b)) = true := (rfl)
@[simp] theorem x_flat4 : flat (.v .none) = true := (rfl)
@[simp] theorem x_flat5 {ds : List PyData} : flat (.v (.list ds)) = false := (rfl)
@[simp] theorem x_flat6 {ds : List PyData} : flat (.v (.tuple ds)) = ds.all scal := (rfl)
@[simp] theorem x_scalI {i : Int} : scal (.int i) = true := (rfl)
@[simp] theorem x_scalS {i : Str} : scal (.str i) = true := (rfl)
@[simp] theorem x_scalB {i : Bool} : scal (.bool i) = true := (rfl)
@[simp] theorem x_scalN : scal .none = true := (rfl)
@[simp] theorem x_scalL {ds : List PyData} : scal (.list ds) = false := (rfl)
@[simp] theorem x_scalT {ds : List PyData} : scal (.tuple ds) = false := (rfl)
@[simp] theorem x_scalD {ds} : scal (.dict ds) = false := (rfl)
@[simp] theorem x_callJ {m : FE} {hs : List Hd} : callJ m j hs r = (hs[j]?).bind fun h => (escAll (hs.set j (.v .none)) r).bind fun q => match h with
  | .n d => (m ((fzs q.1).set j (some (.io d)))).bind fun u => if isRdy u.1 = true then some (u.1, q.2) else none
  | .s k => match q.2[k]? with
    | some (some (.sc ns)) => (m ((fzs q.1).set j (some (.sc ns)))).bind fun u => if isRdy u.1 = true then some (u.1, q.2) else none
    | some (some (.ow d)) => (m ((fzs q.1).set j (some (.io d)))).bind fun u => if isRdy u.1 = true then (ioAt j u.2).bind fun d' => (setD k d' q.2).map fun r' => (u.1, r') else none
    | some (some (.io d)) => (m ((fzs q.1).set j (some (.io d)))).bind fun u => if isRdy u.1 = true then (ioAt j u.2).bind fun d' => (setD k d' q.2).map fun r' => (u.1, r') else none
    | _ => none
  | .v _ => none
  | .t _ => none := (rfl)
@[simp] theorem x_flat7 {d : PyData} : flat (.t d) = true := (rfl)
@[simp] theorem x_esc_t : esc (.t d) r = some (d, r) := (rfl)
@[simp] theorem x_cur_t : cur (.t d) r = none := (rfl)
@[simp] theorem x_isRdy3 : isRdy (.t d) = true := (rfl)
@[simp] theorem x_put_t : put (.t d) i r = if isIo r[i]? = true then none else some (r.set i (some (.tr d))) := (rfl)
@[simp] theorem x_isIo7 : isIo (some (some (.tr d))) = false := (rfl)
@[simp] theorem x_slotD4 : slotD (.tr d) = none := (rfl)
@[simp] theorem x_slotD5 {ns : List Int} : slotD (.sc ns) = none := (rfl)
@[simp] theorem x_fzs0 : fzs [] = [] := (rfl)
@[simp] theorem x_fzs1 {ds : List PyData} : fzs (d :: ds) = some (.fz d) :: fzs ds := (rfl)
@[simp] theorem x_escAll0 : escAll [] r = some ([], r) := (rfl)
@[simp] theorem x_escAll1 {a : Hd} {hs : List Hd} : escAll (a :: hs) r = (esc a r).bind fun p => (escAll hs p.2).map fun q => (p.1 :: q.1, q.2) := (rfl)
@[simp] theorem x_curAll0 : curAll [] r = some [] := (rfl)
@[simp] theorem x_curAll1 {a : Hd} {hs : List Hd} : curAll (a :: hs) r = (cur a r).bind fun d => (curAll hs r).map fun ds => d :: ds := (rfl)
@[simp] theorem x_esc_v : esc (.v d) r = some (d, r) := (rfl)
@[simp] theorem x_esc_n : esc (.n d) r = some (d, r) := (rfl)
@[simp] theorem x_esc_s : esc (.s i) r = match r[i]? with
    | some (some (.fz d)) => some (d, r)
    | some (some (.ow d)) => some (d, r.set i (some (.fz d)))
    | some (some (.tr d)) => some (d, r.set i (some (.fz d)))
    | _ => none := (rfl)
@[simp] theorem x_cur_v : cur (.v d) r = some d := (rfl)
@[simp] theorem x_cur_n : cur (.n d) r = some d := (rfl)
@[simp] theorem x_cur_s : cur (.s i) r = match r[i]? with
    | some (some s) => slotD s
    | _ => none := (rfl)
@[simp] theorem x_slotD1 : slotD (.fz d) = some d := (rfl)
@[simp] theorem x_slotD2 : slotD (.ow d) = some d := (rfl)
@[simp] theorem x_slotD3 : slotD (.io d) = some d := (rfl)
@[simp] theorem x_isRdy1 : isRdy (.v d) = true := (rfl)
@[simp] theorem x_isRdy2 : isRdy (.n d) = true := (rfl)
@[simp] theorem x_isIo1 : isIo none = false := (rfl)
@[simp] theorem x_isIo2 : isIo (some none) = false := (rfl)
@[simp] theorem x_isIo3 : isIo (some (some (.fz d))) = false := (rfl)
@[simp] theorem x_isIo4 : isIo (some (some (.ow d))) = false := (rfl)
@[simp] theorem x_isIo5 : isIo (some (some (.io d))) = true := (rfl)
@[simp] theorem x_isIo6 {ns : List Int} : isIo (some (some (.sc ns))) = true := (rfl)
@[simp] theorem x_put_v : put (.v d) i r = if isIo r[i]? = true then none else some (r.set i (some (.fz d))) := (rfl)
@[simp] theorem x_put_n : put (.n d) i r = if isIo r[i]? = true then none else some (r.set i (some (.ow d))) := (rfl)
@[simp] theorem x_ownD : ownD k r = match r[k]? with
  | some (some (.ow d)) => some d
  | some (some (.io d)) => some d
  | _ => none := (rfl)
@[simp] theorem x_setD : setD k d r = match r[k]? with
  | some (some (.ow _)) => some (r.set k (some (.ow d)))
  | some (some (.io _)) => some (r.set k (some (.io d)))
  | _ => none := (rfl)
@[simp] theorem x_isL {ds : List PyData} : isL (.list ds) = some ds := (rfl)
@[simp] theorem x_dB {b : Bool} : dB (.bool b) = some b := (rfl)
@[simp] theorem x_dI {b : Int} : dI (.int b) = some b := (rfl)
@[simp] theorem x_ioAt : ioAt j r = match r[j]? with
  | some (some (.io d)) => some d
  | _ => none := (rfl)
@[simp] theorem x_ready0 : ready [] r = some ([], r) := (rfl)
@[simp] theorem x_defM {b : FS} : defM n k b r = if r.length = k ∧ r.all argOk = true then (b (r ++ List.replicate (n - k) none)).bind (finish r) else none := by rw [defM_eq]; rfl
@[simp] theorem x_argOk1 : argOk (some (.fz d)) = true := (rfl)
@[simp] theorem x_argOk2 : argOk (some (.io d)) = true := (rfl)
@[simp] theorem x_argOk3 {ns : List Int} : argOk (some (.sc ns)) = true := (rfl)
@[simp] theorem x_fin_rt {a : Hd} {r0 : Ev} : finish r (.rt a r0) = (resH a r0).map fun h' => (h', outs r r0) := (rfl)
@[simp] theorem x_fin_nx {r0 : Ev} : finish r (.nx r0) = some (.v .none, outs r r0) := (rfl)
@[simp] theorem x_res_v : resH (.v d) r = some (.v d) := (rfl)
@[simp] theorem x_res_n : resH (.n d) r = some (.n d) := (rfl)
@[simp] theorem x_outs0 : outs [] r = [] := (rfl)
@[simp] theorem x_outs1 {s s' : Option Slt} {r' : Ev} : outs (s :: r) (s' :: r') = (if isIoS s = true then s' else s) :: outs r r' := (rfl)
@[simp] theorem x_isIoS1 : isIoS (some (.fz d)) = false := (rfl)
@[simp] theorem x_isIoS2 : isIoS (some (.io d)) = true := (rfl)
@[simp] theorem x_isIoS3 {ns : List Int} : isIoS (some (.sc ns)) = false := (rfl)
@[simp] theorem x_isIoS4 : isIoS none = false := (rfl)
@[simp] theorem x_wSeq : wSeq f r = (f r).bind fun p => (esc p.1 p.2).bind fun q => (seqD q.1).map fun ds => (ds, q.2) := (rfl)
@[simp] theorem x_wRg1 : wRg1 f r = (f r).bind fun p => (cur p.1 p.2).bind fun d => (dI d).bind fun n => if inLim n = true then some (rgD 0 n, p.2) else none := (rfl)
@[simp] theorem x_wEnum : wEnum f r = (f r).bind fun p => (esc p.1 p.2).bind fun q => (isL q.1).map fun ds => (enumD 0 ds, q.2) := (rfl)
@[simp] theorem x_fFor {bd : PyData → Ev → Option Ev} : fFor w bd S r = (w r).bind fun p => loopD bd S p.1 p.2 := (rfl)
@[simp] theorem x_seqD1 {ds : List PyData} : seqD (.list ds) = some ds := (rfl)
@[simp] theorem x_seqD2 {ds : List PyData} : seqD (.tuple ds) = some ds := (rfl)
theorem x_seqD3 {x : Str} : seqD (.str x) = some (x.cps.toList.map fun c => .str ⟨#[c]⟩) := rfl
@[simp] theorem x_sLc {own : List Nat} {bd : PyData → Ev → Option Ev} : sLc own w bd c f r = (w r).bind fun p => if noIo p.2 own = true then (lcD own bd c f p.1 (wipeR p.2 own) []).map fun q => (.n (.list q.1), restore p.2 q.2 own) else none := (rfl)
@[simp] theorem x_sDc {own : List Nat} {bd : PyData → Ev → Option Ev} : sDc own w bd c f g r = (w r).bind fun p => if noIo p.2 own = true then (dcD own bd c f g p.1 (wipeR p.2 own) []).map fun q => (.n (.dict q.1), restore p.2 q.2 own) else none := (rfl)
@[simp] theorem x_noIo0 : noIo r [] = true := (rfl)
@[simp] theorem x_noIo1 {l : List Nat} : noIo r (i :: l) = (!isIo r[i]? && noIo r l) := (rfl)
@[simp] theorem x_wipe0 : wipeR r [] = r := (rfl)
@[simp] theorem x_wipe1 {l : List Nat} : wipeR r (i :: l) = (wipeR r l).set i none := (rfl)
@[simp] theorem x_rest0 {r' : Ev} : restore r r' [] = r' := (rfl)
@[simp] theorem x_rest1 {r' : Ev} {l : List Nat} : restore r r' (i :: l) = match r[i]? with
    | some (some (.fz d)) => (restore r r' l).set i (some (.fz d))
    | _ => (restore r r' l).set i none := rfl
@[simp] theorem x_cYes : cYes r = some (true, r) := (rfl)
@[simp] theorem x_bNm : bNm i d r = put (.v d) i r := (rfl)
@[simp] theorem x_bTp {is : List Nat} : bTp is d r = (dTup d).bind fun ds => putDs ds is r := (rfl)
@[simp] theorem x_dTup {ds : List PyData} : dTup (.tuple ds) = some ds := (rfl)
@[simp] theorem x_putDs0 : putDs [] [] r = some r := (rfl)
@[simp] theorem x_putDs1 {ds : List PyData} {is : List Nat} : putDs (d :: ds) (i :: is) r = (put (.v d) i r).bind fun r' => putDs ds is r' := (rfl)
@[simp] theorem x_putAll0 : putAll [] [] r = some r := (rfl)
@[simp] theorem x_putAll1 {a : Hd} {hs : List Hd} {is : List Nat} : putAll (a :: hs) (i :: is) r = (put a i r).bind fun r' => putAll hs is r' := (rfl)
@[simp] theorem x_sScLen : sScLen k r = (scAt k r).map fun ns => (.v (.int ns.length), r) := (rfl)
@[simp] theorem x_sScIx : sScIx k f r = (scAt k r).bind fun _ => (f r).bind fun p => (cur p.1 p.2).bind fun d => (dI d).bind fun i => (scAt k p.2).bind fun ns => (atI ns i).map fun n => (.v (.int n), p.2) := (rfl)
@[simp] theorem x_sScSl {l u : FO} : sScSl k l u r = (scAt k r).bind fun _ => (l r).bind fun q => (u q.2).bind fun u => (scAt k u.2).map fun ns => (.n (.list ((HT.sIx ns.length 0 q.1 |> fun a => (ns.drop a).take (HT.sIx ns.length ns.length u.1 - a)).map .int)), u.2) := (rfl)
@[simp] theorem x_scAt : scAt k r = match r[k]? with
  | some (some (.sc ns)) => some ns
  | _ => none := (rfl)
@[simp] theorem x_fSetI : fSetI k f g r = (ownD k r).bind fun _ => (f r).bind fun p => (g p.2).bind fun q => (esc p.1 q.2).bind fun u => (cur q.1 u.2).bind fun ix => (ownD k u.2).bind fun d => (setItemD d ix u.1).bind fun d' => (setD k d' u.2).map .nx := (rfl)
@[simp] theorem x_fSetAll : fSetAll k f r = (ownD k r).bind fun _ => (f r).bind fun p => ((cur p.1 p.2).bind isL).bind fun ys => ((ownD k p.2).bind isL).bind fun xs =>
  if xs.length + ys.length ≤ 16000000 ∧ notSlot k p.1 = true then (setD k (.list ys) p.2).map .nx else none := (rfl)
@[simp] theorem x_sCallN {n l : Nat} {m : FE} {pm : List Nat} : sCallN n l m pm fs gs r = (fs r).bind fun p => (gs p.2).bind fun q => if (p.1.length = n ∧ q.1.length = l) ∧ pm.Nodup ∧ pm.all (fun i => decide (i < (p.1 ++ q.1).length)) = true then callG m (pm.map fun i => (p.1 ++ q.1).getD i (.v .none)) q.2 else none := (rfl)
@[simp] theorem x_sDk : sDk r = some (.n (.dict []), r) := (rfl)
end
@[simp] theorem x_res_s {i : Nat} {r : Ev} : resH (.s i) r = match r[i]? with
  | some (some (.fz d)) => some (.v d)
  | some (some (.ow d)) => some (.n d)
  | some (some (.tr d)) => some (.t d)
  | _ => none := (rfl)
@[simp] theorem x_res_t {d : PyData} {r : Ev} : resH (.t d) r = some (.t d) := (rfl)
@[simp] theorem x_ready1 {a : Hd} {hs : List Hd} {r : Ev} : ready (a :: hs) r = match a with
  | .s i => (esc (.s i) r).bind fun p => (ready hs p.2).map fun q => (.v p.1 :: q.1, q.2)
  | h => (ready hs r).map fun q => (h :: q.1, q.2) := by
  cases a <;> rfl

/-! ### loops -/
theorem loopD_inv {bd : PyData → Ev → Option Ev} {body : FS} {P : Nat → Ev → Prop} : ∀ (ds : List PyData) (r : Ev) (i0 : Nat), P i0 r →
    (∀ (i : Nat) (d : PyData) (r : Ev), ds[i]? = some d → P (i0 + i) r → ∃ r1 r2, bd d r = some r1 ∧ body r1 = some (.nx r2) ∧ P (i0 + i + 1) r2) → ∃ r', loopD bd body ds r = some (.nx r') ∧ P (i0 + ds.length) r'
  | [], r, i0, h0, _ => ⟨r, rfl, h0⟩
  | d :: ds, r, i0, h0, step => by
    obtain ⟨r1, r2, e1, e2, p2⟩ := step 0 d r rfl h0
    obtain ⟨r', e3, p3⟩ := loopD_inv (P := P) ds r2 (i0 + 1) p2 fun i d' r hd hp => by
      have z := step (i + 1) d' r (by simpa using hd) (by rw [← Nat.add_assoc, Nat.add_right_comm]; exact hp)
      rw [← Nat.add_assoc, Nat.add_right_comm i0 i 1] at z
      exact z
    refine ⟨r', ?_, by rw [List.length_cons, ← Nat.add_assoc, Nat.add_right_comm]; exact p3⟩
    simp only [loopD, e1, e2, Option.bind_some, e3]
theorem loop_nx {bd : PyData → Ev → Option Ev} {body : FS} {d : PyData} {ds : List PyData} {r r2 : Ev} (h : (bd d r).bind body = some (.nx r2)) : loopD bd body (d :: ds) r = loopD bd body ds r2 := by
  rw [Option.bind_eq_some_iff] at h
  obtain ⟨r1, h1, h2⟩ := h
  simp only [loopD, h1, h2, Option.bind_some]
theorem loop_rt {bd : PyData → Ev → Option Ev} {body : FS} {d : PyData} {ds : List PyData} {r r2 : Ev} {a : Hd} (h : (bd d r).bind body = some (.rt a r2)) : loopD bd body (d :: ds) r = some (.rt a r2) := by
  rw [Option.bind_eq_some_iff] at h
  obtain ⟨r1, h1, h2⟩ := h
  simp only [loopD, h1, h2, Option.bind_some]
@[simp] theorem loop_nil {bd : PyData → Ev → Option Ev} {body : FS} {r : Ev} : loopD bd body [] r = some (.nx r) := rfl
theorem lcD_pure {own : List Nat} {bd : PyData → Ev → Option Ev} {c : FT} {elt : FE} {r : Ev} {b : PyData → Bool} {g : PyData → PyData} : ∀ (ds acc : List PyData), acc.length + ds.length ≤ 16000000 →
    (∀ d ∈ ds, ∃ r1 r2, bd d r = some r1 ∧ c r1 = some (b d, r2) ∧ (b d = false → wipeR r2 own = r) ∧ (b d = true → ∃ h r3 r4, elt r2 = some (h, r3) ∧ esc h r3 = some (g d, r4) ∧ wipeR r4 own = r)) →
    lcD own bd c elt ds r acc = some (acc ++ (ds.filter b).map g, r)
  | [], acc, _, _ => by simp [lcD]
  | d :: ds, acc, hl, step => by
    obtain ⟨r1, r2, e1, e2, hf, ht⟩ := step d List.mem_cons_self
    simp only [lcD, e1, e2, Option.bind_some]
    have rest := fun acc' hl' => lcD_pure (own := own) (bd := bd) (c := c) (elt := elt) (r := r) (b := b) (g := g) ds acc' hl' fun d' hd => step d' (List.mem_cons_of_mem _ hd)
    cases hb : b d with
    | false =>
      simp only [hf hb, Bool.false_eq_true, if_false]
      rw [rest acc (by simp at hl; omega)]
      simp [hb]
    | true =>
      obtain ⟨h, r3, r4, e3, e4, e5⟩ := ht hb
      simp only [if_true, e3, e4, Option.bind_some, e5]
      rw [if_pos (by simp at hl; omega), rest _ (by simp at hl ⊢; omega)]
      simp [hb]
end TL

namespace TL
open PySem PySem.Spec PyProof.Rows L2

/-! ### rows of numbers as data -/
def iD (k : Nat) : PyData := .int (k : Int)
def dn (p : List Nat) : PyData := .list (p.map iD)
def il (p : List Nat) : List PyData := p.map iD
@[simp] theorem il_nil : il [] = [] := rfl
@[simp] theorem il_cons (k : Nat) (p : List Nat) : il (k :: p) = iD k :: il p := rfl
@[simp] theorem il_len (p : List Nat) : (il p).length = p.length := List.length_map _
theorem il_get (p : List Nat) (i : Nat) : (il p)[i]? = p[i]?.map iD := List.getElem?_map
theorem il_app (p q : List Nat) : il p ++ il q = il (p ++ q) := List.map_append.symm
theorem il_mem {p : List Nat} {d : PyData} (h : d ∈ il p) : ∃ k ∈ p, d = iD k := by
  obtain ⟨k, h1, h2⟩ := List.mem_map.mp h
  exact ⟨k, h1, h2.symm⟩
@[simp] theorem filt_no {α : Type} (l : List α) : l.filter (fun _ => false) = [] := by induction l <;> simp_all
@[simp] theorem filt_yes {α : Type} (l : List α) : l.filter (fun _ => true) = l := by induction l <;> simp_all
theorem list_il (p : List Nat) : PyData.list (il p) = dn p := rfl
theorem dn_eq (p : List Nat) : dn p = .list (p.map iD) := rfl
theorem dn_ints (p : List Nat) : p.map iD = (p.map fun k : Nat => (k : Int)).map PyData.int := by rw [List.map_map]; rfl
theorem canLayAll_dn : ∀ p : List Nat, PyData.canLayAll0 (p.map iD) = true
  | [] => rfl
  | k :: p => by simp only [List.map_cons, PyData.canLayAll0, canLayAll_dn p, iD, PyData.canLay0, Bool.and_self]
theorem depthAll_dn : ∀ p : List Nat, PyData.depthAll (p.map iD) = 0
  | [] => rfl
  | k :: p => by simp only [List.map_cons, PyData.depthAll, depthAll_dn p, iD, PyData.depth, Nat.max_self]
@[simp] theorem flat_dn (p : List Nat) : flat (.n (dn p)) = true := by
  show (p.map iD).all scal2 = true
  rw [List.all_map]
  exact List.all_eq_true.mpr fun _ _ => rfl
@[simp] theorem flat_vdn (p : List Nat) : flat (.v (dn p)) = false := rfl
@[simp] theorem flat_iD (k : Nat) : flat (.v (iD k)) = true := rfl
@[simp] theorem shaped_dn (p : List Nat) : SeqAt.shaped (dn p) = true := by
  unfold SeqAt.shaped dn
  simp only [PyData.canLay0, canLayAll_dn, PyData.depth, depthAll_dn]
  decide
@[simp] theorem shaped_int (i : Int) : SeqAt.shaped (.int i) = true := rfl
@[simp] theorem shaped_iD (i : Nat) : SeqAt.shaped (iD i) = true := rfl
@[simp] theorem shaped_none : SeqAt.shaped .none = true := rfl
@[simp] theorem shaped_bool (b : Bool) : SeqAt.shaped (.bool b) = true := rfl
theorem eqv_iD (i j : Nat) : PyData.eqv (iD i) (iD j) = decide (i = j) := by
  simp only [iD, PyData.eqv]
  by_cases h : i = j
  · subst h; simp
  · rw [decide_eq_false h]; simp; omega
@[simp] theorem eqv_int (i j : Int) : PyData.eqv (.int i) (.int j) = decide (i = j) := by
  simp only [PyData.eqv]
  by_cases h : i = j
  · subst h; simp
  · rw [decide_eq_false h]; simp [h]
theorem eqvAll_dn : ∀ p q : List Nat, PyData.eqvAll (p.map iD) (q.map iD) = decide (p = q)
  | [], [] => rfl
  | [], _ :: _ => rfl
  | _ :: _, [] => rfl
  | i :: p, j :: q => by
    simp only [List.map_cons, PyData.eqvAll, eqv_iD, eqvAll_dn p q]
    by_cases h : i = j <;> by_cases h2 : p = q <;> simp [h, h2]
@[simp] theorem dEq_dn (p q : List Nat) : dEq (dn p) (dn q) = some (decide (p = q)) := by
  unfold dEq
  rw [if_pos ⟨shaped_dn p, shaped_dn q⟩]
  simp only [dn, PyData.eqv, eqvAll_dn]
@[simp] theorem dNe_dn (p q : List Nat) : dNe (dn p) (dn q) = some (!decide (p = q)) := by
  unfold dNe
  rw [if_pos ⟨shaped_dn p, shaped_dn q⟩]
  simp only [dn, PyData.eqv, eqvAll_dn]
@[simp] theorem dEq_int (i j : Int) : dEq (.int i) (.int j) = some (decide (i = j)) := by
  unfold dEq
  rw [if_pos ⟨rfl, rfl⟩, eqv_int]
@[simp] theorem dNe_int (i j : Int) : dNe (.int i) (.int j) = some (!decide (i = j)) := by
  unfold dNe
  rw [if_pos ⟨rfl, rfl⟩, eqv_int]
@[simp] theorem bLen_dn (p : List Nat) : bLen [dn p] = some (.v (.int (p.length : Int))) := by simp [bLen, dn]
@[simp] theorem isL_dn (p : List Nat) : isL (dn p) = some (il p) := rfl
@[simp] theorem seqD_dn (p : List Nat) : seqD (dn p) = some (il p) := rfl
@[simp] theorem dI_iD (k : Nat) : dI (iD k) = some (k : Int) := rfl
@[simp] theorem tyName_dn (p : List Nat) : tyName (dn p) = "list" := rfl
@[simp] theorem bInt_int (i : Int) : bInt [.int i] = some (.v (.int i)) := rfl
theorem dn_nil : dn [] = .list [] := rfl
theorem list_nil : PyData.list [] = dn [] := rfl
@[simp] theorem bList_dn (p : List Nat) : bList [dn p] = some (.n (dn p)) := by simp [bList, dn]
theorem atI_nat {α : Type} (xs : List α) (k : Nat) : atI xs (k : Int) = xs[k]? := by
  unfold atI ixN
  by_cases h : k < xs.length
  · rw [if_pos (by omega), if_pos (by omega)]; simp
  · rw [if_pos (by omega), if_neg (by omega)]; simp; omega
theorem atI_last {α : Type} (xs : List α) (h : xs ≠ []) : atI xs (-1) = some (xs.getLast h) := by
  unfold atI ixN
  have : 0 < xs.length := List.length_pos_iff.mpr h
  rw [if_neg (by omega), if_pos (by omega)]
  simp only [Option.bind_some]
  rw [List.getLast_eq_getElem, ← List.getElem?_eq_getElem]
  congr 1
  omega
theorem ixA_nat (p : List Nat) (k : Nat) : dIxA (dn p) (.int (k : Int)) = (p[k]?).map fun x => .v (iD x) := by
  show (atI (p.map iD) (k : Int)).map Hd.v = _
  rw [atI_nat, List.getElem?_map, Option.map_map]; rfl
theorem ixA_iD (p : List Nat) (k : Nat) : dIxA (dn p) (iD k) = (p[k]?).map fun x => .v (iD x) := ixA_nat p k
theorem ixA_last (p : List Nat) (h : p ≠ []) : dIxA (dn p) (.int (-1)) = some (.v (iD (p.getLast h))) := by
  show (atI (p.map iD) (-1)).map Hd.v = _
  rw [atI_last _ (by simpa using h), List.getLast_map]; rfl
@[simp] theorem sIx_none (n d : Nat) : HT.sIx n d none = d := rfl
@[simp] theorem sIx_nat (n d k : Nat) : HT.sIx n d (some (k : Int)) = min k n := HT.sIx_nat n d k
@[simp] theorem sIx_m1 (n d : Nat) : HT.sIx n d (some (-1)) = n - 1 := by
  show (if (-1 : Int) < 0 then ((-1 : Int) + (n : Int)).toNat else min (-1 : Int).toNat n) = n - 1
  rw [if_pos (by omega)]; omega
theorem cutD_dn (p : List Nat) (lo hi : Option Int) : cutD (p.map iD) lo hi = ((p.drop (HT.sIx p.length 0 lo)).take (HT.sIx p.length p.length hi - HT.sIx p.length 0 lo)).map iD := by
  unfold cutD
  rw [List.length_map, List.map_take, List.map_drop]
theorem dSl_dn (p : List Nat) (lo hi : Option Int) : dSl (dn p) lo hi = some (.n (dn ((p.drop (HT.sIx p.length 0 lo)).take (HT.sIx p.length p.length hi - HT.sIx p.length 0 lo)))) := by
  show some (Hd.n (.list (cutD (p.map iD) lo hi))) = _
  rw [cutD_dn]; rfl
@[simp] theorem sl_to (p : List Nat) (k : Nat) : dSl (dn p) none (some (k : Int)) = some (.n (dn (p.take k))) := by
  rw [dSl_dn]
  simp [← List.take_eq_take_min]
@[simp] theorem sl_from (p : List Nat) (k : Nat) : dSl (dn p) (some (k : Int)) none = some (.n (dn (p.drop k))) := by
  rw [dSl_dn]
  simp only [sIx_nat, sIx_none]
  by_cases h : k ≤ p.length
  · rw [Nat.min_eq_left h, List.take_of_length_le (by simp)]
  · rw [Nat.min_eq_right (by omega), List.drop_of_length_le (by omega), List.drop_of_length_le (by omega)]; simp
@[simp] theorem sl_to_m1 (p : List Nat) : dSl (dn p) none (some (-1)) = some (.n (dn p.dropLast)) := by
  rw [dSl_dn]
  simp [List.dropLast_eq_take]
@[simp] theorem sl_from_m1 (p : List Nat) (k : Nat) : dSl (dn p) (some (k : Int)) (some (-1)) = some (.n (dn (p.dropLast.drop k))) := by
  rw [dSl_dn]
  simp only [sIx_nat, sIx_m1]
  congr 3
  rw [List.dropLast_eq_take, List.drop_take]
  by_cases h : k ≤ p.length
  · rw [Nat.min_eq_left h]
  · rw [Nat.min_eq_right (by omega), List.drop_of_length_le (by omega), List.drop_of_length_le (by omega)]; simp
theorem add_dn (p q : List Nat) (h : p.length + q.length ≤ 16000000) : dAdd (dn p) (dn q) = some (.n (dn (p ++ q))) := by
  show (if (p.map iD).length + (q.map iD).length ≤ 16000000 then some (Hd.n (.list (p.map iD ++ q.map iD))) else none) = _
  rw [List.length_map, List.length_map, if_pos h, ← List.map_append]; rfl
@[simp] theorem add_int (i j : Int) : dAdd (.int i) (.int j) = some (.v (.int (i + j))) := rfl
@[simp] theorem sub_int' (i j : Int) : dSub (.int i) (.int j) = some (.v (.int (i - j))) := rfl
@[simp] theorem neg_int (i : Int) : dNeg (.int i) = some (.v (.int (-i))) := rfl
theorem rgD_dn (n : Nat) : PyData.list (rgD 0 (n : Int)) = dn (List.range n) := by
  unfold rgD dn iD
  congr 1
  have : ((n : Int) - 0).toNat = n := by omega
  rw [this]
  refine List.map_congr_left fun i _ => ?_
  rw [Int.zero_add]
theorem rgD_iD (n : Nat) : rgD 0 (n : Int) = il (List.range n) := by
  have := rgD_dn n
  exact PyData.list.inj this
@[simp] theorem rev_dn (p : List Nat) : dRevA (dn p) = some (.n (dn p.reverse)) := by
  show some (Hd.n (.list (p.map iD).reverse)) = _
  rw [← List.map_reverse]; rfl
theorem mIndex_dn {p : List Nat} {k : Nat} (h : k ∈ p) (hl : p.length ≤ 16000000) : mIndex (dn p) [iD k] = some (.v (iD (p.idxOf k))) := by
  show (if SeqAt.shaped (iD k) = true ∧ SeqAt.shaped (dn p) = true ∧ (p.map iD).length ≤ 16000000 then (firstAt (p.map iD) (iD k)).map fun j => Hd.v (.int (j : Nat)) else none) = _
  rw [if_pos ⟨rfl, shaped_dn p, by rw [List.length_map]; exact hl⟩]
  have : firstAt (p.map iD) (iD k) = some (p.idxOf k) := by
    unfold firstAt
    rw [List.findIdx?_map]
    have e : ((fun z => PyData.eqv z (iD k)) ∘ iD) = fun x => x == k := by
      funext x
      simp only [Function.comp_apply, eqv_iD]
      rfl
    rw [e]
    have hlt := List.idxOf_lt_length_of_mem h
    rw [List.findIdx?_eq_some_iff_getElem]
    refine ⟨hlt, by simp, fun j hj => ?_⟩
    simpa using List.not_of_lt_findIdx (p := fun x => x == k) hj
  rw [this]; rfl
theorem sorted_dn {p q : List Nat} (h : q.Perm p) (s : q.Pairwise (· ≤ ·)) : bSorted [dn p] = some (.n (dn q)) := by
  have e1 : intsOf (p.map iD) = some (p.map fun k : Nat => (k : Int)) := by rw [dn_ints]; exact intsOf_map _
  have e2 : (q.map fun k : Nat => (k : Int)) = sortI (p.map fun k : Nat => (k : Int)) := sortI_eq (h.map _) (List.pairwise_map.mpr (s.imp fun h => by omega))
  rw [dn_eq]
  simp only [bSorted, e1]
  rw [← e2, ← dn_ints]; rfl
/-! ### comprehensions, step by step -/
def lcStep (own : List Nat) (bd : PyData → Ev → Option Ev) (c : FT) (elt : FE) (d : PyData) (r : Ev) : Option (Option PyData × Ev) := (bd d r).bind fun r1 => (c r1).bind fun p => if p.1 = true then
  (elt p.2).bind fun q => (esc q.1 q.2).map fun u => (some u.1, wipeR u.2 own) else some (none, wipeR p.2 own)
theorem lcD_cons {own : List Nat} {bd : PyData → Ev → Option Ev} {c : FT} {elt : FE} {d : PyData} {ds acc : List PyData} {r r' : Ev} {o : Option PyData} (h : lcStep own bd c elt d r = some (o, r')) (hl : acc.length < 16000000) : lcD own bd c elt (d :: ds) r acc = lcD own bd c elt ds r' (acc ++ o.toList) := by
  unfold lcStep at h
  simp only [Option.bind_eq_some_iff] at h
  obtain ⟨r1, e1, ⟨b, r2⟩, e2, e3⟩ := h
  simp only [lcD, e1, e2, Option.bind_some]
  cases b with
  | false =>
    simp only [Bool.false_eq_true, if_false, Option.some.injEq, Prod.mk.injEq] at e3 ⊢
    obtain ⟨rfl, rfl⟩ := e3
    simp
  | true =>
    simp only [if_true, Option.bind_eq_some_iff, Option.map_eq_some_iff] at e3 ⊢
    obtain ⟨⟨a, r3⟩, e4, ⟨x, r4⟩, e5, e6⟩ := e3
    cases e6
    simp only [e4, e5, Option.bind_some, if_pos hl]
    rfl
theorem lcD_go {own : List Nat} {bd : PyData → Ev → Option Ev} {c : FT} {elt : FE} {r : Ev} {g : PyData → Option PyData} : ∀ (ds acc : List PyData), acc.length + ds.length ≤ 16000000 → (∀ d ∈ ds, lcStep own bd c elt d r = some (g d, r)) →
    lcD own bd c elt ds r acc = some (acc ++ ds.filterMap g, r)
  | [], acc, _, _ => by simp [lcD]
  | d :: ds, acc, hl, h => by
    simp only [List.length_cons] at hl
    rw [lcD_cons (h d List.mem_cons_self) (by omega), lcD_go ds _ (by
      simp only [List.length_append]
      have : (g d).toList.length ≤ 1 := by cases g d <;> simp
      omega) fun d' hd => h d' (List.mem_cons_of_mem _ hd)]
    cases e : g d <;> simp [e]
theorem lcD_of {α : Type} {own : List Nat} {bd : PyData → Ev → Option Ev} {c : FT} {elt : FE} {r : Ev} {enc : α → PyData} {g : α → Option PyData} : ∀ (xs : List α) (acc : List PyData), acc.length + xs.length ≤ 16000000 → (∀ x ∈ xs, lcStep own bd c elt (enc x) r = some (g x, r)) →
    lcD own bd c elt (xs.map enc) r acc = some (acc ++ xs.filterMap g, r)
  | [], acc, _, _ => by simp [lcD]
  | d :: ds, acc, hl, h => by
    simp only [List.length_cons] at hl
    rw [List.map_cons, lcD_cons (h d List.mem_cons_self) (by omega), lcD_of ds _ (by
      simp only [List.length_append]
      have : (g d).toList.length ≤ 1 := by cases g d <;> simp
      omega) fun d' hd => h d' (List.mem_cons_of_mem _ hd)]
    cases e : g d <;> simp [e]
/-- over a row of numbers, a number of each -/
theorem lcD_num {own : List Nat} {bd : PyData → Ev → Option Ev} {c : FT} {elt : FE} {r : Ev} {f : Nat → Nat} (l : List Nat) (hl : l.length ≤ 16000000) (h : ∀ x ∈ l, lcStep own bd c elt (iD x) r = some (some (iD (f x)), r)) : lcD own bd c elt (il l) r [] = some (il (l.map f), r) := by
  have := lcD_of (own := own) (bd := bd) (c := c) (elt := elt) (r := r) (enc := iD) (g := fun x => some (iD (f x))) l [] (by simpa using hl) h
  rw [show il l = l.map iD from rfl, this]
  simp [il, List.filterMap_eq_map, Function.comp_def]
/-- over a row of numbers, some of them -/
theorem lcD_sub {own : List Nat} {bd : PyData → Ev → Option Ev} {c : FT} {elt : FE} {r : Ev} {b : Nat → Bool} (l : List Nat) (hl : l.length ≤ 16000000) (h : ∀ x ∈ l, lcStep own bd c elt (iD x) r = some (if b x = true then some (iD x) else none, r)) : lcD own bd c elt (il l) r [] = some (il (l.filter b), r) := by
  have := lcD_of (own := own) (bd := bd) (c := c) (elt := elt) (r := r) (enc := iD) (g := fun x => if b x = true then some (iD x) else none) l [] (by simpa using hl) h
  rw [show il l = l.map iD from rfl, this]
  congr 2
  induction l with
  | nil => rfl
  | cons x l ih =>
    have ih := ih (by simp at hl; omega) (fun y hy => h y (List.mem_cons_of_mem _ hy)) (by
      have := lcD_of (own := own) (bd := bd) (c := c) (elt := elt) (r := r) (enc := iD) (g := fun x => if b x = true then some (iD x) else none) l [] (by simp at hl ⊢; omega) (fun y hy => h y (List.mem_cons_of_mem _ hy))
      exact this)
    simp only [List.nil_append] at ih ⊢
    cases e : b x <;> simp [e, ih]
end TL

namespace TL
open PySem PySem.Spec PyProof.Rows L2

/-! ### defs that know that nothing is being shown -/
structure RoomG (k : Nat) (A : Around) : Prop where
  rm : Room k A
  gd : A.guards = some []
theorem RoomG.mono {j k : Nat} {A : Around} (r : RoomG k A) (h : j ≤ k) : RoomG j A := ⟨r.rm.mono h, r.gd⟩
theorem RoomG.deeper {k : Nat} {A : Around} (r : RoomG (k + 1) A) (env : Env) : RoomG k (A.deeper env) := ⟨r.rm.deeper env, r.gd⟩
section
variable (P : Program) (w : World) (K : PySem.W.Frag) (mg : Str → Option Value) (base : Heap) (CX : CXT) (k : Nat) (f : Addr) (fd : FuncData) (ps : List Str) (sp : Sp)
/-- as FnOk, wherever nothing is being shown -/
structure FnG : Prop where
  ln : ∀ {vs H Q E}, sp vs H Q E → vs.length = ps.length
  go : ∀ {A : Around} {outer : List Env} {s : Shared} {H : Hp} {args : Args} {us : List Value} {vs : List V} {Q : VK} {E : XK},
    RoomG k A → Env0 P w K mg base A outer s H → BindsTo s fd args (ps.zip us) → Vals vs us → sp vs H Q E → codeAny (model P w) A (.call (.ref f) args) (CR CX outer P w H s Q E) s
end
section
variable {X : Cx} {CX : CXT} {k n : Nat} {f : Addr} {fd : FuncData} {ps ks : List Str} {sp : Sp} {E : XK}
/-- the callee runs, however its parameters are bound -/
theorem FnG.calls {pins : List (Addr × Obj)} {σ : L2.St} {H : Hp} {s : Shared} {Q : VK} {args : List Value} {kw : List (Str × Value)} {us : List Value} {vs : List V} (G : FnG X.prog X.w X.K X.mg X.base CX k f fd ps sp) (hr : RoomG k X.A) (hx : Passes CX X E)
    (I : Inv X pins σ H s) (bt : BindsTo s fd ⟨args, kw⟩ (ps.zip us)) (r : Vals vs us) (q : sp vs H Q E) : wpAny (model X.prog X.w) X.A (call (.ref f) args kw) (EP X pins σ Q) X.xe s :=
  wpAny_call (codeAny_mono (G.go hr I.env0 bt r q) fun res s' => match res with
    | .error e => fun z => hx pins σ H s e s' I z
    | .ok (.ret u) => fun z => I.after z
    | .ok .next => False.elim
    | .ok .brk => False.elim
    | .ok .cont => False.elim)
variable {x : Str} {p pos : Pos} {e : Expr} {es : List Expr} {kws : List Keyword} {t tk : TA} {dvs : List V} {ds : List Value} {g : List Value → List Value → List Value} {gV : List V → List V → List V}
theorem pg_call1 (G : FnG X.prog X.w X.K X.mg X.base CX k f fd ps sp) (hr : RoomG k X.A) (hg : Gl X x) (hm : X.mg x = some (.ref f)) (kp : PySem.W.keepIn X.K (.ref f) = true) (hb : Binds X.K fd ps ds) (hd : Vals dvs ds) (hx : Passes CX X E) (ha : PA X (e :: es) t)
    (db : (x == ("__debug__" : Str)) = false := by decide) (st : starEach (e :: es) X.env = (false, eval e X.env) :: starEach es X.env := by rfl) (pl : (backTo pos (starEach es X.env)).any (·.1) = false := by rfl) : PE X (.Call (.Name x p) (e :: es) [] pos) (tCall sp dvs E t) := by
  constructor
  intro pins s σ H Q I h
  apply wpAny_Call_Name_kw
  refine ld_glob I hg hm ?_ db
  apply PySem.W.callWith_K (h₀ := X.base) I.ok.mod.kin kp _ st pl
  refine thn (ha.run pos pins s σ H _ I h) ?_
  rintro us s1 ⟨vs, H1, I1, rv, q⟩
  have r2 := rv.append hd
  exact ⟨I1.kIn, G.calls hr hx I1 (hb s1 us I1.kIn (r2.length.symm.trans (G.ln q))) r2 q⟩
theorem pg_call0 (G : FnG X.prog X.w X.K X.mg X.base CX k f fd ps sp) (hr : RoomG k X.A) (hg : Gl X x) (hm : X.mg x = some (.ref f)) (kp : PySem.W.keepIn X.K (.ref f) = true) (hb : Binds X.K fd ps ds) (hd : Vals dvs ds) (hx : Passes CX X E)
    (db : (x == ("__debug__" : Str)) = false := by decide) : PE X (.Call (.Name x p) [] [] pos) (tCall sp dvs E tNil) := by
  constructor
  intro pins s σ H Q I h
  apply wpAny_Call_Name_kw
  refine ld_glob I hg hm ?_ db
  have h : sp ([] ++ dvs) H Q E := h
  have r2 : Vals ([] ++ dvs) ([] ++ ds) := hd
  exact PySem.W.callWith_K0 I.kIn kp (G.calls hr hx I (hb s [] I.kIn (r2.length.symm.trans (G.ln h))) r2 h)
theorem pg_callN (G : FnG X.prog X.w X.K X.mg X.base CX k f fd ps sp) (hr : RoomG k X.A) (hg : Gl X x) (hm : X.mg x = some (.ref f)) (kp : PySem.W.keepIn X.K (.ref f) = true) (hb : KBn X.K fd ps n ks g gV) (hx : Passes CX X E)
    (ha : PA X (e :: es) t) (hkw : PK X kws tk) (al : (backToKw pos (keywordEach kws X.env)).all (·.1.isSome) = true := by rfl) (kn : (backToKw pos (keywordEach kws X.env)).filterMap (·.1) = ks := by rfl)
    (db : (x == ("__debug__" : Str)) = false := by decide) (st : starEach (e :: es) X.env = (false, eval e X.env) :: starEach es X.env := by rfl)
    (pl : ((backTo pos (starEach (e :: es) X.env)).any (·.1) || (backToKw pos (keywordEach kws X.env)).any (·.1.isNone)) = false := by rfl) : PE X (.Call (.Name x p) (e :: es) kws pos) (tCallN n ks.length sp gV E t tk) := by
  constructor
  intro pins s σ H Q I h
  apply wpAny_Call_Name_kw
  refine ld_glob I hg hm ?_ db
  refine PySem.W.callWith_KW (h₀ := X.base) I.ok.mod.kin kp al (thn (ha.run pos pins s σ H _ I h) ?_) pl st
  rintro us s1 ⟨vs, H1, I1, rv, q⟩
  refine thn (hkw.run pos pins s1 σ H1 _ I1 q) ?_
  rintro ws s2 ⟨zs, H2, I2, rz, l1, l2, q2⟩
  rw [kn]
  exact ⟨I2.kIn, G.calls hr hx I2 (hb.to s2 us ws I2.kIn (rv.length.symm.trans l1) (rz.length.symm.trans l2)) (hb.rel rv rz) q2⟩
theorem pg_callN0 (G : FnG X.prog X.w X.K X.mg X.base CX k f fd ps sp) (hr : RoomG k X.A) (hg : Gl X x) (hm : X.mg x = some (.ref f)) (kp : PySem.W.keepIn X.K (.ref f) = true) (hb : KBn X.K fd ps 0 ks g gV) (hx : Passes CX X E) (hkw : PK X kws tk)
    (al : (backToKw pos (keywordEach kws X.env)).all (·.1.isSome) = true := by rfl) (kn : (backToKw pos (keywordEach kws X.env)).filterMap (·.1) = ks := by rfl) (db : (x == ("__debug__" : Str)) = false := by decide)
    (pl : ((backTo pos (starEach [] X.env)).any (·.1) || (backToKw pos (keywordEach kws X.env)).any (·.1.isNone)) = false := by rfl) : PE X (.Call (.Name x p) [] kws pos) (tCallN 0 ks.length sp gV E tNil tk) := by
  constructor
  intro pins s σ H Q I h
  apply wpAny_Call_Name_kw
  refine ld_glob I hg hm ?_ db
  have h : tk σ H (fun zs H2 => 0 = 0 ∧ zs.length = ks.length ∧ sp (gV [] zs) H2 Q E) := h
  refine PySem.W.callWith_KW0 (h₀ := X.base) I.ok.mod.kin kp al (thn (hkw.run pos pins s σ H _ I h) ?_) pl
  rintro ws s2 ⟨zs, H2, I2, rz, _, l2, q2⟩
  rw [kn]
  exact ⟨I2.kIn, G.calls hr hx I2 (hb.to s2 [] ws I2.kIn rfl (rz.length.symm.trans l2)) (hb.rel .nil rz) q2⟩
end
section
variable {CX : CXT} {P : Program} {w : World} {K : PySem.W.Frag} {mg : Str → Option Value} {base : Heap} {k : Nat} {f : Addr} {name qual : Str} {params : Arguments} {body : List Stmt} {scope : Scope} {N ps : List Str} {sp : Sp}
/-- a def by its body -/
theorem fnG_of {dV kV doc pm cdv ct oc : Value} {an od : Option Addr} {osl : Array (Option Value)} (lk : K.lookup f = some ⟨oc, od, .func (PySem.W.fnOf name qual params body scope dV kV doc pm an cdv ct), osl⟩) (hcd : PySem.W.codeIn K cdv qual = true) (S : FnScope N ps scope)
    (ln : ∀ {vs H Q E}, sp vs H Q E → vs.length = ps.length)
    (hb : ∀ (A : Around) (outer : List Env) (s : Shared) (H : Hp) (vs : List V) (Q : VK) (E : XK), RoomG k (A.deeper (envOfC qual scope s.heap.objs.size f cdv)) → sp vs H Q E →
      ∃ t, PSs (cxOf CX P w K mg base N qual scope f cdv A outer s H E) body t ∧ t { nx := fun _ H' => Q .non H', rt := Q } (L2.start N vs) H) : FnG P w K mg base CX (k + 1) f (PySem.W.fnOf name qual params body scope dV kV doc pm an cdv ct) ps sp := by
  constructor
  · exact ln
  intro A outer s H args us vs Q E hr e0 bt rv hsp
  have hK : K.In s.heap := e0.mod.kin.keeps fun b o z => (e0.bs b o z).1
  obtain ⟨t, ht, hq⟩ := hb A outer s H vs Q E (hr.deeper _) hsp
  refine codeAny_call_function hr.rm.depth (hK _ _ lk) rfl S.co S.gen rfl (PySem.W.codeRec_of hK hcd) (bt _ _ _ _ (wpAny_newFunctionEnv_cells S.kind ?_ ?_))
  · rintro ⟨y, v⟩ hy
    rcases S.par y (List.of_mem_zip hy).1 with z | z
    · exact Or.inl z
    · exact Or.inr ⟨z, PySem.W.cellsFrom_some _ _ _ (Or.inl z)⟩
  · rintro env rfl s1 ic
    refine ⟨(e0.mod.nolimit.keeps fun b o z => (e0.bs b o z).1).keeps ic.toInCall.keep, codeAny_func ?_⟩
    have I0 : Inv (cxOf CX P w K mg base N qual scope f cdv A outer s H E) [] (L2.start N vs) H s1 := inv_start S hr.rm.hd e0 (ln hsp) rv ic
    refine wpAny_mono (ht.run [] s1 _ H _ I0 hq) ?_ fun _ _ z => z
    intro fl s'
    cases fl with
    | ret u => exact fun ⟨v, _, H', J, rv', q⟩ => ⟨v, H', J.os, J.bare, J.base, J.hok, rv', q⟩
    | next => exact fun ⟨_, H', J, q⟩ => ⟨.non, H', J.os, J.bare, J.base, J.hok, rfl, q⟩
    | brk => exact fun ⟨_, _, _, q⟩ => False.elim q
    | cont => exact fun ⟨_, _, _, q⟩ => False.elim q
end
end TL

namespace TL
open PySem PySem.Spec PyProof.Rows L2

/-! ### repr of data -/
mutual
/-- no shorter than what is shown -/
def wd : PyData → Nat
  | .none => 5
  | .bool _ => 5
  | .int _ => 1922
  | .str x => (reprText x).length
  | .list xs => 2 + wdA xs
  | .tuple xs => 3 + wdA xs
  | .dict _ => 2
def wdA : List PyData → Nat
  | [] => 0
  | x :: xs => wd x + 2 + wdA xs
end
theorem textFrom_le : ∀ (ts : List Str) (k : Nat) (acc : Str), (textFrom k acc ts).length ≤ acc.length + (ts.map fun t => t.length + 2).sum
  | [], k, acc => by simp [textFrom]
  | t :: r, k, acc => by
    have ih := fun acc' => textFrom_le r (k + 1) acc'
    have e2 : ((", " : String) : Str).length = 2 := rfl
    simp only [textFrom, List.map_cons, List.sum_cons]
    have e0 : (("" : String) : Str).length = 0 := rfl
    refine Nat.le_trans (ih _) ?_
    split <;> simp only [strLen_append, e2, e0] <;> omega
theorem join_le : ∀ ts : List Str, (Str.join ", " ts).length ≤ (ts.map fun t => t.length + 2).sum
  | [] => by simp [Str.join, Str.empty, Str.length]
  | [x] => by simp [Str.join]
  | x :: y :: r => by
    have ih := join_le (y :: r)
    have e2 : ((", " : String) : Str).length = 2 := rfl
    show (x ++ ", " ++ Str.join ", " (y :: r)).length ≤ _
    rw [strLen_append, strLen_append, e2, List.map_cons, List.sum_cons]
    omega
mutual
theorem shown_wd : ∀ {d : PyData}, d.canLay0 = true → d.showable = true → d.shown.length ≤ wd d
  | .none, _, _ => by simp only [PyData.shown, wd]; decide
  | .bool b, _, _ => by simp only [PyData.shown, wd]; cases b <;> decide
  | .int i, _, h => by
    simp only [PyData.showable, decide_eq_true_eq] at h
    simp only [PyData.shown, wd]
    exact Nat.le_succ_of_le (int_text_len_1921 h)
  | .str x, _, _ => by simp only [PyData.shown, wd]; exact Nat.le_refl _
  | .list xs, c, h => by
    simp only [PyData.canLay0] at c
    simp only [PyData.showable] at h
    have := shown_wdA c h
    simp only [PyData.shown, wd, listText, strLen_append]
    have h2 := textFrom_le (PyData.shownAll xs) 0 "["
    have e1 : (("[" : String) : Str).length = 1 := rfl
    have e2 : (("]" : String) : Str).length = 1 := rfl
    omega
  | .tuple xs, c, h => by
    simp only [PyData.canLay0] at c
    simp only [PyData.showable] at h
    have := shown_wdA c h
    simp only [PyData.shown, wd, tupleText, strLen_append]
    have h2 := join_le (PyData.shownAll xs)
    have e1 : (("(" : String) : Str).length = 1 := rfl
    have e2 : (((if (PyData.shownAll xs).length == 1 then ",)" else ")" : String)) : Str).length ≤ 2 := by split <;> decide
    omega
  | .dict _, c, _ => by simp [PyData.canLay0] at c
theorem shown_wdA : ∀ {ds : List PyData}, PyData.canLayAll0 ds = true → PyData.showableAll ds = true → ((PyData.shownAll ds).map fun t => t.length + 2).sum ≤ wdA ds
  | [], _, _ => by simp [PyData.shownAll, wdA]
  | d :: ds, c, h => by
    simp only [PyData.canLayAll0, Bool.and_eq_true] at c
    simp only [PyData.showableAll, Bool.and_eq_true] at h
    have h1 := shown_wd c.1 h.1
    have h2 := shown_wdA c.2 h.2
    simp only [PyData.shownAll, wdA, List.map_cons, List.sum_cons]
    omega
end
def shOk (d : PyData) : Bool := d.canLay0 && (d.showable && (decide (d.depth ≤ 60) && decide (wd d ≤ 16000000)))
def rRepr (K : PySem.W.Frag) : List V → Hp → VK → Prop := fun xs H Q => ∃ x d, xs = [x] ∧ Dp K H x d ∧ shOk d = true ∧ Q (.str d.shown) H
theorem call_reprD {X : Cx} (hg : X.A.guards = some []) (hu : X.A.units + 65 < cLine) : CallR X (.builtin "repr") (rRepr X.K) := by
  intro pins s σ H xs us Q I r h
  obtain ⟨x, d, rfl, hd, ok, q⟩ := h
  simp only [shOk, Bool.and_eq_true, decide_eq_true_eq] at ok
  obtain ⟨c, sh, dp, wz⟩ := ok
  have hz : d.shown.length ≤ sizeLine := Nat.le_trans (shown_wd c sh) (lim_le wz)
  cases r with
  | cons rx rt =>
    cases rt
    rename_i u
    obtain ⟨as, rd⟩ := Dp.reads I d x u hd rx
    have nd := PyData.hasDict_of_canLay d c
    have fin : ∀ h' (u' : Tok) tk, (∀ b o, s.heap.get? b = some o → h'.get? b = some o) → EP X pins σ Q (.str d.shown u') { s with heap := h', toks := tk } := fun h' u' tk hk => ⟨.str d.shown, H, I.kept hk, ⟨u', rfl⟩, q⟩
    have fin0 : EP X pins σ Q (.str d.shown s.toks) { s with toks := s.toks + 1 } := fin s.heap _ _ fun _ _ e => e
    cases rd with
    | none => exact PySem.P.repr_of_none fin0
    | bool b => exact PySem.P.repr_of_bool fin0
    | int i t =>
      simp only [PyData.showable, decide_eq_true_eq] at sh
      exact PySem.P.repr_of_int sh fin0
    | str y t => exact PySem.P.repr_of_str fin0 (by simpa only [PyData.shown] using hz)
    | list h1 h2 h3 h4 => exact repr_of_reads' (.list h1 h2 h3 h4) sh (PyData.noDict_hsm nd) hg (by omega) (fun _ _ e => e) fin hz
    | tuple h1 h2 h3 h4 => exact repr_of_reads' (.tuple h1 h2 h3 h4) sh (PyData.noDict_hsm nd) hg (by omega) (fun _ _ e => e) fin hz
    | dict h1 h2 h3 h4 h5 => simp [PyData.canLay0] at c
def bRepr : List PyData → Option Hd
  | [d] => if shOk d = true then some (.v (.str d.shown)) else none
  | _ => none
theorem cok_repr {K : PySem.W.Frag} : CallOk (rRepr K) bRepr := by
  intro F H xs ds h Q e c q k
  unfold bRepr at q
  split at q
  · split at q
    · rename_i d hs
      cases q
      obtain ⟨x, rfl, cx⟩ := c.one
      have := hs
      simp only [shOk, Bool.and_eq_true] at this
      exact ⟨x, d, rfl, cx.dp e this.1, hs, k _ _ _ (Ans.val' e (.str _))⟩
    · cases q
  · cases q
end TL

namespace TL
open PySem PySem.Spec PyProof.Rows L2

/-! ### a def's meaning from its body -/
theorem def_reads {K : PySem.W.Frag} {N : List Str} {k : Nat} {fb : FS} {vs : List V} {H : Hp} {Q : VK} {E : XK} (h : spI K (defM N.length k fb) vs H Q E) : tIS K fb { nx := fun _ H' => Q .non H', rt := Q } (L2.start N vs) H := by
  obtain ⟨F, r, hd, r', R, e, hrd, kk⟩ := h
  rw [defM_eq] at e; unfold defM0 at e
  split at e
  · rename_i hk
    rw [Option.bind_eq_some_iff] at e
    obtain ⟨o, e1, e2⟩ := e
    have hvs : vs.length = k := by
      have := R.len
      rw [List.length_map] at this
      omega
    have hst : L2.start N vs = vs.map some ++ List.replicate (N.length - k) none := by unfold L2.start; rw [hvs]
    rw [hst]
    refine ⟨F, _, o, R.pad _, e1, ?_⟩
    have hlen : ∀ {r0 : Ev} {σ' : L2.St} {F' H' : Hp}, Rel K F' r0 σ' H' → Stp (r ++ List.replicate (N.length - k) none) (vs.map some ++ List.replicate (N.length - k) none) F H r0 σ' F' H' → r.length ≤ r0.length := fun {r0 σ' F' H'} R' S' => by
      have z1 := R'.len
      have z2 := S'.sl
      rw [List.length_append, List.length_map] at z2
      omega
    cases o with
    | nx r0 =>
      cases e2
      intro σ' F' H' R' S'
      obtain ⟨R2, S2, _⟩ := body_end R R' S' (hlen R' S') hk.2
      exact kk _ F' H' R2 S2 (.v .non) nw_v
    | rt h0 r0 =>
      rw [show finish r (.rt h0 r0) = (resH h0 r0).map fun h' => (h', outs r r0) from rfl, Option.map_eq_some_iff] at e2
      obtain ⟨h1, e3, e4⟩ := e2
      cases e4
      intro v σ' F' H' R' S' q n
      obtain ⟨R2, S2, _⟩ := body_end R R' S' (hlen R' S') hk.2
      obtain ⟨q2, n2, _⟩ := finish_ok R R' S' (hlen R' S') hk.2 q n e3
      exact kk v F' H' R2 S2 q2 n2
    | bk r0 => cases e2
    | ct r0 => cases e2
  · cases e
theorem spI_len {K : PySem.W.Frag} {n k : Nat} {fb : FS} {vs : List V} {H : Hp} {Q : VK} {E : XK} (h : spI K (defM n k fb) vs H Q E) : vs.length = k := by
  obtain ⟨F, r, hd, r', R, e, _⟩ := h
  rw [defM_eq] at e; unfold defM0 at e
  split at e
  · rename_i hk
    have := R.len
    rw [List.length_map] at this
    omega
  · cases e
section
variable {P : Program} {w : World} {K : PySem.W.Frag} {mg : Str → Option Value} {base : Heap}
theorem fn_okG {x qual : Str} {params : Arguments} {body : List Stmt} {scope : Scope} {dvs : List V} {kws : List (Str × V)} {f : Addr} {fd : FuncData} {N ps : List Str} {k : Nat} {fb : FS} (Fu : FunD K x qual params body scope dvs kws f fd) (S : FnScope N ps scope)
    (hbody : ∀ (cdv : Value) (A : Around) (outer : List Env) (s : Shared) (H : Hp) (Q : VK) (E : XK), RoomG k (A.deeper (envOfC qual scope s.heap.objs.size f cdv)) →
      SSs (cxOf CX0 P w K mg base N qual scope f cdv A outer s H E).nox body fb) : FnG P w K mg base CX0 (k + 1) f fd ps (spI K (defM N.length ps.length fb)) := by
  obtain ⟨oc, od, dV, kV, doc, pm, an, cdv, ct, osl, rfl, lk, hcd, _, _⟩ := Fu.ex
  exact fnG_of lk hcd S spI_len fun A outer s H vs Q E hr h => ⟨_, PSs.nox (hbody cdv A outer s H Q E hr), def_reads h⟩
end
section
variable {X : Cx} {CX : CXT} {k : Nat} {f : Addr} {fd : FuncData} {ps ks : List Str} {m : FE} {E : XK} {x : Str} {p pos : Pos} {kws : List Keyword} {fk : FA} {pm : List Nat}
theorem se_gN0 {l : Nat} (G : FnG X.prog X.w X.K X.mg X.base CX k f fd ps (spI X.K m)) (hr : RoomG k X.A) (hg : Gl X x) (hm : X.mg x = some (.ref f)) (kp : PySem.W.keepIn X.K (.ref f) = true) (hb : KBn X.K fd ps 0 ks (guP pm) (gvP pm)) (hx : Passes CX X E)
    (hkw : SK X kws fk) (al : (backToKw pos (keywordEach kws X.env)).all (·.1.isSome) = true := by rfl) (kn : (backToKw pos (keywordEach kws X.env)).filterMap (·.1) = ks := by rfl)
    (db : (x == ("__debug__" : Str)) = false := by decide) (pl : ((backTo pos (starEach [] X.env)).any (·.1) || (backToKw pos (keywordEach kws X.env)).any (·.1.isNone)) = false := by rfl) (hl : ks.length = l := by rfl) : SE X (.Call (.Name x p) [] kws pos) (sCallN 0 l m pm aNil fk) := by
  subst hl
  exact PEimp (pg_callN0 G hr hg hm kp hb hx hkw al kn db pl) fun σ H Q z => tNil_ok σ H _ (sCallN_ok σ H Q z)
theorem se_gN {l n : Nat} {e : Expr} {es : List Expr} {fa : FA} (G : FnG X.prog X.w X.K X.mg X.base CX k f fd ps (spI X.K m)) (hr : RoomG k X.A) (hg : Gl X x) (hm : X.mg x = some (.ref f)) (kp : PySem.W.keepIn X.K (.ref f) = true) (hb : KBn X.K fd ps n ks (guP pm) (gvP pm)) (hx : Passes CX X E)
    (ha : SA X (e :: es) fa) (hkw : SK X kws fk) (al : (backToKw pos (keywordEach kws X.env)).all (·.1.isSome) = true := by rfl) (kn : (backToKw pos (keywordEach kws X.env)).filterMap (·.1) = ks := by rfl)
    (db : (x == ("__debug__" : Str)) = false := by decide) (st : starEach (e :: es) X.env = (false, eval e X.env) :: starEach es X.env := by rfl)
    (pl : ((backTo pos (starEach (e :: es) X.env)).any (·.1) || (backToKw pos (keywordEach kws X.env)).any (·.1.isNone)) = false := by rfl) (hl : ks.length = l := by rfl) : SE X (.Call (.Name x p) (e :: es) kws pos) (sCallN n l m pm fa fk) := by
  subst hl
  exact PEimp (pg_callN G hr hg hm kp hb hx ha hkw al kn db st pl) fun σ H Q z => sCallN_ok σ H Q z
end
/-! ### the law's end -/
section
variable {P : Program} {w : World} {K : PySem.W.Frag} {mg mb : Str → Option Value} {k : Nat} {fa a : Addr} {fd : FuncData} {x : Str} {sp : Sp} {s₁ : Shared} {vs : List Value} {ns : List Int}
/-- what stands at the start: nothing but the script is tracked -/
structure At0 (K : PySem.W.Frag) (a : Addr) (h : Heap) (H : Hp) : Prop where
  one : ∀ b, H b ≠ none → b = a
  out : H a ≠ none → K.lookup a = none
  frz : ∀ b, H b = none ∨ ∃ o xs, H b = some (.frz o (.lst xs))
theorem At0.keep {H : Hp} (t : At0 K a s₁.heap H) {b : Addr} (h : b ≠ a) : H b = none := Classical.byContradiction fun z => h (t.one b z)
theorem At0.env {H : Hp} (t : At0 K a s₁.heap H) (ha : ∃ n, s₁.heap.get? a = some { cls := .type "list", data := .seq vs.toArray n }) (KX : K.In s₁.heap) (hns : s₁.heap.Ns mainGlobals mg) (hb : s₁.heap.Ns builtinsNs mb) (hbb : ∀ x : Str, x ≠ "__name__" → mb x = bootBuiltins x) (hlim : s₁.heap.NoLimit) (hg : s₁.gens = #[])
    (ok : HOk P w H s₁.heap) : K.In (hidT s₁.heap H) ∧ (hidT s₁.heap H).Ns mainGlobals mg ∧ Env0 P w K mg (hidT s₁.heap H) callerA [] s₁ H := by
  have ns : ∀ {b : Addr} {m : Str → Option Value}, s₁.heap.Ns b m → (hidT s₁.heap H).Ns b m := by
    rintro b m ⟨o, es, ep, e, d, rest⟩
    refine ⟨o, es, ep, hidT_get e (t.keep ?_), d, rest⟩
    rintro rfl
    obtain ⟨n, ha⟩ := ha
    rw [ha] at e
    injection e with e
    rw [← e] at d
    cases d
  have kin : K.In (hidT s₁.heap H) := by
    intro b o e
    refine hidT_get (KX b o e) (Classical.byContradiction fun z => ?_)
    have hba := t.one b z
    rw [hba] at z e
    rw [t.out z] at e
    cases e
  obtain ⟨mc, c1, c2⟩ := hlim
  refine ⟨kin, ns hns, ⟨rfl, ⟨kin, ns hns, ⟨mb, ns hb, hbb⟩, ⟨mc, ns c1, c2⟩⟩, fun b o e => of_hidT e, ?_, trivial, ?_, ok, .of_eq hg⟩⟩
  · rw [hidT_size]; exact Nat.le_refl _
  · intro b hb; cases hb
theorem lawG (KX : K.In s₁.heap) (hns : s₁.heap.Ns mainGlobals mg) (hb : s₁.heap.Ns builtinsNs mb) (hbb : ∀ x : Str, x ≠ "__name__" → mb x = bootBuiltins x) (hlim : s₁.heap.NoLimit) (hg : s₁.gens = #[])
    (ha : s₁.heap.get? a = some { cls := .type "list", data := .seq vs.toArray }) (hi : IntsAre vs ns) (hl : ns.length ≤ sizeLine) (hr : RoomG k callerA)
    (G : ∀ base : Heap, K.In base → base.Ns mainGlobals mg → FnG P w K mg base CX0 k fa fd [x] sp) (hbind : ∀ (s : Shared) (u : Value), BindsTo s fd ⟨[u], []⟩ [(x, u)])
    (hsp : ∀ H : Hp, SqL K H a (ns.map V.int) → sp [.ref a] H (fun v _ => v = .bl true) fun _ _ _ => False) :
    codeAny (model P w) callerA (.call (.ref fa) ⟨[.ref a], []⟩) (fun r s' => r = .ok (.ret (.bool true)) ∧ OldK s₁.heap s'.heap ∧ s'.os = s₁.os ∧ AllBare s'.gens) s₁ := by
  have rv := vals_ints hi
  have go : ∀ H : Hp, At0 K a s₁.heap H → SqL K H a (ns.map V.int) → HOk P w H s₁.heap →
      codeAny (model P w) callerA (.call (.ref fa) ⟨[.ref a], []⟩) (fun r s' => r = .ok (.ret (.bool true)) ∧ OldK s₁.heap s'.heap ∧ s'.os = s₁.os ∧ AllBare s'.gens) s₁ := by
    intro H t q ok
    obtain ⟨k1, k2, e0⟩ := t.env ⟨_, ha⟩ KX hns hb hbb hlim hg ok
    refine codeAny_mono ((G _ k1 k2).go hr e0 (hbind s₁ (.ref a)) (us := [.ref a]) (vs := [.ref a]) (.cons rfl .nil) (hsp H q)) ?_
    rintro (fl | e) s' z
    · cases z
    · cases e with
      | next => cases z
      | brk => cases z
      | cont => cases z
      | ret u =>
        obtain ⟨v, H', os, bare, un, ok', rl, hv⟩ := z
        have hv : v = .bl true := hv
        subst hv
        cases rl
        refine ⟨rfl, OldK.of_keep fun b o e => ?_, os, bare⟩
        rcases t.frz b with hn | ⟨ob, xs, hn⟩
        · exact un.keep b o e hn (fun z => by cases z) (fun z => by cases z)
        · have o1 := (ok b _ hn).1
          have o2 := (ok' b _ (un.frzs b ob _ hn)).1
          rw [e] at o1
          cases o1
          exact o2
  by_cases hk : K.lookup a = none
  · have hH : ∀ {b : Addr} {u : HO}, (if b = a then some (HO.frz { cls := .type "list", data := .seq vs.toArray } (.lst (ns.map V.int))) else none) = some u → b = a ∧ u = HO.frz { cls := .type "list", data := .seq vs.toArray } (.lst (ns.map V.int)) := by
      intro b u z
      split at z
      · exact ⟨by assumption, (Option.some.inj z).symm⟩
      · cases z
    refine go (fun b => if b = a then some (.frz { cls := .type "list", data := .seq vs.toArray } (.lst (ns.map V.int))) else none) ⟨fun b z => ?_, fun _ => hk, fun b => ?_⟩ (.inl (.inr ⟨_, if_pos rfl⟩)) fun b u z => ?_
    · obtain ⟨u, hu⟩ := Option.ne_none_iff_exists'.mp z
      exact (hH hu).1
    · by_cases hb : b = a
      · right; exact ⟨_, _, if_pos hb⟩
      · left; exact if_neg hb
    · obtain ⟨rfl, rfl⟩ := hH z
      exact ⟨ha, by rw [List.length_map]; exact hl, vs, 0, rv, ha⟩
  · obtain ⟨o, ho⟩ := Option.ne_none_iff_exists'.mp hk
    have e := KX a o ho
    rw [ha] at e
    cases e
    refine go (fun _ => none) ⟨fun b z => absurd rfl z, fun z => absurd rfl z, fun b => .inl rfl⟩ (.inr ⟨_, vs.toArray, _, ho, rfl, rfl, rfl, ?_, by simpa using rv⟩) fun b u z => by cases z
    rw [List.size_toArray, hi.length]
    exact hl
end
theorem walkG {l : PySem.W.OpenLaw} {n k : Nat} {q : Program} {loose : List Str} {XP : (Str → Option Value) → Heap → Prop} {YP : World → Heap → Prop} {d : DefRec} {x : Str}
    (hn : l.most = some n) (hn2 : n ≤ sizeLine) (hdf : d.params.defaults = []) (hr : RoomG k callerA)
    (F : ∀ (w : World) (mg : Str → Option Value) (fa : Addr) (h : Heap), YP w h → h.Ns mainGlobals mg → mg d.name = some (.ref fa) →
      ∃ (K : PySem.W.Frag) (fd : FuncData) (sp : Sp), K.In h ∧ (∀ (s : Shared) (u : Value), BindsTo s fd ⟨[u], []⟩ [(x, u)]) ∧
        (∀ (H : Hp) (a : Addr) (ns : List Int), ns.length ≤ n → SqL K H a (ns.map V.int) → sp [.ref a] H (fun v _ => v = .bl true) fun _ _ _ => False) ∧
        ∀ base : Heap, K.In base → base.Ns mainGlobals mg → FnG l.prog w K mg base CX0 k fa fd [x] sp) :
    PySem.W.WalkO q loose XP YP l.row.toRowW d [] (fun f vs => PySem.call f vs) := by
  refine Att.attach_call hn hdf ?_
  intro w s₀ s₁ mg mb fa o pm cd doc a vs ns G Y ho hd hcd hmg hobj hints hlen hg
  obtain ⟨K, fd, sp, KX, hb, hsp, hF⟩ := F w mg fa _ Y G.T.g hmg
  exact lawG KX G.T.g G.T.b G.T.builtins G.T.nolimit hg hobj hints (Nat.le_trans hlen hn2) hr hF hb fun H z => hsp H a ns hlen z
end TL

namespace TL
open PySem PySem.Spec PyProof.Rows L2

/-! ### what equals itself, what is shown -/
theorem dEq_self {d : PyData} (h : SeqAt.shaped d = true) : dEq d d = some true := by
  unfold dEq
  rw [if_pos ⟨h, h⟩, PySem.SeqAt.eqv_refl _ (SeqAt.canLay_of_shaped h)]
theorem dNe_self {d : PyData} (h : SeqAt.shaped d = true) : dNe d d = some false := by
  unfold dNe
  rw [if_pos ⟨h, h⟩, PySem.SeqAt.eqv_refl _ (SeqAt.canLay_of_shaped h)]; rfl
/-- texts -/
theorem strOk_of (s : String) : PyData.strOk (Str.ofString s) = true := by
  rw [Str.ofString_eq_toList]
  simp only [PyData.strOk, List.all_toArray, List.all_map, List.all_eq_true, Function.comp_apply, decide_eq_true_eq]
  intro c _
  have h := c.valid
  show c.val.toNat < 1114112
  rcases h with h | ⟨_, h⟩ <;> omega
theorem strOk_app {x y : Str} (h : PyData.strOk x = true) (h2 : PyData.strOk y = true) : PyData.strOk (x ++ y) = true := by
  have e : (x ++ y).cps = x.cps ++ y.cps := rfl
  simp only [PyData.strOk] at h h2 ⊢
  rw [e, Array.all_append, h, h2]; rfl
theorem strOk_iff {x : Str} : PyData.strOk x = true ↔ ∀ c ∈ x.cps.toList, c < 1114112 := by
  obtain ⟨⟨l⟩⟩ := x
  simp [PyData.strOk]
theorem reprChar_ok {q c : Nat} (hq : q < 1114112) (hc : c < 1114112) : ∀ z ∈ Builtin.Str.reprChar q c, z < 1114112 := by
  have hex : ∀ w, ∀ z ∈ List.replicate (w - ((Nat.toDigits 16 c).map Char.toNat).length) 48 ++ (Nat.toDigits 16 c).map Char.toNat, z < 1114112 := by
    intro w z hz
    rcases List.mem_append.mp hz with h | h
    · have := (List.mem_replicate.mp h).2; omega
    · obtain ⟨d, _, rfl⟩ := List.mem_map.mp h
      have h := d.valid
      show d.val.toNat < 1114112
      rcases h with h | ⟨_, h⟩ <;> omega
  intro z hz
  unfold Builtin.Str.reprChar at hz
  dsimp only at hz
  repeat' split at hz
  all_goals simp only [List.cons_append, List.nil_append, List.mem_cons, List.not_mem_nil, or_false] at hz
  all_goals first
    | omega
    | (rcases hz with h | h | h
       · omega
       · omega
       · exact hex _ z h)
theorem reprText_ok {x : Str} (h : PyData.strOk x = true) : PyData.strOk (reprText x) = true := by
  have hq : reprQuote x < 1114112 := by unfold reprQuote; split <;> omega
  rw [strOk_iff] at h ⊢
  have go : ∀ (l : List Nat) (acc : Array Nat), (∀ c ∈ l, c < 1114112) → (∀ c ∈ acc.toList, c < 1114112) → ∀ c ∈ (l.foldl (fun out c => out ++ (Builtin.Str.reprChar (reprQuote x) c).toArray) acc).toList, c < 1114112 := by
    intro l
    induction l with
    | nil => intro acc _ ha; exact ha
    | cons d l ih =>
      intro acc hl ha
      rw [List.foldl_cons]
      refine ih _ (fun c hc => hl c (List.mem_cons_of_mem _ hc)) fun c hc => ?_
      rw [Array.toList_append] at hc
      rcases List.mem_append.mp hc with z | z
      · exact ha c z
      · exact reprChar_ok hq (hl d List.mem_cons_self) c (by simpa using z)
  intro c hc
  unfold reprText at hc
  rw [Array.toList_push, ← Array.foldl_toList] at hc
  rcases List.mem_append.mp hc with z | z
  · exact go _ _ h (fun c hc => by simp at hc; omega) c z
  · simp at z; omega
theorem textFrom_ok : ∀ (ts : List Str) (k : Nat) (acc : Str), PyData.strOk acc = true → (∀ t ∈ ts, PyData.strOk t = true) → PyData.strOk (textFrom k acc ts) = true
  | [], k, acc, h, _ => h
  | t :: r, k, acc, h, ht => by
    simp only [textFrom]
    refine textFrom_ok r (k + 1) _ (strOk_app (strOk_app h ?_) (ht t List.mem_cons_self)) fun y hy => ht y (List.mem_cons_of_mem _ hy)
    exact strOk_of _
theorem join_okS {sep : Str} (hs : PyData.strOk sep = true) : ∀ (ts : List Str), (∀ t ∈ ts, PyData.strOk t = true) → PyData.strOk (Str.join sep ts) = true
  | [], _ => by simp [Str.join, Str.empty, PyData.strOk]
  | [x], h => h x List.mem_cons_self
  | x :: y :: r, h => by
    show PyData.strOk (x ++ sep ++ Str.join sep (y :: r)) = true
    exact strOk_app (strOk_app (h x List.mem_cons_self) hs) (join_okS hs (y :: r) fun t ht => h t (List.mem_cons_of_mem _ ht))
mutual
theorem shown_ok : ∀ {d : PyData}, d.canLay0 = true → PyData.strOk d.shown = true
  | .none, _ => by simp only [PyData.shown]; exact strOk_of _
  | .bool b, _ => by simp only [PyData.shown]; split <;> exact strOk_of _
  | .int i, _ => by simp only [PyData.shown]; exact strOk_of _
  | .str x, c => by simp only [PyData.canLay0] at c; simp only [PyData.shown]; exact reprText_ok c
  | .list xs, c => by
    simp only [PyData.canLay0] at c
    simp only [PyData.shown, listText]
    exact strOk_app (textFrom_ok _ _ _ (strOk_of _) (shownAll_ok c)) (strOk_of _)
  | .tuple xs, c => by
    simp only [PyData.canLay0] at c
    simp only [PyData.shown, tupleText]
    exact strOk_app (strOk_app (strOk_of _) (join_okS (strOk_of _) _ (shownAll_ok c))) (strOk_of _)
  | .dict _, c => by simp [PyData.canLay0] at c
theorem shownAll_ok : ∀ {ds : List PyData}, PyData.canLayAll0 ds = true → ∀ t ∈ PyData.shownAll ds, PyData.strOk t = true
  | [], _ => by simp [PyData.shownAll]
  | d :: ds, c => by
    simp only [PyData.canLayAll0, Bool.and_eq_true] at c
    intro t ht
    simp only [PyData.shownAll, List.mem_cons] at ht
    rcases ht with rfl | ht
    · exact shown_ok c.1
    · exact shownAll_ok c.2 t ht
end
theorem shaped_str {x : Str} (h : PyData.strOk x = true) : SeqAt.shaped (.str x) = true := by simp [SeqAt.shaped, PyData.canLay0, PyData.depth, h]
theorem shaped_shown {d : PyData} (h : shOk d = true) : SeqAt.shaped (.str d.shown) = true := by
  simp only [shOk, Bool.and_eq_true] at h
  exact shaped_str (shown_ok h.1)
theorem dNe_shown {d : PyData} (h : shOk d = true) : dNe (.str d.shown) (.str d.shown) = some false := dNe_self (shaped_shown h)
theorem dEq_shown {d : PyData} (h : shOk d = true) : dEq (.str d.shown) (.str d.shown) = some true := dEq_self (shaped_shown h)
@[simp] theorem dEq_bool (x y : Bool) : dEq (.bool x) (.bool y) = some (decide (x = y)) := by cases x <;> cases y <;> decide +kernel
@[simp] theorem dNe_bool (x y : Bool) : dNe (.bool x) (.bool y) = some (!decide (x = y)) := by cases x <;> cases y <;> decide +kernel
theorem show_int {i : Int} (h : i.natAbs < 2 ^ 1000) : shOk (.int i) = true := by
  have h1 : i.natAbs.log2 < 1920 := by
    by_cases h0 : i.natAbs = 0
    · rw [h0]; decide
    · have := (Nat.log2_lt h0).mpr h
      omega
  simp [shOk, PyData.canLay0, PyData.showable, PyData.depth, wd, h1]
theorem bRepr_of {d : PyData} (h : shOk d = true) : bRepr [d] = some (.v (.str d.shown)) := if_pos h
theorem bRepr_int {i : Int} (h : i.natAbs < 2 ^ 1000) : bRepr [.int i] = some (.v (.str (PyData.int i).shown)) := bRepr_of (show_int h)
theorem small_lt {k : Nat} (h : k ≤ 1000000000000) : ((k : Nat) : Int).natAbs < 2 ^ 1000 := by
  have h1 : ((k : Nat) : Int).natAbs < 2 ^ 64 := by omega
  exact Nat.lt_of_lt_of_le h1 (Nat.pow_le_pow_right (by omega) (by omega))
theorem bRepr_iD {k : Nat} (h : k ≤ 1000000000000) : bRepr [iD k] = some (.v (.str (iD k).shown)) := bRepr_int (small_lt h)
@[simp] theorem bRepr_none : bRepr [.none] = some (.v (.str PyData.none.shown)) := rfl
@[simp] theorem bRepr_bool (b : Bool) : bRepr [.bool b] = some (.v (.str (PyData.bool b).shown)) := by cases b <;> rfl
theorem shOk_dn {p : List Nat} (h : p.length ≤ 1000) (h2 : ∀ x ∈ p, x ≤ 1000000000000) : shOk (dn p) = true := by
  have a1 : (dn p).canLay0 = true := by rw [dn_eq]; simp only [PyData.canLay0]; exact canLayAll_dn p
  have a2 : ∀ q : List Nat, (∀ x ∈ q, x ≤ 1000000000000) → PyData.showableAll (q.map iD) = true := fun q hq => by
    induction q with
    | nil => rfl
    | cons x q ih =>
      have hx := show_int (small_lt (hq x List.mem_cons_self))
      simp only [shOk, Bool.and_eq_true] at hx
      simp only [List.map_cons, PyData.showableAll, Bool.and_eq_true]
      exact ⟨hx.2.1, ih fun y hy => hq y (List.mem_cons_of_mem _ hy)⟩
  have a3 : (dn p).depth ≤ 60 := by rw [dn_eq]; simp only [PyData.depth, depthAll_dn]; omega
  have a4 : ∀ q : List Nat, wdA (q.map iD) = 1924 * q.length := fun q => by
    induction q with
    | nil => rfl
    | cons x q ih => simp only [List.map_cons, wdA, ih, List.length_cons, iD, wd]; omega
  have a5 : wd (dn p) ≤ 16000000 := by rw [dn_eq]; simp only [wd, a4]; omega
  have a6 : (dn p).showable = true := by rw [dn_eq]; simp only [PyData.showable]; exact a2 p h2
  simp only [shOk, a1, a6, a3, a5, decide_true, Bool.and_self]
theorem bRepr_dn {p : List Nat} (h : p.length ≤ 1000) (h2 : ∀ x ∈ p, x ≤ 1000000000000) : bRepr [dn p] = some (.v (.str (dn p).shown)) := bRepr_of (shOk_dn h h2)
@[simp] theorem x_wRg2 {f g : FE} {r : Ev} : wRg2 f g r = (f r).bind fun p => (g p.2).bind fun q => (cur p.1 q.2).bind fun d => (dI d).bind fun a => (cur q.1 q.2).bind fun d2 => (dI d2).bind fun b => if inLim a = true ∧ inLim b = true then some (rgD a b, q.2) else none := (rfl)
theorem dNe_iD (a b : Nat) : dNe (iD a) (iD b) = some (!decide (a = b)) := by unfold iD; rw [dNe_int]; by_cases h : a = b <;> simp [h]; omega
theorem dEq_iD (a b : Nat) : dEq (iD a) (iD b) = some (decide (a = b)) := by unfold iD; rw [dEq_int]; by_cases h : a = b <;> simp [h]; omega
theorem ex_of {o : Option (Hd × Ev)} {v : Hd} (h : o.map (·.1) = some v) : ∃ r', o = some (v, r') := by
  rw [Option.map_eq_some_iff] at h
  obtain ⟨⟨a, r⟩, h1, h2⟩ := h
  cases h2
  exact ⟨r, h1⟩
@[simp] theorem x_sPopAt {k : Nat} {f : FE} {r : Ev} : sPopAt k f r = ((ownD k r).bind isL).bind fun _ => (f r).bind fun p => (cur p.1 p.2).bind fun d => (dI d).bind fun i => ((ownD k p.2).bind isL).bind fun xs =>
  if okR i = true ∧ i.toNat < xs.length ∧ i.toNat < 16000000 then (xs[i.toNat]?).bind fun y => (setD k (.list (xs.eraseIdx i.toNat)) p.2).map fun r' => (.v y, r') else none := (rfl)
@[simp] theorem x_sRg2 {f g : FE} {r : Ev} : sRg2 f g r = (f r).bind fun p => (g p.2).bind fun q => (cur p.1 q.2).bind fun d => (dI d).bind fun a => (cur q.1 q.2).bind fun d2 => (dI d2).bind fun b => if okR a = true ∧ okR b = true then some (.n (.list (rgD a b)), q.2) else none := (rfl)
/-! ### while -/
theorem whD_step {c : FT} {body : FS} {n : Nat} {r r1 r2 : Ev} (h : c r = some (true, r1)) (hb : body r1 = some (.nx r2)) : whD c body (n + 1) r = whD c body n r2 := by
  simp only [whD, h, Option.bind_some, if_true, hb]
theorem whD_end {c : FT} {body : FS} {n : Nat} {r r1 : Ev} (h : c r = some (false, r1)) : whD c body (n + 1) r = some (.nx r1) := by
  simp [whD, h]
@[simp] theorem x_fWhile {W : Nat} {c : FT} {body : FS} {r : Ev} : fWhile W c body r = whD c body W r := (rfl)
end TL

namespace TL
open PySem PySem.Spec PyProof.Rows L2

/-! ### comprehensions of two clauses -/
theorem noIo_sub {r : Ev} {a b : List Nat} (h : ∀ i ∈ a, i ∈ b) (n : noIo r b = true) : noIo r a = true := by
  unfold noIo at n ⊢
  rw [List.all_eq_true] at n ⊢
  exact fun i hi => n i (h i hi)
theorem wipe_wipe {σ : L2.St} {a b : List Nat} (h : ∀ i ∈ a, i ∈ b) : wipe (wipe σ a) b = wipe σ b := wipe_eq (wipe_length σ a) fun i hi => wipe_out' fun z => hi (h i z)
/-- the turns of one clause, whatever stands ahead and behind -/
theorem lc_turn {K : PySem.W.Frag} {own is : List Nat} {g : TG} {bd : PyData → Ev → Option Ev} {c : FT} {elt : FE} (hb : BdOk K is g bd) (hs : ∀ i ∈ is, i ∈ own) {J : It} {ds : List PyData} {F1 : Hp} (I : ItOk J F1 ds) {D : Addr} {r0 : Ev} {σ0 σ : L2.St} {F0 H0 : Hp}
    (hio : noIo r0 own = true) (hD : H0 D = none) {Nx : Hp → Prop} {res : List PyData} {re : Ev}
    (fin : ∀ F' H' vs, Ext F1 F' → Rel K F' re (wipe σ own) H' → Stp r0 σ0 F0 H0 re (wipe σ own) F' H' → H' D = some (.lst vs) → F' D = none → ¬ Owned re (wipe σ own) H' D → RpAll F' vs res → Nx H')
    {H1 : Hp} {r1 : Ev} {vs : List V} {acc : List PyData} (R1 : Rel K F1 r1 (wipe σ own) H1) (S1 : Stp r0 σ0 F0 H0 r1 (wipe σ own) F1 H1) (hv : H1 D = some (.lst vs)) (fD : F1 D = none) (nO : ¬ Owned r1 (wipe σ own) H1 D) (ra : RpAll F1 vs acc) (e : lcD own bd c elt ds r1 acc = some (res, re)) :
    ∃ W : Nat → Nat → Hp → Prop, (∃ m, W 0 m H1) ∧ ∀ j k H, W j k H → (J.stop j H ∧ Nx H) ∨ (J.go j H ∧ ∃ Nx1 : Hp → Prop, (∀ H', Nx1 H' → ∃ k', k' < k ∧ W (j + 1) k' H') ∧
      ∀ x H', J.yld j H x H' → g x (wipe σ own) H' fun σ3 H5 => wipe σ3 own = wipe σ own ∧ tIT K c σ3 H5 fun b H6 => if b = true then tI K elt σ3 H6 fun y H7 => ∃ acc, H7 D = some (.lst acc) ∧ acc.length < sizeLine ∧ Nx1 (upd H7 D (.lst (acc ++ [y]))) else Nx1 H6) := by
  refine ⟨fun j m H' => ∃ F' r' vs acc, Ext F1 F' ∧ Rel K F' r' (wipe σ own) H' ∧ Stp r0 σ0 F0 H0 r' (wipe σ own) F' H' ∧ H' D = some (.lst vs) ∧ F' D = none ∧ ¬ Owned r' (wipe σ own) H' D ∧ RpAll F' vs acc ∧ m = ds.length - j ∧ j ≤ ds.length ∧ lcD own bd c elt (ds.drop j) r' acc = some (res, re),
    ⟨ds.length, F1, r1, vs, acc, Ext.refl _, R1, S1, hv, fD, nO, ra, rfl, Nat.zero_le _, e⟩, ?_⟩
  rintro j m H' ⟨F', r', vs, acc, X', R', S', hv, fD, nO, ra, rfl, hj, hl⟩
  by_cases hlt : j < ds.length
  · have hd : ds.drop j = ds[j] :: ds.drop (j + 1) := by rw [List.drop_eq_getElem_cons hlt]
    rw [hd] at hl
    simp only [lcD, Option.bind_eq_some_iff] at hl
    obtain ⟨r2, l1, ⟨b, r3⟩, l2, l3⟩ := hl
    refine .inr ⟨I.go j F' H' X' R'.sub hlt, fun H3 => ∃ F3 r3 vs acc, Ext F1 F3 ∧ Rel K F3 r3 (wipe σ own) H3 ∧ Stp r0 σ0 F0 H0 r3 (wipe σ own) F3 H3 ∧ H3 D = some (.lst vs) ∧ F3 D = none ∧ ¬ Owned r3 (wipe σ own) H3 D ∧ RpAll F3 vs acc ∧ lcD own bd c elt (ds.drop (j + 1)) r3 acc = some (res, re),
      fun H3 ⟨F3, r3, vs3, acc3, a0, a1, a2, a3, a4, a5, a6, a7⟩ => ⟨ds.length - (j + 1), by omega, F3, r3, vs3, acc3, a0, a1, a2, a3, a4, a5, a6, rfl, hlt, a7⟩, fun x H2 y => ?_⟩
    obtain ⟨F2, A⟩ := I.yld j F' H' x H2 ds[j] X' R'.sub y (List.getElem?_eq_getElem hlt)
    obtain ⟨R2, S2⟩ := R'.grow A.ext A.sub A.keep
    cases A.val with
    | v q =>
      obtain ⟨xs, R3, S3, hQ⟩ := hb F2 H2 r' r2 (wipe σ own) ds[j] x R2 q l1
      have hw : wipe (setAll (wipe σ own) is xs) own = wipe σ own := wipe_setAll hs
      refine hQ _ ⟨hw, F2, r2, b, r3, R3, l2, fun F4 H4 R4 S4 => ?_⟩
      have S5 := (S2.trans S3).trans S4
      obtain ⟨d1, d2, d3⟩ := S5.pres D (by rw [hv]; simp) nO
      cases b with
      | false =>
        rw [if_neg Bool.false_ne_true] at l3
        refine iteF ?_
        have Rw := R4.wipe own
        have Sw := (S'.trans S5).wipe hio
        rw [hw] at Rw Sw
        refine ⟨F4, wipeR r3 own, vs, acc, X'.trans S5.ext, Rw, Sw, d1.trans hv, d2.trans fD, hw ▸ wiped_no (own := own) d3, ra.mono S5.ext, l3⟩
      | true =>
        rw [if_pos rfl] at l3
        refine iteT ?_
        simp only [Option.bind_eq_some_iff] at l3
        obtain ⟨⟨he, r5⟩, l4, ⟨de, r6⟩, l5, l6⟩ := l3
        split at l6
        · rename_i hlen
          refine ⟨F4, r3, he, r5, R4, l4, fun ye F5 H5 R5 S6 q6 n6 => ?_⟩
          obtain ⟨F6, R6, S8, p6, x6, _, _⟩ := esc_ok S6 R5 q6 n6 l5
          have S9 := S5.trans S8
          obtain ⟨d4, d5, d6⟩ := S9.pres D (by rw [hv]; simp) nO
          have hD5 : H5 D = some (.lst vs) := d4.trans hv
          refine ⟨vs, hD5, lim_lt (by rw [ra.length]; exact hlen), ?_⟩
          have F6D : F6 D = none := d5.trans fD
          obtain ⟨Rg, Sg, Ng⟩ := rel_at (o := .lst (vs ++ [ye])) R6 (S'.trans S9) (.inl hD) F6D d6
          have Rw := Rg.wipe own
          have Sw := Sg.wipe hio
          rw [hw] at Rw Sw
          refine ⟨F6, wipeR r6 own, vs ++ [ye], acc ++ [de], X'.trans S9.ext, Rw, Sw, upd_same, F6D, hw ▸ wiped_no (own := own) (Ng D d6), (ra.mono S9.ext).append (.cons p6 .nil), l6⟩
        · cases l6
  · have hd : ds.drop j = [] := List.drop_eq_nil_of_le (by omega)
    rw [hd] at hl
    cases hl
    exact .inl ⟨I.stop j F' H' X' R'.sub (by omega), fin F' H' vs X' R' S' hv fD nO ra⟩
/-- the loops of both clauses -/
def lc2D (own own1 : List Nat) (bd : PyData → Ev → Option Ev) (c : FT) (src1 : FW) (bd1 : PyData → Ev → Option Ev) (c1 : FT) (elt : FE) : List PyData → Ev → List PyData → Option (List PyData × Ev)
  | [], r, acc => some (acc, r)
  | d :: ds, r, acc => (bd d r).bind fun r1 => (c r1).bind fun p => if p.1 = true then
      (src1 p.2).bind fun q => (lcD own1 bd1 c1 elt q.1 (wipeR q.2 own1) acc).bind fun u => lc2D own own1 bd c src1 bd1 c1 elt ds (wipeR u.2 own) u.1
    else lc2D own own1 bd c src1 bd1 c1 elt ds (wipeR p.2 own) acc
def sLc2 (own own1 : List Nat) (src : FW) (bd : PyData → Ev → Option Ev) (c : FT) (src1 : FW) (bd1 : PyData → Ev → Option Ev) (c1 : FT) (elt : FE) : FE := fun r => (src r).bind fun p => if noIo p.2 own = true then (lc2D own own1 bd c src1 bd1 c1 elt p.1 (wipeR p.2 own) []).map fun q => (.n (.list q.1), restore p.2 q.2 own) else none
theorem sLc2_ok {K : PySem.W.Frag} {own own1 is is1 : List Nat} {src src1 : FW} {g g1 : TG} {bd bd1 : PyData → Ev → Option Ev} {c c1 : FT} {elt : FE} (hb : BdOk K is g bd) (hs : ∀ i ∈ is, i ∈ own) (hb1 : BdOk K is1 g1 bd1) (hs1 : ∀ i ∈ is1, i ∈ own1) (h1o : ∀ i ∈ own1, i ∈ own) :
    ∀ σ H Q, tI K (sLc2 own own1 src bd c src1 bd1 c1 elt) σ H Q → tLc2 (tIW K src) g (tIT K c) (tIW K src1) g1 (tIT K c1) (tI K elt) own own1 σ H Q := by
  rintro σ H Q ⟨F, ρ, h, ρ', R, e, kk⟩
  simp only [sLc2, Option.bind_eq_some_iff] at e
  obtain ⟨⟨ds, ρ1⟩, e1, e2⟩ := e
  split at e2
  · rename_i hio
    rw [Option.map_eq_some_iff] at e2
    obtain ⟨⟨res, ρe⟩, e3, e4⟩ := e2
    cases e4
    refine ⟨F, ρ, ds, ρ1, R, e1, fun J F1 H1 R1 S1 I D hD => ?_⟩
    refine ⟨fun i m H' => ∃ F' r' vs acc, Rel K F' r' (wipe σ own) H' ∧ Stp ρ1 σ F1 H1 r' (wipe σ own) F' H' ∧ H' D = some (.lst vs) ∧ F' D = none ∧ ¬ Owned r' (wipe σ own) H' D ∧ RpAll F' vs acc ∧ m = ds.length - i ∧ i ≤ ds.length ∧ lc2D own own1 bd c src1 bd1 c1 elt (ds.drop i) r' acc = some (res, ρe), ⟨ds.length, ?_⟩, ?_⟩
    · obtain ⟨R2, S2⟩ := R1.grow (Ext.refl F1) (H' := upd H1 D (.lst [])) (R1.sub.trans (Ext.new hD)) (fun a ha => ⟨upd_ne fun z => ha (z ▸ hD), rfl⟩)
      refine ⟨F1, wipeR ρ1 own, [], [], R2.wipe own, S2.wipe hio, upd_same, fnone R1.sub hD, wiped_no (R2.noNewUpd R1 hD), .nil, rfl, Nat.zero_le _, e3⟩
    · rintro i m H' ⟨F', r', vs, acc, R', S', hv, fD, nO, ra, rfl, hi, hl⟩
      by_cases hlt : i < ds.length
      · have hd : ds.drop i = ds[i] :: ds.drop (i + 1) := by rw [List.drop_eq_getElem_cons hlt]
        rw [hd] at hl
        simp only [lc2D, Option.bind_eq_some_iff] at hl
        obtain ⟨r2, l1, ⟨b, r3⟩, l2, l3⟩ := hl
        refine .inr ⟨I.go i F' H' S'.ext R'.sub hlt, fun H3 => ∃ F3 r3 vs acc, Rel K F3 r3 (wipe σ own) H3 ∧ Stp ρ1 σ F1 H1 r3 (wipe σ own) F3 H3 ∧ H3 D = some (.lst vs) ∧ F3 D = none ∧ ¬ Owned r3 (wipe σ own) H3 D ∧ RpAll F3 vs acc ∧ lc2D own own1 bd c src1 bd1 c1 elt (ds.drop (i + 1)) r3 acc = some (res, ρe),
          fun H3 ⟨F3, r3, vs3, acc3, a1, a2, a3, a4, a5, a6, a7⟩ => ⟨ds.length - (i + 1), by omega, F3, r3, vs3, acc3, a1, a2, a3, a4, a5, a6, rfl, hlt, a7⟩, fun x H2 y => ?_⟩
        obtain ⟨F2, A⟩ := I.yld i F' H' x H2 ds[i] S'.ext R'.sub y (List.getElem?_eq_getElem hlt)
        obtain ⟨R2, S2⟩ := R'.grow A.ext A.sub A.keep
        cases A.val with
        | v q =>
          obtain ⟨xs, R3, S3, hQ⟩ := hb F2 H2 r' r2 (wipe σ own) ds[i] x R2 q l1
          have hw : wipe (setAll (wipe σ own) is xs) own = wipe σ own := wipe_setAll hs
          refine hQ _ ⟨hw, F2, r2, b, r3, R3, l2, fun F4 H4 R4 S4 => ?_⟩
          have S5 := (S2.trans S3).trans S4
          obtain ⟨d1, d2, d3⟩ := S5.pres D (by rw [hv]; simp) nO
          cases b with
          | false =>
            rw [if_neg Bool.false_ne_true] at l3
            refine iteF ?_
            have Rw := R4.wipe own
            have Sw := (S'.trans S5).wipe hio
            rw [hw] at Rw Sw
            refine ⟨F4, wipeR r3 own, vs, acc, Rw, Sw, d1.trans hv, d2.trans fD, hw ▸ wiped_no (own := own) d3, ra.mono S5.ext, l3⟩
          | true =>
            rw [if_pos rfl] at l3
            refine iteT ?_
            simp only [Option.bind_eq_some_iff] at l3
            obtain ⟨⟨es, r5⟩, l4, ⟨acc2, r6⟩, l5, l6⟩ := l3
            refine ⟨F4, r3, es, r5, R4, l4, fun J1 F5 H5 R5 S6 I1 => ?_⟩
            have S7 := (S'.trans S5).trans S6
            have S8 := S5.trans S6
            obtain ⟨d4, d5, d6⟩ := S8.pres D (by rw [hv]; simp) nO
            refine lc_turn (σ := setAll (wipe σ own) is xs) (r0 := ρ1) (σ0 := σ) (F0 := F1) (H0 := H1) hb1 hs1 I1 (noIo_sub h1o hio) hD ?_ (R5.wipe own1) (S7.wipe (noIo_sub h1o hio)) (d4.trans hv) (d5.trans fD) ?_ (ra.mono S8.ext) l5
            · intro F6 H6 vs6 x6 R6 S9 hv6 fD6 nO6 ra6
              have Rw := R6.wipe own
              have Sw := S9.wipe hio
              rw [wipe_wipe h1o, hw] at Rw Sw
              have nn := wiped_no (own := own) nO6
              rw [wipe_wipe h1o, hw] at nn
              exact ⟨F6, wipeR r6 own, vs6, acc2, Rw, Sw, hv6, fD6, nn, ra6, l6⟩
            · exact wiped_no d6
      · have hd : ds.drop i = [] := List.drop_eq_nil_of_le (by omega)
        rw [hd] at hl
        cases hl
        refine .inl ⟨I.stop i F' H' S'.ext R'.sub (by omega), ?_⟩
        have Rr := Rel.restore R1 R' S'.ext
        have Sr := S'.restore hio
        refine kk (.ref D) F' H' Rr (S1.trans Sr) (.n hv fD (restored_no nO) (.lst ra)) fun a ea => ?_
        cases ea
        exact Fsh.back (.inl hD) S1
  · cases e2
section
variable {X : Cx} {elt tg iter tg1 iter1 : Expr} {ifs ifs1 : List Expr} {scope : Scope} {own : List (Str × Nat)} {own1 : List Nat} {pos : Pos} {src src1 : FW} {is is1 : List Nat} {g g1 : TG} {bd bd1 : PyData → Ev → Option Ev} {c c1 : FT} {fe : FE}
theorem se_lc2 (hN : X.N.Nodup) (hi : SI X tg iter src) (ok : BlkOk X.N X.env.scope scope own) (hb : BdOk X.K is g bd) (hs : ∀ i ∈ is, i ∈ own.map (·.2)) (hb1 : BdOk X.K is1 g1 bd1) (hs1 : ∀ i ∈ is1, i ∈ own1) (h1o : ∀ i ∈ own1, i ∈ own.map (·.2))
    (hg : ∀ (s : Shared) (H : Hp) (C : Addr) (cl : List (Str × Addr)) (fp : List Addr), PG (X.blk s H scope (compEnvC scope cl C X.env) fp) tg g) (ht : ∀ (s : Shared) (H : Hp) (C : Addr) (cl : List (Str × Addr)) (fp : List Addr), STs (X.blk s H scope (compEnvC scope cl C X.env) fp) ifs c)
    (hi1 : ∀ (s : Shared) (H : Hp) (C : Addr) (cl : List (Str × Addr)) (fp : List Addr), SI (X.blk s H scope (compEnvC scope cl C X.env) fp) tg1 iter1 src1)
    (hg1 : ∀ (s : Shared) (H : Hp) (C : Addr) (cl : List (Str × Addr)) (fp : List Addr), PG (X.blk s H scope (compEnvC scope cl C X.env) fp) tg1 g1) (ht1 : ∀ (s : Shared) (H : Hp) (C : Addr) (cl : List (Str × Addr)) (fp : List Addr), STs (X.blk s H scope (compEnvC scope cl C X.env) fp) ifs1 c1)
    (he : ∀ (s : Shared) (H : Hp) (C : Addr) (cl : List (Str × Addr)) (fp : List Addr), SE (X.blk s H scope (compEnvC scope cl C X.env) fp) elt fe) (hc : X.calm = true := by rfl) (hf : ∀ x, foldedSetIterable iter X.env x = pure x := by intro _; rfl) (hf1 : ∀ env x, foldedSetIterable iter1 env x = pure x := by intro _ _; rfl) :
    SE X (.ListComp elt [⟨tg, iter, ifs, 0⟩, ⟨tg1, iter1, ifs1, 0⟩] scope pos) (sLc2 (own.map (·.2)) own1 src bd c src1 bd1 c1 fe) := PEimp (pe_lc2 hc hN hi ok h1o hg ht hi1 hg1 ht1 he hf hf1) (sLc2_ok hb hs hb1 hs1 h1o)
theorem ss_setLc2 {y : Str} {py spos : Pos} (i : Nat) (hN : X.N.Nodup) (hi : SI X tg iter src) (ok : BlkOk X.N X.env.scope scope own) (hb : BdOk X.K is g bd) (hs : ∀ i ∈ is, i ∈ own.map (·.2)) (hb1 : BdOk X.K is1 g1 bd1) (hs1 : ∀ i ∈ is1, i ∈ own1) (h1o : ∀ i ∈ own1, i ∈ own.map (·.2))
    (hg : ∀ (s : Shared) (H : Hp) (C : Addr) (cl : List (Str × Addr)) (fp : List Addr), PG (X.blk s H scope (compEnvC scope cl C X.env) fp) tg g) (ht : ∀ (s : Shared) (H : Hp) (C : Addr) (cl : List (Str × Addr)) (fp : List Addr), STs (X.blk s H scope (compEnvC scope cl C X.env) fp) ifs c)
    (hi1 : ∀ (s : Shared) (H : Hp) (C : Addr) (cl : List (Str × Addr)) (fp : List Addr), SI (X.blk s H scope (compEnvC scope cl C X.env) fp) tg1 iter1 src1)
    (hg1 : ∀ (s : Shared) (H : Hp) (C : Addr) (cl : List (Str × Addr)) (fp : List Addr), PG (X.blk s H scope (compEnvC scope cl C X.env) fp) tg1 g1) (ht1 : ∀ (s : Shared) (H : Hp) (C : Addr) (cl : List (Str × Addr)) (fp : List Addr), STs (X.blk s H scope (compEnvC scope cl C X.env) fp) ifs1 c1)
    (he : ∀ (s : Shared) (H : Hp) (C : Addr) (cl : List (Str × Addr)) (fp : List Addr), SE (X.blk s H scope (compEnvC scope cl C X.env) fp) elt fe)
    (hsw : swapsWith (.ListComp elt [⟨tg, iter, ifs, 0⟩, ⟨tg1, iter1, ifs1, 0⟩] scope pos) (some (.Name y py)) spos.line X.env = pure true) (hy : X.N[i]? = some y := by rfl) (hyl : X.env.scope.names.lookup y = some .local := by rfl) (hc : X.calm = true := by rfl) (hf : ∀ x, foldedSetIterable iter X.env x = pure x := by intro _; rfl)
    (hf1 : ∀ env x, foldedSetIterable iter1 env x = pure x := by intro _ _; rfl) :
    SS X (.Assign [.Name y py] (.ListComp elt [⟨tg, iter, ifs, 0⟩, ⟨tg1, iter1, ifs1, 0⟩] scope pos) spos) (fAsg i (sLc2 (own.map (·.2)) own1 src bd c src1 bd1 c1 fe)) :=
  PSimp (ps_setLc2 hc hN hy hyl hsw hi ok h1o hg ht hi1 hg1 ht1 he hf hf1) fun D σ H q => by
    have z := fAsg_ok D σ H q
    exact sLc2_ok hb hs hb1 hs1 h1o σ H _ z
end
@[simp] theorem x_sLc2 {own own1 : List Nat} {src src1 : FW} {bd bd1 : PyData → Ev → Option Ev} {c c1 : FT} {elt : FE} {r : Ev} : sLc2 own own1 src bd c src1 bd1 c1 elt r = (src r).bind fun p => if noIo p.2 own = true then (lc2D own own1 bd c src1 bd1 c1 elt p.1 (wipeR p.2 own) []).map fun q => (.n (.list q.1), restore p.2 q.2 own) else none := (rfl)
/-- a turn of the outer clause -/
theorem lc2D_cons {own own1 : List Nat} {src1 : FW} {bd bd1 : PyData → Ev → Option Ev} {c c1 : FT} {elt : FE} {d : PyData} {ds acc acc2 es : List PyData} {r r1 r2 r3 r4 : Ev} (h1 : bd d r = some r1) (h2 : c r1 = some (true, r2)) (h3 : src1 r2 = some (es, r3)) (h4 : lcD own1 bd1 c1 elt es (wipeR r3 own1) acc = some (acc2, r4)) :
    lc2D own own1 bd c src1 bd1 c1 elt (d :: ds) r acc = lc2D own own1 bd c src1 bd1 c1 elt ds (wipeR r4 own) acc2 := by
  simp only [lc2D, h1, h2, h3, h4, Option.bind_some, if_true]
/-- every turn adds its own -/
theorem lc2D_of {α : Type} {own own1 : List Nat} {src1 : FW} {bd bd1 : PyData → Ev → Option Ev} {c c1 : FT} {elt : FE} {r : Ev} {enc : α → PyData} {f : α → List PyData} (h : ∀ x acc, acc.length ≤ 8000000 → (bd (enc x) r).bind (fun r1 => (c r1).bind fun p => if p.1 = true then (src1 p.2).bind fun q => (lcD own1 bd1 c1 elt q.1 (wipeR q.2 own1) acc).map fun u => (u.1, wipeR u.2 own) else some (acc, wipeR p.2 own)) = some (acc ++ f x, r)) :
    ∀ (xs : List α) (acc : List PyData), acc.length + (xs.map fun x => (f x).length).sum ≤ 8000000 → lc2D own own1 bd c src1 bd1 c1 elt (xs.map enc) r acc = some (acc ++ xs.flatMap f, r)
  | [], acc, _ => by simp [lc2D]
  | x :: xs, acc, hl => by
    simp only [List.map_cons, List.sum_cons] at hl
    have hx := h x acc (by omega)
    have ih := lc2D_of h xs (acc ++ f x) (by rw [List.length_append]; omega)
    simp only [Option.bind_eq_some_iff] at hx
    obtain ⟨r1, e1, ⟨b, r2⟩, e2, e3⟩ := hx
    cases b with
    | false =>
      simp only [Bool.false_eq_true, if_false, Option.some.injEq, Prod.mk.injEq] at e3
      obtain ⟨e4, e5⟩ := e3
      simp only [List.map_cons, lc2D, e1, e2, Option.bind_some, Bool.false_eq_true, if_false]
      have hf : f x = [] := by
        have := congrArg List.length e4
        rw [List.length_append] at this
        exact List.eq_nil_of_length_eq_zero (by omega)
      rw [hf, List.append_nil] at ih
      rw [e5, ih]
      simp [hf]
    | true =>
      simp only [if_true, Option.bind_eq_some_iff, Option.map_eq_some_iff] at e3
      obtain ⟨⟨es, r3⟩, e4, ⟨acc2, r4⟩, e5, e6⟩ := e3
      simp only [Prod.mk.injEq] at e6
      obtain ⟨e7, e8⟩ := e6
      simp only [List.map_cons, lc2D, e1, e2, e4, e5, Option.bind_some, if_true]
      rw [e8, e7, ih]
      simp
end TL

namespace TL
open PySem PySem.Spec PyProof.Rows L2

/-! ### f(..).append(x): what is told is forgotten -/
def sAppT (f g : FE) : FE := fun r => (f r).bind fun p => match p.1 with
  | .n (.list xs) => (g p.2).bind fun q => (esc q.1 q.2).bind fun u => if xs.length < 16000000 then some (.v .none, u.2) else none
  | _ => none
theorem sAppT_ok {K : PySem.W.Frag} {f g : FE} : ∀ σ H Q, tI K (sAppT f g) σ H Q → tBM K "list" rAppend (tI K f) (tCons (tI K g) tNil) σ H Q := by
  rintro σ H Q ⟨F, ρ, h, ρ', R, e, kk⟩
  simp only [sAppT, Option.bind_eq_some_iff] at e
  obtain ⟨⟨hf, ρ1⟩, e1, e2⟩ := e
  split at e2
  · rename_i xs hx
    dsimp only at hx
    subst hx
    simp only [Option.bind_eq_some_iff] at e2
    obtain ⟨⟨hg, ρ2⟩, e3, ⟨d, ρ3⟩, e4, e5⟩ := e2
    split at e5
    · rename_i hl
      cases e5
      refine ⟨F, ρ, _, ρ1, R, e1, fun x F1 H1 R1 S1 q1 n1 => ?_⟩
      cases q1 with
      | @n _ a o h1 h2 h3 h4 =>
        obtain ⟨vs, rfl, r1⟩ := h4.list
        refine ⟨.inl ⟨rfl, vs, .inl (.inl h1)⟩, F1, ρ1, hg, ρ2, R1, e3, fun y F2 H2 R2 S2 q2 n2 => ?_⟩
        obtain ⟨p1, p2, p3⟩ := S2.pres a (by rw [h1]; simp) h3
        obtain ⟨F3, R3, S3, p4, x3, o3, f3⟩ := esc_ok S2 R2 q2 n2 e4
        have a1 : H2 a = some (.lst vs) := p1.trans h1
        have aF : F3 a = none := f3 a (p2.trans h2) p3 fun hy => by
          exact (n2 a hy).elim (fun z => by rw [h1] at z; cases z) h3
        have aO := o3 a p3
        have hH := n1 a rfl
        refine ⟨a, vs, y, rfl, rfl, a1, lim_lt (by rw [r1.length]; exact hl), ?_⟩
        obtain ⟨Rg, Sg, _⟩ := rel_at (o := .lst (vs ++ [y])) R3 (S1.trans S3) hH aF aO
        exact kk _ F3 _ Rg Sg (.v .non) nw_v
    · cases e5
  · cases e2
@[simp] theorem x_sAppT {f g : FE} {r : Ev} : sAppT f g r = (f r).bind fun p => match p.1 with
  | .n (.list xs) => (g p.2).bind fun q => (esc q.1 q.2).bind fun u => if xs.length < 16000000 then some (.v .none, u.2) else none
  | _ => none := (rfl)
/-! ### repr of an empty dict -/
def rRepr0 : List V → Hp → VK → Prop := fun xs H Q => ∃ a, xs = [.ref a] ∧ H a = some (.dK []) ∧ Q (.str (PyData.dict []).shown) H
theorem call_repr0 {X : Cx} (hg : X.A.guards = some []) (hu : X.A.units + 65 < cLine) : CallR X (.builtin "repr") rRepr0 := by
  intro pins s σ H xs us Q I r h
  obtain ⟨a, rfl, ha, q⟩ := h
  cases r with
  | cons rx rt =>
    cases rt
    rename_i u
    cases (show u = Value.ref a from rx)
    obtain ⟨_, hs, vs, kv, o, es, ep, h1, h2, h3, _, h4, _⟩ := I.hok a _ ha
    cases kv
    have he : es.toList = [] := by
      generalize es.toList = l at h4
      cases h4; rfl
    have rd : Reads s.heap (.ref a) (.dict []) [a] := by
      have := Reads.dict (h := s.heap) (a := a) (kvs := []) (as := []) (bs := []) h1 h2.1 h3 (by rw [he]; exact .nil) (by rw [he]; exact .nil)
      simpa using this
    refine repr_of_reads' rd rfl (fun _ hm => ?_) hg (by simp only [PyData.depth, PyData.depthKv]; omega) (fun _ _ e => e) (fun h' u' tk hk => ⟨.str (PyData.dict []).shown, H, I.kept hk, ⟨u', rfl⟩, q⟩) (by decide +kernel)
    have : sysModules = a := by simpa using hm
    rw [← this] at hs
    simp at hs
def bReprA : List PyData → Option Hd
  | [.dict []] => some (.v (.str (PyData.dict []).shown))
  | ds => bRepr ds
def rReprA (K : PySem.W.Frag) : List V → Hp → VK → Prop := fun xs H Q => rRepr0 xs H Q ∨ rRepr K xs H Q
theorem call_reprA {X : Cx} (hg : X.A.guards = some []) (hu : X.A.units + 65 < cLine) : CallR X (.builtin "repr") (rReprA X.K) := fun pins s σ H xs us Q I r h => h.elim (call_repr0 hg hu pins s σ H xs us Q I r) (call_reprD hg hu pins s σ H xs us Q I r)
theorem cok_reprA {K : PySem.W.Frag} : CallOk (rReprA K) bReprA := by
  intro F H xs ds h Q e c q k
  unfold bReprA at q
  split at q
  · cases q
    obtain ⟨x, rfl, cx⟩ := c.one
    rcases cx.dict e with ⟨a, kvs, rfl, h1, r1⟩ | ⟨a, kvs, ds', z, _⟩
    · cases r1
      exact .inl ⟨a, rfl, h1, k _ _ _ (Ans.val' e (.str _))⟩
    · cases z
  · exact .inr (cok_repr F H xs _ h Q e c q k)
@[simp] theorem bReprA_int (i : Int) : bReprA [.int i] = bRepr [.int i] := rfl
@[simp] theorem bReprA_iD (i : Nat) : bReprA [iD i] = bRepr [iD i] := rfl
@[simp] theorem bReprA_bool (b : Bool) : bReprA [.bool b] = bRepr [.bool b] := rfl
@[simp] theorem bReprA_none : bReprA [.none] = bRepr [.none] := rfl
@[simp] theorem bReprA_str (x : Str) : bReprA [.str x] = bRepr [.str x] := rfl
@[simp] theorem bReprA_list (x : List PyData) : bReprA [.list x] = bRepr [.list x] := rfl
@[simp] theorem bReprA_tuple (x : List PyData) : bReprA [.tuple x] = bRepr [.tuple x] := rfl
@[simp] theorem bReprA_dn (x : List Nat) : bReprA [dn x] = bRepr [dn x] := rfl
@[simp] theorem bReprA_dict : bReprA [.dict []] = some (.v (.str (PyData.dict []).shown)) := rfl
end TL

namespace TL
open PySem PySem.Spec PyProof.Rows L2

/-! ### by value alone -/
def noRef (v : V) : Prop := ∀ b, v ≠ .ref b
theorem Rp.noRef {F : Hp} {x : V} {d : PyData} (h : Rp F x d) (s : TL.scal d = true) : TL.noRef x := fun b z => by
  subst z
  cases h <;> cases s
theorem RpAll.noRef {F : Hp} : ∀ {xs : List V} {ds : List PyData}, RpAll F xs ds → ds.all TL.scal = true → ∀ v ∈ xs, TL.noRef v
  | _, _, .nil, _, v, h => by cases h
  | _, _, .cons a b, s, v, h => by
    simp only [List.all_cons, Bool.and_eq_true] at s
    rcases List.mem_cons.mp h with rfl | h
    · exact a.noRef s.1
    · exact b.noRef s.2 v h
def TupTo (F F' : Hp) : Prop := ∀ a vs, F a = some (.tup vs) → (∀ v ∈ vs, noRef v) → F' a = some (.tup vs)
theorem Rp.scal3 {F F' : Hp} {x : V} {d : PyData} (h : Rp F x d) (s : TL.scal2 d = true) (ht : TupTo F F') : Rp F' x d := by
  cases h with
  | tup z r => exact .tup (ht _ _ z (r.noRef s)) (r.scal s)
  | non => exact .non
  | bl => exact .bl _
  | int => exact .int _
  | str => exact .str _
  | lst => cases s
  | dK => cases s
  | dT => cases s
theorem RpAll.scal3 {F F' : Hp} (ht : TupTo F F') : ∀ {xs : List V} {ds : List PyData}, RpAll F xs ds → ds.all TL.scal2 = true → RpAll F' xs ds
  | _, _, .nil, _ => .nil
  | _, _, .cons a b, s => by
    simp only [List.all_cons, Bool.and_eq_true] at s
    exact .cons (a.scal3 s.1 ht) (b.scal3 ht s.2)
mutual
theorem Tr.scal3 {F F' H : Hp} (ht : TupTo F F') : ∀ {x d fp}, Tr F H x d fp → (∀ a ∈ fp, F' a = none) → Tr F' H x d fp
  | _, _, _, .leaf s r, _ => .leaf s (r.scal3 s ht)
  | _, _, _, .ls h1 h2 r n, k => .ls h1 (k _ List.mem_cons_self) (Trs.scal3 ht r fun a h => k a (List.mem_cons_of_mem _ h)) n
  | _, _, _, .tp s h1 h2 r n, k => .tp s h1 (k _ List.mem_cons_self) (Trs.scal3 ht r fun a h => k a (List.mem_cons_of_mem _ h)) n
theorem Trs.scal3 {F F' H : Hp} (ht : TupTo F F') : ∀ {x d fp}, Trs F H x d fp → (∀ a ∈ fp, F' a = none) → Trs F' H x d fp
  | _, _, _, .nil, _ => .nil
  | _, _, _, .cons q r n, k => .cons (Tr.scal3 ht q fun a h => k a (List.mem_append_left _ h)) (Trs.scal3 ht r fun a h => k a (List.mem_append_right _ h)) n
end
theorem HdRep.flatTo3 {F F' : Hp} {r r' : Ev} {σ σ' : L2.St} {H0 H : Hp} {h : Hd} {x : V} (q : HdRep F r σ H h x) (hf : flat h = true) (n : NewAt (Nn H0) H h x) (ht : TupTo F F') (hn : ∀ a, H0 a = none → F' a = F a ∧ ¬ Owned r' σ' H a) : HdRep F' r' σ' H h x := by
  cases q with
  | v q => exact .v (q.scal3 hf ht)
  | n h1 h2 h3 h4 =>
    have ha := hn _ (n _ rfl)
    refine .n h1 (ha.1.trans h2) ha.2 ?_
    cases h4 with
    | lst r => exact .lst (r.scal3 ht hf)
    | dK r => cases hf
    | dT r => cases hf
  | s q => cases hf
  | t q m =>
    have k := fun a ha => hn a (n a ⟨F, _, q, ha⟩)
    exact .t (q.scal3 ht fun a ha => (k a ha).1.trans (q.at a ha).2) fun a ha => (k a ha).2
theorem leaf_ref {F H : Hp} {v : V} {d : PyData} {fp : List Addr} (t : Tr F H v d fp) (s : TL.scal d = false) : ∃ b, v = .ref b := by
  cases t with
  | ls _ _ _ _ => exact ⟨_, rfl⟩
  | tp _ _ _ _ _ => exact ⟨_, rfl⟩
  | leaf s2 r =>
    cases r with
    | tup _ _ => exact ⟨_, rfl⟩
    | lst _ _ => exact ⟨_, rfl⟩
    | dK _ _ => exact ⟨_, rfl⟩
    | dT _ _ => exact ⟨_, rfl⟩
    | non => cases s
    | bl => cases s
    | int => cases s
    | str => cases s
theorem Trs.ref {F H : Hp} : ∀ {vs ds fp}, Trs F H vs ds fp → ds.all TL.scal = false → ∃ v ∈ vs, ∃ b, v = V.ref b
  | _, _, _, .nil, s => by cases s
  | _, _, _, .cons (d := d) q r _, s => by
    by_cases h : TL.scal d = true
    · rw [List.all_cons, h, Bool.true_and] at s
      obtain ⟨v, h1, h2⟩ := r.ref s
      exact ⟨v, List.mem_cons_of_mem _ h1, h2⟩
    · exact ⟨_, List.mem_cons_self, leaf_ref q (by simpa using h)⟩
mutual
theorem Tr.tupRef {F H : Hp} : ∀ {x d fp}, Tr F H x d fp → ∀ a ∈ fp, ∀ vs, H a = some (.tup vs) → ∃ v ∈ vs, ∃ b, v = V.ref b
  | _, _, _, .leaf _ _, a, h, _, _ => by cases h
  | _, _, _, .ls h1 _ r _, a, h, vs, e => by
    rcases List.mem_cons.mp h with rfl | h
    · rw [h1] at e; cases e
    · exact Trs.tupRef r a h vs e
  | _, _, _, .tp s h1 _ r _, a, h, vs, e => by
    rcases List.mem_cons.mp h with rfl | h
    · rw [h1] at e; cases e; exact r.ref s
    · exact Trs.tupRef r a h vs e
theorem Trs.tupRef {F H : Hp} : ∀ {x d fp}, Trs F H x d fp → ∀ a ∈ fp, ∀ vs, H a = some (.tup vs) → ∃ v ∈ vs, ∃ b, v = V.ref b
  | _, _, _, .nil, a, h, _, _ => by cases h
  | _, _, _, .cons q r _, a, h, vs, e => by
    rcases List.mem_append.mp h with h | h
    · exact Tr.tupRef q a h vs e
    · exact Trs.tupRef r a h vs e
end
def frzS : Slt → Slt
  | .fz d => .fz d
  | .ow d => .fz d
  | .io d => .fz d
  | .tr d => .fz d
  | .sc ns => .sc ns
  | .xc p => .xc p
def frzE (r : Ev) : Ev := r.map (Option.map frzS)
theorem frzE_get {r : Ev} {i : Nat} {s : Slt} (h : (frzE r)[i]? = some (some s)) : ∃ s0, r[i]? = some (some s0) ∧ s = frzS s0 := by
  unfold frzE at h
  rw [List.getElem?_map, Option.map_eq_some_iff] at h
  obtain ⟨o, h1, h2⟩ := h
  cases o with
  | none => cases h2
  | some s0 => cases h2; exact ⟨s0, h1, rfl⟩
theorem frzS_no {s : Slt} {H : Hp} {x : V} {a : Addr} (h : OwnA H (frzS s) x a) : False := by
  cases s <;> exact h.elim
theorem frzE_no {r : Ev} {σ : L2.St} {H : Hp} {a : Addr} (h : Owned (frzE r) σ H a) : False := by
  obtain ⟨i, s, x, h1, _, h3⟩ := h
  obtain ⟨s0, _, rfl⟩ := frzE_get h1
  exact frzS_no h3
theorem byvalE {K : PySem.W.Frag} {F : Hp} {r : Ev} {σ : L2.St} {H : Hp} (R : Rel K F r σ H) : ∃ G, Rel K G (frzE r) σ H ∧
    ∀ F' H' r', Rel K F' r' σ H' → Stp (frzE r) σ G H r' σ F' H' → ∃ F2, Rel K F2 r σ H' ∧ Stp r σ F H r σ F2 H' ∧ ∀ h x, flat h = true → HdRep F' r' σ H' h x → NewAt (Nn H) H' h x → HdRep F2 r σ H' h x := by
  classical
  let G : Hp := fun a => match F a with
    | some o => some o
    | none => if Owned r σ H a then H a else none
  have ex : Ext F G := fun a o h => by simp only [G, h]
  have own : ∀ a, Owned r σ H a → G a = H a := fun a h => by simp only [G, (R.ownedAt h).2, if_pos h]
  have sg : Ext G H := fun a o h => by
    simp only [G] at h
    cases q : F a with
    | some o' => rw [q] at h; cases h; exact R.sub a _ q
    | none =>
      rw [q] at h
      simp only at h
      split at h
      · exact h
      · cases h
  refine ⟨G, ⟨sg, by unfold frzE; rw [List.length_map]; exact R.len, fun i d h => ?_, fun i d h => ?_, fun i d h => ?_, fun i ns h => ?_, fun i ns h => ?_, fun i j s t x y a h1 h2 e1 e2 o1 o2 => ?_⟩, fun F' H' r' R' S' => ?_⟩
  · obtain ⟨s0, h1, h2⟩ := frzE_get h
    cases s0 with
    | fz d => cases h2; obtain ⟨v, q1, q2⟩ := R.fz i d h1; exact ⟨v, q1, q2.mono ex⟩
    | ow d =>
      cases h2
      obtain ⟨a, o, q1, q2, q3, q4⟩ := R.own i d (.inl h1)
      exact ⟨_, q1, OC.rp ((own a (.of (.inl h1) q1)).trans q2) (q4.mono ex)⟩
    | io d =>
      cases h2
      obtain ⟨a, o, q1, q2, q3, q4⟩ := R.own i d (.inr h1)
      exact ⟨_, q1, OC.rp ((own a (.of (.inr h1) q1)).trans q2) (q4.mono ex)⟩
    | tr d =>
      cases h2
      obtain ⟨x, fp, q1, q2⟩ := R.tr i d h1
      exact ⟨x, q1, q2.frz ex fun a ha => own a ⟨i, _, x, h1, q1, F, fp, q2, ha⟩⟩
    | sc ns => cases h2
    | xc ns => cases h2
  · rcases h with h | h <;> (obtain ⟨s0, _, h2⟩ := frzE_get h; cases s0 <;> cases h2)
  · obtain ⟨s0, _, h2⟩ := frzE_get h
    cases s0 <;> cases h2
  · obtain ⟨s0, h1, h2⟩ := frzE_get h
    cases s0 <;> cases h2
    obtain ⟨a, q1, q2⟩ := R.scr i ns h1
    exact ⟨a, q1, SqL.ext ex q2⟩
  · obtain ⟨s0, h1, h2⟩ := frzE_get h
    cases s0 <;> cases h2
    obtain ⟨a, q1, q2⟩ := R.xc i ns h1
    exact ⟨a, q1, XcAt.ext ex q2⟩
  · obtain ⟨s0, _, rfl⟩ := frzE_get h1
    exact (frzS_no o1).elim
  · have pres : ∀ a, H a ≠ none → H' a = H a ∧ F' a = G a := fun a ha => by
      obtain ⟨z1, z2, _⟩ := S'.pres a ha fun z => frzE_no z
      exact ⟨z1, z2⟩
    let F2 : Hp := fun a => if H a = none then F' a else F a
    have hn : ∀ a, H a = none → F2 a = F' a := fun a ha => if_pos ha
    have ho : ∀ a, H a ≠ none → F2 a = F a := fun a ha => if_neg ha
    have x2 : Ext F F2 := fun a o ha => by
      rw [ho a (by rw [R.sub a o ha]; simp)]; exact ha
    have s2 : Ext F2 H' := fun a o ha => by
      by_cases z : H a = none
      · rw [hn a z] at ha; exact R'.sub a o ha
      · rw [ho a z] at ha
        rw [(pres a z).1]; exact R.sub a o ha
    have ht : TupTo F' F2 := fun a vs ha hv => by
      by_cases z : H a = none
      · rw [hn a z]; exact ha
      · rw [ho a z]
        rw [(pres a z).2] at ha
        cases q : F a with
        | some o => rw [ex a o q] at ha; exact ha
        | none =>
          exfalso
          simp only [G, q] at ha
          split at ha
          · rename_i hw
            obtain ⟨i, s, x, w1, w2, w3⟩ := hw
            cases s with
            | fz d => exact w3.elim
            | sc d => exact w3.elim
            | xc d => exact w3.elim
            | ow d =>
              obtain ⟨b, o, q1, q2, _, q4⟩ := R.own i d (.inl w1)
              rw [w2] at q1; cases q1; cases w3
              rw [q2] at ha; cases ha
              cases q4
            | io d =>
              obtain ⟨b, o, q1, q2, _, q4⟩ := R.own i d (.inr w1)
              rw [w2] at q1; cases q1; cases w3
              rw [q2] at ha; cases ha
              cases q4
            | tr d =>
              obtain ⟨F0, fp, t, hm⟩ := w3
              obtain ⟨v, hv1, b, hv2⟩ := t.tupRef a hm vs ha
              exact hv v hv1 b hv2
          · cases ha
    obtain ⟨R3, S3⟩ := R.grow x2 s2 (fun a ha => ⟨(pres a ha).1, ho a ha⟩)
    refine ⟨F2, R3, S3, fun h x hf q n => q.flatTo3 hf n ht fun a ha => ⟨hn a ha, R.noNew (fun b hb => (pres b (R.ownedAt hb).1).1) ha⟩⟩
def sPure (f : FE) : FE := fun r => (f (frzE r)).bind fun p => if flat p.1 = true then some (p.1, r) else none
def tPure (f : FT) : FT := fun r => (f (frzE r)).map fun p => (p.1, r)
theorem sPure_ok {K : PySem.W.Frag} {f : FE} : ∀ σ H Q, tI K (sPure f) σ H Q → tI K f σ H Q := by
  rintro σ H Q ⟨F, ρ, h, ρ', R, e, k⟩
  simp only [sPure, Option.bind_eq_some_iff] at e
  obtain ⟨⟨h1, r1⟩, e1, e2⟩ := e
  split at e2
  · rename_i hf
    cases e2
    obtain ⟨G, RG, bk⟩ := byvalE R
    refine ⟨G, frzE ρ, _, r1, RG, e1, fun x F' H' R' S' q n => ?_⟩
    obtain ⟨F2, R2, S2, hd⟩ := bk F' H' r1 R' S'
    have n2 : NewAt (Nn H) H' _ x := fun a ha => (n a ha).elim id fun z => (frzE_no z).elim
    exact k x F2 H' R2 S2 (hd _ x hf q n2) n2.up
  · cases e2
theorem tPure_ok {K : PySem.W.Frag} {f : FT} : ∀ σ H Q, tIT K (tPure f) σ H Q → tIT K f σ H Q := by
  rintro σ H Q ⟨F, ρ, b, ρ', R, e, k⟩
  simp only [tPure, Option.map_eq_some_iff] at e
  obtain ⟨⟨b1, r1⟩, e1, e2⟩ := e
  cases e2
  obtain ⟨G, RG, bk⟩ := byvalE R
  refine ⟨G, frzE ρ, _, r1, RG, e1, fun F' H' R' S' => ?_⟩
  obtain ⟨F2, R2, S2, _⟩ := bk F' H' r1 R' S'
  exact k F2 H' R2 S2
/-- a tree told is frozen -/
def sFz (f : FE) : FE := fun r => (f r).map fun p => match p.1 with
  | .t d => (.v d, p.2)
  | h => (h, p.2)
theorem sFz_ok {K : PySem.W.Frag} {f : FE} : ∀ σ H Q, tI K (sFz f) σ H Q → tI K f σ H Q := by
  rintro σ H Q ⟨F, ρ, h, ρ', R, e, k⟩
  simp only [sFz, Option.map_eq_some_iff] at e
  obtain ⟨⟨h1, r1⟩, e1, e2⟩ := e
  refine ⟨F, ρ, h1, r1, R, e1, fun x F' H' R' S' q n => ?_⟩
  cases h1 with
  | v d => cases e2; exact k x F' H' R' S' q n
  | n d => cases e2; exact k x F' H' R' S' q n
  | s d => cases e2; exact k x F' H' R' S' q n
  | t d =>
    cases e2
    obtain ⟨F2, R2, S2, p2, _⟩ := esc_ok (d := d) (r2 := r1) S' R' q n rfl
    exact k x F2 H' R2 S2 (.v p2) nw_v
section
variable {X : Cx} {e : Expr} {f : FE} {t : FT}
theorem se_pure (h : SE X e f) : SE X e (sPure f) := PEimp h sPure_ok
theorem st_pure (h : ST X e t) : ST X e (tPure t) := PTimp h tPure_ok
theorem sw_pure (h : SW X e t) : SW X e (tPure t) := PWimp h tPure_ok
theorem se_fz (h : SE X e f) : SE X e (sFz f) := PEimp h sFz_ok
end
@[simp] theorem x_sPure {f : FE} {r : Ev} : sPure f r = (f (frzE r)).bind fun p => if flat p.1 = true then some (p.1, r) else none := (rfl)
@[simp] theorem x_tPure {f : FT} {r : Ev} : tPure f r = (f (frzE r)).map fun p => (p.1, r) := (rfl)
@[simp] theorem x_sFz {f : FE} {r : Ev} : sFz f r = (f r).map fun p => match p.1 with
  | .t d => (.v d, p.2)
  | h => (h, p.2) := (rfl)
@[simp] theorem x_frzE0 : frzE [] = [] := (rfl)
@[simp] theorem x_frzE1 {s : Option Slt} {r : Ev} : frzE (s :: r) = s.map frzS :: frzE r := (rfl)
@[simp] theorem x_frzS1 {d : PyData} : frzS (.fz d) = .fz d := (rfl)
@[simp] theorem x_frzS2 {d : PyData} : frzS (.ow d) = .fz d := (rfl)
@[simp] theorem x_frzS3 {d : PyData} : frzS (.io d) = .fz d := (rfl)
@[simp] theorem x_frzS4 {d : PyData} : frzS (.tr d) = .fz d := (rfl)
@[simp] theorem x_frzS5 {d : List Int} : frzS (.sc d) = .sc d := (rfl)
end TL

namespace TL
open PySem PySem.Spec PyProof.Rows L2

/-! ### handing over -/
theorem drop_get {r : Ev} {i j : Nat} {s : Slt} (h : (r.set j none)[i]? = some (some s)) : r[i]? = some (some s) ∧ j ≠ i := by
  rcases get_set _ _ _ _ _ h with ⟨_, e, _⟩ | ⟨ne, h⟩
  · cases e
  · exact ⟨h, ne⟩
theorem drop_owned {r : Ev} {σ : L2.St} {H : Hp} {j : Nat} {a : Addr} (h : Owned (r.set j none) σ H a) : Owned r σ H a := by
  obtain ⟨i, s, x, h1, h2, h3⟩ := h
  exact ⟨i, s, x, (drop_get h1).1, h2, h3⟩
/-- a slot forgotten -/
theorem Rel.drop {K : PySem.W.Frag} {F : Hp} {r : Ev} {σ : L2.St} {H : Hp} (R : Rel K F r σ H) (j : Nat) : Rel K F (r.set j none) σ H := by
  refine ⟨R.sub, by rw [List.length_set]; exact R.len, fun i d h => R.fz i d (drop_get h).1, fun i d h => R.own i d ?_, fun i d h => R.tr i d (drop_get h).1, fun i ns h => R.scr i ns (drop_get h).1, fun i ns h => R.xc i ns (drop_get h).1, fun i k s t x y a h1 h2 e1 e2 o1 o2 => R.dja i k s t x y a (drop_get h1).1 (drop_get h2).1 e1 e2 o1 o2⟩
  rcases h with h | h
  · exact .inl (drop_get h).1
  · exact .inr (drop_get h).1
theorem Stp.drop {r r1 : Ev} {σ σ1 : L2.St} {F F1 H H1 : Hp} (S : Stp r σ F H r1 σ1 F1 H1) {j : Nat} (hj : isIo r1[j]? = false) : Stp r σ F H (r1.set j none) σ1 F1 H1 := by
  refine ⟨S.ext, fun a ha hn => ?_, fun i d h => ?_, S.stay, S.sl⟩
  · obtain ⟨q1, q2, q3⟩ := S.pres a ha hn
    exact ⟨q1, q2, fun z => q3 (drop_owned z)⟩
  · obtain ⟨d', q1, q2⟩ := S.io i d h
    refine ⟨d', ?_, q2⟩
    rw [List.getElem?_set_ne]
    · exact q1
    · rintro rfl
      rw [q1] at hj; cases hj
theorem leaves {F H : Hp} : ∀ {vs : List V} {ds : List PyData}, RpAll F vs ds → ds.all scal2 = true → Trs F H vs ds []
  | _, _, .nil, _ => .nil
  | _, _, .cons a b, s => by
    simp only [List.all_cons, Bool.and_eq_true] at s
    exact .cons (.leaf s.1 a) (leaves b s.2) (fun _ h => absurd h (by simp))
/-- a flat list of one's own is a tree -/
theorem tree_of_flat {F H : Hp} {a : Addr} {o : HO} {ds : List PyData} (h1 : H a = some o) (h2 : F a = none) (c : OC F o (.list ds)) (s : ds.all scal2 = true) : Tr F H (.ref a) (.list ds) [a] := by
  obtain ⟨vs, rfl, r⟩ := c.list
  exact .ls h1 h2 (leaves r s) (by simp)
def flatD (d : PyData) : Option PyData := match d with
  | .list ds => if ds.all scal2 = true then some (.list ds) else none
  | _ => none
theorem flatD_eq {d e : PyData} (h : flatD d = some e) : ∃ ds, d = .list ds ∧ e = .list ds ∧ ds.all scal2 = true := by
  unfold flatD at h
  split at h
  · split at h
    · rename_i hs; cases h; exact ⟨_, rfl, rfl, hs⟩
    · cases h
  · cases h
/-- the object, or the part, that a handle names becomes part of something else -/
def mv (h : Hd) (r : Ev) : Option (PyData × Ev) := match h with
  | .v d => if scal2 d = true then some (d, r) else none
  | .n d => (flatD d).map fun d => (d, r)
  | .t d => some (d, r)
  | .s j => match r[j]? with
    | some (some (.fz d)) => if scal2 d = true then some (d, r) else none
    | some (some (.ow d)) => (flatD d).map fun d => (d, r.set j none)
    | some (some (.tr d)) => some (d, r.set j none)
    | _ => none
theorem mv_ok {K : PySem.W.Frag} {r r1 r2 : Ev} {σ σ1 : L2.St} {F H F1 H1 : Hp} {h : Hd} {x : V} {d : PyData} (S : Stp r σ F H r1 σ1 F1 H1) (R : Rel K F1 r1 σ1 H1) (q : HdRep F1 r1 σ1 H1 h x) (nw : NewAt (Fsh r σ H) H1 h x) (e : mv h r1 = some (d, r2)) :
    ∃ fp, Rel K F1 r2 σ1 H1 ∧ Stp r σ F H r2 σ1 F1 H1 ∧ Tr F1 H1 x d fp ∧ (∀ a ∈ fp, ¬ Owned r2 σ1 H1 a) ∧ (∀ a ∈ fp, Fsh r σ H a) ∧ (∀ a, Owned r2 σ1 H1 a → Owned r1 σ1 H1 a) ∧ ∀ a ∈ fp, HdA H1 h x a ∨ Owned r1 σ1 H1 a := by
  cases q with
  | v q =>
    simp only [mv] at e
    split at e
    · rename_i hs
      cases e
      exact ⟨[], R, S, .leaf hs q, fun _ h => absurd h (by simp), fun _ h => absurd h (by simp), fun _ h => h, fun _ h => absurd h (by simp)⟩
    · cases e
  | @n d' a o h1 h2 h3 h4 =>
    simp only [mv, Option.map_eq_some_iff] at e
    obtain ⟨e0, e1, e2⟩ := e
    obtain ⟨ds, rfl, rfl, hs⟩ := flatD_eq e1
    cases e2
    · · refine ⟨[a], R, S, tree_of_flat h1 h2 h4 hs, fun b hb => ?_, fun b hb => ?_, fun _ h => h, fun b hb => ?_⟩
        · rw [List.mem_singleton] at hb; subst hb; exact h3
        · rw [List.mem_singleton] at hb; subst hb; exact nw _ rfl
        · rw [List.mem_singleton] at hb; subst hb; exact .inl rfl
  | @t _ _ fp q m =>
    cases e
    exact ⟨fp, R, S, q, m, fun a ha => nw a ⟨F1, fp, q, ha⟩, fun _ h => h, fun a ha => .inl ⟨F1, fp, q, ha⟩⟩
  | @s j x q =>
    simp only [mv] at e
    have lone : ∀ {s : Slt}, r1[j]? = some (some s) → ∀ a, OwnA H1 s x a → ¬ Owned (r1.set j none) σ1 H1 a := fun {s} hs a ha ⟨i, t, y, g1, g2, g3⟩ => by
      obtain ⟨g4, ne⟩ := drop_get g1
      exact ne (R.dja j i s t x y a hs g4 q g2 ha g3)
    split at e
    · rename_i d' hs
      split at e
      · rename_i hc
        cases e
        obtain ⟨v, e1, e2⟩ := R.fz j _ hs
        rw [q] at e1; cases e1
        exact ⟨[], R, S, .leaf hc e2, fun _ h => absurd h (by simp), fun _ h => absurd h (by simp), fun _ h => h, fun _ h => absurd h (by simp)⟩
      · cases e
    · rename_i d0 hs
      rw [Option.map_eq_some_iff] at e
      obtain ⟨e0, f1, f2⟩ := e
      obtain ⟨ds, rfl, rfl, hc⟩ := flatD_eq f1
      · cases f2
        obtain ⟨a, o, e1, e2, e3, e4⟩ := R.own j _ (.inl hs)
        rw [q] at e1; cases e1
        have ow : Owned r1 σ1 H1 a := .of (.inl hs) q
        refine ⟨[a], R.drop j, S.drop (by rw [hs]; rfl), tree_of_flat e2 e3 e4 hc, fun b hb => ?_, fun b hb => ?_, fun _ h => drop_owned h, fun b hb => ?_⟩
        · rw [List.mem_singleton] at hb; subst hb; exact lone hs _ rfl
        · rw [List.mem_singleton] at hb; subst hb; exact S.old ow
        · rw [List.mem_singleton] at hb; subst hb; exact .inr ow
    · rename_i d' hs
      cases e
      obtain ⟨y, fp, e1, e2⟩ := R.tr j _ hs
      rw [q] at e1; cases e1
      have ow : ∀ a ∈ fp, Owned r1 σ1 H1 a := fun a ha => ⟨j, _, x, hs, q, F1, fp, e2, ha⟩
      exact ⟨fp, R.drop j, S.drop (by rw [hs]; rfl), e2, fun a ha => lone hs a ⟨F1, fp, e2, ha⟩, fun a ha => S.old (ow a ha), fun _ h => drop_owned h, fun a ha => .inr (ow a ha)⟩
    · cases e
def mvAll : List Hd → Ev → Option (List PyData × Ev)
  | [], r => some ([], r)
  | h :: hs, r => (mv h r).bind fun p => (mvAll hs p.2).map fun q => (p.1 :: q.1, q.2)
theorem HdRep.less {F : Hp} {r r2 : Ev} {σ : L2.St} {H : Hp} {h : Hd} {x : V} (z : HdRep F r σ H h x) (o : ∀ a, Owned r2 σ H a → Owned r σ H a) : HdRep F r2 σ H h x := by
  cases z with
  | v z => exact .v z
  | n z1 z2 z3 z4 => exact .n z1 z2 (fun w => z3 (o _ w)) z4
  | s z => exact .s z
  | t z m => exact .t z fun a ha w => m a ha (o a w)
theorem mvAll_ok {K : PySem.W.Frag} {σ σ1 : L2.St} {F H H1 F1 : Hp} {r : Ev} : ∀ {hs : List Hd} {xs : List V} {ds : List PyData} {r1 r2 : Ev}, Stp r σ F H r1 σ1 F1 H1 → Rel K F1 r1 σ1 H1 → HdsRep F1 r1 σ1 (Fsh r σ H) H1 hs xs → mvAll hs r1 = some (ds, r2) →
    ∃ fp, Rel K F1 r2 σ1 H1 ∧ Stp r σ F H r2 σ1 F1 H1 ∧ Trs F1 H1 xs ds fp ∧ (∀ a ∈ fp, ¬ Owned r2 σ1 H1 a) ∧ (∀ a ∈ fp, Fsh r σ H a) ∧ (∀ a, Owned r2 σ1 H1 a → Owned r1 σ1 H1 a) ∧ ∀ a ∈ fp, (∃ (j : Nat) (g : Hd) (y : V), hs[j]? = some g ∧ xs[j]? = some y ∧ HdA H1 g y a) ∨ Owned r1 σ1 H1 a
  | [], xs, ds, r1, r2, S, R, t, e => by
    cases e
    cases xs with
    | nil => exact ⟨[], R, S, .nil, fun _ h => absurd h (by simp), fun _ h => absurd h (by simp), fun _ h => h, fun _ h => absurd h (by simp)⟩
    | cons _ _ => cases t.len
  | h :: hs, [], ds, r1, r2, S, R, t, e => by cases t.len
  | h :: hs, x :: xs, ds, r1, r2, S, R, t, e => by
    simp only [mvAll, Option.bind_eq_some_iff, Option.map_eq_some_iff] at e
    obtain ⟨⟨d, r3⟩, e1, ⟨ds', r4⟩, e2, e3⟩ := e
    cases e3
    obtain ⟨f1, R2, S2, t1, n1, o1, l1, b1⟩ := mv_ok S R (t.rep 0 h x rfl rfl) (t.nw 0 h x rfl rfl) e1
    have t2 : HdsRep F1 r3 σ1 (Fsh r σ H) H1 hs xs := by
      have tt := t.tail
      exact ⟨tt.len, fun j g y g1 g2 => (tt.rep j g y g1 g2).less l1, tt.nw, tt.apart⟩
    obtain ⟨f2, R3, S3, t3, n3, o3, l3, b3⟩ := mvAll_ok S2 R2 t2 e2
    refine ⟨f1 ++ f2, R3, S3, .cons t1 t3 fun a h1 h2 => ?_, fun a ha => ?_, fun a ha => ?_, fun a ha => l1 a (l3 a ha), fun a ha => ?_⟩
    · rcases b3 a h2 with ⟨j, g, y, z1, z2, z3⟩ | z
      · rcases b1 a h1 with w | w
        · have := t.apart 0 (j + 1) h g x y a rfl (by simpa using z1) rfl (by simpa using z2) w z3
          cases this
        · exact (t.tail.rep j g y z1 z2).at z3 |>.2.2 w
      · exact n1 a h1 z
    · rcases List.mem_append.mp ha with ha | ha
      · exact fun z => n1 a ha (l3 a z)
      · exact n3 a ha
    · rcases List.mem_append.mp ha with ha | ha
      · exact o1 a ha
      · exact o3 a ha
    · rcases List.mem_append.mp ha with ha | ha
      · rcases b1 a ha with z | z
        · exact .inl ⟨0, h, x, rfl, rfl, z⟩
        · exact .inr z
      · rcases b3 a ha with ⟨j, g, y, z1, z2, z3⟩ | z
        · exact .inl ⟨j + 1, g, y, by simpa using z1, by simpa using z2, z3⟩
        · exact .inr (l1 a z)
/-! ### trees displayed -/
def sLstT (f : FA) : FE := fun r => (f r).bind fun p => if p.1.length ≤ 16000000 then (mvAll p.1 p.2).map fun q => (.t (.list q.1), q.2) else none
def sTupT (f : FA) : FE := fun r => (f r).bind fun p => if p.1.length ≤ 16000000 then (mvAll p.1 p.2).bind fun q => if scal2 (.tuple q.1) = false then some (.t (.tuple q.1), q.2) else none else none
/-- a new object over what was handed over -/
theorem tree_new {K : PySem.W.Frag} {F F1 H H1 : Hp} {r r1 : Ev} {σ : L2.St} {p : Addr} {o : HO} {fp : List Addr} {d : PyData} {x : V} (S : Stp r σ F H r1 σ F1 H1) (R : Rel K F1 r1 σ H1) (hp : H1 p = none) (t : Tr F1 (upd H1 p o) x d (p :: fp)) (at1 : ∀ a ∈ fp, H1 a ≠ none) (n : ∀ a ∈ fp, ¬ Owned r1 σ H1 a) (old : ∀ a ∈ fp, Fsh r σ H a) :
    Rel K F1 r1 σ (upd H1 p o) ∧ Stp r σ F H r1 σ F1 (upd H1 p o) ∧ HdRep F1 r1 σ (upd H1 p o) (.t d) x ∧ NewAt (Fsh r σ H) (upd H1 p o) (.t d) x := by
  obtain ⟨R2, S2⟩ := R.grow (Ext.refl F1) (H' := upd H1 p o) (R.sub.trans (Ext.new hp)) (fun a ha => ⟨upd_ne fun z => ha (z ▸ hp), rfl⟩)
  refine ⟨R2, S.trans S2, .t t fun a ha => ?_, fun a ⟨F2, fp2, t2, ha⟩ => ?_⟩
  · rcases List.mem_cons.mp ha with rfl | ha
    · exact R2.noNewUpd R hp
    · exact (S2.pres a (at1 a ha) (n a ha)).2.2
  · rw [← t.uniq t2] at ha
    rcases List.mem_cons.mp ha with rfl | ha
    · exact Fsh.back (.inl hp) S
    · exact old a ha
theorem sLstT_ok {K : PySem.W.Frag} {f : FA} : ∀ σ H Q, tI K (sLstT f) σ H Q → tLst (tIA K f) σ H Q := by
  rintro σ H Q ⟨F, ρ, h, ρ', R, e, k⟩
  simp only [sLstT, Option.bind_eq_some_iff] at e
  obtain ⟨⟨hs, ρ1⟩, e1, e2⟩ := e
  split at e2
  · rename_i hl
    rw [Option.map_eq_some_iff] at e2
    obtain ⟨⟨ds, ρ2⟩, e3, e4⟩ := e2
    cases e4
    refine ⟨F, ρ, hs, ρ1, R, e1, fun xs F1 H1 R1 S1 t => ⟨lim_le (by rw [← t.len]; exact hl), fun p hp => ?_⟩⟩
    obtain ⟨fp, R2, S2, t2, n2, o2, _, _⟩ := mvAll_ok S1 R1 t e3
    have np : p ∉ fp := fun h => (t2.at p h).1 hp
    have t3 : Tr F1 (upd H1 p (.lst xs)) (.ref p) (.list ds) (p :: fp) := .ls upd_same (fnone R1.sub hp) (t2.frame (Ext.refl _) fun a ha => ⟨upd_ne fun z => np (z ▸ ha), rfl⟩) np
    obtain ⟨R4, S4, q4, n4⟩ := tree_new S2 R2 hp t3 (fun a ha => (t2.at a ha).1) n2 o2
    exact k _ _ _ R4 S4 q4 n4
  · cases e2
theorem sTupT_ok {K : PySem.W.Frag} {f : FA} : ∀ σ H Q, tI K (sTupT f) σ H Q → tTup (tIA K f) σ H Q := by
  rintro σ H Q ⟨F, ρ, h, ρ', R, e, k⟩
  simp only [sTupT, Option.bind_eq_some_iff] at e
  obtain ⟨⟨hs, ρ1⟩, e1, e2⟩ := e
  split at e2
  · rename_i hl
    rw [Option.bind_eq_some_iff] at e2
    obtain ⟨⟨ds, ρ2⟩, e3, e4⟩ := e2
    split at e4
    · rename_i hs2
      cases e4
      refine ⟨F, ρ, hs, ρ1, R, e1, fun xs F1 H1 R1 S1 t => ⟨lim_le (by rw [← t.len]; exact hl), fun p hp => ?_⟩⟩
      obtain ⟨fp, R2, S2, t2, n2, o2, _, _⟩ := mvAll_ok S1 R1 t e3
      have np : p ∉ fp := fun h => (t2.at p h).1 hp
      have t3 : Tr F1 (upd H1 p (.tup xs)) (.ref p) (.tuple ds) (p :: fp) := .tp hs2 upd_same (fnone R1.sub hp) (t2.frame (Ext.refl _) fun a ha => ⟨upd_ne fun z => np (z ▸ ha), rfl⟩) np
      obtain ⟨R4, S4, q4, n4⟩ := tree_new S2 R2 hp t3 (fun a ha => (t2.at a ha).1) n2 o2
      exact k _ _ _ R4 S4 q4 n4
    · cases e4
  · cases e2
section
variable {X : Cx} {es : List Expr} {g : FA} {pos : Pos}
theorem se_lstT (h : SA X es g) : SE X (.List es pos) (sLstT g) := PEimp (pe_lst h) sLstT_ok
theorem se_tupT {k} (h : SA X es g) : SE X (.Tuple es k pos) (sTupT g) := PEimp (pe_tup h) sTupT_ok
end
/-! ### a tree grows -/
theorem Trs.snoc {F H : Hp} : ∀ {vs ds fs}, Trs F H vs ds fs → ∀ {v d f}, Tr F H v d f → (∀ a ∈ fs, a ∉ f) → Trs F H (vs ++ [v]) (ds ++ [d]) (fs ++ f)
  | _, _, _, .nil, v, d, f, t, _ => by
    have := Trs.cons t .nil (fun a _ h => by cases h)
    simpa using this
  | _, _, _, .cons (f := f1) (fs := f2) q r n, v, d, f, t, m => by
    have := Trs.cons q (r.snoc t fun a h => m a (List.mem_append_right _ h)) fun a h1 h2 => by
      rcases List.mem_append.mp h2 with h2 | h2
      · exact n a h1 h2
      · exact m a (List.mem_append_left _ h1) h2
    rw [List.append_assoc]
    exact this
theorem Trs.length {F H : Hp} : ∀ {vs ds fs}, Trs F H vs ds fs → vs.length = ds.length
  | _, _, _, .nil => rfl
  | _, _, _, .cons _ r _ => congrArg (· + 1) r.length
/-- slot k's tree has changed, and whatever it owns now was its own, or nobody's -/
theorem rel_tr {K : PySem.W.Frag} {F H0 H H' F0 : Hp} {r r0 : Ev} {σ σ0 : L2.St} {k : Nat} {x : V} {d d' : PyData} {fp fp' : List Addr} (R : Rel K F r σ H) (S : Stp r0 σ0 F0 H0 r σ F H) (hk : r[k]? = some (some (.tr d))) (hx : σ[k]? = some (some x)) (t : Tr F H x d fp) (t' : Tr F H' x d' fp') (keep : ∀ a, a ∉ fp → H' a = H a) (stay : ∀ a, H a ≠ none → H' a ≠ none)
    (own : ∀ a ∈ fp', a ∈ fp ∨ (¬ Owned r σ H a ∧ Fsh r0 σ0 H0 a)) : Rel K F (r.set k (some (.tr d'))) σ H' ∧ Stp r0 σ0 F0 H0 (r.set k (some (.tr d'))) σ F H' := by
  have kl : k < r.length := (List.getElem?_eq_some_iff.mp hk).1
  have mine : ∀ a ∈ fp, OwnA H (.tr d) x a := fun a ha => ⟨F, fp, t, ha⟩
  have ofp : ∀ {a : Addr}, a ∈ fp → Owned r σ H a := fun ha => ⟨k, _, x, hk, hx, mine _ ha⟩
  have oth : ∀ {j : Nat} {s : Slt} {y : V} {a : Addr}, k ≠ j → r[j]? = some (some s) → σ[j]? = some (some y) → OwnA H s y a → H' a = H a := fun {j s y a} ne h1 h2 h3 => keep a fun m => ne (R.dja k j _ s x y a hk h1 hx h2 (mine a m) h3)
  have bk : ∀ {j : Nat} {s : Slt} {y : V} {a : Addr}, k ≠ j → r[j]? = some (some s) → σ[j]? = some (some y) → OwnA H' s y a → OwnA H s y a := fun ne h1 h2 h3 => ownA_back R h1 h2 (fun b hb => oth ne h1 h2 hb) h3
  have self : ∀ {s : Slt} {y : V} {a : Addr}, (r.set k (some (.tr d')))[k]? = some (some s) → σ[k]? = some (some y) → OwnA H' s y a → a ∈ fp' := fun {s y a} h1 h2 h3 => by
    rw [List.getElem?_set_self kl] at h1
    cases h1
    rw [hx] at h2; cases h2
    obtain ⟨F2, fp2, t2, hm⟩ := h3
    rw [← t'.uniq t2] at hm; exact hm
  have apart : ∀ {j : Nat} {s : Slt} {y : V} {a : Addr}, k ≠ j → r[j]? = some (some s) → σ[j]? = some (some y) → OwnA H s y a → a ∉ fp' := fun {j s y a} ne h1 h2 h3 m => by
    rcases own a m with z | ⟨z, _⟩
    · exact ne (R.dja k j _ s x y a hk h1 hx h2 (mine a z) h3)
    · exact z ⟨j, s, y, h1, h2, h3⟩
  refine ⟨⟨fun a o h => ?_, by rw [List.length_set]; exact R.len, fun j e h => ?_, fun j e h => ?_, fun j e h => ?_, fun j ns h => ?_, fun j ns h => ?_, fun i j s1 s2 x1 x2 a h1 h2 e1 e2 o1 o2 => ?_⟩, ⟨S.ext, fun a ha hn => ?_, fun j e h => ?_, fun a ha => stay a (S.stay a ha), S.sl⟩⟩
  · rw [keep a fun m => by rw [(t.at a m).2] at h; cases h]
    exact R.sub a o h
  · rcases get_set _ _ _ _ _ h with ⟨_, e1, _⟩ | ⟨ne, h⟩
    · cases e1
    · exact R.fz j e h
  · have h2 : OwnAt r j e ∧ k ≠ j := ownAt_set h (fun _ z => by cases z) (fun _ z => by cases z)
    obtain ⟨b, o, q1, q2, q3⟩ := R.own j e h2.1
    obtain ⟨s, w1, w2⟩ := h2.1.a
    exact ⟨b, o, q1, (oth h2.2 w1 q1 (w2 H b)).trans q2, q3⟩
  · rcases get_set _ _ _ _ _ h with ⟨rfl, e1, _⟩ | ⟨ne, h⟩
    · cases e1; exact ⟨x, fp', hx, t'⟩
    · exact R.trKeep (Ext.refl F) h fun y b ey ob => ⟨oth ne h ey ob, rfl⟩
  · rcases get_set _ _ _ _ _ h with ⟨_, e1, _⟩ | ⟨ne, h⟩
    · cases e1
    · exact R.scr j ns h
  · rcases get_set _ _ _ _ _ h with ⟨_, e1, _⟩ | ⟨ne, h⟩
    · cases e1
    · exact R.xc j ns h
  · by_cases n1 : k = i
    · subst n1
      by_cases n2 : k = j
      · exact n2
      · have z := self h1 e1 o1
        rw [List.getElem?_set_ne n2] at h2
        exact absurd z (apart n2 h2 e2 (bk n2 h2 e2 o2))
    · rw [List.getElem?_set_ne n1] at h1
      have b1 := bk n1 h1 e1 o1
      by_cases n2 : k = j
      · subst n2
        exact absurd (self h2 e2 o2) (apart n1 h1 e1 b1)
      · rw [List.getElem?_set_ne n2] at h2
        exact R.dja i j s1 s2 x1 x2 a h1 h2 e1 e2 b1 (bk n2 h2 e2 o2)
  · obtain ⟨q1, q2, q3⟩ := S.pres a ha hn
    refine ⟨(keep a fun m => q3 (ofp m)).trans q1, q2, fun ⟨j, s, y, w1, w2, w3⟩ => ?_⟩
    by_cases n1 : k = j
    · subst n1
      rcases own a (self w1 w2 w3) with z | ⟨_, z⟩
      · exact q3 (ofp z)
      · exact z.elim ha hn
    · rw [List.getElem?_set_ne n1] at w1
      exact q3 ⟨j, s, y, w1, w2, bk n1 w1 w2 w3⟩
  · obtain ⟨e', q1, q2⟩ := S.io j e h
    refine ⟨e', ?_, q2⟩
    rw [List.getElem?_set_ne]
    · exact q1
    · rintro rfl
      rw [q1] at hk; cases hk
def trD (k : Nat) (r : Ev) : Option PyData := match r[k]? with
  | some (some (.tr d)) => some d
  | _ => none
theorem trD_at {k : Nat} {r : Ev} {d : PyData} (h : trD k r = some d) : r[k]? = some (some (.tr d)) := by
  unfold trD at h
  split at h
  · rename_i hs; cases h; exact hs
  · cases h
/-- xs.append(e) where xs is a tree, and what is appended becomes part of it -/
def sAppX (k : Nat) (f : FE) : FE := fun r => ((trD k r).bind isL).bind fun _ => (f r).bind fun p => (mv p.1 p.2).bind fun q => ((trD k q.2).bind isL).bind fun xs =>
  if xs.length < 16000000 then some (.v .none, q.2.set k (some (.tr (.list (xs ++ [q.1]))))) else none
theorem sAppX_ok {K : PySem.W.Frag} {k : Nat} {f : FE} : ∀ σ H Q, tI K (sAppX k f) σ H Q → tBM K "list" rAppend (tVar k) (tCons (tI K f) tNil) σ H Q := by
  rintro σ H Q ⟨F, ρ, h, ρ', R, e, kk⟩
  simp only [sAppX, Option.bind_eq_some_iff] at e
  obtain ⟨_, ⟨d0, e1, e1'⟩, ⟨h1, ρ1⟩, e2, ⟨d, ρ2⟩, e3, xs, ⟨d2, e4, e4'⟩, e5⟩ := e
  split at e5
  · rename_i hl
    cases e5
    cases isL_eq e1'
    cases isL_eq e4'
    obtain ⟨x, fp0, s1, t0⟩ := R.tr k _ (trD_at e1)
    cases t0 with
    | leaf s _ => cases s
    | @ls a vs0 _ fp0 g1 g2 g3 g4 =>
    refine ⟨.ref a, s1, .inl ⟨rfl, vs0, .inl (.inl g1)⟩, F, ρ, h1, ρ1, R, e2, fun x F1 H1 R1 S1 q1 n1 => ?_⟩
    obtain ⟨fx, R2, S2, tx, nx, ox, _, _⟩ := mv_ok S1 R1 q1 n1 e3
    obtain ⟨y, fp, s2, t2⟩ := R2.tr k _ (trD_at e4)
    rw [s1] at s2; cases s2
    cases t2 with
    | leaf s _ => cases s
    | @ls _ vs _ fp w1 w2 w3 w4 =>
    have ow : ∀ b ∈ a :: fp, Owned ρ2 σ H1 b := fun b hb => ⟨k, _, .ref a, trD_at e4, s1, F1, _, .ls w1 w2 w3 w4, hb⟩
    have ax : a ∉ fx := fun m => nx a m (ow a List.mem_cons_self)
    have dis : ∀ b ∈ fp, b ∉ fx := fun b hb m => nx b m (ow b (List.mem_cons_of_mem _ hb))
    have fr : ∀ b, b ≠ a → upd H1 a (.lst (vs ++ [x])) b = H1 b ∧ F1 b = F1 b := fun b hb => ⟨upd_ne hb, rfl⟩
    have t3 : Tr F1 (upd H1 a (.lst (vs ++ [x]))) (.ref a) (.list (xs ++ [d])) (a :: (fp ++ fx)) :=
      .ls upd_same w2 ((w3.frame (Ext.refl _) fun b hb => fr b fun z => w4 (z ▸ hb)).snoc (tx.frame (Ext.refl _) fun b hb => fr b fun z => ax (z ▸ hb)) dis) (by
        intro m
        rcases List.mem_append.mp m with m | m
        · exact w4 m
        · exact ax m)
    obtain ⟨R3, S3⟩ := rel_tr (H' := upd H1 a (.lst (vs ++ [x]))) R2 S2 (trD_at e4) s1 (.ls w1 w2 w3 w4) t3 (fun b hb => upd_ne fun z => hb (z ▸ List.mem_cons_self)) (fun b hb => by
      by_cases z : b = a
      · subst z; rw [upd_same]; simp
      · rw [upd_ne z]; exact hb) fun b hb => by
        rcases List.mem_cons.mp hb with rfl | hb
        · exact .inl List.mem_cons_self
        · rcases List.mem_append.mp hb with hb | hb
          · exact .inl (List.mem_cons_of_mem _ hb)
          · exact .inr ⟨nx b hb, ox b hb⟩
    exact ⟨a, vs, x, rfl, rfl, w1, lim_lt (by rw [w3.length]; exact hl), kk _ _ _ R3 S3 (.v .non) nw_v⟩
  · cases e5
end TL

namespace TL
open PySem PySem.Spec PyProof.Rows L2

/-! ### something appended deep within a tree -/
def appAt : PyData → List Nat → PyData → Option PyData
  | .list ds, [], y => if ds.length < 16000000 then some (.list (ds ++ [y])) else none
  | .list ds, i :: p, y => (ds[i]?).bind fun d => (appAt d p y).map fun d' => .list (ds.set i d')
  | .tuple ds, i :: p, y => (ds[i]?).bind fun d => (appAt d p y).map fun d' => .tuple (ds.set i d')
  | _, _, _ => none
inductive NodeAt (H : Hp) : V → List Nat → Addr → Prop
  | here {a : Addr} : NodeAt H (.ref a) [] a
  | ls {a b : Addr} {i : Nat} {p : List Nat} {vs : List V} {v : V} : H a = some (.lst vs) → vs[i]? = some v → NodeAt H v p b → NodeAt H (.ref a) (i :: p) b
  | tp {a b : Addr} {i : Nat} {p : List Nat} {vs : List V} {v : V} : H a = some (.tup vs) → vs[i]? = some v → NodeAt H v p b → NodeAt H (.ref a) (i :: p) b
theorem Trs.part {F H : Hp} : ∀ {vs ds fs}, Trs F H vs ds fs → ∀ {i : Nat} {d : PyData}, ds[i]? = some d → ∃ v f, vs[i]? = some v ∧ Tr F H v d f ∧ (∀ a ∈ f, a ∈ fs) ∧
    ∀ (H' : Hp) (d' : PyData), Tr F H' v d' f → (∀ a ∈ fs, a ∉ f → H' a = H a) → Trs F H' vs (ds.set i d') fs
  | _, _, _, .nil, i, d, e => by simp at e
  | _, _, _, .cons (f := f1) (fs := f2) q r n, 0, d, e => by
    simp at e; subst e
    refine ⟨_, f1, rfl, q, fun a h => List.mem_append_left _ h, fun H' d' t k => ?_⟩
    rw [List.set_cons_zero]
    exact .cons t (r.frame (Ext.refl _) fun a h => ⟨k a (List.mem_append_right _ h) fun z => n a z h, rfl⟩) n
  | _, _, _, .cons (f := f1) (fs := f2) q r n, i + 1, d, e => by
    obtain ⟨v, f, h1, h2, h3, h4⟩ := r.part (i := i) (d := d) (by simpa using e)
    refine ⟨v, f, by simpa using h1, h2, fun a h => List.mem_append_right _ (h3 a h), fun H' d' t k => ?_⟩
    rw [List.set_cons_succ]
    exact .cons (q.frame (Ext.refl _) fun a h => ⟨k a (List.mem_append_left _ h) fun z => n a h (h3 a z), rfl⟩) (h4 H' d' t fun a ha hn => k a (List.mem_append_right _ ha) hn) n
theorem appAt_scal : ∀ {d : PyData} {p : List Nat} {y d' : PyData}, appAt d p y = some d' → scal d' = false ∧ scal d = false
  | .list ds, [], y, d', e => by
    simp only [appAt] at e
    split at e
    · cases e; exact ⟨rfl, rfl⟩
    · cases e
  | .list ds, i :: p, y, d', e => by
    simp only [appAt, Option.bind_eq_some_iff, Option.map_eq_some_iff] at e
    obtain ⟨_, _, _, _, rfl⟩ := e
    exact ⟨rfl, rfl⟩
  | .tuple ds, i :: p, y, d', e => by
    simp only [appAt, Option.bind_eq_some_iff, Option.map_eq_some_iff] at e
    obtain ⟨_, _, _, _, rfl⟩ := e
    exact ⟨rfl, rfl⟩
  | .tuple ds, [], y, d', e => by simp [appAt] at e
  | .none, _, _, _, e => by simp [appAt] at e
  | .bool _, _, _, _, e => by simp [appAt] at e
  | .int _, _, _, _, e => by simp [appAt] at e
  | .str _, _, _, _, e => by simp [appAt] at e
  | .dict _, _, _, _, e => by simp [appAt] at e
theorem Tr.app {F H : Hp} {y : PyData} {v : V} (hy : scal2 y = true) (ry : Rp F v y) : ∀ {p : List Nat} {x d fp d'}, Tr F H x d fp → appAt d p y = some d' →
    ∃ b vs, NodeAt H x p b ∧ H b = some (.lst vs) ∧ vs.length < 16000000 ∧ b ∈ fp ∧ Tr F (upd H b (.lst (vs ++ [v]))) x d' fp
  | [], x, d, fp, d', t, e => by
    cases t with
    | leaf s r => cases d <;> first | cases e | cases s
    | tp _ _ _ _ _ => cases e
    | @ls a vs ds fp h1 h2 h3 h4 =>
      simp only [appAt] at e
      split at e
      · rename_i hl
        cases e
        refine ⟨a, vs, .here, h1, by rw [h3.length]; exact hl, List.mem_cons_self, .ls upd_same h2 ?_ h4⟩
        have := (h3.frame (Ext.refl _) (H' := upd H a (.lst (vs ++ [v]))) fun b hb => ⟨upd_ne fun z => h4 (z ▸ hb), rfl⟩).snoc (.leaf hy ry) (fun _ _ z => by cases z)
        simpa using this
      · cases e
  | i :: p, x, d, fp, d', t, e => by
    cases t with
    | leaf s r =>
      cases d with
      | tuple ds =>
        simp only [appAt, Option.bind_eq_some_iff, Option.map_eq_some_iff] at e
        obtain ⟨d1, e1, d2, e2, rfl⟩ := e
        have s2 := (appAt_scal e2).2
        have : TL.scal d1 = true := List.all_eq_true.mp s d1 (List.mem_of_getElem? e1)
        rw [this] at s2; cases s2
      | list ds => cases s
      | none => cases e
      | bool _ => cases e
      | int _ => cases e
      | str _ => cases e
      | dict _ => cases s
    | @ls a vs ds fp h1 h2 h3 h4 =>
      simp only [appAt, Option.bind_eq_some_iff, Option.map_eq_some_iff] at e
      obtain ⟨d1, e1, d2, e2, rfl⟩ := e
      obtain ⟨w, f, g1, g2, g3, g4⟩ := h3.part e1
      obtain ⟨b, us, k1, k2, k3, k4, k5⟩ := g2.app hy ry e2
      have ba : b ≠ a := fun z => h4 (z ▸ g3 b k4)
      exact ⟨b, us, .ls h1 g1 k1, k2, k3, List.mem_cons_of_mem _ (g3 b k4), .ls (by rw [upd_ne (Ne.symm ba)]; exact h1) h2 (g4 _ _ k5 fun c _ hn => upd_ne fun z => hn (z ▸ k4)) h4⟩
    | @tp a vs ds fp s h1 h2 h3 h4 =>
      simp only [appAt, Option.bind_eq_some_iff, Option.map_eq_some_iff] at e
      obtain ⟨d1, e1, d2, e2, rfl⟩ := e
      obtain ⟨w, f, g1, g2, g3, g4⟩ := h3.part e1
      obtain ⟨b, us, k1, k2, k3, k4, k5⟩ := g2.app hy ry e2
      have ba : b ≠ a := fun z => h4 (z ▸ g3 b k4)
      have s2 : scal2 (.tuple (ds.set i d2)) = false := by
        show (ds.set i d2).all TL.scal = false
        rw [List.all_eq_false]
        have hi : i < ds.length := (List.getElem?_eq_some_iff.mp e1).1
        exact ⟨d2, List.mem_set hi d2, by rw [(appAt_scal e2).1]; simp⟩
      exact ⟨b, us, .tp h1 g1 k1, k2, k3, List.mem_cons_of_mem _ (g3 b k4), .tp s2 (by rw [upd_ne (Ne.symm ba)]; exact h1) h2 (g4 _ _ k5 fun c _ hn => upd_ne fun z => hn (z ▸ k4)) h4⟩
/-- the reading of base[i][j].. -/
def tPath (K : PySem.W.Frag) : TE → List Nat → TE
  | t, [] => t
  | t, i :: p => tPath K (tOp (rIx K) t (tC (.int (i : Nat)))) p
theorem tPath_ok {K : PySem.W.Frag} {σ : L2.St} {H : Hp} {b : Addr} : ∀ {p : List Nat} {t : TE} {x : V}, (∀ Q : VK, Q x H → t σ H Q) → NodeAt H x p b → ∀ Q : VK, Q (.ref b) H → tPath K t p σ H Q
  | [], t, x, ht, n, Q, q => by
    cases n
    exact ht Q q
  | i :: p, t, x, ht, n, Q, q => by
    cases n with
    | @ls a _ _ _ vs v h1 h2 n => exact tPath_ok (t := tOp (rIx K) t (tC (.int (i : Nat)))) (x := v) (fun Q' q' => ht _ (.inl ⟨a, vs, i, v, rfl, rfl, .inl (.inl h1), L2.atI_nat h2, q'⟩)) n Q q
    | @tp a _ _ _ vs v h1 h2 n => exact tPath_ok (t := tOp (rIx K) t (tC (.int (i : Nat)))) (x := v) (fun Q' q' => ht _ (.inr (.inl ⟨a, vs, i, v, rfl, rfl, .inl (.inl h1), L2.atI_nat h2, q'⟩))) n Q q
/-- slot k's tree with y appended at p -/
def sAppAt (k : Nat) (p : List Nat) (y : PyData) : FE := fun r => if scal2 y = true then (trD k r).bind fun d => (appAt d p y).map fun d' => (.v .none, r.set k (some (.tr d'))) else none
theorem rel_app {K : PySem.W.Frag} {F H F0 H0 : Hp} {r r0 : Ev} {σ σ0 : L2.St} {k : Nat} {p : List Nat} {y d d' : PyData} {v : V} (R : Rel K F r σ H) (S : Stp r0 σ0 F0 H0 r σ F H) (hk : r[k]? = some (some (.tr d))) (hy : scal2 y = true) (ry : Rp F v y) (e : appAt d p y = some d') :
    ∃ x b vs, σ[k]? = some (some x) ∧ NodeAt H x p b ∧ H b = some (.lst vs) ∧ vs.length < 16000000 ∧ Rel K F (r.set k (some (.tr d'))) σ (upd H b (.lst (vs ++ [v]))) ∧ Stp r0 σ0 F0 H0 (r.set k (some (.tr d'))) σ F (upd H b (.lst (vs ++ [v]))) := by
  obtain ⟨x, fp, e1, t⟩ := R.tr k d hk
  obtain ⟨b, vs, k1, k2, k3, k4, k5⟩ := t.app hy ry e
  obtain ⟨R2, S2⟩ := rel_tr R S hk e1 t k5 (fun a ha => upd_ne fun z => ha (z ▸ k4)) (fun a ha => by
    by_cases z : a = b
    · subst z; rw [upd_same]; simp
    · rw [upd_ne z]; exact ha) fun a ha => .inl ha
  exact ⟨x, b, vs, e1, k1, k2, k3, R2, S2⟩
theorem sAppAt_ok {K : PySem.W.Frag} {k : Nat} {p : List Nat} {y : PyData} {v : V} (ry : ∀ F, Rp F v y) : ∀ σ H Q, tI K (sAppAt k p y) σ H Q → tBM K "list" rAppend (tPath K (tVar k) p) (tCons (tC v) tNil) σ H Q := by
  rintro σ H Q ⟨F, ρ, h, ρ', R, e, kk⟩
  unfold sAppAt at e
  split at e
  · rename_i hy
    simp only [Option.bind_eq_some_iff, Option.map_eq_some_iff] at e
    obtain ⟨d, e1, d', e2, e3⟩ := e
    cases e3
    obtain ⟨x, b, vs, s1, n1, h1, h2, R2, S2⟩ := rel_app R (Stp.refl ..) (trD_at e1) hy (ry F) e2
    refine tPath_ok (x := x) (fun Q' q' => ⟨x, s1, q'⟩) n1 _ ⟨.inl ⟨rfl, vs, .inl (.inl h1)⟩, b, vs, v, rfl, rfl, h1, lim_lt h2, kk _ _ _ R2 S2 (.v .non) nw_v⟩
  · cases e
/-! ### for x in xs: x[..].append(y) -/
def appAll (y : PyData) (p : List Nat) : List PyData → Option (List PyData)
  | [] => some []
  | d :: ds => (appAt d p y).bind fun d' => (appAll y p ds).map fun ds' => d' :: ds'
theorem appAll_get {y : PyData} {p : List Nat} : ∀ {ds es : List PyData}, appAll y p ds = some es → ds.length = es.length ∧ ∀ (i : Nat) (d : PyData), ds[i]? = some d → ∃ d', es[i]? = some d' ∧ appAt d p y = some d'
  | [], es, e => by cases e; exact ⟨rfl, fun i d h => by simp at h⟩
  | d :: ds, es, e => by
    simp only [appAll, Option.bind_eq_some_iff, Option.map_eq_some_iff] at e
    obtain ⟨d', e1, ds', e2, rfl⟩ := e
    obtain ⟨h1, h2⟩ := appAll_get e2
    refine ⟨by rw [List.length_cons, List.length_cons, h1], fun i u hu => ?_⟩
    cases i with
    | zero => simp at hu; subst hu; exact ⟨d', rfl, e1⟩
    | succ i => simpa using h2 i u (by simpa using hu)
def fForApp (i k : Nat) (p : List Nat) (y : PyData) : FS := fun r => if scal2 y = true ∧ isIo r[i]? = false ∧ i ≠ k ∧ i < r.length then ((trD k r).bind isL).bind fun ds => (appAll y p ds).map fun es => .nx ((r.set i none).set k (some (.tr (.list es)))) else none
theorem Rel.scratch {K : PySem.W.Frag} {F : Hp} {r : Ev} {σ : L2.St} {H : Hp} {i : Nat} {x : V} (R : Rel K F r σ H) (h : r[i]? = some none ∨ r[i]? = none) : Rel K F r (σ.set i (some x)) H := by
  have ne : ∀ {j : Nat} {s : Slt}, r[j]? = some (some s) → i ≠ j := fun {j s} hj z => by
    subst z; rcases h with h | h <;> (rw [h] at hj; cases hj)
  refine ⟨R.sub, by rw [List.length_set]; exact R.len, fun j d hj => ?_, fun j d hj => ?_, fun j d hj => ?_, fun j ns hj => ?_, fun j ns hj => ?_, fun j k s t x y a h1 h2 e1 e2 o1 o2 => ?_⟩
  · rw [List.getElem?_set_ne (ne hj)]; exact R.fz j d hj
  · obtain ⟨s, w, _⟩ := hj.a
    rw [List.getElem?_set_ne (ne w)]; exact R.own j d hj
  · rw [List.getElem?_set_ne (ne hj)]; exact R.tr j d hj
  · rw [List.getElem?_set_ne (ne hj)]; exact R.scr j ns hj
  · rw [List.getElem?_set_ne (ne hj)]; exact R.xc j ns hj
  · rw [List.getElem?_set_ne (ne h1)] at e1
    rw [List.getElem?_set_ne (ne h2)] at e2
    exact R.dja j k s t x y a h1 h2 e1 e2 o1 o2
theorem Stp.scratch {r r1 : Ev} {σ σ1 : L2.St} {F F1 H H1 : Hp} {i : Nat} {x : V} (S : Stp r σ F H r1 σ1 F1 H1) (h : r1[i]? = some none ∨ r1[i]? = none) : Stp r σ F H r1 (σ1.set i (some x)) F1 H1 := by
  have ne : ∀ {j : Nat} {s : Slt}, r1[j]? = some (some s) → i ≠ j := fun {j s} hj z => by
    subst z; rcases h with h | h <;> (rw [h] at hj; cases hj)
  refine ⟨S.ext, fun a ha hn => ?_, fun j d hj => ?_, S.stay, by rw [List.length_set]; exact S.sl⟩
  · obtain ⟨q1, q2, q3⟩ := S.pres a ha hn
    refine ⟨q1, q2, fun ⟨j, s, y, w1, w2, w3⟩ => q3 ⟨j, s, y, w1, ?_, w3⟩⟩
    rwa [List.getElem?_set_ne (ne w1)] at w2
  · obtain ⟨d', q1, q2⟩ := S.io j d hj
    exact ⟨d', q1, by rw [List.getElem?_set_ne (ne q1)]; exact q2⟩
theorem set_none_at {r : Ev} {i k : Nat} {s : Option Slt} (ne : i ≠ k) : ((r.set i none).set k s)[i]? = some none ∨ ((r.set i none).set k s)[i]? = none := by
  rw [List.getElem?_set_ne (Ne.symm ne)]
  by_cases hl : i < r.length
  · rw [List.getElem?_set_self hl]; exact .inl rfl
  · rw [List.getElem?_eq_none (by rw [List.length_set]; omega)]; exact .inr rfl
theorem fForApp_ok {K : PySem.W.Frag} {i k : Nat} {p : List Nat} {y : PyData} {v : V} (ry : ∀ F, Rp F v y) : ∀ D σ H, tIS K (fForApp i k p y) D σ H → tFor (iList K (tVar k)) (gName i) (tDrop (tBM K "list" rAppend (tPath K (tVar i) p) (tCons (tC v) tNil))) D σ H := by
  rintro D σ H ⟨F, ρ, o, R, e, kk⟩
  unfold fForApp at e
  split at e
  · rename_i hc
    obtain ⟨hy, hio, ne, hil⟩ := hc
    simp only [Option.bind_eq_some_iff, Option.map_eq_some_iff] at e
    obtain ⟨ds, ⟨d0, e1, e1'⟩, es, e2, rfl⟩ := e
    cases isL_eq e1'
    have hk := trD_at e1
    obtain ⟨hlen, hget⟩ := appAll_get e2
    obtain ⟨x, fp, s1, t⟩ := R.tr k _ hk
    have kl : k < ρ.length := (List.getElem?_eq_some_iff.mp hk).1
    cases t with
    | leaf s _ => cases s
    | @ls a vs0 _ fp g1 g2 g3 g4 =>
    refine ⟨.ref a, s1, a, rfl, ⟨vs0, .inl (.inl g1)⟩, ?_⟩
    -- turn j: the first j are done
    let st : Nat → Ev := fun j => (ρ.set i none).set k (some (.tr (.list (es.take j ++ ds.drop j))))
    have stk : ∀ j, (st j)[k]? = some (some (.tr (.list (es.take j ++ ds.drop j)))) := fun j => by
      show ((ρ.set i none).set k _)[k]? = _
      rw [List.getElem?_set_self (by rw [List.length_set]; exact kl)]
    refine ⟨fun j m σ' H' => ∃ F', Rel K F' (st j) σ' H' ∧ Stp ρ σ F H (st j) σ' F' H' ∧ σ'[k]? = some (some (.ref a)) ∧ m = ds.length - j ∧ j ≤ ds.length, ⟨ds.length, ?_⟩, ?_⟩
    · have e0 : st 0 = (ρ.set i none) := by
        show (ρ.set i none).set k _ = _
        simp only [List.take_zero, List.nil_append, List.drop_zero]
        apply List.ext_getElem?
        intro n
        by_cases hn : k = n
        · subst hn
          rw [List.getElem?_set_self (by rw [List.length_set]; exact kl), List.getElem?_set_ne ne, hk]
        · rw [List.getElem?_set_ne hn]
      refine ⟨F, ?_, ?_, s1, rfl, Nat.zero_le _⟩
      · rw [e0]; exact R.drop i
      · rw [e0]; exact (Stp.refl ..).drop hio
    · rintro j m σ' H' ⟨F', R', S', s', rfl, hj⟩
      obtain ⟨x', fp', s2, t'⟩ := R'.tr k _ (stk j)
      rw [s'] at s2; cases s2
      cases t' with
      | leaf s _ => cases s
      | @ls _ vs _ fp' w1 w2 w3 w4 =>
      have hvl := w3.length
      have hll : (es.take j ++ ds.drop j).length = ds.length := by rw [List.length_append, List.length_take, List.length_drop]; omega
      by_cases hlt : j < ds.length
      · have hdj : (es.take j ++ ds.drop j)[j]? = some ds[j] := by
          rw [List.getElem?_append_right (by rw [List.length_take]; omega), List.length_take, List.getElem?_drop]
          rw [show min j es.length = j by omega, Nat.sub_self, Nat.add_zero]
          exact List.getElem?_eq_getElem hlt
        obtain ⟨d', f1, f2⟩ := hget j ds[j] (List.getElem?_eq_getElem hlt)
        have hjv : j < vs.length := by omega
        refine .inr ⟨⟨vs, vs[j], .inl (.inl w1), List.getElem?_eq_getElem hjv⟩, fun σ3 H3 => ∃ F3, Rel K F3 (st (j + 1)) σ3 H3 ∧ Stp ρ σ F H (st (j + 1)) σ3 F3 H3 ∧ σ3[k]? = some (some (.ref a)), fun σ3 H3 ⟨F3, q1, q2, q3⟩ => ⟨ds.length - (j + 1), by omega, F3, q1, q2, q3, rfl, hlt⟩, fun z H2 hyld => ?_⟩
        obtain ⟨rfl, hz⟩ := hyld
        have hzv := hz vs (.inl (.inl w1))
        -- the step
        have ea : appAt (.list (es.take j ++ ds.drop j)) (j :: p) y = some (.list (es.take (j + 1) ++ ds.drop (j + 1))) := by
          have h3 : (es.take j ++ ds.drop j).set j d' = es.take (j + 1) ++ ds.drop (j + 1) := by
            have hje : j < es.length := by omega
            have h4 : es[j] = d' := by rw [List.getElem?_eq_getElem hje] at f1; exact Option.some.inj f1
            rw [List.set_append_right j d' (by rw [List.length_take]; omega), List.length_take, show j - min j es.length = 0 by omega, List.drop_eq_getElem_cons hlt, List.set_cons_zero, List.take_succ_eq_append_getElem hje, h4, List.append_assoc]
            rfl
          simp only [appAt, hdj, Option.bind_some, f2, Option.map_some, h3]
        have sc := set_none_at (r := ρ) (s := some (.tr (.list (es.take j ++ ds.drop j)))) ne
        have Ra := R'.scratch (x := z) sc
        have Sa := S'.scratch (x := z) sc
        have sk : (σ'.set i (some z))[k]? = some (some (.ref a)) := by rw [List.getElem?_set_ne ne]; exact s'
        obtain ⟨x2, b, us, q1, q2, q3, q4, R5, S5⟩ := rel_app Ra Sa (stk j) hy (ry F') ea
        rw [sk] at q1; cases q1
        have e5 : (st j).set k (some (.tr (.list (es.take (j + 1) ++ ds.drop (j + 1))))) = st (j + 1) := by
          show ((ρ.set i none).set k _).set k _ = (ρ.set i none).set k _
          rw [List.set_set]
        rw [e5] at R5 S5
        have il : i < σ'.length := by
          rw [← R'.len]
          have := S'.sl
          show i < ((ρ.set i none).set k _).length
          rw [List.length_set, List.length_set]
          exact hil
        have si : (σ'.set i (some z))[i]? = some (some z) := by rw [List.getElem?_set_self il]
        cases q2 with
        | ls h1 h2 n =>
          rw [w1] at h1; cases h1
          rw [hzv] at h2; cases h2
          exact tPath_ok (x := z) (fun Q' q' => ⟨z, si, q'⟩) n _ ⟨.inl ⟨rfl, us, .inl (.inl q3)⟩, b, us, v, rfl, rfl, q3, lim_lt q4, F', R5, S5, sk⟩
        | tp h1 _ _ => rw [w1] at h1; cases h1
      · have hj2 : j = ds.length := by omega
        refine .inl ⟨⟨vs, .inl (.inl w1), by omega⟩, ?_⟩
        have e6 : st j = (ρ.set i none).set k (some (.tr (.list es))) := by
          show (ρ.set i none).set k (some (.tr (.list (es.take j ++ ds.drop j)))) = _
          rw [List.take_of_length_le (by omega), List.drop_eq_nil_of_le (by omega), List.append_nil]
        rw [e6] at R' S'
        exact kk σ' F' H' R' S'
  · cases e
end TL

namespace TL
open PySem PySem.Spec PyProof.Rows L2

/-! ### a part of a tree that is told: the rest is forgotten -/
def sIxT (i : Nat) (f : FE) : FE := fun r => (f r).bind fun p => match p.1 with
  | .t (.tuple ds) => (ds[i]?).map fun d => (if scal2 d = true then .v d else .t d, p.2)
  | .t (.list ds) => (ds[i]?).map fun d => (if scal2 d = true then .v d else .t d, p.2)
  | _ => none
theorem part_rep {F H : Hp} {r : Ev} {σ : L2.St} {P : Addr → Prop} {v : V} {d : PyData} {f : List Addr} (t : Tr F H v d f) (n : ∀ a ∈ f, ¬ Owned r σ H a) (m : ∀ a ∈ f, P a) : HdRep F r σ H (if scal2 d = true then .v d else .t d) v ∧ NewAt P H (if scal2 d = true then .v d else .t d) v := by
  by_cases s : scal2 d = true
  · rw [if_pos s]
    cases t with
    | leaf _ q => exact ⟨.v q, nw_v⟩
    | ls _ _ _ _ => cases s
    | tp s2 _ _ _ _ => rw [s] at s2; cases s2
  · rw [if_neg s]
    refine ⟨.t t n, fun a ⟨F2, f2, t2, h⟩ => ?_⟩
    rw [← t.uniq t2] at h
    exact m a h
theorem sIxT_ok {K : PySem.W.Frag} {i : Nat} {f : FE} : ∀ σ H Q, tI K (sIxT i f) σ H Q → tOp (rIx K) (tI K f) (tC (.int (i : Nat))) σ H Q := by
  rintro σ H Q ⟨F, ρ, h, ρ', R, e, k⟩
  simp only [sIxT, Option.bind_eq_some_iff] at e
  obtain ⟨⟨h1, ρ1⟩, e1, e2⟩ := e
  refine ⟨F, ρ, h1, ρ1, R, e1, fun x F1 H1 R1 S1 q1 n1 => ?_⟩
  cases q1 with
  | v q => cases e2
  | n _ _ _ _ => cases e2
  | s q => cases e2
  | @t d _ fp q m =>
    have nw : ∀ a ∈ fp, Fsh ρ σ H a := fun a ha => n1 a ⟨F1, fp, q, ha⟩
    cases q with
    | leaf s r =>
      cases d with
      | tuple ds =>
        simp only [Option.map_eq_some_iff] at e2
        obtain ⟨d, e3, e4⟩ := e2
        cases e4
        cases r with
        | tup h1 r1 =>
          obtain ⟨v, g1, g2⟩ := r1.get e3
          have hs : TL.scal d = true := List.all_eq_true.mp s d (List.mem_of_getElem? e3)
          have hs2 : scal2 d = true := by cases d <;> first | rfl | cases hs
          rw [if_pos hs2] at k
          exact .inr (.inl ⟨_, _, i, v, rfl, rfl, .inl (.inl (R1.sub _ _ h1)), L2.atI_nat g1, k v F1 H1 R1 S1 (.v g2) nw_v⟩)
      | list ds => cases s
      | none => cases e2
      | bool _ => cases e2
      | int _ => cases e2
      | str _ => cases e2
      | dict _ => cases s
    | @ls a vs ds fp g1 g2 g3 g4 =>
      simp only [Option.map_eq_some_iff] at e2
      obtain ⟨d, e3, e4⟩ := e2
      cases e4
      obtain ⟨v, f, w1, w2, w3, _⟩ := g3.part e3
      obtain ⟨z1, z2⟩ := part_rep (P := Fsh ρ σ H) w2 (fun a ha => m a (List.mem_cons_of_mem _ (w3 a ha))) (fun a ha => nw a (List.mem_cons_of_mem _ (w3 a ha)))
      exact .inl ⟨a, vs, i, v, rfl, rfl, .inl (.inl g1), L2.atI_nat w1, k v F1 H1 R1 S1 z1 z2⟩
    | @tp a vs ds fp s g1 g2 g3 g4 =>
      simp only [Option.map_eq_some_iff] at e2
      obtain ⟨d, e3, e4⟩ := e2
      cases e4
      obtain ⟨v, f, w1, w2, w3, _⟩ := g3.part e3
      obtain ⟨z1, z2⟩ := part_rep (P := Fsh ρ σ H) w2 (fun a ha => m a (List.mem_cons_of_mem _ (w3 a ha))) (fun a ha => nw a (List.mem_cons_of_mem _ (w3 a ha)))
      exact .inr (.inl ⟨a, vs, i, v, rfl, rfl, .inl (.inl g1), L2.atI_nat w1, k v F1 H1 R1 S1 z1 z2⟩)
section
variable {X : Cx} {a : Expr} {fa : FE} {pos p2 : Pos} {j : Nat}
theorem se_ixT (i : Nat) (ha : SE X a fa) : SE X (.Subscript a (.Constant (.int (i : Nat)) j p2) pos) (sIxT i fa) := PEimp (pe_ix ix_seq ha pe_int (by exact fun _ _ => rfl)) sIxT_ok
end
/-! ### f(..).append(x) where a tree is told -/
def sAppTT (f g : FE) : FE := fun r => (f r).bind fun p => match p.1 with
  | .t (.list xs) => (g p.2).bind fun q => (esc q.1 q.2).bind fun u => if xs.length < 16000000 then some (.v .none, u.2) else none
  | _ => none
theorem sAppTT_ok {K : PySem.W.Frag} {f g : FE} : ∀ σ H Q, tI K (sAppTT f g) σ H Q → tBM K "list" rAppend (tI K f) (tCons (tI K g) tNil) σ H Q := by
  rintro σ H Q ⟨F, ρ, h, ρ', R, e, kk⟩
  simp only [sAppTT, Option.bind_eq_some_iff] at e
  obtain ⟨⟨hf, ρ1⟩, e1, e2⟩ := e
  split at e2
  · rename_i xs hx
    dsimp only at hx
    subst hx
    simp only [Option.bind_eq_some_iff] at e2
    obtain ⟨⟨hg, ρ2⟩, e3, ⟨d, ρ3⟩, e4, e5⟩ := e2
    split at e5
    · rename_i hl
      cases e5
      refine ⟨F, ρ, _, ρ1, R, e1, fun x F1 H1 R1 S1 q1 n1 => ?_⟩
      cases q1 with
      | @t _ _ fp q m =>
      cases q with
      | leaf s _ => cases s
      | @ls a vs ds fp h1 h2 h3 h4 =>
        have hr : HdRep F1 ρ1 σ H1 (.t (.list xs)) (.ref a) := .t (.ls h1 h2 h3 h4) m
        have na := m a List.mem_cons_self
        refine ⟨.inl ⟨rfl, vs, .inl (.inl h1)⟩, F1, ρ1, hg, ρ2, R1, e3, fun y F2 H2 R2 S2 q2 n2 => ?_⟩
        obtain ⟨p1, p2, p3⟩ := S2.pres a (by rw [h1]; simp) na
        obtain ⟨F3, R3, S3, p4, x3, o3, f3⟩ := esc_ok S2 R2 q2 n2 e4
        have a1 : H2 a = some (.lst vs) := p1.trans h1
        have aF : F3 a = none := f3 a (p2.trans h2) p3 fun hy => (n2 a hy).elim (fun z => by rw [h1] at z; cases z) na
        have aO := o3 a p3
        have hH : Fsh ρ σ H a := n1 a ⟨F1, _, .ls h1 h2 h3 h4, List.mem_cons_self⟩
        refine ⟨a, vs, y, rfl, rfl, a1, lim_lt (by rw [h3.length]; exact hl), ?_⟩
        obtain ⟨Rg, Sg, _⟩ := rel_at (o := .lst (vs ++ [y])) R3 (S1.trans S3) hH aF aO
        exact kk _ F3 _ Rg Sg (.v .non) nw_v
    · cases e5
  · cases e2
/-! ### a, b = f(..) where a tree is told -/
def putTs : List PyData → List Nat → Ev → Option Ev
  | [], [], r => some r
  | d :: ds, i :: is, r => if isIo r[i]? = true then none else putTs ds is (r.set i (some (if scal2 d = true then .fz d else .tr d)))
  | _, _, _ => none
theorem putTs_ok {K : PySem.W.Frag} {σ : L2.St} {F H F1 H1 : Hp} {r : Ev} : ∀ {ds : List PyData} {is : List Nat} {xs : List V} {fp : List Addr} {r1 r2 : Ev} {σ1 : L2.St}, Stp r σ F H r1 σ1 F1 H1 → Rel K F1 r1 σ1 H1 → Trs F1 H1 xs ds fp → (∀ a ∈ fp, ¬ Owned r1 σ1 H1 a) → (∀ a ∈ fp, Fsh r σ H a) → putTs ds is r1 = some r2 →
    xs.length = is.length ∧ Rel K F1 r2 (setAll σ1 is xs) H1 ∧ Stp r σ F H r2 (setAll σ1 is xs) F1 H1
  | [], [], [], fp, r1, r2, σ1, S, R, t, n, o, e => by cases e; exact ⟨rfl, R, S⟩
  | [], [], _ :: _, fp, r1, r2, σ1, S, R, t, n, o, e => by cases t
  | [], _ :: _, _, fp, r1, r2, σ1, S, R, t, n, o, e => by cases e
  | _ :: _, [], _, fp, r1, r2, σ1, S, R, t, n, o, e => by cases e
  | _ :: _, _ :: _, [], fp, r1, r2, σ1, S, R, t, n, o, e => by cases t
  | d :: ds, i :: is, x :: xs, fp, r1, r2, σ1, S, R, t, n, o, e => by
    simp only [putTs] at e
    split at e
    · cases e
    · rename_i hi
      cases t with
      | @cons _ _ f _ _ fs q t m =>
      have key : ∀ (s : Slt), Right F1 H1 x s → (∀ a, OwnA H1 s x a → a ∈ f) → putTs ds is (r1.set i (some s)) = some r2 → (x :: xs).length = (i :: is).length ∧ Rel K F1 r2 (setAll σ1 (i :: is) (x :: xs)) H1 ∧ Stp r σ F H r2 (setAll σ1 (i :: is) (x :: xs)) F1 H1 := fun s rt own e => by
        have R2 := R.putG (i := i) rt fun a ha => n a (List.mem_append_left _ (own a ha))
        have S2 := S.putG (s := s) (x := x) hi fun a ha => o a (List.mem_append_left _ (own a ha))
        obtain ⟨h1, h2, h3⟩ := putTs_ok (is := is) S2 R2 t (fun a ha ⟨k, u, w, z1, z2, z3⟩ => by
          rcases get_set _ _ _ _ _ z1 with ⟨rfl, e1, hl⟩ | ⟨ne, z1⟩
          · rw [List.getElem?_set_self (by rw [← R.len]; exact hl)] at z2
            cases e1; cases z2
            exact m a (own a z3) ha
          · rw [List.getElem?_set_ne ne] at z2
            exact n a (List.mem_append_right _ ha) ⟨k, u, w, z1, z2, z3⟩) (fun a ha => o a (List.mem_append_right _ ha)) e
        exact ⟨by rw [List.length_cons, List.length_cons, h1], h2, h3⟩
      by_cases s : scal2 d = true
      · rw [if_pos s] at e
        cases q with
        | leaf _ q => exact key (.fz d) q (fun _ z => z.elim) e
        | ls _ _ _ _ => cases s
        | tp s2 _ _ _ _ => rw [s] at s2; cases s2
      · rw [if_neg s] at e
        exact key (.tr d) ⟨f, q⟩ (fun a ⟨F2, f2, t2, h⟩ => by rw [q.uniq t2]; exact h) e
def fUnpT (is : List Nat) (f : FE) : FS := fun r => (f r).bind fun p => match p.1 with
  | .t (.tuple ds) => if scal2 (.tuple ds) = true then none else (putTs ds is p.2).map .nx
  | _ => none
section
variable {X : Cx} {e : Expr} {ts : List Expr} {f : FE} {pt pos : Pos} {kt : Nat}
theorem ss_unpT (is : List Nat) (hg : PGs X ts (gNames is)) (ha : SE X e f) (hc : X.calm = true := by rfl) (hn : (assignEach ts X.env).length = is.length := by rfl) (hst : (assignEach ts X.env).findIdx? (·.1) = none := by rfl)
    (hs : swapsWithSole [.Tuple ts kt pt] e pos.line X.env = pure false := by rfl) (hw : swappedStores [.Tuple ts kt pt] e X.env = pure none := by rfl)
    (h1 : (assignEach [Expr.Tuple ts kt pt] X.env).map (·.2) = [assign (.Tuple ts kt pt) X.env] := by rfl) :
    SS X (.Assign [.Tuple ts kt pt] e pos) (fUnpT is f) := by
  refine PSimp (ps_asg ha (pg_tup hc hg hn hst) hs hw h1) ?_
  rintro D σ H ⟨F, ρ, o, R, e, k⟩
  simp only [fUnpT, Option.bind_eq_some_iff] at e
  obtain ⟨⟨h, ρ1⟩, e1, e2⟩ := e
  split at e2
  · rename_i ds hh
    dsimp only at hh
    subst hh
    split at e2
    · cases e2
    · rename_i hns
      rw [Option.map_eq_some_iff] at e2
      obtain ⟨ρ3, e4, rfl⟩ := e2
      refine ⟨F, ρ, _, ρ1, R, e1, fun x F1 H1 R1 S1 q1 n1 => ?_⟩
      cases q1 with
      | @t _ _ fp q m =>
      have nw : ∀ a ∈ fp, Fsh ρ σ H a := fun a ha => n1 a ⟨F1, fp, q, ha⟩
      cases q with
      | leaf s _ => exact absurd s hns
      | @tp a vs _ fp s g1 g2 g3 g4 =>
        obtain ⟨hl, R2, S2⟩ := putTs_ok S1 R1 g3 (fun b hb => m b (List.mem_cons_of_mem _ hb)) (fun b hb => nw b (List.mem_cons_of_mem _ hb)) e4
        exact ⟨a, vs, rfl, .inl (.inl g1), hl, gNames_ok hl (k _ F1 H1 R2 S2)⟩
  · cases e2
end
/-! ### comprehensions whose items are trees -/
def lcT (own : List Nat) (bd : PyData → Ev → Option Ev) (c : FT) (elt : FE) : List PyData → Ev → List PyData → Option (List PyData × Ev)
  | [], r, acc => some (acc, r)
  | d :: ds, r, acc => (bd d r).bind fun r1 => (c r1).bind fun p => if p.1 = true then
      (elt p.2).bind fun q => (mv q.1 q.2).bind fun u => if acc.length < 16000000 then lcT own bd c elt ds (wipeR u.2 own) (acc ++ [u.1]) else none
    else lcT own bd c elt ds (wipeR p.2 own) acc
def sLcT (own : List Nat) (src : FW) (bd : PyData → Ev → Option Ev) (c : FT) (elt : FE) : FE := fun r => (src r).bind fun p => if noIo p.2 own = true then (lcT own bd c elt p.1 (wipeR p.2 own) []).map fun q => (.t (.list q.1), restore p.2 q.2 own) else none
theorem sLcT_ok {K : PySem.W.Frag} {own is : List Nat} {src : FW} {g : TG} {bd : PyData → Ev → Option Ev} {c : FT} {elt : FE} (hb : BdOk K is g bd) (hs : ∀ i ∈ is, i ∈ own) :
    ∀ σ H Q, tI K (sLcT own src bd c elt) σ H Q → tLc (tIW K src) g (tIT K c) (tI K elt) own σ H Q := by
  rintro σ H Q ⟨F, ρ, h, ρ', R, e, kk⟩
  simp only [sLcT, Option.bind_eq_some_iff] at e
  obtain ⟨⟨ds, ρ1⟩, e1, e2⟩ := e
  split at e2
  · rename_i hio
    rw [Option.map_eq_some_iff] at e2
    obtain ⟨⟨res, ρe⟩, e3, e4⟩ := e2
    cases e4
    refine ⟨F, ρ, ds, ρ1, R, e1, fun J F1 H1 R1 S1 I D hD => ?_⟩
    refine ⟨fun i m H' => ∃ F' r' vs acc fp, Rel K F' r' (L2.wipe σ own) H' ∧ Stp ρ1 σ F1 H1 r' (L2.wipe σ own) F' H' ∧ H' D = some (.lst vs) ∧ F' D = none ∧ ¬ Owned r' (L2.wipe σ own) H' D ∧ (Trs F' H' vs acc fp ∧ D ∉ fp ∧ (∀ a ∈ fp, ¬ Owned r' (L2.wipe σ own) H' a) ∧ ∀ a ∈ fp, Fsh ρ1 σ H1 a) ∧ m = ds.length - i ∧ i ≤ ds.length ∧ lcT own bd c elt (ds.drop i) r' acc = some (res, ρe), ⟨ds.length, ?_⟩, ?_⟩
    · obtain ⟨R2, S2⟩ := R1.grow (Ext.refl F1) (H' := upd H1 D (.lst [])) (R1.sub.trans (Ext.new hD)) (fun a ha => ⟨upd_ne fun z => ha (z ▸ hD), rfl⟩)
      exact ⟨F1, wipeR ρ1 own, [], [], [], R2.wipe own, S2.wipe hio, upd_same, fnone R1.sub hD, wiped_no (R2.noNewUpd R1 hD), ⟨.nil, by simp, fun _ h => absurd h (by simp), fun _ h => absurd h (by simp)⟩, rfl, Nat.zero_le _, e3⟩
    · rintro i m H' ⟨F', r', vs, acc, fp, R', S', hv, fD, nO, ⟨ra, dfp, nfp, ofp⟩, rfl, hi, hl⟩
      by_cases hlt : i < ds.length
      · have hd : ds.drop i = ds[i] :: ds.drop (i + 1) := by rw [List.drop_eq_getElem_cons hlt]
        rw [hd] at hl
        simp only [lcT, Option.bind_eq_some_iff] at hl
        obtain ⟨r2, l1, ⟨b, r3⟩, l2, l3⟩ := hl
        refine .inr ⟨I.go i F' H' S'.ext R'.sub hlt, fun H3 => ∃ F3 r3 vs acc fp, Rel K F3 r3 (L2.wipe σ own) H3 ∧ Stp ρ1 σ F1 H1 r3 (L2.wipe σ own) F3 H3 ∧ H3 D = some (.lst vs) ∧ F3 D = none ∧ ¬ Owned r3 (L2.wipe σ own) H3 D ∧ (Trs F3 H3 vs acc fp ∧ D ∉ fp ∧ (∀ a ∈ fp, ¬ Owned r3 (L2.wipe σ own) H3 a) ∧ ∀ a ∈ fp, Fsh ρ1 σ H1 a) ∧ lcT own bd c elt (ds.drop (i + 1)) r3 acc = some (res, ρe),
          fun H3 ⟨F3, r3, vs3, acc3, fp3, a1, a2, a3, a4, a5, a6, a7⟩ => ⟨ds.length - (i + 1), by omega, F3, r3, vs3, acc3, fp3, a1, a2, a3, a4, a5, a6, rfl, hlt, a7⟩, fun x H2 y => ?_⟩
        obtain ⟨F2, A⟩ := I.yld i F' H' x H2 ds[i] S'.ext R'.sub y (List.getElem?_eq_getElem hlt)
        obtain ⟨R2, S2⟩ := R'.grow A.ext A.sub A.keep
        cases A.val with
        | v q =>
          obtain ⟨xs, R3, S3, hQ⟩ := hb F2 H2 r' r2 (L2.wipe σ own) ds[i] x R2 q l1
          have hw : L2.wipe (setAll (L2.wipe σ own) is xs) own = L2.wipe σ own := wipe_setAll hs
          refine hQ _ ⟨hw, F2, r2, b, r3, R3, l2, fun F4 H4 R4 S4 => ?_⟩
          have S5 := (S2.trans S3).trans S4
          obtain ⟨d1, d2, d3⟩ := S5.pres D (by rw [hv]; simp) nO
          have k5 := fun a ha => S5.pres a (ra.at a ha).1 (nfp a ha)
          have ra4 : Trs F4 H4 vs acc fp := ra.frame S5.ext fun a ha => ⟨(k5 a ha).1, (k5 a ha).2.1⟩
          cases b with
          | false =>
            rw [if_neg Bool.false_ne_true] at l3
            refine iteF ?_
            have Rw := R4.wipe own
            have Sw := (S'.trans S5).wipe hio
            rw [hw] at Rw Sw
            exact ⟨F4, wipeR r3 own, vs, acc, fp, Rw, Sw, d1.trans hv, d2.trans fD, hw ▸ wiped_no (own := own) d3, ⟨ra4, dfp, fun a ha => hw ▸ wiped_no (own := own) (k5 a ha).2.2, ofp⟩, l3⟩
          | true =>
            rw [if_pos rfl] at l3
            refine iteT ?_
            simp only [Option.bind_eq_some_iff] at l3
            obtain ⟨⟨he, r5⟩, l4, ⟨de, r6⟩, l5, l6⟩ := l3
            split at l6
            · rename_i hlen
              refine ⟨F4, r3, he, r5, R4, l4, fun ye F5 H5 R5 S6 q6 n6 => ?_⟩
              obtain ⟨fx, R6, S8, tx, nx, ox, _, _⟩ := mv_ok S6 R5 q6 n6 l5
              have S9 := S5.trans S8
              obtain ⟨d4, d5, d6⟩ := S9.pres D (by rw [hv]; simp) nO
              have hD5 : H5 D = some (.lst vs) := d4.trans hv
              refine ⟨vs, hD5, lim_lt (by rw [ra.length]; exact hlen), ?_⟩
              have F6D : F5 D = none := d5.trans fD
              have k8 := fun a ha => S8.pres a (ra4.at a ha).1 (k5 a ha).2.2
              have ra5 : Trs F5 H5 vs acc fp := ra4.frame S8.ext fun a ha => ⟨(k8 a ha).1, (k8 a ha).2.1⟩
              have dx : D ∉ fx := fun m => (ox D m).elim (fun z => by rw [d1, hv] at z; cases z) d3
              have dis : ∀ a ∈ fp, a ∉ fx := fun a ha m => (ox a m).elim (ra4.at a ha).1 (k5 a ha).2.2
              obtain ⟨Rg, Sg, Ng⟩ := rel_at (o := .lst (vs ++ [ye])) R6 (S'.trans S9) (.inl hD) F6D d6
              have up : ∀ a, a ≠ D → upd H5 D (.lst (vs ++ [ye])) a = H5 a ∧ F5 a = F5 a := fun a ha => ⟨upd_ne ha, rfl⟩
              have ra6 := (ra5.frame (Ext.refl _) fun a ha => up a fun z => dfp (z ▸ ha)).snoc (tx.frame (Ext.refl _) fun a ha => up a fun z => dx (z ▸ ha)) dis
              have Rw := Rg.wipe own
              have Sw := Sg.wipe hio
              rw [hw] at Rw Sw
              refine ⟨F5, wipeR r6 own, vs ++ [ye], acc ++ [de], fp ++ fx, Rw, Sw, upd_same, F6D, hw ▸ wiped_no (own := own) (Ng D d6), ⟨ra6, fun m => ?_, fun a ha => ?_, fun a ha => ?_⟩, l6⟩
              · rcases List.mem_append.mp m with m | m
                · exact dfp m
                · exact dx m
              · rcases List.mem_append.mp ha with ha | ha
                · exact hw ▸ wiped_no (own := own) (Ng a (k8 a ha).2.2)
                · exact hw ▸ wiped_no (own := own) (Ng a (nx a ha))
              · rcases List.mem_append.mp ha with ha | ha
                · exact ofp a ha
                · exact (ox a ha).back (S'.trans S5)
            · cases l6
      · have hd : ds.drop i = [] := List.drop_eq_nil_of_le (by omega)
        rw [hd] at hl
        cases hl
        refine .inl ⟨I.stop i F' H' S'.ext R'.sub (by omega), ?_⟩
        have Rr := Rel.restore R1 R' S'.ext
        have Sr := S'.restore hio
        have t : Tr F' H' (.ref D) (.list res) (D :: fp) := .ls hv fD ra dfp
        refine kk (.ref D) F' H' Rr (S1.trans Sr) (.t t fun a ha => ?_) fun a ⟨F2, f2, t2, ha⟩ => ?_
        · rcases List.mem_cons.mp ha with rfl | ha
          · exact restored_no nO
          · exact restored_no (nfp a ha)
        · rw [← t.uniq t2] at ha
          rcases List.mem_cons.mp ha with rfl | ha
          · exact Fsh.back (.inl hD) S1
          · exact (ofp a ha).back S1
  · cases e2
section
variable {X : Cx} {elt tg iter : Expr} {ifs : List Expr} {scope : Scope} {own : List (Str × Nat)} {pos : Pos} {src : FW} {is : List Nat} {g : TG} {bd : PyData → Ev → Option Ev} {c : FT} {fe : FE}
theorem se_lcT (hN : X.N.Nodup) (hi : SI X tg iter src) (ok : BlkOk X.N X.env.scope scope own) (hb : BdOk X.K is g bd) (hs : ∀ i ∈ is, i ∈ own.map (·.2))
    (hg : ∀ (s : Shared) (H : Hp) (C : Addr) (cl : List (Str × Addr)) (fp : List Addr), PG (X.blk s H scope (compEnvC scope cl C X.env) fp) tg g) (ht : ∀ (s : Shared) (H : Hp) (C : Addr) (cl : List (Str × Addr)) (fp : List Addr), STs (X.blk s H scope (compEnvC scope cl C X.env) fp) ifs c)
    (he : ∀ (s : Shared) (H : Hp) (C : Addr) (cl : List (Str × Addr)) (fp : List Addr), SE (X.blk s H scope (compEnvC scope cl C X.env) fp) elt fe) (hc : X.calm = true := by rfl) (hf : ∀ x, foldedSetIterable iter X.env x = pure x := by intro _; rfl) :
    SE X (.ListComp elt [⟨tg, iter, ifs, 0⟩] scope pos) (sLcT (own.map (·.2)) src bd c fe) := PEimp (pe_lc hc hN hi ok hg ht he hf) (sLcT_ok hb hs)
theorem ss_setLcT {y : Str} {py spos : Pos} (i : Nat) (hN : X.N.Nodup) (hi : SI X tg iter src) (ok : BlkOk X.N X.env.scope scope own) (hb : BdOk X.K is g bd) (hs : ∀ i ∈ is, i ∈ own.map (·.2))
    (hg : ∀ (s : Shared) (H : Hp) (C : Addr) (cl : List (Str × Addr)) (fp : List Addr), PG (X.blk s H scope (compEnvC scope cl C X.env) fp) tg g) (ht : ∀ (s : Shared) (H : Hp) (C : Addr) (cl : List (Str × Addr)) (fp : List Addr), STs (X.blk s H scope (compEnvC scope cl C X.env) fp) ifs c)
    (he : ∀ (s : Shared) (H : Hp) (C : Addr) (cl : List (Str × Addr)) (fp : List Addr), SE (X.blk s H scope (compEnvC scope cl C X.env) fp) elt fe)
    (hsw : swapsWith (.ListComp elt [⟨tg, iter, ifs, 0⟩] scope pos) (some (.Name y py)) spos.line X.env = pure true) (hy : X.N[i]? = some y := by rfl) (hyl : X.env.scope.names.lookup y = some .local := by rfl) (hc : X.calm = true := by rfl) (hf : ∀ x, foldedSetIterable iter X.env x = pure x := by intro _; rfl) :
    SS X (.Assign [.Name y py] (.ListComp elt [⟨tg, iter, ifs, 0⟩] scope pos) spos) (fAsg i (sLcT (own.map (·.2)) src bd c fe)) :=
  PSimp (ps_setLc hc hN hy hyl hsw hi ok hg ht he hf) fun D σ H q => by
    have z := fAsg_ok D σ H q
    exact sLcT_ok hb hs σ H _ z
end
/-! ### sorted(xs), xs no longer needed -/
theorem Trs.all {F H : Hp} : ∀ {vs ds fs}, Trs F H vs ds fs → ∃ ts : List (V × PyData × List Addr), ts.map (·.1) = vs ∧ ts.map (·.2.1) = ds ∧ fs = ts.flatMap (·.2.2) ∧ (∀ t ∈ ts, Tr F H t.1 t.2.1 t.2.2) ∧ ts.Pairwise fun s t => ∀ a ∈ s.2.2, a ∉ t.2.2
  | _, _, _, .nil => ⟨[], rfl, rfl, rfl, fun _ h => absurd h (by simp), List.Pairwise.nil⟩
  | _, _, _, .cons (v := v) (d := d) (f := f) q r n => by
    obtain ⟨ts, h1, h2, h3, h4, h5⟩ := r.all
    refine ⟨(v, d, f) :: ts, by rw [List.map_cons, h1], by rw [List.map_cons, h2], by rw [List.flatMap_cons, h3], fun t ht => ?_, .cons (fun t ht a ha hb => n a ha ?_) h5⟩
    · rcases List.mem_cons.mp ht with rfl | ht
      · exact q
      · exact h4 t ht
    · rw [h3]; exact List.mem_flatMap.mpr ⟨t, ht, hb⟩
theorem Trs.ofAll {F H : Hp} : ∀ {ts : List (V × PyData × List Addr)}, (∀ t ∈ ts, Tr F H t.1 t.2.1 t.2.2) → (ts.Pairwise fun s t => ∀ a ∈ s.2.2, a ∉ t.2.2) → Trs F H (ts.map (·.1)) (ts.map (·.2.1)) (ts.flatMap (·.2.2))
  | [], _, _ => .nil
  | t :: ts, h1, h2 => by
    cases h2 with
    | cons h2 h3 =>
    rw [List.map_cons, List.map_cons, List.flatMap_cons]
    refine .cons (h1 t List.mem_cons_self) (Trs.ofAll (fun u hu => h1 u (List.mem_cons_of_mem _ hu)) h3) fun a ha hb => ?_
    obtain ⟨u, hu, hb⟩ := List.mem_flatMap.mp hb
    exact h2 u hu a ha hb
/-- the items in another order -/
theorem perm_lift {α β : Type} {f : α → β} : ∀ {ps qs : List β}, ps.Perm qs → ∀ {ts : List α}, ts.map f = qs → ∃ us : List α, us.map f = ps ∧ us.Perm ts := by
  intro ps qs h
  induction h with
  | nil => intro ts e; exact ⟨[], rfl, by have := List.map_eq_nil_iff.mp e; subst this; exact .nil⟩
  | cons x h ih =>
    intro ts e
    cases ts with
    | nil => cases e
    | cons t ts =>
      rw [List.map_cons] at e
      obtain ⟨us, h1, h2⟩ := ih (List.cons.inj e).2
      exact ⟨t :: us, by rw [List.map_cons, h1, (List.cons.inj e).1], .cons t h2⟩
  | swap x y l =>
    intro ts e
    match ts, e with
    | t :: u :: ts, e =>
      simp only [List.map_cons, List.cons.injEq] at e
      obtain ⟨e1, e2, e3⟩ := e
      exact ⟨u :: t :: ts, by rw [List.map_cons, List.map_cons, e1, e2, e3], .swap t u ts⟩
  | trans h1 h2 ih1 ih2 =>
    intro ts e
    obtain ⟨us, g1, g2⟩ := ih2 e
    obtain ⟨ws, k1, k2⟩ := ih1 g1
    exact ⟨ws, k1, k2.trans g2⟩
theorem Trs.perm {F H : Hp} {vs : List V} {ds : List PyData} {fs : List Addr} (t : Trs F H vs ds fs) {ps : List (V × PyData)} (h : ps.Perm (vs.zip ds)) : ∃ gs, Trs F H (ps.map (·.1)) (ps.map (·.2)) gs ∧ ∀ a, a ∈ gs → a ∈ fs := by
  obtain ⟨ts, h1, h2, h3, h4, h5⟩ := t.all
  have hz : ts.map (fun t => (t.1, t.2.1)) = vs.zip ds := by
    rw [← h1, ← h2]
    clear h1 h2 h3 h4 h5 t h
    induction ts with
    | nil => rfl
    | cons t ts ih => rw [List.map_cons, List.map_cons, List.map_cons, List.zip_cons_cons, ih]
  obtain ⟨us, g1, g2⟩ := perm_lift h hz
  have g5 : us.Pairwise fun s t => ∀ a ∈ s.2.2, a ∉ t.2.2 := (List.Perm.pairwise_iff (fun {x y} hxy a ha hb => hxy a hb ha) g2).mpr h5
  have := Trs.ofAll (fun t ht => h4 t (g2.subset ht)) g5
  refine ⟨us.flatMap (·.2.2), ?_, fun a ha => ?_⟩
  · rw [← g1, List.map_map, List.map_map]; exact this
  · rw [h3]
    obtain ⟨u, hu, hb⟩ := List.mem_flatMap.mp ha
    exact List.mem_flatMap.mpr ⟨u, g2.subset hu, hb⟩
def sSortT (f : FE) : FE := fun r => (f r).bind fun p => (mv p.1 p.2).bind fun q => (isL q.1).bind fun ds => if sOk ds = true ∧ intsOf ds = none then some (.t (.list (sortD ds)), q.2) else none
theorem sSortT_ok {K : PySem.W.Frag} {f : FE} : ∀ σ H Q, tI K (sSortT f) σ H Q → tCB (rSortedX K) (tCons (tI K f) tNil) σ H Q := by
  rintro σ H Q ⟨F, ρ, h, ρ', R, e, k⟩
  simp only [sSortT, Option.bind_eq_some_iff] at e
  obtain ⟨⟨h1, ρ1⟩, e1, ⟨d, ρ2⟩, e2, ds, e3, e4⟩ := e
  split at e4
  · rename_i hok
    cases e4
    cases isL_eq e3
    refine ⟨F, ρ, h1, ρ1, R, e1, fun x F1 H1 R1 S1 q1 n1 => ?_⟩
    obtain ⟨fp, R2, S2, t2, n2, o2, _, _⟩ := mv_ok S1 R1 q1 n1 e2
    cases t2 with
    | leaf s _ => cases s
    | @ls a vs _ fp g1 g2 g3 g4 =>
    have cl : PyData.canLayAll0 ds = true := canLayAll_of fun d hd => by
      have ok := hok.1
      simp only [sOk, Bool.and_eq_true, List.all_eq_true] at ok
      exact (ok.2.2 d hd).1
    have ex := frzT_ext (F := F1) (H := H1) (fp := fp) fun b hb => (g3.at b hb).2
    have rp : RpAll (frzT F1 H1 fp) vs ds := g3.frz ex fun b hb => frzT_in hb
    refine .inr ⟨a, vs, ds, rfl, .inl (.inl g1), rp.dp (frzT_sub R1.sub) cl, hok.1, fun p ps pm hm hp => ?_⟩
    obtain ⟨gs, t3, sub⟩ := g3.perm pm
    rw [hm] at t3
    have np : p ∉ gs := fun z => (t3.at p z).1 hp
    have t4 : Tr F1 (upd H1 p (.lst (ps.map (·.1)))) (.ref p) (.list (sortD ds)) (p :: gs) := .ls upd_same (fnone R1.sub hp) (t3.frame (Ext.refl _) fun b hb => ⟨upd_ne fun z => np (z ▸ hb), rfl⟩) np
    obtain ⟨R4, S4, q4, n4⟩ := tree_new S2 R2 hp t4 (fun b hb => (t3.at b hb).1) (fun b hb => n2 b (List.mem_cons_of_mem _ (sub b hb))) (fun b hb => o2 b (List.mem_cons_of_mem _ (sub b hb)))
    exact k _ _ _ R4 S4 q4 n4
  · cases e4
section
variable {X : Cx} {p pos : Pos} {e : Expr} {f : FE}
theorem se_sortT (hu : X.A.units + 65 < cLine) (hm : X.mg "sorted" = none) (ha : SE X e f) (hg : Gl X "sorted" := by rfl) (he : starEach [e] X.env = (false, eval e X.env) :: starEach [] X.env := by rfl) : SE X (.Call (.Name "sorted" p) [e] [] pos) (sSortT f) :=
  PEimp (pe_callB (cr_sortedX hu) hg hm (by decide +kernel) (pa_cons ha pa_nil he) (by decide) (by decide) he (by rfl)) sSortT_ok
end
/-! ### by simp -/
section
variable {r : Ev} {f g : FE} {fs : FA} {d y : PyData} {ds : List PyData} {i k j : Nat} {p : List Nat}
@[simp] theorem x_mv_v : mv (.v d) r = if scal2 d = true then some (d, r) else none := (rfl)
@[simp] theorem x_mv_n : mv (.n d) r = (flatD d).map fun d => (d, r) := (rfl)
@[simp] theorem x_flatD : flatD (.list ds) = if ds.all scal2 = true then some (.list ds) else none := (rfl)
@[simp] theorem x_flatD_dn (p : List Nat) : flatD (dn p) = some (dn p) := by
  rw [dn_eq]
  refine if_pos (List.all_eq_true.mpr fun x hx => ?_)
  obtain ⟨k, _, rfl⟩ := List.mem_map.mp hx
  rfl
@[simp] theorem x_mv_t : mv (.t d) r = some (d, r) := (rfl)
@[simp] theorem x_mv_s : mv (.s j) r = match r[j]? with
    | some (some (.fz d)) => if scal2 d = true then some (d, r) else none
    | some (some (.ow d)) => (flatD d).map fun d => (d, r.set j none)
    | some (some (.tr d)) => some (d, r.set j none)
    | _ => none := (rfl)
@[simp] theorem x_mvAll0 : mvAll [] r = some ([], r) := (rfl)
@[simp] theorem x_mvAll1 {a : Hd} {hs : List Hd} : mvAll (a :: hs) r = (mv a r).bind fun p => (mvAll hs p.2).map fun q => (p.1 :: q.1, q.2) := (rfl)
@[simp] theorem x_sLstT : sLstT fs r = (fs r).bind fun p => if p.1.length ≤ 16000000 then (mvAll p.1 p.2).map fun q => (.t (.list q.1), q.2) else none := (rfl)
@[simp] theorem x_sTupT : sTupT fs r = (fs r).bind fun p => if p.1.length ≤ 16000000 then (mvAll p.1 p.2).bind fun q => if scal2 (.tuple q.1) = false then some (.t (.tuple q.1), q.2) else none else none := (rfl)
@[simp] theorem x_trD : trD k r = match r[k]? with
  | some (some (.tr d)) => some d
  | _ => none := (rfl)
@[simp] theorem x_sAppX : sAppX k f r = ((trD k r).bind isL).bind fun _ => (f r).bind fun p => (mv p.1 p.2).bind fun q => ((trD k q.2).bind isL).bind fun xs =>
  if xs.length < 16000000 then some (.v .none, q.2.set k (some (.tr (.list (xs ++ [q.1]))))) else none := (rfl)
@[simp] theorem x_sAppAt : sAppAt k p y r = if scal2 y = true then (trD k r).bind fun d => (appAt d p y).map fun d' => (.v .none, r.set k (some (.tr d'))) else none := (rfl)
@[simp] theorem x_appAt0 : appAt (.list ds) [] y = if ds.length < 16000000 then some (.list (ds ++ [y])) else none := by rw [appAt]
@[simp] theorem x_appAt1 : appAt (.list ds) (i :: p) y = (ds[i]?).bind fun d => (appAt d p y).map fun d' => .list (ds.set i d') := by rw [appAt]
@[simp] theorem x_appAt2 : appAt (.tuple ds) (i :: p) y = (ds[i]?).bind fun d => (appAt d p y).map fun d' => .tuple (ds.set i d') := by rw [appAt]
@[simp] theorem x_fForApp : fForApp i k p y r = if scal2 y = true ∧ isIo r[i]? = false ∧ i ≠ k ∧ i < r.length then ((trD k r).bind isL).bind fun ds => (appAll y p ds).map fun es => .nx ((r.set i none).set k (some (.tr (.list es)))) else none := (rfl)
@[simp] theorem x_sIxT : sIxT i f r = (f r).bind fun p => match p.1 with
  | .t (.tuple ds) => (ds[i]?).map fun d => (if scal2 d = true then .v d else .t d, p.2)
  | .t (.list ds) => (ds[i]?).map fun d => (if scal2 d = true then .v d else .t d, p.2)
  | _ => none := (rfl)
@[simp] theorem x_sAppTT : sAppTT f g r = (f r).bind fun p => match p.1 with
  | .t (.list xs) => (g p.2).bind fun q => (esc q.1 q.2).bind fun u => if xs.length < 16000000 then some (.v .none, u.2) else none
  | _ => none := (rfl)
@[simp] theorem x_putTs0 : putTs [] [] r = some r := (rfl)
@[simp] theorem x_putTs1 {is : List Nat} : putTs (d :: ds) (i :: is) r = if isIo r[i]? = true then none else putTs ds is (r.set i (some (if scal2 d = true then .fz d else .tr d))) := (rfl)
@[simp] theorem x_fUnpT {is : List Nat} : fUnpT is f r = (f r).bind fun p => match p.1 with
  | .t (.tuple ds) => if scal2 (.tuple ds) = true then none else (putTs ds is p.2).map .nx
  | _ => none := (rfl)
@[simp] theorem x_sSortT : sSortT f r = (f r).bind fun p => (mv p.1 p.2).bind fun q => (isL q.1).bind fun ds => if sOk ds = true ∧ intsOf ds = none then some (.t (.list (sortD ds)), q.2) else none := (rfl)
@[simp] theorem x_sLcT {own : List Nat} {src : FW} {bd : PyData → Ev → Option Ev} {c : FT} : sLcT own src bd c f r = (src r).bind fun p => if noIo p.2 own = true then (lcT own bd c f p.1 (wipeR p.2 own) []).map fun q => (.t (.list q.1), restore p.2 q.2 own) else none := (rfl)
@[simp] theorem x_scal2N : scal2 .none = true := (rfl)
@[simp] theorem x_scal2I {i : Int} : scal2 (.int i) = true := (rfl)
@[simp] theorem x_scal2B {i : Bool} : scal2 (.bool i) = true := (rfl)
@[simp] theorem x_scal2S {i : Str} : scal2 (.str i) = true := (rfl)
@[simp] theorem x_scal2L : scal2 (.list ds) = false := (rfl)
@[simp] theorem x_scal2T : scal2 (.tuple ds) = ds.all scal := (rfl)
end
end TL

namespace TL
open PySem PySem.Spec PyProof.Rows L2

/-! ### bits -/
def dAnd : PyData → PyData → Option Hd
  | .int i, .int j => some (.v (.int (Builtin.bitAnd i j)))
  | _, _ => none
def dXor : PyData → PyData → Option Hd
  | .int i, .int j => some (.v (.int (Builtin.bitXor i j)))
  | _, _ => none
def dShl : PyData → PyData → Option Hd
  | .int i, .int j => if okR i = true ∧ okR j = true ∧ j ≤ 1000 then some (.v (.int (i * 2 ^ j.toNat))) else none
  | _, _ => none
def dShr : PyData → PyData → Option Hd
  | .int i, .int j => if 0 ≤ j then some (.v (.int (i / 2 ^ j.toNat))) else none
  | _, _ => none
theorem ok_int0 {r : Int → Int → Int} {od : PyData → PyData → Option Hd} (h : ∀ a b hd, od a b = some hd → ∃ i j, a = .int i ∧ b = .int j ∧ hd = .v (.int (r i j))) : OpOk (rI0 fun i j => .int (r i j)) od := by
  intro F H x y a b hd Q e cx cy q k
  obtain ⟨i, j, rfl, rfl, rfl⟩ := h a b hd q
  cases cx.int; cases cy.int
  exact ⟨i, j, rfl, rfl, k _ _ _ (Ans.val' e (.int _))⟩
theorem ok_and : OpOk (rI0 fun i j => .int (Builtin.bitAnd i j)) dAnd := ok_int0 fun a b hd q => by
  unfold dAnd at q
  split at q
  · cases q; exact ⟨_, _, rfl, rfl, rfl⟩
  · cases q
theorem ok_xor : OpOk (rI0 fun i j => .int (Builtin.bitXor i j)) dXor := ok_int0 fun a b hd q => by
  unfold dXor at q
  split at q
  · cases q; exact ⟨_, _, rfl, rfl, rfl⟩
  · cases q
theorem ok_shl : OpOk (rI CPow fun i j => .int (i * 2 ^ j.toNat)) dShl := ok_int fun a b hd q => by
  unfold dShl at q
  split at q
  · split at q
    · rename_i hl
      cases q
      have h1 := okR_of hl.1
      have h2 := okR_of hl.2.1
      have h3 := hl.2.2
      exact ⟨_, _, rfl, rfl, ⟨h2.1, by omega, by omega⟩, rfl⟩
    · cases q
  · cases q
theorem ok_shr : OpOk (rI (fun _ j => 0 ≤ j) fun i j => .int (i / 2 ^ j.toNat)) dShr := ok_int fun a b hd q => by
  unfold dShr at q
  split at q
  · split at q
    · rename_i hl
      cases q; exact ⟨_, _, rfl, rfl, hl, rfl⟩
    · cases q
  · cases q
/-! ### abs -/
def bAbs : List PyData → Option Hd
  | [.int i] => some (.v (.int (if i < 0 then -i else i)))
  | _ => none
theorem cok_abs : CallOk (fun xs H Q => ∃ i, xs = [.int i] ∧ Q (.int (if i < 0 then -i else i)) H) bAbs := by
  intro F H xs ds h Q e c q k
  unfold bAbs at q
  split at q
  · cases q
    obtain ⟨x, rfl, cx⟩ := c.one
    cases cx.int
    exact ⟨_, rfl, k _ _ _ (Ans.val' e (.int _))⟩
  · cases q
/-! ### written dicts -/
def sDispC (ds : KD) : FE := fun r => some (.n (.dict ds), r)
def cPairs (kvs : List (Key × V)) : List (TE × TE) := kvs.map fun kv => (tC (kV kv.1), tC kv.2)
theorem cPairs_ok {σ : L2.St} {H : Hp} : ∀ {kvs : List (Key × V)} {Q : List (V × V) → Hp → Prop}, Q (kvs.map fun kv => (kV kv.1, kv.2)) H → tPairs (cPairs kvs) σ H Q
  | [], Q, q => q
  | kv :: kvs, Q, q => cPairs_ok (kvs := kvs) (Q := fun ps H3 => Q ((kV kv.1, kv.2) :: ps) H3) q
theorem sDispC_ok {K : PySem.W.Frag} {kvs : List (Key × V)} {ds : KD} (hl : kvs.length ≤ 15) (hr : ∀ F, RpKv F (mergeK [] kvs) ds) : ∀ σ H Q, tI K (sDispC ds) σ H Q → tDisp (cPairs kvs) σ H Q := by
  rintro σ H Q ⟨F, ρ, h, ρ', R, e, k⟩ p hp
  cases e
  refine cPairs_ok ⟨upd_same, kvs, rfl, hl, ?_⟩
  rw [show upd (upd H p (.dK [])) p (.dK (mergeK [] kvs)) = upd H p (.dK (mergeK [] kvs)) from by
    funext a
    by_cases z : a = p
    · subst z; rw [upd_same, upd_same]
    · rw [upd_ne z, upd_ne z, upd_ne z]]
  obtain ⟨R4, S4, q4, n4⟩ := R.ans (Ans.new R.sub hp (.dK (hr F)))
  exact k _ _ _ R4 S4 q4 n4
theorem se_dispC {X : Cx} {pos : Pos} {keys : List (Option Expr)} {values : List Expr} {ds : KD} (kvs : List (Key × V)) (h : PPs X pos keys values (cPairs kvs)) (hl : kvs.length ≤ 15) (hr : ∀ F, RpKv F (mergeK [] kvs) ds) (hall : keys.all (·.isSome) = true) (hl2 : keys.length = values.length) (h0 : keys ≠ [])
    (h15 : keys.length ≤ 15) : SE X (.Dict keys values pos) (sDispC ds) := PEimp (pe_disp h hall hl2 h0 h15) (sDispC_ok hl hr)
/-! ### for x in xs: x[..].append(y) -/
section
variable {X : Cx} {tg it e : Expr} {pos pos' : Pos}
theorem ss_forApp (i k : Nat) (p : List Nat) {y : PyData} {v : V} (hp : PassesOwn (model X.prog X.w) X.A X.env X.xe) (hk : PE X it (tVar k)) (hg : PG X tg (gName i)) (he : PE X e (tBM X.K "list" rAppend (tPath X.K (tVar i) p) (tCons (tC v) tNil))) (ry : ∀ F, Rp F v y) (hc : X.calm = true := by rfl)
    (hs : swapsWith e none pos'.line X.env = pure false := by rfl) (hf : ∀ x, foldedSetIterable it X.env x = pure x := by intro _; rfl) : SS X (.For tg it [.Expr e pos'] [] pos) (fForApp i k p y) :=
  PSimp (ps_for hp hc (pi_list hk) hg (pss_one (ps_expr he hs)) hf) (fForApp_ok ry)
end
/-! ### methods of texts -/
def mUpper : PyData → List PyData → Option Hd
  | .str x, [] => if x.length ≤ 5000000 then some (.v (.str (Txt.upper x))) else none
  | _, _ => none
theorem mok_upper : MtOk (fun x xs H Q => ∃ a, x = .str a ∧ xs = [] ∧ a.length ≤ 5592405 ∧ Q (.str (Txt.upper a)) H) mUpper := by
  intro F H x b xs ds h Q e cx cxs q k
  unfold mUpper at q
  split at q
  · split at q
    · rename_i hl
      cases q
      cases cx.str
      cases cxs
      exact ⟨_, rfl, rfl, by omega, k _ _ _ (Ans.val' e (.str _))⟩
    · cases q
  · cases q
def sMt0 (tn : String) (op : PyData → List PyData → Option Hd) (f : FE) : FE := fun r => (f r).bind fun p => (cur p.1 p.2).bind fun b => if tyName b = tn then (op b []).map fun h => (h, p.2) else none
theorem sMt0_ok {K : PySem.W.Frag} {T : String} {r : V → List V → Hp → VK → Prop} {op : PyData → List PyData → Option Hd} {f : FE} (ht : T = "list" ∨ T = "str") (ok : MtOk r op) : ∀ σ H Q, tI K (sMt0 T op f) σ H Q → tBM0 K T r (tI K f) σ H Q := by
  rintro σ H Q ⟨F, ρ, h, ρ', R, e, kk⟩
  simp only [sMt0, Option.bind_eq_some_iff] at e
  obtain ⟨⟨h1, ρ1⟩, e1, b, e2, e3⟩ := e
  split at e3
  · rename_i hty
    simp only [Option.map_eq_some_iff] at e3
    obtain ⟨hd, e7, e8⟩ := e3
    cases e8
    refine ⟨F, ρ, h1, _, R, e1, fun x F1 H1 R1 S1 q1 n1 => ⟨(cur_ok R1 q1 e2).tyV R1.sub hty ht, ?_⟩⟩
    refine ok F1 H1 x b [] [] h Q R1.sub (cur_ok R1 q1 e2) .nil e7 fun z F3 H3 A => ?_
    obtain ⟨R3, S3, q3, n3⟩ := R1.ans A
    exact kk z F3 H3 R3 (S1.trans S3) q3 (n3.back S1)
  · cases e3
section
variable {f : FE} {r : Ev} {ds : KD}
@[simp] theorem x_sDispC : sDispC ds r = some (.n (.dict ds), r) := (rfl)
@[simp] theorem x_dAnd {i j : Int} : dAnd (.int i) (.int j) = some (.v (.int (Builtin.bitAnd i j))) := (rfl)
@[simp] theorem x_dXor {i j : Int} : dXor (.int i) (.int j) = some (.v (.int (Builtin.bitXor i j))) := (rfl)
@[simp] theorem x_dShl {i j : Int} : dShl (.int i) (.int j) = if okR i = true ∧ okR j = true ∧ j ≤ 1000 then some (.v (.int (i * 2 ^ j.toNat))) else none := (rfl)
@[simp] theorem x_dShr {i j : Int} : dShr (.int i) (.int j) = if 0 ≤ j then some (.v (.int (i / 2 ^ j.toNat))) else none := (rfl)
@[simp] theorem x_bAbs {i : Int} : bAbs [.int i] = some (.v (.int (if i < 0 then -i else i))) := (rfl)
@[simp] theorem x_sMt0 {tn : String} {op : PyData → List PyData → Option Hd} : sMt0 tn op f r = (f r).bind fun p => (cur p.1 p.2).bind fun b => if tyName b = tn then (op b []).map fun h => (h, p.2) else none := (rfl)
@[simp] theorem x_mUpper {x : Str} : mUpper (.str x) [] = if x.length ≤ 5000000 then some (.v (.str (Txt.upper x))) else none := (rfl)
end
end TL

namespace TL
open PySem PySem.Spec PyProof.Rows L2

/-! ### for x in xs[..]: x[..].append(y) -/
def nodeD : PyData → List Nat → Option PyData
  | d, [] => some d
  | .list ds, i :: p => (ds[i]?).bind fun d => nodeD d p
  | .tuple ds, i :: p => (ds[i]?).bind fun d => nodeD d p
  | _, _ :: _ => none
theorem NodeAt.det {H : Hp} : ∀ {p : List Nat} {x : V} {a b : Addr}, NodeAt H x p a → NodeAt H x p b → a = b
  | [], _, _, _, .here, .here => rfl
  | _ :: _, _, _, _, .ls h1 h2 n, m => by
    cases m with
    | ls g1 g2 m => rw [h1] at g1; cases g1; rw [h2] at g2; cases g2; exact n.det m
    | tp g1 g2 m => rw [h1] at g1; cases g1
  | _ :: _, _, _, _, .tp h1 h2 n, m => by
    cases m with
    | ls g1 g2 m => rw [h1] at g1; cases g1
    | tp g1 g2 m => rw [h1] at g1; cases g1; rw [h2] at g2; cases g2; exact n.det m
theorem NodeAt.split {H : Hp} {p : List Nat} {b : Addr} : ∀ {q : List Nat} {x : V} {a : Addr}, NodeAt H x (q ++ p) b → NodeAt H x q a → NodeAt H (.ref a) p b
  | [], _, _, n, .here => n
  | _ :: _, _, _, n, .ls h1 h2 m => by
    cases n with
    | ls g1 g2 n => rw [h1] at g1; cases g1; rw [h2] at g2; cases g2; exact NodeAt.split n m
    | tp g1 g2 n => rw [h1] at g1; cases g1
  | _ :: _, _, _, n, .tp h1 h2 m => by
    cases n with
    | ls g1 g2 n => rw [h1] at g1; cases g1
    | tp g1 g2 n => rw [h1] at g1; cases g1; rw [h2] at g2; cases g2; exact NodeAt.split n m
theorem leaf_node {d : PyData} (s : scal2 d = true) : ∀ {q : List Nat} {ds : List PyData}, nodeD d q = some (.list ds) → False := by
  intro q ds h
  cases q with
  | nil => cases h; cases s
  | cons i q =>
    cases d with
    | tuple es =>
      simp only [nodeD, Option.bind_eq_some_iff] at h
      obtain ⟨d1, h1, h2⟩ := h
      have hs : TL.scal d1 = true := List.all_eq_true.mp s d1 (List.mem_of_getElem? h1)
      cases q <;> cases d1 <;> first | (simp [TL.scal] at hs; done) | (simp [nodeD] at h2; done)
    | list es => cases s
    | none => simp [nodeD] at h
    | bool _ => simp [nodeD] at h
    | int _ => simp [nodeD] at h
    | str _ => simp [nodeD] at h
    | dict _ => cases s
theorem Tr.node {F H : Hp} : ∀ {q : List Nat} {x : V} {d : PyData} {fp : List Addr} {ds : List PyData}, Tr F H x d fp → nodeD d q = some (.list ds) → ∃ a vs, NodeAt H x q a ∧ H a = some (.lst vs) ∧ vs.length = ds.length
  | [], x, d, fp, ds, t, e => by
    cases e
    cases t with
    | leaf s _ => cases s
    | @ls a vs _ fp h1 h2 h3 h4 => exact ⟨a, vs, .here, h1, h3.length⟩
  | i :: q, x, d, fp, ds, t, e => by
    cases t with
    | leaf s _ => exact (leaf_node s e).elim
    | @ls a vs es fp h1 h2 h3 h4 =>
      simp only [nodeD, Option.bind_eq_some_iff] at e
      obtain ⟨d1, e1, e2⟩ := e
      obtain ⟨v, f, g1, g2, _⟩ := h3.part e1
      obtain ⟨b, ws, k1, k2, k3⟩ := g2.node e2
      exact ⟨b, ws, .ls h1 g1 k1, k2, k3⟩
    | @tp a vs es fp s h1 h2 h3 h4 =>
      simp only [nodeD, Option.bind_eq_some_iff] at e
      obtain ⟨d1, e1, e2⟩ := e
      obtain ⟨v, f, g1, g2, _⟩ := h3.part e1
      obtain ⟨b, ws, k1, k2, k3⟩ := g2.node e2
      exact ⟨b, ws, .tp h1 g1 k1, k2, k3⟩
/-- the nodes on the way to what has changed stand where they stood -/
theorem Tr.appKeep {F H : Hp} {y : PyData} : ∀ {p : List Nat} {x : V} {d d' : PyData} {fp : List Addr} {b : Addr} {o : HO}, Tr F H x d fp → appAt d p y = some d' → NodeAt H x p b →
    b ∈ fp ∧ ∀ q r a, p = q ++ r → NodeAt H x q a → NodeAt (upd H b o) x q a
  | [], x, d, d', fp, b, o, t, e, n => by
    cases n
    cases t with
    | leaf s r => cases d <;> first | (simp [scal2, TL.scal] at s; done) | (simp [appAt] at e; done)
    | tp _ _ _ _ _ => simp [appAt] at e
    | ls h1 h2 h3 h4 =>
      refine ⟨List.mem_cons_self, fun q r a hq m => ?_⟩
      have : q = [] := (List.append_eq_nil_iff.mp hq.symm).1
      subst this
      cases m; exact .here
  | i :: p, x, d, d', fp, b, o, t, e, n => by
    cases t with
    | leaf s r =>
      cases d with
      | tuple ds =>
        simp only [appAt, Option.bind_eq_some_iff, Option.map_eq_some_iff] at e
        obtain ⟨d1, e1, d2, e2, rfl⟩ := e
        have s2 := (appAt_scal e2).2
        have : TL.scal d1 = true := List.all_eq_true.mp s d1 (List.mem_of_getElem? e1)
        rw [this] at s2; cases s2
      | list ds => cases s
      | none => simp [appAt] at e
      | bool _ => simp [appAt] at e
      | int _ => simp [appAt] at e
      | str _ => simp [appAt] at e
      | dict _ => cases s
    | @ls a0 vs ds fp h1 h2 h3 h4 =>
      simp only [appAt, Option.bind_eq_some_iff, Option.map_eq_some_iff] at e
      obtain ⟨d1, e1, d2, e2, rfl⟩ := e
      obtain ⟨w, f, g1, g2, g3, g4⟩ := h3.part e1
      cases n with
      | tp z _ _ => rw [h1] at z; cases z
      | ls z1 z2 n =>
        rw [h1] at z1; cases z1
        rw [g1] at z2; cases z2
        obtain ⟨k1, k2⟩ := g2.appKeep (o := o) e2 n
        have ba : b ≠ a0 := fun z => h4 (z ▸ g3 b k1)
        refine ⟨List.mem_cons_of_mem _ (g3 b k1), fun q r a hq m => ?_⟩
        cases q with
        | nil => cases m; exact .here
        | cons j q =>
          rw [List.cons_append] at hq
          injection hq with hj hq
          subst hj
          cases m with
          | tp z _ _ => rw [h1] at z; cases z
          | ls y1 y2 m =>
            rw [h1] at y1; cases y1
            rw [g1] at y2; cases y2
            exact .ls (by rw [upd_ne (Ne.symm ba)]; exact h1) g1 (k2 q r a hq m)
    | @tp a0 vs ds fp s h1 h2 h3 h4 =>
      simp only [appAt, Option.bind_eq_some_iff, Option.map_eq_some_iff] at e
      obtain ⟨d1, e1, d2, e2, rfl⟩ := e
      obtain ⟨w, f, g1, g2, g3, g4⟩ := h3.part e1
      cases n with
      | ls z _ _ => rw [h1] at z; cases z
      | tp z1 z2 n =>
        rw [h1] at z1; cases z1
        rw [g1] at z2; cases z2
        obtain ⟨k1, k2⟩ := g2.appKeep (o := o) e2 n
        have ba : b ≠ a0 := fun z => h4 (z ▸ g3 b k1)
        refine ⟨List.mem_cons_of_mem _ (g3 b k1), fun q r a hq m => ?_⟩
        cases q with
        | nil => cases m; exact .here
        | cons j q =>
          rw [List.cons_append] at hq
          injection hq with hj hq
          subst hj
          cases m with
          | ls z _ _ => rw [h1] at z; cases z
          | tp y1 y2 m =>
            rw [h1] at y1; cases y1
            rw [g1] at y2; cases y2
            exact .tp (by rw [upd_ne (Ne.symm ba)]; exact h1) g1 (k2 q r a hq m)
theorem app_node {y : PyData} {p : List Nat} {j : Nat} : ∀ {q : List Nat} {d d2 : PyData} {ds : List PyData}, appAt d (q ++ j :: p) y = some d2 → nodeD d q = some (.list ds) → j < ds.length ∧ ∃ es, nodeD d2 q = some (.list es) ∧ es.length = ds.length
  | [], d, d2, ds, e, h => by
    cases h
    simp only [List.nil_append, appAt, Option.bind_eq_some_iff, Option.map_eq_some_iff] at e
    obtain ⟨d1, e1, d3, e2, rfl⟩ := e
    exact ⟨(List.getElem?_eq_some_iff.mp e1).1, _, rfl, List.length_set⟩
  | i :: q, d, d2, ds, e, h => by
    cases d with
    | list es =>
      simp only [List.cons_append, appAt, Option.bind_eq_some_iff, Option.map_eq_some_iff] at e
      simp only [nodeD, Option.bind_eq_some_iff] at h
      obtain ⟨d1, e1, d3, e2, rfl⟩ := e
      obtain ⟨d1', h1, h2⟩ := h
      rw [e1] at h1; cases h1
      obtain ⟨k1, fs, k2, k3⟩ := app_node e2 h2
      refine ⟨k1, fs, ?_, k3⟩
      simp only [nodeD]
      rw [List.getElem?_set_self (List.getElem?_eq_some_iff.mp e1).1]
      exact k2
    | tuple es =>
      simp only [List.cons_append, appAt, Option.bind_eq_some_iff, Option.map_eq_some_iff] at e
      simp only [nodeD, Option.bind_eq_some_iff] at h
      obtain ⟨d1, e1, d3, e2, rfl⟩ := e
      obtain ⟨d1', h1, h2⟩ := h
      rw [e1] at h1; cases h1
      obtain ⟨k1, fs, k2, k3⟩ := app_node e2 h2
      refine ⟨k1, fs, ?_, k3⟩
      simp only [nodeD]
      rw [List.getElem?_set_self (List.getElem?_eq_some_iff.mp e1).1]
      exact k2
    | none => simp [nodeD] at h
    | bool _ => simp [nodeD] at h
    | int _ => simp [nodeD] at h
    | str _ => simp [nodeD] at h
    | dict _ => simp [nodeD] at h
def appRun (q p : List Nat) (y : PyData) : Nat → Nat → PyData → Option PyData
  | 0, _, d => some d
  | n + 1, j, d => (appAt d (q ++ j :: p) y).bind fun d' => appRun q p y n (j + 1) d'
def fForAppQ (i k : Nat) (q p : List Nat) (y : PyData) : FS := fun r => if scal2 y = true ∧ isIo r[i]? = false ∧ i ≠ k ∧ i < r.length then
  (trD k r).bind fun d => ((nodeD d q).bind isL).bind fun ds => (appRun q p y ds.length 0 d).map fun d' => .nx ((r.set i none).set k (some (.tr d'))) else none
theorem tPathG {K : PySem.W.Frag} {σ : L2.St} {H : Hp} : ∀ {p : List Nat} {t : TE} {x z : V} {Q : VK}, (∀ Q : VK, Q x H → t σ H Q) → (∃ b, NodeAt H x p b ∧ z = .ref b) → Q z H → tPath K t p σ H Q := by
  rintro p t x z Q ht ⟨b, n, rfl⟩ q
  exact tPath_ok ht n Q q
theorem fForAppQ_ok {K : PySem.W.Frag} {i k : Nat} {q p : List Nat} {y : PyData} {v : V} (ry : ∀ F, Rp F v y) : ∀ D σ H, tIS K (fForAppQ i k q p y) D σ H → tFor (iList K (tPath K (tVar k) q)) (gName i) (tDrop (tBM K "list" rAppend (tPath K (tVar i) p) (tCons (tC v) tNil))) D σ H := by
  rintro D σ H ⟨F, ρ, o, R, e, kk⟩
  unfold fForAppQ at e
  split at e
  · rename_i hc
    obtain ⟨hy, hio, ne, hil⟩ := hc
    simp only [Option.bind_eq_some_iff, Option.map_eq_some_iff] at e
    obtain ⟨d0, e1, ds, ⟨dn, e2, e2'⟩, d', e3, rfl⟩ := e
    cases isL_eq e2'
    have hk := trD_at e1
    obtain ⟨x, fp, s1, t⟩ := R.tr k _ hk
    have kl : k < ρ.length := (List.getElem?_eq_some_iff.mp hk).1
    obtain ⟨a, vs0, nd, ha, hvl⟩ := t.node e2
    refine tPath_ok (x := x) (fun Q' q' => ⟨x, s1, q'⟩) nd _ ⟨a, rfl, ⟨vs0, .inl (.inl ha)⟩, ?_⟩
    let st : PyData → Ev := fun d => (ρ.set i none).set k (some (.tr d))
    have stk : ∀ d, (st d)[k]? = some (some (.tr d)) := fun d => by
      show ((ρ.set i none).set k _)[k]? = _
      rw [List.getElem?_set_self (by rw [List.length_set]; exact kl)]
    refine ⟨fun j m σ' H' => ∃ F' dj es, Rel K F' (st dj) σ' H' ∧ Stp ρ σ F H (st dj) σ' F' H' ∧ σ'[k]? = some (some x) ∧ NodeAt H' x q a ∧ nodeD dj q = some (.list es) ∧ es.length = ds.length ∧ appRun q p y (ds.length - j) j dj = some d' ∧ m = ds.length - j ∧ j ≤ ds.length, ⟨ds.length, ?_⟩, ?_⟩
    · have e0 : st d0 = (ρ.set i none) := by
        show (ρ.set i none).set k _ = _
        apply List.ext_getElem?
        intro n
        by_cases hn : k = n
        · subst hn
          rw [List.getElem?_set_self (by rw [List.length_set]; exact kl), List.getElem?_set_ne ne, hk]
        · rw [List.getElem?_set_ne hn]
      exact ⟨F, d0, ds, by rw [e0]; exact R.drop i, by rw [e0]; exact (Stp.refl ..).drop hio, s1, nd, e2, rfl, e3, rfl, Nat.zero_le _⟩
    · rintro j m σ' H' ⟨F', dj, es, R', S', s', nd', hn', hes, hrun, rfl, hj⟩
      obtain ⟨x', fp', s2, t'⟩ := R'.tr k _ (stk dj)
      rw [s'] at s2; cases s2
      obtain ⟨a', vs, nd2, hv, hvl⟩ := t'.node hn'
      have : a' = a := nd2.det nd'
      subst this
      by_cases hlt : j < ds.length
      · rw [show ds.length - j = (ds.length - (j + 1)) + 1 by omega] at hrun
        simp only [appRun, Option.bind_eq_some_iff] at hrun
        obtain ⟨d2, ea, hrun⟩ := hrun
        have hjv : j < vs.length := by omega
        refine .inr ⟨⟨vs, vs[j], .inl (.inl hv), List.getElem?_eq_getElem hjv⟩, fun σ3 H3 => ∃ F3 dj es, Rel K F3 (st dj) σ3 H3 ∧ Stp ρ σ F H (st dj) σ3 F3 H3 ∧ σ3[k]? = some (some x) ∧ NodeAt H3 x q a' ∧ nodeD dj q = some (.list es) ∧ es.length = ds.length ∧ appRun q p y (ds.length - (j + 1)) (j + 1) dj = some d', fun σ3 H3 ⟨F3, dj3, es3, q1, q2, q3, q4, q5, q6, q7⟩ => ⟨ds.length - (j + 1), by omega, F3, dj3, es3, q1, q2, q3, q4, q5, q6, q7, rfl, hlt⟩, fun z H2 hyld => ?_⟩
        obtain ⟨rfl, hz⟩ := hyld
        have hzv := hz vs (.inl (.inl hv))
        have sc := set_none_at (r := ρ) (s := some (.tr dj)) ne
        have Ra := R'.scratch (x := z) sc
        have Sa := S'.scratch (x := z) sc
        have sk : (σ'.set i (some z))[k]? = some (some x) := by rw [List.getElem?_set_ne ne]; exact s'
        obtain ⟨x2, b, us, q1, q2, q3, q4, R5, S5⟩ := rel_app Ra Sa (stk dj) hy (ry F') ea
        rw [sk] at q1; cases q1
        have e5 : (st dj).set k (some (.tr d2)) = st d2 := by
          show ((ρ.set i none).set k _).set k _ = (ρ.set i none).set k _
          rw [List.set_set]
        rw [e5] at R5 S5
        have il : i < σ'.length := by
          rw [← R'.len]
          show i < ((ρ.set i none).set k _).length
          rw [List.length_set, List.length_set]
          exact hil
        have si : (σ'.set i (some z))[i]? = some (some z) := by rw [List.getElem?_set_self il]
        obtain ⟨_, es2, hn2, hes2⟩ := app_node ea hn'
        obtain ⟨_, keep⟩ := t'.appKeep (o := .lst (us ++ [v])) ea q2
        have nd5 := keep q (j :: p) a' rfl nd'
        have n2 := q2.split nd'
        cases n2 with
        | ls h1 h2 n =>
          rw [hv] at h1; cases h1
          rw [hzv] at h2; cases h2
          exact tPath_ok (x := z) (fun Q' q' => ⟨z, si, q'⟩) n _ ⟨.inl ⟨rfl, us, .inl (.inl q3)⟩, b, us, v, rfl, rfl, q3, lim_lt q4, F', d2, es2, R5, S5, sk, nd5, hn2, hes2.trans hes, hrun⟩
        | tp h1 _ _ => rw [hv] at h1; cases h1
      · have hj2 : ds.length - j = 0 := by omega
        rw [hj2] at hrun
        cases hrun
        exact .inl ⟨⟨vs, .inl (.inl hv), by omega⟩, kk σ' F' H' R' S'⟩
  · cases e
section
variable {X : Cx} {tg it e : Expr} {pos pos' : Pos}
theorem ss_forAppQ (i k : Nat) (q p : List Nat) {y : PyData} {v : V} (hp : PassesOwn (model X.prog X.w) X.A X.env X.xe) (hk : PE X it (tPath X.K (tVar k) q)) (hg : PG X tg (gName i)) (he : PE X e (tBM X.K "list" rAppend (tPath X.K (tVar i) p) (tCons (tC v) tNil))) (ry : ∀ F, Rp F v y) (hc : X.calm = true := by rfl)
    (hs : swapsWith e none pos'.line X.env = pure false := by rfl) (hf : ∀ x, foldedSetIterable it X.env x = pure x := by intro _; rfl) : SS X (.For tg it [.Expr e pos'] [] pos) (fForAppQ i k q p y) :=
  PSimp (ps_for hp hc (pi_list hk) hg (pss_one (ps_expr he hs)) hf) (fForAppQ_ok ry)
end
@[simp] theorem x_fForAppQ {i k : Nat} {q p : List Nat} {y : PyData} {r : Ev} : fForAppQ i k q p y r = if scal2 y = true ∧ isIo r[i]? = false ∧ i ≠ k ∧ i < r.length then
  (trD k r).bind fun d => ((nodeD d q).bind isL).bind fun ds => (appRun q p y ds.length 0 d).map fun d' => .nx ((r.set i none).set k (some (.tr d'))) else none := (rfl)
@[simp] theorem x_nodeD0 {d : PyData} : nodeD d [] = some d := by rw [nodeD]
@[simp] theorem x_nodeD1 {ds : List PyData} {i : Nat} {p : List Nat} : nodeD (.list ds) (i :: p) = (ds[i]?).bind fun d => nodeD d p := by rw [nodeD]
@[simp] theorem x_nodeD2 {ds : List PyData} {i : Nat} {p : List Nat} : nodeD (.tuple ds) (i :: p) = (ds[i]?).bind fun d => nodeD d p := by rw [nodeD]
/-- a row of rows, each grown -/
theorem run_rows {y : PyData} : ∀ (n j : Nat) (pre ds es : List PyData) (W : List PyData → PyData) (q : List Nat), (∀ l l' i, l[i]? ≠ none → ∀ d d', l[i]? = some d → appAt d [] y = some d' → l' = l.set i d' → appAt (W l) (q ++ [i]) y = some (W l')) → ds.length = n → appAll y [] ds = some es → pre.length = j →
    appRun q [] y n j (W (pre ++ ds)) = some (W (pre ++ es))
  | 0, j, pre, ds, es, W, q, hW, hn, h, hj => by
    have : ds = [] := List.eq_nil_of_length_eq_zero hn
    subst this
    cases h; rfl
  | n + 1, j, pre, d :: ds, es, W, q, hW, hn, h, hj => by
    simp only [appAll, Option.bind_eq_some_iff, Option.map_eq_some_iff] at h
    obtain ⟨d', h1, es', h2, rfl⟩ := h
    simp only [appRun]
    have hi : (pre ++ d :: ds)[j]? = some d := by rw [List.getElem?_append_right (by omega), hj, Nat.sub_self]; rfl
    have hs : (pre ++ d :: ds).set j d' = (pre ++ [d']) ++ ds := by
      rw [List.set_append_right j d' (by omega), hj, Nat.sub_self, List.set_cons_zero, List.append_assoc]; rfl
    rw [hW _ _ j (by rw [hi]; simp) d d' hi h1 rfl, Option.bind_some, hs]
    rw [run_rows n (j + 1) (pre ++ [d']) ds es' W q hW (by simpa using hn) h2 (by rw [List.length_append, List.length_singleton, hj])]
    rw [List.append_assoc]; rfl
end TL

namespace TL
open PySem PySem.Spec PyProof.Rows L2

/-! ### xs.remove(k) of whole numbers, where it stands -/
def sRem (k : Nat) (f : FE) : FE := fun r => ((ownD k r).bind isL).bind fun _ => (f r).bind fun p => (cur p.1 p.2).bind fun d => (dI d).bind fun i => ((ownD k p.2).bind isL).bind fun xs => (intsOf xs).bind fun ns =>
  if i ∈ ns then (setD k (.list ((ns.erase i).map .int)) p.2).map fun r' => (.v .none, r') else none
abbrev noW : WX := fun _ _ _ _ => False
theorem takes_no {X : Cx} : Takes X noW := fun _ _ ⟨_, _, _, _, _, _, _, _, _, _, _, _, _, _, _, _, w⟩ => w.elim
theorem rp_ints {F : Hp} : ∀ ns : List Int, RpAll F (ns.map V.int) (ns.map .int)
  | [] => .nil
  | _ :: ns => .cons (.int _) (rp_ints ns)
theorem sRem_ok {K : PySem.W.Frag} {k : Nat} {f : FE} : ∀ σ H Q, tI K (sRem k f) σ H Q → tRemX K noW (tVar k) (tI K f) σ H Q := by
  rintro σ H Q ⟨F, ρ, h, ρ', R, e, kk⟩
  simp only [sRem, Option.bind_eq_some_iff] at e
  obtain ⟨_, ⟨d0, e1, e1'⟩, ⟨h1, ρ1⟩, e2, d, e3, i, e3', xs, ⟨d2, e4, e4'⟩, ns, en, e5⟩ := e
  split at e5
  · rename_i hl
    rw [Option.map_eq_some_iff] at e5
    obtain ⟨ρ3, e7, e8⟩ := e5
    cases e8
    cases isL_eq e1'
    cases isL_eq e4'
    cases dI_eq e3'
    obtain ⟨a, o, s1, s2, s3⟩ := R.ownAt e1
    obtain ⟨vs, rfl, _⟩ := s3.list
    refine ⟨.ref a, s1, .inl ⟨rfl, vs, .inl (.inl s2)⟩, F, ρ, h1, ρ1, R, e2, fun x F1 H1 R1 S1 q1 n1 => ?_⟩
    obtain ⟨a', o', t1, t2, t3⟩ := R1.ownAt e4
    rw [s1] at t1; cases t1
    obtain ⟨ws, rfl, rw'⟩ := t3.list
    rw [intsOf_eq en] at rw'
    have ew := rw'.ints
    subst ew
    obtain ⟨R3, S3⟩ := R1.mut (o' := .lst ((ns.erase i).map V.int)) e4 e7 s1 (.lst (rp_ints _))
    cases (cur_ok R1 q1 e3).int
    exact ⟨a, ns, i, rfl, rfl, t2, fun _ => kk _ _ _ R3 (S1.trans S3) (.v .non) nw_v, fun z => absurd hl z⟩
  · cases e5
@[simp] theorem x_sRem {k : Nat} {f : FE} {r : Ev} : sRem k f r = ((ownD k r).bind isL).bind fun _ => (f r).bind fun p => (cur p.1 p.2).bind fun d => (dI d).bind fun i => ((ownD k p.2).bind isL).bind fun xs => (intsOf xs).bind fun ns =>
  if i ∈ ns then (setD k (.list ((ns.erase i).map .int)) p.2).map fun r' => (.v .none, r') else none := (rfl)
end TL

namespace TL
open PySem PySem.Spec PyProof.Rows L2 Sem

/-! ### list(text), tuple(text) -/
def chV (x : Str) : List V := x.cps.toList.map fun c => V.str ⟨#[c]⟩
def chD (x : Str) : List PyData := x.cps.toList.map fun c => PyData.str ⟨#[c]⟩
section
variable {prog : Program} {w : World} {A : Around} {E : Value → Shared → Prop} {s : Shared}
open PySem.Sem in
theorem code_tuple_str {Q₁ : Value → Shared → Prop} (hh : A.handled = none) (x : Str) (t : Tok) (hlen : x.cps.size ≤ sizeLine)
    (h : ∀ (h' : Heap) (tk : Nat) (acc : Array Value), (∀ b o, s.heap.get? b = some o → h'.get? b = some o) → ItemsOf (SignAt x) acc x.cps.size →
      Q₁ (.ref h'.objs.size) { s with heap := h'.push { cls := .type "tuple", data := .seq acc }, toks := tk }) :
    codeAny (model prog w) A (.call (.builtin "tuple.__new__") ⟨[.type "tuple", .str x t], []⟩) (wants Q₁ E) s := by
  refine codeAny_of_tree ?_
  show wpAny _ A.in1 (do checkBuiltinCall "tuple.__new__" ⟨[.type "tuple", .str x t], []⟩; again (.builtin "tuple.__new__" ⟨[.type "tuple", .str x t], []⟩)) _ _ s
  refine wpAny_bind (wpAny_of_eq (F.newCall_tuple_1 _) (wpAny_pure ⟨plainId_quiet F.plain_tuple_new _, codeAny_builtin F.entry_tuple_new ?_⟩))
  rw [Around.under_plainId F.plain_tuple_new _]
  have hsub := sub_tuple_self
  have hinit := init_tuple_lookup
  have hmh := madeHere_tuple
  have hTI : s.TypeIs (.str x t) "str" := rfl
  have hh1 : A.in1.handled = none := hh
  wp_walk using wpAny_typeOf hTI, wpAny_collect_str (A := A.in1) (hn := hlen) hh1 x t
  intro s' acc hk hg hd ho hacc
  show wpAny _ _ (Builtin.Tuple.tupleExact acc.toList.toArray >>= fun v => ret v) _ _ _
  unfold Builtin.Tuple.tupleExact
  refine wpAny_bind (wpAny_newObj_type ?_ (by show acc.toList.toArray.size ≤ sizeLine; simp only [Array.toArray_toList]; rw [hacc.1]; exact hlen))
  refine wpAny_pure ?_
  have e : acc.toList.toArray = acc := by simp
  rw [e]
  have es : s' = { s with heap := s'.heap, toks := s'.toks } := by
    obtain ⟨a1, a2, a3, a4, a5⟩ := s'
    simp only at hg hd ho
    subst hg; subst hd; subst ho
    rfl
  have := h s'.heap s'.toks acc hk hacc
  rw [es]
  exact this
theorem call_tuple_str {Q : Value → Shared → Prop} (hh : A.handled = none) (x : Str) (t : Tok) (hlen : x.cps.size ≤ sizeLine)
    (hQ : ∀ (h' : Heap) (tk : Nat) (acc : Array Value), (∀ b o, s.heap.get? b = some o → h'.get? b = some o) → ItemsOf (SignAt x) acc x.cps.size →
      Q (.ref h'.objs.size) { s with heap := h'.push { cls := .type "tuple", data := .seq acc }, toks := tk }) :
    wpAny (model prog w) A (call (.type "tuple") [.str x t]) Q E s := by
  refine callType_codes (Q₁ := fun obj s₁ => s₁.TypeIs obj "tuple" ∧ Q obj s₁) F.called_tuple (F.typeCall_tuple_1 _) F.entry_object_init
    (code_tuple_str (A := A.in1) hh x t hlen fun h' tk acc hk hacc => ⟨⟨_, Heap.get?_push_size _ rfl, rfl⟩, hQ h' tk acc hk hacc⟩) fun obj s₁ h₁ => ?_
  exact ⟨h₁.1, F.args_object_init_2 obj _, object_init_meets F.called_tuple.init.lookup F.called_tuple.made (by decide) prog w A.in1 _ s₁ ⟨h₁.1, rfl, h₁.2⟩⟩
end
theorem chV_len (x : Str) : (chV x).length = x.cps.size := by simp [chV]
theorem vals_ch {x : Str} {acc : Array Value} (h : ItemsOf (SignAt x) acc x.cps.size) : Vals (chV x) acc.toList := by
  refine vals_of_at (by rw [chV_len]; simp [h.1]) fun j y u h1 h2 => ?_
  obtain ⟨c, t, e1, e2⟩ := h.2 j u (by rw [← Array.getElem?_toList]; exact h2)
  have e3 : (chV x)[j]? = some (V.str ⟨#[c]⟩) := by
    unfold chV
    rw [List.getElem?_map, Array.getElem?_toList, e1]; rfl
  rw [e3] at h1
  cases h1
  subst e2
  exact ⟨t, rfl⟩
def rLstS : List V → Hp → VK → Prop := fun xs H Q => ∃ x, xs = [.str x] ∧ x.cps.size ≤ sizeLine ∧ ∀ q, H q = none → Q (.ref q) (upd H q (.lst (chV x)))
def rTupS : List V → Hp → VK → Prop := fun xs H Q => ∃ x, xs = [.str x] ∧ x.cps.size ≤ sizeLine ∧ ∀ q, H q = none → Q (.ref q) (upd H q (.tup (chV x)))
theorem call_listS {X : Cx} (hc : X.calm = true) : CallR X (.type "list") rLstS := by
  intro pins s σ H xs us Q I r h
  obtain ⟨x, e, hz, q⟩ := h
  subst e
  obtain ⟨u, eu, rx⟩ := vals1 r
  subst eu
  obtain ⟨t, rfl⟩ := (show ∃ t, u = Value.str x t from rx)
  refine call_list_str (hn := hz) (I.ok.hd hc) x t fun h' tk acc' c' hk hS hacc => ?_
  refine ⟨.ref s.heap.objs.size, upd H s.heap.objs.size (.lst (chV x)), I.laid hk (Nat.le_refl _) (show ObjOk X.prog X.w _ _ _ (.lst (chV x)) from ⟨by rw [chV_len]; exact hz, acc'.toList, c', vals_ch hacc, ?_⟩), rfl, q _ (I.hok.fresh (Nat.le_refl _))⟩
  rw [Array.toArray_toList]; exact hS
theorem call_tupS {X : Cx} (hc : X.calm = true) : CallR X (.type "tuple") rTupS := by
  intro pins s σ H xs us Q I r h
  obtain ⟨x, e, hz, q⟩ := h
  subst e
  obtain ⟨u, eu, rx⟩ := vals1 r
  subst eu
  obtain ⟨t, rfl⟩ := (show ∃ t, u = Value.str x t from rx)
  refine call_tuple_str (I.ok.hd hc) x t hz fun h' tk acc hk hacc => ?_
  have I2 : Inv X pins σ H { s with heap := h', toks := tk } := I.kept hk
  refine ⟨.ref h'.objs.size, upd H h'.objs.size (.tup (chV x)), I2.laid (t' := tk) (fun c o e => Heap.get?_push_of_some _ e) (Nat.le_refl _) (show ObjOk X.prog X.w _ _ _ (.tup (chV x)) from ⟨by rw [chV_len]; exact hz, acc.toList, vals_ch hacc, ?_⟩), rfl, q _ (I2.hok.fresh (Nat.le_refl _))⟩
  rw [Array.toArray_toList]; exact IsTup.new _ _
def rList0 (K : PySem.W.Frag) : List V → Hp → VK → Prop := fun xs H Q => ∃ p ys, xs = [.ref p] ∧ (SqL K H p ys ∨ SqT K H p ys) ∧ ∀ l, H l = none → Q (.ref l) (upd H l (.lst ys))
def rTup0 (K : PySem.W.Frag) : List V → Hp → VK → Prop := fun xs H Q => ∃ p ys, xs = [.ref p] ∧ ((SqL K H p ys ∧ ∀ l, H l = none → Q (.ref l) (upd H l (.tup ys))) ∨ (SqT K H p ys ∧ Q (.ref p) H))
def rListA (K : PySem.W.Frag) : List V → Hp → VK → Prop := fun xs H Q => rList0 K xs H Q ∨ rLstS xs H Q
def rTupA (K : PySem.W.Frag) : List V → Hp → VK → Prop := fun xs H Q => rTup0 K xs H Q ∨ rTupS xs H Q
theorem call_listA {X : Cx} (hc : X.calm = true) : CallR X (.type "list") (rListA X.K) := fun pins s σ H xs us Q I r h => h.elim (call_list_of pins s σ H xs us Q I r) (call_listS hc pins s σ H xs us Q I r)
theorem call_tupA {X : Cx} (hc : X.calm = true) : CallR X (.type "tuple") (rTupA X.K) := fun pins s σ H xs us Q I r h => h.elim (call_tuple_of pins s σ H xs us Q I r) (call_tupS hc pins s σ H xs us Q I r)
def bListA : List PyData → Option Hd
  | [.str x] => if Nat.ble x.cps.size 16000000 = true then some (.n (.list (chD x))) else none
  | ds => bList ds
def bTupA : List PyData → Option Hd
  | [.str x] => if Nat.ble x.cps.size 16000000 = true then some (.v (.tuple (chD x))) else none
  | ds => bTuple ds
theorem rp_ch {F : Hp} (x : Str) : RpAll F (chV x) (chD x) := by
  unfold chV chD
  induction x.cps.toList with
  | nil => exact .nil
  | cons c l ih => exact .cons (.str _) ih
theorem sz_lim {n : Nat} (h : Nat.ble n 16000000 = true) : n ≤ sizeLine := by
  have := Nat.le_of_ble_eq_true h
  rw [sizeLine_eq]; omega
theorem cok_listA {K : PySem.W.Frag} : CallOk (rListA K) bListA := by
  intro F H xs ds h Q e c q k
  unfold bListA at q
  split at q
  · rename_i x
    split at q
    · rename_i hz
      cases q
      obtain ⟨v, rfl, cx⟩ := c.one
      cases cx.str
      exact .inr ⟨x, rfl, sz_lim hz, fun l hl => k _ _ _ (Ans.new e hl (.lst (rp_ch x)))⟩
    · cases q
  · exact .inl (cok_list _ _ _ _ _ _ e c q k)
theorem cok_tupA {K : PySem.W.Frag} : CallOk (rTupA K) bTupA := by
  intro F H xs ds h Q e c q k
  unfold bTupA at q
  split at q
  · rename_i x
    split at q
    · rename_i hz
      cases q
      obtain ⟨v, rfl, cx⟩ := c.one
      cases cx.str
      exact .inr ⟨x, rfl, sz_lim hz, fun l hl => k _ _ _ (Ans.tup e hl (rp_ch x))⟩
    · cases q
  · exact .inl (cok_tuple _ _ _ _ _ _ e c q k)
@[simp] theorem x_bListA_dn (p : List Nat) : bListA [dn p] = some (.n (dn p)) := (rfl)
@[simp] theorem x_bListA_l (ds : List PyData) : bListA [.list ds] = some (.n (.list ds)) := (rfl)
@[simp] theorem x_bListA_t (ds : List PyData) : bListA [.tuple ds] = some (.n (.list ds)) := (rfl)
@[simp] theorem x_bListA_s (x : Str) : bListA [.str x] = if Nat.ble x.cps.size 16000000 = true then some (.n (.list (chD x))) else none := (rfl)
@[simp] theorem x_bTupA_s (x : Str) : bTupA [.str x] = if Nat.ble x.cps.size 16000000 = true then some (.v (.tuple (chD x))) else none := (rfl)
end TL

namespace TL
open PySem PySem.Spec PyProof.Rows L2

/-! ### xs[i][j] = v in a tree -/
def setTT (d : PyData) (i j : Int) (y : PyData) : Option PyData := match d with
  | .list ds => (ixN ds.length i).bind fun i' => (ds[i']?).bind fun e => (isL e).bind fun es => if es.all scal2 = true then (ixN es.length j).map fun j' => .list (ds.set i' (.list (es.set j' y))) else none
  | _ => none
def fSetTT (k : Nat) (f g1 g2 : FE) : FS := fun r => (f r).bind fun p => (esc p.1 p.2).bind fun u => if scal2 u.1 = true then ((g1 (frzE u.2)).bind fun q => (cur q.1 q.2).bind dI).bind fun i => ((g2 (frzE u.2)).bind fun q => (cur q.1 q.2).bind dI).bind fun j =>
  (trD k u.2).bind fun d => (setTT d i j u.1).map fun d' => .nx (u.2.set k (some (.tr d'))) else none
theorem Trs.setLeaf {F H : Hp} {v : V} {y : PyData} (hy : scal2 y = true) (ry : Rp F v y) : ∀ {ws es fs}, Trs F H ws es fs → es.all scal2 = true → fs = [] ∧ ∀ j, Trs F H (ws.set j v) (es.set j y) []
  | _, _, _, .nil, _ => ⟨rfl, fun j => by simp; exact .nil⟩
  | _, _, _, .cons (d := d) q r n, s => by
    simp only [List.all_cons, Bool.and_eq_true] at s
    obtain ⟨h1, h2⟩ := r.setLeaf hy ry s.2
    subst h1
    cases q with
    | leaf s0 r0 =>
      refine ⟨rfl, fun j => ?_⟩
      cases j with
      | zero => exact .cons (f := []) (fs := []) (.leaf hy ry) r (fun _ h => absurd h (by simp))
      | succ j => exact .cons (f := []) (fs := []) (.leaf s0 r0) (h2 j) (fun _ h => absurd h (by simp))
    | ls _ _ _ _ => exact absurd s.1 (by simp [scal2, scal])
    | tp s0 _ _ _ _ => rw [s0] at s; exact absurd s.1 (by simp)
theorem Tr.setTT {F H : Hp} {y : PyData} {v : V} (hy : scal2 y = true) (ry : Rp F v y) {x : V} {d d' : PyData} {fp : List Addr} {i j : Int} (t : Tr F H x d fp) (e : TL.setTT d i j y = some d') :
    ∃ a vs b ws j', x = .ref a ∧ H a = some (.lst vs) ∧ atI vs i = some (.ref b) ∧ H b = some (.lst ws) ∧ ixN ws.length j = some j' ∧ b ∈ fp ∧ Tr F (upd H b (.lst (ws.set j' v))) x d' fp := by
  cases d with
  | list ds =>
    simp only [TL.setTT, Option.bind_eq_some_iff] at e
    obtain ⟨i', e1, d1, e2, es, e3, e4⟩ := e
    split at e4
    · rename_i hs
      rw [Option.map_eq_some_iff] at e4
      obtain ⟨j', e5, rfl⟩ := e4
      cases isL_eq e3
      cases t with
      | leaf s _ => cases s
      | @ls a vs _ fp h1 h2 h3 h4 =>
      obtain ⟨w, f, g1, g2, g3, g4⟩ := h3.part e2
      cases g2 with
      | leaf s _ => cases s
      | @ls b ws _ f k1 k2 k3 k4 =>
      obtain ⟨rfl, k5⟩ := k3.setLeaf hy ry hs
      have bf : b ∈ fp := g3 b List.mem_cons_self
      have ba : b ≠ a := fun z => h4 (z ▸ bf)
      have t2 : Tr F (upd H b (.lst (ws.set j' v))) (.ref b) (.list (es.set j' y)) [b] := .ls upd_same k2 ((k5 j').frame (Ext.refl _) fun _ h => absurd h (by simp)) (by simp)
      refine ⟨a, vs, b, ws, j', rfl, h1, ?_, k1, by rw [k3.length]; exact e5, List.mem_cons_of_mem _ bf, .ls (by rw [upd_ne (Ne.symm ba)]; exact h1) h2 (g4 _ _ t2 fun c _ hn => upd_ne fun z => hn (by rw [z]; exact List.mem_cons_self)) h4⟩
      unfold atI
      rw [h3.length, e1]
      exact g1
    · cases e4
  | none => cases e
  | bool b => cases e
  | int b => cases e
  | str b => cases e
  | tuple b => cases e
  | dict b => cases e
/-- what is read by value leaves the heap as it was -/
theorem byval_int {K : PySem.W.Frag} {F : Hp} {r : Ev} {σ : L2.St} {H : Hp} (R : Rel K F r σ H) {g : FE} {i : Int} (e : ((g (frzE r)).bind fun q => (cur q.1 q.2).bind dI) = some i) (Q : VK)
    (k : ∀ F2 H2, Rel K F2 r σ H2 → Stp r σ F H r σ F2 H2 → (∀ a, H a ≠ none → H2 a = H a) → Q (.int i) H2) : tI K g σ H Q := by
  simp only [Option.bind_eq_some_iff] at e
  obtain ⟨⟨h, r'⟩, e1, d, e2, e3⟩ := e
  cases dI_eq e3
  obtain ⟨G, RG, bk⟩ := byvalE R
  refine ⟨G, frzE r, h, r', RG, e1, fun x F' H' R' S' q n => ?_⟩
  obtain ⟨F2, R2, S2, _⟩ := bk F' H' r' R' S'
  cases (cur_ok R' q e2).int
  exact k F2 H' R2 S2 fun a ha => (S'.pres a ha fun z => frzE_no z).1
theorem fSetTT_ok {K : PySem.W.Frag} {k : Nat} {f g1 g2 : FE} : ∀ D σ H, tIS K (fSetTT k f g1 g2) D σ H → tAsg (tI K f) (gSub (tOp (rIx K) (tVar k) (tI K g1)) (tI K g2) rSetL) D σ H := by
  rintro D σ H ⟨F, ρ, o, R, e, kk⟩
  simp only [fSetTT, Option.bind_eq_some_iff] at e
  obtain ⟨⟨h1, ρ1⟩, e1, ⟨y, ρ2⟩, e2, e3⟩ := e
  split at e3
  · rename_i hy
    simp only [Option.bind_eq_some_iff, Option.map_eq_some_iff] at e3
    obtain ⟨i, ei, j, ej, d, ed, d', es, rfl⟩ := e3
    refine ⟨F, ρ, h1, ρ1, R, e1, fun x F1 H1 R1 S1 q1 n1 => ?_⟩
    obtain ⟨F2, R2, S2, p2, _, _, _⟩ := esc_ok S1 R1 q1 n1 e2
    obtain ⟨z, fp, s2, t2⟩ := R2.tr k _ (trD_at ed)
    refine ⟨z, s2, byval_int R2 (by simpa only [Option.bind_eq_some_iff] using ei) _ fun F3 H3 R3 S3 k3 => ?_⟩
    obtain ⟨z', fp3, s3, t3⟩ := R3.tr k _ (trD_at ed)
    rw [s2] at s3; cases s3
    obtain ⟨a, vs, b, ws, j', rfl, a1, a2, _, _, _, _⟩ := t3.setTT hy (p2.mono S3.ext) es
    refine .inl ⟨a, vs, i, .ref b, rfl, rfl, .inl (.inl a1), a2, byval_int R3 (by simpa only [Option.bind_eq_some_iff] using ej) _ fun F4 H4 R4 S4 k4 => ?_⟩
    obtain ⟨z', fp4, s4, t4⟩ := R4.tr k _ (trD_at ed)
    rw [s2] at s4; cases s4
    obtain ⟨a', vs', b', ws', j2, ea, b1, b2, b3, b4, b5, b6⟩ := t4.setTT hy (p2.mono (S3.ext.trans S4.ext)) es
    cases ea
    have hv : vs' = vs := by
      have := k4 a (by rw [a1]; simp)
      rw [b1, a1] at this
      cases this; rfl
    subst hv
    rw [a2] at b2; cases b2
    obtain ⟨R5, S5⟩ := rel_tr (H' := upd H4 b (.lst (ws'.set j2 x))) R4 ((S2.trans S3).trans S4) (trD_at ed) s2 t4 b6 (fun c hc => upd_ne fun z => hc (z ▸ b5)) (fun c hc => by
      by_cases z : c = b
      · subst z; rw [upd_same]; simp
      · rw [upd_ne z]; exact hc) fun c hc => .inl hc
    exact ⟨b, ws', j, j2, rfl, rfl, b3, b4, kk σ F4 _ R5 S5⟩
  · cases e3

section
variable {X : Cx} {e i1 i2 : Expr} {f g1 g2 : FE} {px p1 p2 pos : Pos} {x : Str}
theorem ss_setTT (k : Nat) (he : SE X e f) (hi1 : SE X i1 g1) (hi2 : SE X i2 g2) (hN : X.N[k]? = some x := by rfl) (hv : Vis X.env.scope x := by first | exact Or.inl rfl | exact Or.inr (Or.inl rfl) | exact Or.inr (Or.inr rfl)) (hpl : PlainIx i1 := by exact fun _ _ => rfl)
    (hs : swapsWithSole [.Subscript (.Subscript (.Name x px) i1 p1) i2 p2] e pos.line X.env = pure false := by rfl) (hw : swappedStores [.Subscript (.Subscript (.Name x px) i1 p1) i2 p2] e X.env = pure none := by rfl)
    (h1 : (assignEach [Expr.Subscript (.Subscript (.Name x px) i1 p1) i2 p2] X.env).map (·.2) = [assign (.Subscript (.Subscript (.Name x px) i1 p1) i2 p2) X.env] := by rfl) (hd : (x == ("__debug__" : Str)) = false := by decide) (hcd : (x == ("__classdict__" : Str)) = false := by decide)
    (ha : ∀ v, assign (.Subscript (.Subscript (.Name x px) i1 p1) i2 p2) X.env v = (do
      let ov ← holding [v] (eval (.Subscript (.Name x px) i1 p1) X.env)
      let iv ← holding [v, ov] (eval i2 X.env)
      standAt p2
      holding [v, ov, iv] (setItem ov iv v)
      release [v, ov, iv] []) := by intro _; rfl) :
    SS X (.Assign [.Subscript (.Subscript (.Name x px) i1 p1) i2 p2] e pos) (fSetTT k f g1 g2) :=
  PSimp (ps_asg he (pg_sub (pe_ix ix_seq (pe_var hN hv hd hcd) hi1 hpl) hi2 set_list ha) hs hw h1) fSetTT_ok
end
@[simp] theorem x_fSetTT {k : Nat} {f g1 g2 : FE} {r : Ev} : fSetTT k f g1 g2 r = (f r).bind fun p => (esc p.1 p.2).bind fun u => if scal2 u.1 = true then ((g1 (frzE u.2)).bind fun q => (cur q.1 q.2).bind dI).bind fun i => ((g2 (frzE u.2)).bind fun q => (cur q.1 q.2).bind dI).bind fun j =>
  (trD k u.2).bind fun d => (setTT d i j u.1).map fun d' => .nx (u.2.set k (some (.tr d'))) else none := (rfl)

/-! ### xs.remove(y) of any data, where it stands -/
def tRemD (K : PySem.W.Frag) (to te : TE) : TE := fun σ H Q => to σ H fun x H1 => tyV K "list" x H1 ∧ te σ H1 fun y H2 => ∃ (l : Addr) (vs : List V) (xs : List PyData) (d : PyData) (j : Nat), x = .ref l ∧ H2 l = some (.lst vs) ∧ DpAll K H2 vs xs ∧ Dp K H2 y d ∧
  PyData.plainAll xs = true ∧ d.plain = true ∧ d.depth ≤ 60 ∧ SeqAt.dataPlace xs d = some j ∧ Q .non (upd H2 l (.lst (vs.eraseIdx j)))
section
variable {X : Cx} {o e : Expr} {to te : TE} {apos cpos : Pos}
theorem pe_remD (hu : X.A.units + 65 < cLine) (ho : PE X o to) (he : PE X e te) (hbase : attributeBase o "remove" X.env (eval o X.env) = eval o X.env := by rfl)
    (hfew : ((backTo cpos (starEach [e] X.env)).all (fun x => !x.1) && (backToKw cpos (keywordEach [] X.env)).all (fun x => x.1.isSome)
      && decide (([e] : List Expr).length + ([] : List Keyword).length + (if ([] : List Keyword).isEmpty then 0 else 1) < 30)) = true := by rfl)
    (hline : (apos.endLine == cpos.line) = true := by rfl) (hs : starEach [e] X.env = (false, eval e X.env) :: starEach [] X.env := by rfl) (hplain : (backTo cpos (starEach [] X.env)).any (·.1) = false := by rfl) :
    PE X (.Call (.Attribute o "remove" apos) [e] [] cpos) (tRemD X.K to te) := by
  refine ⟨fun pins s σ H Q I h => ?_⟩
  refine wpAny_Call_method_late hbase hfew hline rfl (thn (ho.run pins s σ H _ I h) fun v s1 ⟨x, H1, I1, r1, ty, q1⟩ => ?_)
  obtain ⟨h1, h2⟩ := tyV_is I1 r1 ty
  refine ⟨"list", _, PySem.F.plainAttrs_list, PySem.F.slot_list_remove, PySem.F.type_list_remove, h1, h2, ?_⟩
  rw [hs]
  refine Calls.callWith_builtin (by show (false || (backTo cpos (starEach [] X.env)).any (·.1)) = false; rw [hplain] <;> rfl) (Calls.evalArgs_plain ?_)
  show wpAny _ _ (spliced ((false, eval e X.env) :: backTo cpos (starEach [] X.env))) _ _ s1
  refine Calls.spliced_cons (thn (he.run pins s1 σ H1 _ I1 q1) fun u s2 ⟨y, H2, I2, ry, q2⟩ => ?_)
  refine Calls.spliced_nil ?_
  obtain ⟨l, vs, xs, d, j, ex, hH, dv, dy, px, pd, dd, pl, qy⟩ := q2
  subst ex
  cases (show v = Value.ref l from r1)
  obtain ⟨z, its, n, r, hl, e0⟩ := I2.lstM hH
  obtain ⟨as, ra⟩ := Dp.readsAll I2 xs vs its dv r
  obtain ⟨bs, rb⟩ := Dp.reads I2 d y u dy ry
  have hsz : its.toArray.size ≤ sizeLine := by rw [List.size_toArray, ← hl]; exact z
  refine SeqAt.remove_list_data (vs := its.toArray) (PySem.IsL.isList e0) (by simpa using ra) rb px pd ?_ pl hsz ?_
  · have : min (PyData.depthAll xs) d.depth ≤ 60 := Nat.le_trans (Nat.min_le_right _ _) dd
    omega
  · have r2 : Vals (vs.eraseIdx j) (its.eraseIdx j) := r.eraseIdx j
    refine ⟨.non, _, I2.lset (its' := its.eraseIdx j) hH e0 ?_ r2 ?_, rfl, qy⟩
    · show its.toArray.eraseIdxIfInBounds j = (its.eraseIdx j).toArray
      rw [List.eraseIdxIfInBounds_toArray]
    · have := List.length_eraseIdx_le vs j
      omega
end
def sRemD (k : Nat) (f : FE) : FE := fun r => ((ownD k r).bind isL).bind fun _ => (f r).bind fun p => (cur p.1 p.2).bind fun d => ((ownD k p.2).bind isL).bind fun xs =>
  if PyData.plainAll xs = true ∧ d.plain = true ∧ d.depth ≤ 60 ∧ PyData.canLayAll0 xs = true ∧ d.canLay0 = true then (SeqAt.dataPlace xs d).bind fun j => (setD k (.list (xs.eraseIdx j)) p.2).map fun r' => (.v .none, r') else none
theorem RpAll.erase {F : Hp} : ∀ {vs : List V} {ds : List PyData}, RpAll F vs ds → ∀ j, RpAll F (vs.eraseIdx j) (ds.eraseIdx j)
  | _, _, .nil, j => by simp; exact .nil
  | _, _, .cons h r, 0 => r
  | _, _, .cons h r, j + 1 => .cons h (r.erase j)
theorem sRemD_ok {K : PySem.W.Frag} {k : Nat} {f : FE} : ∀ σ H Q, tI K (sRemD k f) σ H Q → tRemD K (tVar k) (tI K f) σ H Q := by
  rintro σ H Q ⟨F, ρ, h, ρ', R, e, kk⟩
  simp only [sRemD, Option.bind_eq_some_iff] at e
  obtain ⟨_, ⟨d0, e1, e1'⟩, ⟨h1, ρ1⟩, e2, d, e3, xs, ⟨d2, e4, e4'⟩, e5⟩ := e
  split at e5
  · rename_i hc
    obtain ⟨c1, c2, c3, c4, c5⟩ := hc
    rw [Option.bind_eq_some_iff] at e5
    obtain ⟨j, e6, e5⟩ := e5
    rw [Option.map_eq_some_iff] at e5
    obtain ⟨ρ3, e7, e8⟩ := e5
    cases e8
    cases isL_eq e1'
    cases isL_eq e4'
    obtain ⟨a, o, s1, s2, s3⟩ := R.ownAt e1
    obtain ⟨vs, rfl, _⟩ := s3.list
    refine ⟨.ref a, s1, .inl ⟨rfl, vs, .inl (.inl s2)⟩, F, ρ, h1, ρ1, R, e2, fun x F1 H1 R1 S1 q1 n1 => ?_⟩
    obtain ⟨a', o', t1, t2, t3⟩ := R1.ownAt e4
    rw [s1] at t1; cases t1
    obtain ⟨ws, rfl, rw'⟩ := t3.list
    obtain ⟨R3, S3⟩ := R1.mut (o' := .lst (ws.eraseIdx j)) e4 e7 s1 (.lst (rw'.erase j))
    exact ⟨a, ws, xs, d, j, rfl, t2, rw'.dp R1.sub c4, (cur_ok R1 q1 e3).dp R1.sub c5, c1, c2, c3, e6, kk _ _ _ R3 (S1.trans S3) (.v .non) nw_v⟩
  · cases e5
@[simp] theorem x_sRemD {k : Nat} {f : FE} {r : Ev} : sRemD k f r = ((ownD k r).bind isL).bind fun _ => (f r).bind fun p => (cur p.1 p.2).bind fun d => ((ownD k p.2).bind isL).bind fun xs =>
  if PyData.plainAll xs = true ∧ d.plain = true ∧ d.depth ≤ 60 ∧ PyData.canLayAll0 xs = true ∧ d.canLay0 = true then (SeqAt.dataPlace xs d).bind fun j => (setD k (.list (xs.eraseIdx j)) p.2).map fun r' => (.v .none, r') else none := (rfl)
end TL

namespace TL
open PySem PySem.Spec PyProof.Rows L2

/-! ### a tree's name read: it is frozen -/
def sFzV (k : Nat) : FE := fun r => (esc (.s k) r).map fun q => (.v q.1, q.2)
theorem sFzV_ok {K : PySem.W.Frag} {k : Nat} : ∀ σ H Q, tI K (sFzV k) σ H Q → tI K (sVar k) σ H Q := by
  rintro σ H Q ⟨F, ρ, h, ρ', R, e, kk⟩
  simp only [sFzV, Option.map_eq_some_iff] at e
  obtain ⟨⟨d, r1⟩, e1, e2⟩ := e
  cases e2
  have hk : ∃ s, ρ[k]? = some (some s) := by
    unfold esc at e1
    simp only at e1
    split at e1 <;> first | exact ⟨_, by assumption⟩ | cases e1
  obtain ⟨s, hs⟩ := hk
  refine ⟨F, ρ, .s k, ρ, R, by unfold sVar; rw [hs], fun x F' H' R' S' q n => ?_⟩
  obtain ⟨F2, R2, S2, p2, _⟩ := esc_ok S' R' q n e1
  exact kk x F2 H' R2 S2 (.v p2) nw_v
section
variable {X : Cx} {e : Expr}
theorem se_fzV (k : Nat) (h : SE X e (sVar k)) : SE X e (sFzV k) := PEimp h sFzV_ok
end
@[simp] theorem x_sFzV {k : Nat} {r : Ev} : sFzV k r = (esc (.s k) r).map fun q => (.v q.1, q.2) := (rfl)
@[simp] theorem x_escT {r : Ev} {i : Nat} {d : PyData} (h : r[i]? = some (some (.tr d))) : esc (.s i) r = some (d, r.set i (some (.fz d))) := by
  show (match r[i]? with
    | some (some (.fz d)) => some (d, r)
    | some (some (.ow d)) => some (d, r.set i (some (.fz d)))
    | some (some (.tr d)) => some (d, r.set i (some (.fz d)))
    | _ => none) = _
  rw [h]

/-! ### [.. for x in xs ..], xs a list of one's own that stays one's own -/
def lcO (k : Nat) (own : List Nat) (bd : PyData → Ev → Option Ev) (c : FT) (elt : FE) : Nat → Nat → Ev → List PyData → Option (List PyData × Ev)
  | 0, i, r, acc => ((ownD k r).bind isL).bind fun ds => if ds.length ≤ i then some (acc, r) else none
  | m + 1, i, r, acc => ((ownD k r).bind isL).bind fun ds => if ds.length ≤ i then some (acc, r) else (ds[i]?).bind fun d => (bd d r).bind fun r1 => (c r1).bind fun p => if p.1 = true then
      (elt p.2).bind fun q => (esc q.1 q.2).bind fun u => if acc.length < 16000000 then lcO k own bd c elt m (i + 1) (wipeR u.2 own) (acc ++ [u.1]) else none
    else lcO k own bd c elt m (i + 1) (wipeR p.2 own) acc
def sLcO (k : Nat) (own : List Nat) (bd : PyData → Ev → Option Ev) (c : FT) (elt : FE) : FE := fun r => ((ownD k r).bind isL).bind fun ds => if noIo r own = true ∧ k ∉ own then (lcO k own bd c elt ds.length 0 (wipeR r own) []).map fun q => (.n (.list q.1), restore r q.2 own) else none
theorem sLcO_ok {K : PySem.W.Frag} {k : Nat} {own is : List Nat} {g : TG} {bd : PyData → Ev → Option Ev} {c : FT} {elt : FE} (hb : BdOk K is g bd) (hs : ∀ i ∈ is, i ∈ own) :
    ∀ σ H Q, tI K (sLcO k own bd c elt) σ H Q → tLc (iList K (tVar k)) g (tIT K c) (tI K elt) own σ H Q := by
  rintro σ H Q ⟨F1, ρ1, h, ρ', R1, e, kk⟩
  simp only [sLcO, Option.bind_eq_some_iff] at e
  obtain ⟨ds0, ⟨d0, e0, e0'⟩, e2⟩ := e
  split at e2
  · rename_i hio0
    obtain ⟨hio, hko⟩ := hio0
    rw [Option.map_eq_some_iff] at e2
    obtain ⟨⟨res, ρe⟩, e3, e4⟩ := e2
    cases e4
    cases isL_eq e0'
    obtain ⟨a, o0, s1, s2, s3⟩ := R1.ownAt e0
    obtain ⟨vs0, rfl, _⟩ := s3.list
    have sw : (L2.wipe σ own)[k]? = some (some (.ref a)) := by rw [wipe_out' hko]; exact s1
    refine ⟨.ref a, s1, a, rfl, ⟨vs0, .inl (.inl s2)⟩, fun D hD => ?_⟩
    refine ⟨fun i m H' => ∃ F' r' vs acc, Rel K F' r' (L2.wipe σ own) H' ∧ Stp ρ1 σ F1 H r' (L2.wipe σ own) F' H' ∧ H' D = some (.lst vs) ∧ F' D = none ∧ ¬ Owned r' (L2.wipe σ own) H' D ∧ RpAll F' vs acc ∧ lcO k own bd c elt m i r' acc = some (res, ρe), ⟨ds0.length, ?_⟩, ?_⟩
    · obtain ⟨R2, S2⟩ := R1.grow (Ext.refl F1) (H' := upd H D (.lst [])) (R1.sub.trans (Ext.new hD)) (fun a ha => ⟨upd_ne fun z => ha (z ▸ hD), rfl⟩)
      refine ⟨F1, wipeR ρ1 own, [], [], R2.wipe own, S2.wipe hio, upd_same, fnone R1.sub hD, wiped_no (R2.noNewUpd R1 hD), .nil, e3⟩
    · rintro i m H' ⟨F', r', vs, acc, R', S', hv, fD, nO, ra, hl⟩
      have fin : ∀ {ds : List PyData}, ownD k r' = some (.list ds) → ds.length ≤ i → (acc, r') = (res, ρe) → (Itl K a).stop i H' ∧ Q (.ref D) H' := fun {ds} z1 z2 z3 => by
        cases z3
        obtain ⟨a', o', t1, t2, t3⟩ := R'.ownAt z1
        rw [sw] at t1; cases t1
        obtain ⟨ws, rfl, rw'⟩ := t3.list
        refine ⟨⟨ws, .inl (.inl t2), by rw [rw'.length]; exact z2⟩, ?_⟩
        have Rr := Rel.restore R1 R' S'.ext
        have Sr := S'.restore hio
        refine kk (.ref D) F' H' Rr Sr (.n hv fD (restored_no nO) (.lst ra)) fun b eb => ?_
        cases eb
        exact .inl hD
      cases m with
      | zero =>
        simp only [lcO, Option.bind_eq_some_iff] at hl
        obtain ⟨ds, ⟨d1, z1, z1'⟩, hl⟩ := hl
        cases isL_eq z1'
        split at hl
        · rename_i hle
          exact .inl (fin z1 hle (Option.some.inj hl))
        · cases hl
      | succ m =>
        simp only [lcO, Option.bind_eq_some_iff] at hl
        obtain ⟨ds, ⟨d1, z1, z1'⟩, hl⟩ := hl
        cases isL_eq z1'
        split at hl
        · rename_i hle
          exact .inl (fin z1 hle (Option.some.inj hl))
        · rename_i hle
          simp only [Option.bind_eq_some_iff] at hl
          obtain ⟨d, hd, r2, l1, ⟨b, r3⟩, l2, l3⟩ := hl
          obtain ⟨a', o', t1, t2, t3⟩ := R'.ownAt z1
          rw [sw] at t1; cases t1
          obtain ⟨ws, rfl, rw'⟩ := t3.list
          have hiv : i < ws.length := by rw [rw'.length]; omega
          refine .inr ⟨⟨ws, ws[i], .inl (.inl t2), List.getElem?_eq_getElem hiv⟩, fun H3 => ∃ F3 r3 vs acc, Rel K F3 r3 (L2.wipe σ own) H3 ∧ Stp ρ1 σ F1 H r3 (L2.wipe σ own) F3 H3 ∧ H3 D = some (.lst vs) ∧ F3 D = none ∧ ¬ Owned r3 (L2.wipe σ own) H3 D ∧ RpAll F3 vs acc ∧ lcO k own bd c elt m (i + 1) r3 acc = some (res, ρe),
            fun H3 q => ⟨m, by omega, q⟩, fun x H2 y => ?_⟩
          obtain ⟨rfl, hz⟩ := y
          have hx := hz ws (.inl (.inl t2))
          have px : Rp F' x d := by
            obtain ⟨u, hu1, hu2⟩ := rw'.get hd
            rw [hu1] at hx
            cases hx
            exact hu2
          have S2 := Stp.refl (r := r') (σ := L2.wipe σ own) (F := F') (H := H2)
          obtain ⟨xs, R3, S3, hQ⟩ := hb F' H2 r' r2 (L2.wipe σ own) d x R' px l1
          have hw : L2.wipe (setAll (L2.wipe σ own) is xs) own = L2.wipe σ own := wipe_setAll hs
          refine hQ _ ⟨hw, F', r2, b, r3, R3, l2, fun F4 H4 R4 S4 => ?_⟩
          have S5 := S3.trans S4
          obtain ⟨d1, d2, d3⟩ := S5.pres D (by rw [hv]; simp) nO
          cases b with
          | false =>
            rw [if_neg Bool.false_ne_true] at l3
            refine iteF ?_
            have Rw := R4.wipe own
            have Sw := (S'.trans S5).wipe hio
            rw [hw] at Rw Sw
            exact ⟨F4, wipeR r3 own, vs, acc, Rw, Sw, d1.trans hv, d2.trans fD, hw ▸ wiped_no (own := own) d3, ra.mono S5.ext, l3⟩
          | true =>
            rw [if_pos rfl] at l3
            refine iteT ?_
            simp only [Option.bind_eq_some_iff] at l3
            obtain ⟨⟨he, r5⟩, l4, ⟨de, r6⟩, l5, l6⟩ := l3
            split at l6
            · rename_i hlen
              refine ⟨F4, r3, he, r5, R4, l4, fun ye F5 H5 R5 S6 q6 n6 => ?_⟩
              obtain ⟨F6, R6, S8, p6, x6, o6, f6⟩ := esc_ok S6 R5 q6 n6 l5
              have S9 := S5.trans S8
              obtain ⟨d4, d5, d6⟩ := S9.pres D (by rw [hv]; simp) nO
              have hD5 : H5 D = some (.lst vs) := d4.trans hv
              refine ⟨vs, hD5, lim_lt (by rw [(ra.length)]; exact hlen), ?_⟩
              have F6D : F6 D = none := d5.trans fD
              obtain ⟨Rg, Sg, Ng⟩ := rel_at (o := .lst (vs ++ [ye])) R6 (S'.trans S9) (.inl hD) F6D d6
              have Rw := Rg.wipe own
              have Sw := Sg.wipe hio
              rw [hw] at Rw Sw
              exact ⟨F6, wipeR r6 own, vs ++ [ye], acc ++ [de], Rw, Sw, upd_same, F6D, hw ▸ wiped_no (own := own) (Ng D d6), (ra.mono S9.ext).append (.cons p6 .nil), l6⟩
            · cases l6
  · cases e2

section
variable {X : Cx} {tg iter elt : Expr} {ifs : List Expr} {scope : Scope} {own : List (Str × Nat)} {is : List Nat} {g : TG} {bd : PyData → Ev → Option Ev} {c : FT} {fe : FE} {pos : Pos} {k : Nat}
theorem se_lcO (hN : X.N.Nodup) (hk : PE X iter (tVar k)) (ok : BlkOk X.N X.env.scope scope own) (hb : BdOk X.K is g bd) (hs : ∀ i ∈ is, i ∈ own.map (·.2))
    (hg : ∀ (s : Shared) (H : Hp) (C : Addr) (cl : List (Str × Addr)) (fp : List Addr), PG (X.blk s H scope (compEnvC scope cl C X.env) fp) tg g) (ht : ∀ (s : Shared) (H : Hp) (C : Addr) (cl : List (Str × Addr)) (fp : List Addr), STs (X.blk s H scope (compEnvC scope cl C X.env) fp) ifs c)
    (he : ∀ (s : Shared) (H : Hp) (C : Addr) (cl : List (Str × Addr)) (fp : List Addr), SE (X.blk s H scope (compEnvC scope cl C X.env) fp) elt fe) (hc : X.calm = true := by rfl) (hf : ∀ x, foldedSetIterable iter X.env x = pure x := by intro _; rfl) :
    SE X (.ListComp elt [⟨tg, iter, ifs, 0⟩] scope pos) (sLcO k (own.map (·.2)) bd c fe) := PEimp (pe_lc hc hN (pi_list hk) ok hg ht he hf) (sLcO_ok hb hs)
theorem ss_setLcO {y : Str} {py spos : Pos} (i : Nat) (hN : X.N.Nodup) (hk : PE X iter (tVar k)) (ok : BlkOk X.N X.env.scope scope own) (hb : BdOk X.K is g bd) (hs : ∀ i ∈ is, i ∈ own.map (·.2))
    (hg : ∀ (s : Shared) (H : Hp) (C : Addr) (cl : List (Str × Addr)) (fp : List Addr), PG (X.blk s H scope (compEnvC scope cl C X.env) fp) tg g) (ht : ∀ (s : Shared) (H : Hp) (C : Addr) (cl : List (Str × Addr)) (fp : List Addr), STs (X.blk s H scope (compEnvC scope cl C X.env) fp) ifs c)
    (he : ∀ (s : Shared) (H : Hp) (C : Addr) (cl : List (Str × Addr)) (fp : List Addr), SE (X.blk s H scope (compEnvC scope cl C X.env) fp) elt fe)
    (hsw : swapsWith (.ListComp elt [⟨tg, iter, ifs, 0⟩] scope pos) (some (.Name y py)) spos.line X.env = pure true) (hy : X.N[i]? = some y := by rfl) (hyl : X.env.scope.names.lookup y = some .local := by rfl) (hc : X.calm = true := by rfl) (hf : ∀ x, foldedSetIterable iter X.env x = pure x := by intro _; rfl) :
    SS X (.Assign [.Name y py] (.ListComp elt [⟨tg, iter, ifs, 0⟩] scope pos) spos) (fAsg i (sLcO k (own.map (·.2)) bd c fe)) :=
  PSimp (ps_setLc hc hN hy hyl hsw (pi_list hk) ok hg ht he hf) fun D σ H q => by
    have z := fAsg_ok D σ H q
    exact sLcO_ok hb hs σ H _ z
end
@[simp] theorem x_sLcO {k : Nat} {own : List Nat} {bd : PyData → Ev → Option Ev} {c : FT} {elt : FE} {r : Ev} : sLcO k own bd c elt r = ((ownD k r).bind isL).bind fun ds => if noIo r own = true ∧ k ∉ own then (lcO k own bd c elt ds.length 0 (wipeR r own) []).map fun q => (.n (.list q.1), restore r q.2 own) else none := (rfl)
/-- over what is one's own, each turn leaving the slots as they were -/
theorem lcO_of {k : Nat} {own : List Nat} {bd : PyData → Ev → Option Ev} {c : FT} {elt : FE} {r : Ev} {ds : List PyData} {g : PyData → Option PyData} (hk : ownD k r = some (.list ds)) (h : ∀ d ∈ ds, lcStep own bd c elt d r = some (g d, r)) : ∀ (m i : Nat) (acc : List PyData), ds.length ≤ i + m → acc.length + m ≤ 16000000 →
    lcO k own bd c elt m i r acc = some (acc ++ (ds.drop i).filterMap g, r)
  | 0, i, acc, h1, h2 => by
    have hd : ds.drop i = [] := List.drop_eq_nil_of_le (by omega)
    have e : isL (.list ds) = some ds := rfl
    rw [lcO, hk, Option.bind_some, e, Option.bind_some, if_pos (by omega), hd]; simp
  | m + 1, i, acc, h1, h2 => by
    have e : isL (.list ds) = some ds := rfl
    rw [lcO, hk, Option.bind_some, e, Option.bind_some]
    by_cases hi : ds.length ≤ i
    · rw [if_pos hi, List.drop_eq_nil_of_le hi]; simp
    · have hlt : i < ds.length := by omega
      have hdr : ds.drop i = ds[i] :: ds.drop (i + 1) := List.drop_eq_getElem_cons hlt
      rw [if_neg hi, List.getElem?_eq_getElem hlt, Option.bind_some, hdr]
      have hs := h ds[i] (List.getElem_mem hlt)
      unfold lcStep at hs
      simp only [Option.bind_eq_some_iff] at hs
      obtain ⟨r1, e1, ⟨b, r2⟩, e2, e3⟩ := hs
      rw [e1, Option.bind_some, e2, Option.bind_some]
      cases b with
      | false =>
        simp only [Bool.false_eq_true, if_false, Option.some.injEq, Prod.mk.injEq] at e3 ⊢
        obtain ⟨z1, z2⟩ := e3
        rw [z2, lcO_of hk h m (i + 1) acc (by omega) (by omega)]
        rw [List.filterMap_cons, ← z1]
      | true =>
        simp only [if_true, Option.bind_eq_some_iff, Option.map_eq_some_iff] at e3 ⊢
        obtain ⟨⟨a, r3⟩, e4, ⟨x, r4⟩, e5, e6⟩ := e3
        simp only [Prod.mk.injEq] at e6
        obtain ⟨z1, z2⟩ := e6
        refine ⟨(a, r3), e4, (x, r4), e5, ?_⟩
        rw [if_pos (by omega), z2, lcO_of hk h m (i + 1) (acc ++ [x]) (by omega) (by simp; omega)]
        rw [List.filterMap_cons, ← z1]
        simp

/-! ### what is one's own handed on, the name no longer used -/
def sMov (j : Nat) : FE := fun r => match r[j]? with
  | some (some (.ow d)) => some (.n d, r.set j none)
  | _ => none
theorem sMov_ok {K : PySem.W.Frag} {j : Nat} : ∀ σ H Q, tI K (sMov j) σ H Q → tVar j σ H Q := by
  rintro σ H Q ⟨F, ρ, h, ρ', R, e, kk⟩
  unfold sMov at e
  split at e
  · rename_i d hs
    cases e
    obtain ⟨a, o, e1, e2, e3, e4⟩ := R.own j d (.inl hs)
    have lone : ¬ Owned (ρ.set j none) σ H a := fun ⟨i, t, y, g1, g2, g3⟩ => by
      obtain ⟨g4, ne⟩ := drop_get g1
      exact ne (R.dja j i _ t _ y a hs g4 e1 g2 rfl g3)
    have ow : Owned ρ σ H a := .of (.inl hs) e1
    have S0 := Stp.refl (r := ρ) (σ := σ) (F := F) (H := H)
    refine ⟨.ref a, e1, kk (.ref a) F H (R.drop j) (S0.drop (by rw [hs]; rfl)) (.n e2 e3 lone e4) fun b hb => ?_⟩
    cases hb
    exact S0.old ow
  · cases e
section
variable {X : Cx} {e : Expr}
theorem se_mov (j : Nat) (h : PE X e (tVar j)) : SE X e (sMov j) := PEimp h sMov_ok
end
@[simp] theorem x_sMov {j : Nat} {r : Ev} {d : PyData} (h : r[j]? = some (some (.ow d))) : sMov j r = some (.n d, r.set j none) := by
  unfold sMov
  rw [h]
@[simp] theorem x_wZip {f : FA} {r : Ev} : wZip f r = (f r).bind fun p => (escAll p.1 p.2).bind fun q => match q.1 with
  | [.list ds, .list es] => some (zipD ds es, q.2)
  | _ => none := (rfl)
end TL

namespace TL
open PySem PySem.Spec PyProof.Rows L2
/-! ### sorted of a tree, empty or not -/
def sSortU (f : FE) : FE := fun r => (f r).bind fun p => (mv p.1 p.2).bind fun q => (isL q.1).bind fun ds => if sOk ds = true then some (.t (.list (sortD ds)), q.2) else none
theorem sSortU_ok {K : PySem.W.Frag} {f : FE} : ∀ σ H Q, tI K (sSortU f) σ H Q → tCB (rSortedX K) (tCons (tI K f) tNil) σ H Q := by
  rintro σ H Q ⟨F, ρ, h, ρ', R, e, k⟩
  simp only [sSortU, Option.bind_eq_some_iff] at e
  obtain ⟨⟨h1, ρ1⟩, e1, ⟨d, ρ2⟩, e2, ds, e3, e4⟩ := e
  split at e4
  · rename_i hok
    cases e4
    cases isL_eq e3
    refine ⟨F, ρ, h1, ρ1, R, e1, fun x F1 H1 R1 S1 q1 n1 => ?_⟩
    obtain ⟨fp, R2, S2, t2, n2, o2, _, _⟩ := mv_ok S1 R1 q1 n1 e2
    cases t2 with
    | leaf s _ => cases s
    | @ls a vs _ fp g1 g2 g3 g4 =>
    have cl : PyData.canLayAll0 ds = true := canLayAll_of fun d hd => by
      have ok := hok
      simp only [sOk, Bool.and_eq_true, List.all_eq_true] at ok
      exact (ok.2.2 d hd).1
    have ex := frzT_ext (F := F1) (H := H1) (fp := fp) fun b hb => (g3.at b hb).2
    have rp : RpAll (frzT F1 H1 fp) vs ds := g3.frz ex fun b hb => frzT_in hb
    refine .inr ⟨a, vs, ds, rfl, .inl (.inl g1), rp.dp (frzT_sub R1.sub) cl, hok, fun p ps pm hm hp => ?_⟩
    obtain ⟨gs, t3, sub⟩ := g3.perm pm
    rw [hm] at t3
    have np : p ∉ gs := fun z => (t3.at p z).1 hp
    have t4 : Tr F1 (upd H1 p (.lst (ps.map (·.1)))) (.ref p) (.list (sortD ds)) (p :: gs) := .ls upd_same (fnone R1.sub hp) (t3.frame (Ext.refl _) fun b hb => ⟨upd_ne fun z => np (z ▸ hb), rfl⟩) np
    obtain ⟨R4, S4, q4, n4⟩ := tree_new S2 R2 hp t4 (fun b hb => (t3.at b hb).1) (fun b hb => n2 b (List.mem_cons_of_mem _ (sub b hb))) (fun b hb => o2 b (List.mem_cons_of_mem _ (sub b hb)))
    exact k _ _ _ R4 S4 q4 n4
  · cases e4
section
variable {X : Cx} {p pos : Pos} {e : Expr} {f : FE}
theorem se_sortU (hu : X.A.units + 65 < cLine) (hm : X.mg "sorted" = none) (ha : SE X e f) (hg : Gl X "sorted" := by rfl) (he : starEach [e] X.env = (false, eval e X.env) :: starEach [] X.env := by rfl) : SE X (.Call (.Name "sorted" p) [e] [] pos) (sSortU f) :=
  PEimp (pe_callB (cr_sortedX hu) hg hm (by decide +kernel) (pa_cons ha pa_nil he) (by decide) (by decide) he (by rfl)) sSortU_ok
end
@[simp] theorem x_sSortU {f : FE} {r : Ev} : sSortU f r = (f r).bind fun p => (mv p.1 p.2).bind fun q => (isL q.1).bind fun ds => if sOk ds = true then some (.t (.list (sortD ds)), q.2) else none := (rfl)
end TL

namespace TL
open PySem PySem.Spec PyProof.Rows PySem.W
/-! ### an own exception's __init__: super().__init__(value); self.value = value -/
abbrev tiScope : Scope := { kind := ScopeKind.function, names := [(Str.ofString "self", NameKind.local), (Str.ofString "value", NameKind.local), (Str.ofString "__class__", NameKind.free), (Str.ofString "super", NameKind.globalImplicit)], isGenerator := false, isCoroutine := false, more := [] }
abbrev tiBody (p0 p1 p2 p3 p4 p5 p6 p7 p8 p9 : Pos) : List Stmt :=
  [.Expr (.Call (.Attribute (.Call (.Name "super" p0) [] [] p1) "__init__" p2) [.Name "value" p3] [] p4) p5, .Assign [.Attribute (.Name "self" p6) "value" p7] (.Name "value" p8) p9]
section
variable {prog : Program} {w : World} {A : Around} {R : Result → Shared → Prop} {s : Shared} {K : Frag} {mg mb : Str → Option Value}
variable {name qual : Str} {params : Arguments} {dV kV doc pm ct oc : Value} {an od : Option Addr} {osl : Array (Option Value)} {f cc cda e C D t0 : Addr} {args : Args} {u : Value}
variable {p0 p1 p2 p3 p4 p5 p6 p7 p8 p9 : Pos}
variable {nm q : Str} {N : Addr} {bs bm : List Value} {sn : List Str} {sub : List Value} {ab : Bool} {col : Option Bool} {dd : Option Addr} {k0 k1 k2 k3 k5 : Option Value}
theorem tinit_raw {ar : Arg} {vs : Array Value} {file : Str} {tf : Tok} {ccl cl : Value} {cdd cld : Option Addr} {ccs csl : Array (Option Value)} {cdD : ClassData}
    (X : K.In s.heap) (hg : s.heap.Ns mainGlobals mg) (hmb : s.heap.Ns builtinsNs mb) (hb : mb "super" = some (.type "super")) (hm : mg "super" = none) (lim : s.heap.NoLimit) (hroom : A.depth < recursionLimit)
    (lk : K.lookup f = some ⟨oc, od, .func (ksFn name qual params (tiBody p0 p1 p2 p3 p4 p5 p6 p7 p8 p9) tiScope dV kV doc pm an (.ref cda) ct cc), osl⟩) (hcd : codeIn K (.ref cda) qual = true)
    (hp : (params.posonlyargs ++ params.args).head? = some ar) (har : ar.arg = "self")
    (hbind : BindsTo s (ksFn name qual params (tiBody p0 p1 p2 p3 p4 p5 p6 p7 p8 p9) tiScope dV kV doc pm an (.ref cda) ct cc) args [("self", .ref e), ("value", u)])
    (hcode : K.lookup cda = some ⟨ccl, cdd, .fields vs, ccs⟩) (hvs : vs[2]? = some (.str file tf)) (hfile : ((prog.main.file : Str) == file) = true) (htop : (prog.main.scope.names.lookup ("super" : Str)).isSome = false)
    (hcl : K.lookup cc = some ⟨cl, cld, .cell (some (.ref D)), csl⟩) (hD : clsIn K D = some cdD) (hsub : mroIn K C (.ref D) = some true)
    (hC : K.lookup C = some (excClassObj nm q C N bs bm true sn sub ab col dd k0 k1 k2 k3 k5 "ValueError.__new__")) (hbm : PySem.HandSPX.refsVE bm = true)
    (ho : nsIn K cStatics "thirdparty.any" = some none) (hsi : ks_superIn K C D "__init__" = some (some (.builtin "ValueError.__init__"))) (hB : subIn K (.ref C) (.type "ValueError") = some true)
    (hsa : findIn K (.ref C) "__setattr__" = some (some (.builtin "object.__setattr__"))) (hno : findIn K (.ref C) "value" = some none)
    (he : s.heap.get? e = some (PySem.HandSPX.excO C t0)) (heC : e ≠ C) (hKe : ∀ o, K.lookup e ≠ some o)
    {pl : Addr → Sem Bool} (hev : ∀ L : Addr, eval (.Call (.Attribute (.Call (.Name "super" p0) [] [] p1) "__init__" p2) [.Name "value" p3] [] p4) (callEnv (ksFn name qual params (tiBody p0 p1 p2 p3 p4 p5 p6 p7 p8 p9) tiScope dV kV doc pm an (.ref cda) ct cc) L f) = (do
      let ov ← attributeBase (.Call (.Name "super" p0) [] [] p1) "__init__" (callEnv (ksFn name qual params (tiBody p0 p1 p2 p3 p4 p5 p6 p7 p8 p9) tiScope dV kV doc pm an (.ref cda) ct cc) L f) (eval (.Call (.Name "super" p0) [] [] p1) (callEnv (ksFn name qual params (tiBody p0 p1 p2 p3 p4 p5 p6 p7 p8 p9) tiScope dV kV doc pm an (.ref cda) ct cc) L f))
      standAt p2.atName
      let (fn, first) ← holding [ov] (getMethod ov "__init__" (pl L))
      callWith p4 fn first (backTo p4 (starEach [.Name "value" p3] (callEnv (ksFn name qual params (tiBody p0 p1 p2 p3 p4 p5 p6 p7 p8 p9) tiScope dV kV doc pm an (.ref cda) ct cc) L f))) []))
    (hR : ∀ h' t1 dx tk', (∀ b o, b ≠ e → s.heap.get? b = some o → h'.get? b = some o) → s.heap.objs.size ≤ dx → dx ≠ e → h'.get? e = some { cls := .ref C, dict := some dx, data := .fields #[.ref t1, .none, .none, .none, .bool false, .none] } →
      h'.Ns1 dx (fun y => if y = ("value" : Str) then some u else none) → R (.ok (.ret .none)) { s with heap := h', toks := tk' }) :
    codeAny (model prog w) A (.call (.ref f) args) R s := by
  refine ks_codeAny_call_defAt hroom (X _ _ lk) rfl lim (codeRec_of X hcd) rfl hbind (show ∀ x ∈ tiScope.names, x.2 ≠ .cell by decide) (fun x hx => ?_) (fun h₀ hns hk₀ => ?_)
  · simp only [List.mem_cons, List.not_mem_nil, or_false] at hx
    rcases hx with rfl | rfl <;> rfl
  · have X1 : K.In h₀ := X.keeps hk₀
    obtain ⟨oD, hD1, hD2⟩ : ∃ oD, h₀.get? D = some oD ∧ oD.data = .cls cdD := by
      unfold clsIn at hD
      split at hD
      · rename_i c d cd' sl ho
        cases hD
        exact ⟨_, X1 _ _ ho, rfl⟩
      · cases hD
    have he1 := hk₀ _ _ he
    obtain ⟨hh, g, d, t, os⟩ := s
    refine ks_wpAt_execs_cons (ks_wpAt_Expr_any (ks_wpAt_MethodCall (pl := pl hh.objs.size) ?_ (hev hh.objs.size)))
    refine ks_wpAt_super_base rfl rfl (by decide) rfl (X1 _ _ lk) rfl hp rfl (X1 _ _ hcode) rfl hvs hfile htop ?_
    refine ks_loadName_global rfl rfl (Calls.loadGlobal_builtin (hg.keeps hk₀) hm (hmb.keeps hk₀) hb ⟨rfl, ?_⟩)
    refine wpAny_loadName_free rfl rfl rfl ⟨_, X1 _ _ hcl, rfl⟩ ?_
    rw [har]
    refine wpAny_loadName_local rfl rfl hns rfl ?_
    refine ks_wpAny_isType_cls hD1 hD2 ⟨rfl, ?_⟩
    refine ks_wpAny_call_super hD1 hD2 he1 rfl (fun c e => by cases e) (looks_mroIn X1 hsub) (fun h1 e1 k1 => ?_)
    have X2 : K.In h1 := X1.keeps k1
    have he2 := k1 _ _ he1
    have hcd' : clsIn K C = some { name := nm, bases := bs, mro := .ref C :: bm, ns := N, qualname := q, hasDict := true, slotNames := sn, subclasses := sub, abstract := ab, collection := col, hasDel := false } := by unfold clsIn; rw [hC] <;> rfl
    have I2 : InstAt h1 e (PySem.HandSPX.excO C t0) C none := ⟨he2, rfl, rfl, trivial⟩
    have hsi' := hsi
    unfold ks_superIn at hsi'
    rw [hcd'] at hsi'
    refine kxs_getMethod kxs_ValueError e1 (looks_opaque X2 ho) ((looks_clsIn X2 hcd').andThen .now) rfl X2 hsi' (I2.type.andThen (looks_subIn X2 hB)) heC (by decide) ?_
    have k2 : ∀ b o, h1.get? b = some o → (h1.push (kxs_mw "ValueError.__init__" e)).get? b = some o := fun b o z => Heap.get?_push_of_some _ z
    have hu := Heap.get?_push_size h1 (o := kxs_mw "ValueError.__init__" e) rfl
    have hns2 : (h1.push (kxs_mw "ValueError.__init__" e)).Ns (callEnv (ksFn name qual params (tiBody p0 p1 p2 p3 p4 p5 p6 p7 p8 p9) tiScope dV kV doc pm an (.ref cda) ct cc) hh.objs.size f).locals (fun x => [(("self" : Str), Value.ref e), ("value", u)].reverse.lookup x) := (hns.keeps k1).keeps k2
    refine kxs_callWith (i := "ValueError.__init__") (x := e) rfl ?_
    refine Calls.evalArgs_plain ?_
    show wpAny _ _ (spliced ((false, eval (.Name "value" p3) _) :: backTo p4 (starEach [] _))) _ _ _
    refine Calls.spliced_cons (PySem.ESX.ldL hns2 rfl ?_ rfl rfl)
    refine Calls.spliced_nil ⟨hu, ?_⟩
    have X3 : K.In (h1.push (kxs_mw "ValueError.__init__" e)) := X2.keeps k2
    have he3 := k2 _ _ he2
    refine wpAny_call (codeAny_of_tree ?_)
    show wpAny _ _ (callAny (.ref h1.objs.size) ⟨[u], []⟩) _ _ _
    simp only [callAny]
    refine wpAny_bind (wpAny_load hu ?_)
    simp only [kxs_mw, show (Value.type "method-wrapper" == Value.type "method" || Value.type "method-wrapper" == Value.type "builtin_function_or_method" || Value.type "method-wrapper" == Value.type "method-wrapper") = true by decide, if_true]
    refine KFB.if_so (by decide) ?_
    refine wpAny_bind (check_bound_init F.excBase_ValueError.toExcCallFacts (X3 _ _ hC) he3 rfl ?_)
    refine wpAny_bind (wpAny_pure (wpAny_pure ?_))
    refine ⟨plainId_quiet F.excBase_ValueError.init.plain _, codeAny_builtin F.excBase_ValueError.initEntry ?_⟩
    refine exc_init_tree (cls := .ref C) (t0 := t0) (dv := none) (c2 := .none) (c3 := .none) (b4 := .bool false) he3 (by rw [sizeLine_eq]; simp) (fun h3 k3 e3 _ => ?_)
    have kk : ∀ b o, b ≠ e → hh.get? b = some o → h3.get? b = some o := fun b o hb z => k3 b o hb (k2 _ _ (k1 _ _ (hk₀ _ _ z)))
    have hLe : hh.objs.size ≠ e := fun z => Nat.lt_irrefl _ (by have := Heap.lt_size he; rw [← z] at this; exact this)
    have hns3 : h3.Ns hh.objs.size (fun x => [(("self" : Str), Value.ref e), ("value", u)].reverse.lookup x) := by
      obtain ⟨oL, es, ep, hL, r⟩ := hns2
      exact ⟨oL, es, ep, k3 _ _ hLe hL, r⟩
    have X4 : K.In h3 := fun b o z => by
      refine k3 b o (fun y => ?_) (X3 b o z)
      subst y
      exact hKe _ z
    refine ks_wpAt_execs_cons (ks_wpAt_Assign_Attr ?_ ?_)
    · refine wpAt_of_wpAny (PySem.ESX.ldL hns3 rfl ?_ rfl rfl)
      refine PySem.ESX.ldL hns3 rfl ?_ rfl rfl
      refine set_plain X4 (ox := { cls := .ref C, dict := none, data := .fields #[.ref _, .none, .none, .none, .bool false, .none] }) (od := none) ⟨e3, rfl, rfl, trivial⟩ hsa ?_
      refine PySem.HandSPX.exc_osa X4 e3 hcd' hbm rfl hno (fun h4 tk' dx k4 dn dne hx hn => ?_)
      show PySem.wpAt _ _ _ (execs [] _) _ _ _
      refine wpAt_of_wpAny (wpAny_pure ?_)
      obtain ⟨oL, es, ep, hL, r⟩ := hns3
      have lt := Heap.lt_size hL
      exact hR h4 _ dx tk' (fun b o hb z => k4 b o hb (kk b o hb z)) (by
        have dn : h3.objs.size ≤ dx := dn
        have lt : hh.objs.size < h3.objs.size := lt
        show hh.objs.size ≤ dx
        omega) dne hx hn
    · rfl
end
end TL

namespace TL
open PySem PySem.Spec PyProof.Rows L2
/-- what __init__ of an own exception keeps -/
def spXI (C : Addr) : Sp := fun vs H Q _ => ∃ (e : Addr) (y : V), vs = [.ref e, y] ∧ H e = some (exo e C none) ∧ ∀ dx, H dx = none → dx ≠ e → Q .non (upd (upd H dx (exd dx [(("value" : Str), y)])) e (exo e C (some dx)))
section
variable {P : Program} {w : World} {K : PySem.W.Frag} {mg : Str → Option Value} {base : Heap} {CX : CXT}
variable {name qual : Str} {params : Arguments} {dV kV doc pm ct oc : Value} {an od : Option Addr} {osl : Array (Option Value)} {f cc cda C D : Addr}
variable {p0 p1 p2 p3 p4 p5 p6 p7 p8 p9 : Pos}
theorem init_fn {ar : Arg} {vs : Array Value} {file : Str} {tf : Tok} {ccl cl : Value} {cdd cld : Option Addr} {ccs csl : Array (Option Value)} {cdD : ClassData} {k : Nat}
    (T : OexC K C) (hm : mg "super" = none)
    (lk : K.lookup f = some ⟨oc, od, .func (PySem.W.ksFn name qual params (tiBody p0 p1 p2 p3 p4 p5 p6 p7 p8 p9) tiScope dV kV doc pm an (.ref cda) ct cc), osl⟩) (hcd : PySem.W.codeIn K (.ref cda) qual = true)
    (hp : (params.posonlyargs ++ params.args).head? = some ar) (har : ar.arg = "self")
    (hcode : K.lookup cda = some ⟨ccl, cdd, .fields vs, ccs⟩) (hvs : vs[2]? = some (.str file tf)) (hfile : ((P.main.file : Str) == file) = true) (htop : (P.main.scope.names.lookup ("super" : Str)).isSome = false)
    (hcl : K.lookup cc = some ⟨cl, cld, .cell (some (.ref D)), csl⟩) (hD : PySem.W.clsIn K D = some cdD) (hsub : PySem.W.mroIn K C (.ref D) = some true)
    (ho : PySem.W.nsIn K cStatics "thirdparty.any" = some none) (hsi : PySem.W.ks_superIn K C D "__init__" = some (some (.builtin "ValueError.__init__"))) (hB : PySem.W.subIn K (.ref C) (.type "ValueError") = some true)
    (hno : PySem.W.findIn K (.ref C) "value" = some none) (hboot : bootBuiltins "super" = some (.type "super"))
    {pl : Addr → Sem Bool} (hev : ∀ L : Addr, eval (.Call (.Attribute (.Call (.Name "super" p0) [] [] p1) "__init__" p2) [.Name "value" p3] [] p4) (callEnv (PySem.W.ksFn name qual params (tiBody p0 p1 p2 p3 p4 p5 p6 p7 p8 p9) tiScope dV kV doc pm an (.ref cda) ct cc) L f) = (do
      let ov ← attributeBase (.Call (.Name "super" p0) [] [] p1) "__init__" (callEnv (PySem.W.ksFn name qual params (tiBody p0 p1 p2 p3 p4 p5 p6 p7 p8 p9) tiScope dV kV doc pm an (.ref cda) ct cc) L f) (eval (.Call (.Name "super" p0) [] [] p1) (callEnv (PySem.W.ksFn name qual params (tiBody p0 p1 p2 p3 p4 p5 p6 p7 p8 p9) tiScope dV kV doc pm an (.ref cda) ct cc) L f))
      standAt p2.atName
      let (fn, first) ← holding [ov] (getMethod ov "__init__" (pl L))
      callWith p4 fn first (backTo p4 (starEach [.Name "value" p3] (callEnv (PySem.W.ksFn name qual params (tiBody p0 p1 p2 p3 p4 p5 p6 p7 p8 p9) tiScope dV kV doc pm an (.ref cda) ct cc) L f))) [])) :
    FnOk P w K mg base CX (k + 1) f (PySem.W.ksFn name qual params (tiBody p0 p1 p2 p3 p4 p5 p6 p7 p8 p9) tiScope dV kV doc pm an (.ref cda) ct cc) ["self", "value"] (spXI C) where
  len := fun vs H Q E ⟨e, y, h, _⟩ => by rw [h]; rfl
  run := fun A outer s H args us vs Q E hr e0 hb hv hs => by
    obtain ⟨e, y, rfl, he, hq⟩ := hs
    cases hv with
    | @cons _ u0 _ us' r0 hv' =>
    cases hv' with
    | @cons _ u _ us'' r1 hv'' =>
    cases hv''
    obtain rfl : u0 = Value.ref e := r0
    obtain ⟨nm, q, N, bs, bm, sn, sub, ab, col, dd, k0, k1, k2, k3, k5, hC, hbm⟩ := T.cls
    obtain ⟨t1, hoe⟩ := exo_at e0.hok he
    have keep : ∀ b o, base.get? b = some o → s.heap.get? b = some o := fun b o z => (e0.bs b o z).1
    have X : K.In s.heap := e0.mod.kin.keeps keep
    obtain ⟨mb, hmb, hbb⟩ := e0.mod.blt
    have nK : ∀ o, K.lookup e ≠ some o := fun o z => by
      have := (e0.bs _ _ (e0.mod.kin _ _ z)).2
      rw [he] at this
      cases this
    have neC : e ≠ C := fun z => nK _ (z ▸ hC)
    refine tinit_raw (t0 := t1) X (e0.mod.glob.keeps keep) (hmb.keeps keep) ((hbb "super" (by decide)).trans hboot) hm (e0.mod.nolimit.keeps keep) hr.depth lk hcd hp har hb hcode hvs hfile htop hcl hD hsub hC hbm ho hsi hB T.sa hno hoe neC nK hev fun h' t2 dx tk' kk dn dne hx hn => ?_
    obtain ⟨hh, g, d, t, os⟩ := s
    have hnd : H dx = none := e0.hok.fresh dn
    have nd : ∀ {b : Addr} {o : Obj}, hh.get? b = some o → b ≠ dx := fun {b o} q => Nat.ne_of_lt (Nat.lt_of_lt_of_le (Heap.lt_size q) dn)
    have na : ∀ {b : Addr}, H b = none → b ≠ e := fun {b} n z => by
      rw [z, he] at n
      cases n
    refine ⟨.non, _, rfl, e0.bare, ?_, fun b o q => ?_, rfl, hq dx hnd dne⟩
    · exact {
        keep := fun b o q n _ _ => kk b o (na n) q
        slot := fun b o q n _ _ => ⟨o.slots, kk b o (na n) q⟩
        free := fun b o q n _ => by rw [upd_ne (na n), upd_ne (nd q)]; exact n
        there := fun b o q _ => by
          by_cases hb : b = e
          · exact ⟨_, by rw [hb]; exact hx⟩
          · exact ⟨o, kk b o hb q⟩
        tups := fun b xs q => by rw [upd_ne (at_ne he q exo_tup), upd_ne (ne_of_none q hnd)]; exact q
        frzs := fun b o v q => by rw [upd_ne (at_ne he q exo_frz), upd_ne (ne_of_none q hnd)]; exact q
        tbls := fun b ps q => ⟨#[], by rw [upd_ne (at_ne he q exo_tbl), upd_ne (ne_of_none q hnd), q]; simp⟩ }
    · by_cases hb : b = e
      · subst hb
        rw [upd_same] at q
        cases q
        exact exo_ok hx
      · rw [upd_ne hb] at q
        by_cases hd : b = dx
        · subst hd
          rw [upd_same] at q
          cases q
          exact exd_ok hn (relO_put (fs := []) r1 fun g => True.intro)
        · rw [upd_ne hd] at q
          exact (e0.hok b o q).stay (fun c v hc z => kk c v (by
              rcases hc with hc | hc
              · rw [hc]
                exact hb
              · exact at_ne he hc exo_own) z)
            (fun c hc => by rw [upd_ne (at_ne he hc exo_own), upd_ne (ne_of_none hc hnd)]; exact hc) (fun c xs hc => by rw [upd_ne (at_ne he hc exo_tup), upd_ne (ne_of_none hc hnd)]; exact hc)
end
end TL

namespace TL
open PySem PySem.Spec PyProof.Rows L2
/-! ### own exception classes, told by the head -/
/-- a class over ValueError, others of the program's between -/
def excCB (K : PySem.W.Frag) (C : Addr) : Bool := match K.lookup C with
  | some ⟨.type "type", _, .cls cd, sl⟩ => (match cd.mro, sl.toList with
    | .ref C' :: bm, [_, _, _, _, some (.builtin n), _] => C' == C && n == "ValueError.__new__" && !cd.hasDel && cd.hasDict && PySem.HandSPX.refsVE bm
    | _, _ => false)
  | _ => false
theorem excCB_ok {K : PySem.W.Frag} {C : Addr} (q : excCB K C = true) : ∃ nm q N bs bm sn sub ab col dd k0 k1 k2 k3 k5, K.lookup C = some (excClassObj nm q C N bs bm true sn sub ab col dd k0 k1 k2 k3 k5 "ValueError.__new__") ∧ PySem.HandSPX.refsVE bm = true := by
  unfold excCB at q
  split at q
  · rename_i dd cd sl ho
    split at q
    · rename_i C' bm k0 k1 k2 k3 n k5 hm hs
      simp only [Bool.and_eq_true, beq_iff_eq, Bool.not_eq_true'] at q
      obtain ⟨⟨⟨⟨rfl, rfl⟩, hdel⟩, hd⟩, ht⟩ := q
      obtain ⟨nm, bs, mro, ns, qn, hd', sn, sub, ab, col, del⟩ := cd
      dsimp only at hm hdel hd
      subst hm hdel hd
      have hsl : sl = #[k0, k1, k2, k3, some (.builtin "ValueError.__new__"), k5] := by
        obtain ⟨l⟩ := sl
        simp only at hs
        rw [hs]
      subst hsl
      exact ⟨nm, qn, ns, bs, bm, sn, sub, ab, col, dd, k0, k1, k2, k3, k5, ho, ht⟩
    · cases q
  · cases q
abbrev XW : Type := Option (Str × Str × Arguments × FuncBody × Scope × Addr × List Str × Addr) × Bool
def xFn (K : PySem.W.Frag) (x : Str) : Option FuncData := match K.lookup (He.fAd K (x, some "__init__")) with
  | some ⟨_, _, .func fd, _⟩ => some fd
  | _ => none
def xCode (K : PySem.W.Frag) (file : Str) : Value → Bool
  | .ref c => (match K.lookup c with
    | some ⟨_, _, .fields vs, _⟩ => (match vs[2]? with
      | some (Value.str f _) => file == f
      | _ => false)
    | _ => false)
  | _ => false
def xCell (K : PySem.W.Frag) (C : Addr) : List (Str × Addr) → Bool
  | [(_, cc)] => (match K.lookup cc with
    | some ⟨_, _, .cell (some (.ref D)), _⟩ => D == C
    | _ => false)
  | _ => false
def xB (K : PySem.W.Frag) (file : Str) (x : Str) : Bool :=
  (excCB K (He.ga K x) && (He.eqO (PySem.W.nsIn K mainGlobals x) (some (some (.ref (He.ga K x)))) && (He.eqO (PySem.W.findIn K (.ref (He.ga K x)) "__init__") (some (some (.ref (He.fAd K (x, some "__init__"))))) &&
  (decide (PySem.W.typeIn K (.ref (He.fAd K (x, some "__init__"))) = some (.type "function")) && (PySem.W.keepIn K (.ref (He.ga K x)) && (decide (PySem.W.subIn K (.ref (He.ga K x)) (.type "BaseException") = some true) &&
  (decide (PySem.W.typeIn K (.ref (He.ga K x)) = some (.type "type")) && (He.eqO (PySem.W.findIn K (.ref (He.ga K x)) "__setattr__") (some (some (.builtin "object.__setattr__"))) && (He.eqO (PySem.W.findIn K (.ref (He.ga K x)) "value") (some none) &&
  (decide (PySem.W.subIn K (.ref (He.ga K x)) (.type "ValueError") = some true) && (He.eqO (PySem.W.nsIn K cStatics "thirdparty.any") (some none) && (decide (PySem.W.mroIn K (He.ga K x) (.ref (He.ga K x)) = some true) &&
  (He.eqO (PySem.W.ks_superIn K (He.ga K x) (He.ga K x) "__init__") (some (some (.builtin "ValueError.__init__"))) && (He.eqO (PySem.W.nsIn K mainGlobals "super") (some none) &&
  (match xFn K x with
    | some fd => xCell K (He.ga K x) fd.closure && (xCode K file fd.code && (PySem.W.codeIn K fd.code fd.qualname && He.dflB K fd.defaults [.non]))
    | none => false)))))))))))))))
def xW (K : PySem.W.Frag) (file : Str) (x : Str) : XW := ((xFn K x).map fun fd => (fd.name, fd.qualname, fd.params, fd.body, fd.scope, fd.globals, fd.closure.map (·.1), fd.builtins), xB K file x)
/-- a class's __init__, as the text has it -/
structure XcD where
  x : Str
  qual : Str
  params : Arguments
  body : List Stmt
def XcD.val (d : XcD) : XW := (some ("__init__", d.qual, d.params, .stmts d.body, tiScope, mainGlobals, ["__class__"], builtinsNs), true)
/-- what is known of such a class -/
structure XcF (K : PySem.W.Frag) (mg : Str → Option Value) (file : Str) (d : XcD) (C fI : Addr) (fd : FuncData) : Prop where
  g : mg d.x = some (.ref C)
  T : OexC K C
  iC : PySem.W.findIn K (.ref C) "__init__" = some (some (.ref fI))
  tI : PySem.W.typeIn K (.ref fI) = some (.type "function")
  no : PySem.W.findIn K (.ref C) "value" = some none
  vE : PySem.W.subIn K (.ref C) (.type "ValueError") = some true
  op : PySem.W.nsIn K cStatics "thirdparty.any" = some none
  mr : PySem.W.mroIn K C (.ref C) = some true
  si : PySem.W.ks_superIn K C C "__init__" = some (some (.builtin "ValueError.__init__"))
  su : mg "super" = none
  ex : ∃ (oc : Value) (od : Option Addr) (dV kV doc pm : Value) (an : Option Addr) (cda cc : Addr) (ct : Value) (osl : Array (Option Value)) (ccl cl : Value) (cdd cld : Option Addr) (vs : Array Value) (ccs csl : Array (Option Value)) (f : Str) (tf : Tok),
    fd = { name := "__init__", qualname := d.qual, params := d.params, body := .stmts d.body, scope := tiScope, globals := mainGlobals, closure := [("__class__", cc)], defaults := dV, kwdefaults := kV, doc := doc, pyModule := pm, annotations := an, code := .ref cda, closureTuple := ct, builtins := builtinsNs } ∧
    K.lookup fI = some ⟨oc, od, .func fd, osl⟩ ∧ PySem.W.codeIn K (.ref cda) d.qual = true ∧ DflV K dV [.non] ∧ K.lookup cda = some ⟨ccl, cdd, .fields vs, ccs⟩ ∧ vs[2]? = some (.str f tf) ∧ (file == f) = true ∧
    K.lookup cc = some ⟨cl, cld, .cell (some (.ref C)), csl⟩
theorem xW_ok {K : PySem.W.Frag} {h : Heap} {mg : Str → Option Value} {file : Str} {d : XcD} (X : K.In h) (G : h.Ns mainGlobals mg) (e : xW K file d.x = d.val) : ∃ fI fd, XcF K mg file d (He.ga K d.x) fI fd := by
  have e1 : (xFn K d.x).map (fun fd => (fd.name, fd.qualname, fd.params, fd.body, fd.scope, fd.globals, fd.closure.map (·.1), fd.builtins)) = (some (("__init__" : Str), d.qual, d.params, FuncBody.stmts d.body, tiScope, mainGlobals, [("__class__" : Str)], builtinsNs) : Option (Str × Str × Arguments × FuncBody × Scope × Addr × List Str × Addr)) := congrArg (·.1) e
  have e2 : xB K file d.x = true := congrArg (·.2) e
  unfold xB at e2
  simp only [Bool.and_eq_true, decide_eq_true_eq] at e2
  obtain ⟨c1, c2, c3, c4, c5, c6, c7, c8, c9, c10, c11, c12, c13, c14, c15⟩ := e2
  cases q : xFn K d.x with
  | none => rw [q] at e1; cases e1
  | some fd =>
    rw [q] at e1 c15
    simp only [Bool.and_eq_true] at c15
    obtain ⟨b1, b2, b3, b4⟩ := c15
    obtain ⟨oc, od, osl, lk⟩ : ∃ oc od osl, K.lookup (He.fAd K (d.x, some "__init__")) = some ⟨oc, od, .func fd, osl⟩ := by
      unfold xFn at q
      split at q
      · rename_i oc od fd' osl ho
        cases q
        exact ⟨oc, od, osl, ho⟩
      · cases q
    obtain ⟨n1, n2, n3, n4, n5, n6, n7, n8, n9, n10, n11, n12, n13, n14, n15⟩ := fd
    simp only [Option.map_some, Option.some.injEq, Prod.mk.injEq] at e1
    obtain ⟨rfl, rfl, rfl, rfl, rfl, rfl, e7, rfl⟩ := e1
    have hc : ∃ cc : Addr, n7 = [(("__class__" : Str), cc)] := by
      cases n7 with
      | nil => cases e7
      | cons p l =>
        cases l with
        | nil =>
          obtain ⟨a, b⟩ := p
          have : a = "__class__" := by simpa using e7
          exact ⟨b, by rw [this]⟩
        | cons _ _ => simp at e7
    obtain ⟨cc, rfl⟩ := hc
    have hcell : ∃ cl cld csl, K.lookup cc = some ⟨cl, cld, .cell (some (.ref (He.ga K d.x))), csl⟩ := by
      have b1 : xCell K (He.ga K d.x) [("__class__", cc)] = true := b1
      unfold xCell at b1
      simp only at b1
      split at b1
      · rename_i cl cld D csl ho
        have : D = He.ga K d.x := by simpa using b1
        rw [this] at ho
        exact ⟨cl, cld, csl, ho⟩
      · cases b1
    have hcode : ∃ cda ccl cdd vs ccs f tf, n13 = .ref cda ∧ K.lookup cda = some ⟨ccl, cdd, .fields vs, ccs⟩ ∧ vs[2]? = some (.str f tf) ∧ (file == f) = true := by
      have b2 : xCode K file n13 = true := b2
      cases n13 with
      | ref cda =>
        unfold xCode at b2
        simp only at b2
        split at b2
        · rename_i ccl cdd vs ccs ho
          split at b2
          · rename_i f tf hf
            exact ⟨cda, ccl, cdd, vs, ccs, f, tf, rfl, ho, hf, b2⟩
          · cases b2
        · cases b2
      | _ => cases b2
    obtain ⟨cl, cld, csl, hcl⟩ := hcell
    obtain ⟨cda, ccl, cdd, vs, ccs, f, tf, rfl, h1, h2, h3⟩ := hcode
    obtain ⟨nm, qn, N, bs, bm, sn, sub, ab, col, dd, k0, k1, k2, k3, k5, hC, hbm⟩ := excCB_ok c1
    exact ⟨_, _, ⟨PySem.W.mg_of X G (He.eqO_ok c2), ⟨⟨nm, qn, N, bs, bm, sn, sub, ab, col, dd, k0, k1, k2, k3, k5, hC, hbm⟩, He.eqO_ok c8, c6, c7, c5⟩, He.eqO_ok c3, c4, He.eqO_ok c9, c10, He.eqO_ok c11, c12, He.eqO_ok c13, PySem.W.mg_none_of X G (He.eqO_ok c14),
      ⟨oc, od, n8, n9, n10, n11, n12, cda, cc, n14, osl, ccl, cl, cdd, cld, vs, ccs, csl, f, tf, rfl, lk, b3, He.dflB_ok b4, h1, h2, h3, hcl⟩⟩⟩
end TL

namespace TL
open PySem PySem.Spec PyProof.Rows L2
abbrev tiParams (q0 q1 q2 : Pos) : Arguments := { posonlyargs := [], args := [{ arg := "self", annotation := none, pos := q0 }, { arg := "value", annotation := none, pos := q1 }], vararg := none, kwonlyargs := [], kw_defaults := [], kwarg := none, defaults := [(Expr.Constant Const.none 0 q2)] }
abbrev tiFn (qual : Str) (params : Arguments) (body : List Stmt) (dV kV doc pm : Value) (an : Option Addr) (cda cc : Addr) (ct : Value) : FuncData := { name := "__init__", qualname := qual, params := params, body := .stmts body, scope := tiScope, globals := mainGlobals, closure := [("__class__", cc)], defaults := dV, kwdefaults := kV, doc := doc, pyModule := pm, annotations := an, code := .ref cda, closureTuple := ct, builtins := builtinsNs }
section
variable {P : Program} {w : World} {K : PySem.W.Frag} {mg : Str → Option Value} {base : Heap} {CX : CXT} {file x qual : Str} {C fI : Addr} {fd : FuncData} {q0 q1 q2 p0 p1 p2 p3 p4 p5 p6 p7 p8 p9 : Pos}
theorem XcF.binds (F : XcF K mg file ⟨x, qual, tiParams q0 q1 q2, tiBody p0 p1 p2 p3 p4 p5 p6 p7 p8 p9⟩ C fI fd) : Binds K fd ["self", "value"] [] := by
  obtain ⟨oc, od, dV, kV, doc, pm, an, cda, cc, ct, osl, ccl, cl, cdd, cld, vs, ccs, csl, f, tf, rfl, lk, hcd, hD, hcode, hvs, hfile, hcl⟩ := F.ex
  rcases hD with ⟨e, _⟩ | ⟨_, T, o, its, m, rfl, lT, oT, rT⟩
  · cases e
  · intro s us X hlen
    match us, hlen with
    | [u1, u2], _ =>
      have l1 : its.length = 1 := rT.length.symm
      match its, l1 with
      | [i1], _ =>
        refine BindsTo.of_looks fun M => ?_
        exact looks_items X lT oT (.of_pure rfl)
theorem XcF.init {k : Nat} (F : XcF K mg file ⟨x, qual, tiParams q0 q1 q2, tiBody p0 p1 p2 p3 p4 p5 p6 p7 p8 p9⟩ C fI fd) (hf : (P.main.file : Str) = file) (htop : (P.main.scope.names.lookup ("super" : Str)).isSome = false)
    (hev : ∀ (dV kV doc pm ct : Value) (an : Option Addr) (cda cc L f : Addr), ∃ pl, eval (.Call (.Attribute (.Call (.Name "super" p0) [] [] p1) "__init__" p2) [.Name "value" p3] [] p4) (callEnv (tiFn qual (tiParams q0 q1 q2) (tiBody p0 p1 p2 p3 p4 p5 p6 p7 p8 p9) dV kV doc pm an cda cc ct) L f) = (do
      let ov ← attributeBase (.Call (.Name "super" p0) [] [] p1) "__init__" (callEnv (tiFn qual (tiParams q0 q1 q2) (tiBody p0 p1 p2 p3 p4 p5 p6 p7 p8 p9) dV kV doc pm an cda cc ct) L f) (eval (.Call (.Name "super" p0) [] [] p1) (callEnv (tiFn qual (tiParams q0 q1 q2) (tiBody p0 p1 p2 p3 p4 p5 p6 p7 p8 p9) dV kV doc pm an cda cc ct) L f))
      standAt p2.atName
      let (fn, first) ← holding [ov] (getMethod ov "__init__" pl)
      callWith p4 fn first (backTo p4 (starEach [.Name "value" p3] (callEnv (tiFn qual (tiParams q0 q1 q2) (tiBody p0 p1 p2 p3 p4 p5 p6 p7 p8 p9) dV kV doc pm an cda cc ct) L f))) [])) :
    FnOk P w K mg base CX (k + 1) fI fd ["self", "value"] (spXI C) := by
  obtain ⟨oc, od, dV, kV, doc, pm, an, cda, cc, ct, osl, ccl, cl, cdd, cld, vs, ccs, csl, f, tf, rfl, lk, hcd, hD, hcode, hvs, hfile, hcl⟩ := F.ex
  obtain ⟨nm, q, N, bs, bm, sn, sub, ab, col, dd, k0, k1, k2, k3, k5, hC, hbm⟩ := F.T.cls
  have hcl2 : ∃ cd, PySem.W.clsIn K C = some cd := by
    unfold PySem.W.clsIn
    rw [hC]
    exact ⟨_, rfl⟩
  obtain ⟨cd, hD2⟩ := hcl2
  have hev2 : ∃ pl : Addr → Sem Bool, ∀ L : Addr, eval (.Call (.Attribute (.Call (.Name "super" p0) [] [] p1) "__init__" p2) [.Name "value" p3] [] p4) (callEnv (PySem.W.ksFn "__init__" qual (tiParams q0 q1 q2) (tiBody p0 p1 p2 p3 p4 p5 p6 p7 p8 p9) tiScope dV kV doc pm an (.ref cda) ct cc) L fI) = (do
      let ov ← attributeBase (.Call (.Name "super" p0) [] [] p1) "__init__" (callEnv (PySem.W.ksFn "__init__" qual (tiParams q0 q1 q2) (tiBody p0 p1 p2 p3 p4 p5 p6 p7 p8 p9) tiScope dV kV doc pm an (.ref cda) ct cc) L fI) (eval (.Call (.Name "super" p0) [] [] p1) (callEnv (PySem.W.ksFn "__init__" qual (tiParams q0 q1 q2) (tiBody p0 p1 p2 p3 p4 p5 p6 p7 p8 p9) tiScope dV kV doc pm an (.ref cda) ct cc) L fI))
      standAt p2.atName
      let (fn, first) ← holding [ov] (getMethod ov "__init__" (pl L))
      callWith p4 fn first (backTo p4 (starEach [.Name "value" p3] (callEnv (PySem.W.ksFn "__init__" qual (tiParams q0 q1 q2) (tiBody p0 p1 p2 p3 p4 p5 p6 p7 p8 p9) tiScope dV kV doc pm an (.ref cda) ct cc) L fI))) []) :=
    ⟨fun L => Classical.choose (hev dV kV doc pm ct an cda cc L fI), fun L => Classical.choose_spec (hev dV kV doc pm ct an cda cc L fI)⟩
  obtain ⟨pl, hev2⟩ := hev2
  exact init_fn (D := C) (ar := { arg := "self", annotation := none, pos := q0 }) F.T F.su lk hcd rfl rfl hcode hvs (by rw [hf]; exact hfile) htop hcl hD2 F.mr F.op F.si F.vE F.no (by first | rfl | kernel_rfl | decide +kernel) hev2
end
end TL

namespace TL
open PySem PySem.Spec PyProof.Rows L2
/-! ### blocks that raise: the value of the error is what a return would tell -/
/-- what is wished of the error: x its value -/
def RW (C : Addr) (E : XK) : VK := fun x H => ∀ d, H d = none → E (.ref C) (some d) (upd H d (.xd [(("value" : Str), x)]))
/-- f ends by its .rt, and that is the error -/
def tIR (K : PySem.W.Frag) (C : Addr) (E : XK) (f : FS) : TS := fun _ σ H => ∃ F r h r', Rel K F r σ H ∧ f r = some (.rt h r') ∧ ∀ v σ' F' H', Rel K F' r' σ' H' → Stp r σ F H r' σ' F' H' → HdRep F' r' σ' H' h v → NewAt (Fsh r σ H) H' h v → RW C E v H'
abbrev SR (X : Cx) (C : Addr) (E : XK) (b : List Stmt) (f : FS) : Prop := PSs X b (tIR X.K C E f)
section
variable {X : Cx} {C fI : Addr} {E : XK} {fd : FuncData} {x : Str} {e : Expr} {rest b a : List Stmt} {st : Stmt} {fe : FE} {f g : FS} {c : Expr} {t : FT} {k : Nat} {p pos p' : Pos} {CX : CXT}
/-- raise C(e) -/
theorem sr_raise (T : OexC X.K C) (iC : PySem.W.findIn X.K (.ref C) "__init__" = some (some (.ref fI))) (tI' : PySem.W.typeIn X.K (.ref fI) = some (.type "function")) (F1 : FnOk X.prog X.w X.K X.mg X.base CX0 k fI fd ["self", "value"] (spXI C)) (hr : Room (k + 1) X.A)
    (hb : Binds X.K fd ["self", "value"] []) (hg : Gl X x) (hm : X.mg x = some (.ref C)) (hc : X.calm = true) (tk : Takes X (fun cls d _ H => E cls d H)) (he : SE X e fe)
    (hdb : (x == ("__debug__" : Str)) = false := by decide) (hs : starEach [e] X.env = (false, eval e X.env) :: starEach [] X.env := by rfl) (hpl : (backTo pos (starEach [] X.env)).any (·.1) = false := by rfl) :
    SR X C E (.Raise (some (.Call (.Name x p) [e] [] pos)) none p' :: rest) (fRet fe) := by
  refine PSsimp (pss_cons (ps_raise hc tk (pmk_oex T iC tI' F1 hr hb .nil (fun _ _ _ _ _ _ _ z => (show False from z).elim) hg hm (pa_cons he pa_nil hs) hdb hs hpl)) pss_never) ?_
  rintro D σ H ⟨F, r, h, r', R, e1, kk⟩
  simp only [fRet, Option.map_eq_some_iff] at e1
  obtain ⟨⟨h1, r1⟩, e1, e2⟩ := e1
  cases e2
  show tMkO C (spXI C) [] (tCons (tI X.K fe) tNil) σ H (fun cls d H' => E cls d H')
  refine ⟨F, r, _, _, R, e1, fun v F' H' R' S' q n => ?_⟩
  refine ⟨by simp, fun a' ha => ⟨a', v, rfl, upd_same, fun dx hdx ne => ⟨rfl, dx, [(("value" : Str), v)], upd_same, by rw [upd_ne ne, upd_same], by rwa [upd_ne ne] at hdx, ?_⟩⟩⟩
  have hdx' : H' dx = none := by rwa [upd_ne ne] at hdx
  have := kk v σ F' H' R' S' q n dx hdx'
  have eH : upd (del (upd (upd (upd H' a' (exo a' C none)) dx (exd dx [(("value" : Str), v)])) a' (exo a' C (some dx))) a') dx (.xd [(("value" : Str), v)]) = upd H' dx (.xd [(("value" : Str), v)]) := by
    funext b
    by_cases h1 : b = dx
    · rw [h1, upd_same, upd_same]
    · rw [upd_ne h1, upd_ne h1]
      by_cases h2 : b = a'
      · rw [h2, del_same, ha]
      · rw [del_ne h2, upd_ne h2, upd_ne h1, upd_ne h2]
  rw [eH]
  exact this
/-- s, then a block that raises -/
def fSeqN (f g : FS) : FS := fun r => (f r).bind fun o => match o with
  | .nx r' => g r'
  | _ => none
theorem sr_seq (h : SS X st f) (t : SR X C E rest g) : SR X C E (st :: rest) (fSeqN f g) := PSsimp (pss_cons h t) fun D σ H ⟨F, r, hh, r', R, e, kk⟩ => by
  simp only [fSeqN, Option.bind_eq_some_iff] at e
  obtain ⟨o, e1, e2⟩ := e
  cases o with
  | nx r1 => exact ⟨F, r, .nx r1, R, e1, fun σ' F' H' R' S' => ⟨F', r1, hh, r', R', e2, fun v σ2 F2 H2 R2 S2 q n => kk v σ2 F2 H2 R2 (S'.trans S2) q (n.back S')⟩⟩
  | rt _ _ => cases e2
  | bk _ => cases e2
  | ct _ => cases e2
/-- if c: a block that raises -/
def fIfT (c : FT) (f : FS) : FS := fun r => (c r).bind fun p => if p.1 = true then f p.2 else none
theorem sr_if (hc : ST X c t) (ha : SR X C E a f) : SR X C E (.If c a b pos :: rest) (fIfT t f) := PSsimp (pss_cons (ps_if hc ha (pss_never (sts := b))) pss_never) fun D σ H ⟨F, r, hh, r', R, e, kk⟩ => by
  simp only [fIfT, Option.bind_eq_some_iff] at e
  obtain ⟨⟨v, r1⟩, e1, e2⟩ := e
  refine ⟨F, r, v, r1, R, e1, fun F' H' R' S' => ?_⟩
  cases v with
  | false => cases e2
  | true => exact ⟨F', r1, hh, r', R', e2, fun v σ2 F2 H2 R2 S2 q n => kk v σ2 F2 H2 R2 (S'.trans S2) q (n.back S')⟩
end
/-- a def that raises: m tells the value -/
def spR (K : PySem.W.Frag) (C : Addr) (m : FE) : Sp := fun vs H _ E => spI K m vs H (RW C E) E
section
variable {X : Cx} {C : Addr} {E : XK} {fd : FuncData} {x : Str} {e : Expr} {es : List Expr} {rest : List Stmt} {fa : FA} {m : FE} {k : Nat} {f : Addr} {ps : List Str} {p pos p' : Pos}
/-- f(e, ..), which raises, as a statement -/
theorem sr_call (G : FnG X.prog X.w X.K X.mg X.base (L2.CX X.prog X.w) k f fd ps (spR X.K C m)) (hr : RoomG k X.A) (hg : Gl X x) (hm : X.mg x = some (.ref f)) (kp : PySem.W.keepIn X.K (.ref f) = true) (hb : Binds X.K fd ps []) (tk : Takes X (fun cls d _ H => E cls d H)) (ha : SA X (e :: es) fa)
    (db : (x == ("__debug__" : Str)) = false := by decide) (st : starEach (e :: es) X.env = (false, eval e X.env) :: starEach es X.env := by rfl) (pl : (backTo pos (starEach es X.env)).any (·.1) = false := by rfl)
    (hs : swapsWith (.Call (.Name x p) (e :: es) [] pos) none p'.line X.env = pure false := by rfl) :
    SR X C E (.Expr (.Call (.Name x p) (e :: es) [] pos) p' :: rest) (fRet (sCall m none fa)) := by
  refine PSsimp (pss_cons (ps_expr (pg_call1 G hr hg hm kp hb .nil (passes_call (E := E) tk fun _ _ _ _ h => h) ha db st pl) hs) pss_never) ?_
  rintro D σ H ⟨F, r, h, r', R, e1, kk⟩
  simp only [fRet, Option.map_eq_some_iff] at e1
  obtain ⟨⟨h1, r1⟩, e1, e2⟩ := e1
  cases e2
  exact sCall_ok (E := E) σ H (RW C E) ⟨F, r, _, _, R, e1, fun v F' H' R' S' q n => kk v σ F' H' R' S' q n⟩
end
/-- only what ends by .rt -/
def fOnly (f : FS) : FS := fun r => (f r).bind fun o => match o with
  | .rt h r' => some (.rt h r')
  | _ => none
section
variable {P : Program} {w : World} {K : PySem.W.Frag} {mg : Str → Option Value} {base : Heap}
theorem fn_okR {x qual : Str} {params : Arguments} {body : List Stmt} {scope : Scope} {dvs : List V} {kws : List (Str × V)} {f C : Addr} {fd : FuncData} {N ps : List Str} {k : Nat} {fb : FS} (Fu : FunD K x qual params body scope dvs kws f fd) (S : FnScope N ps scope)
    (hbody : ∀ (cdv : Value) (A : Around) (outer : List Env) (s : Shared) (H : Hp) (E : XK), RoomG k (A.deeper (envOfC qual scope s.heap.objs.size f cdv)) → Takes (cxOf (L2.CX P w) P w K mg base N qual scope f cdv A outer s H E) (fun cls d _ H => E cls d H) →
      SR (cxOf (L2.CX P w) P w K mg base N qual scope f cdv A outer s H E) C E body fb) : FnG P w K mg base (L2.CX P w) (k + 1) f fd ps (spR K C (defM N.length ps.length (fOnly fb))) := by
  obtain ⟨oc, od, dV, kV, doc, pm, an, cdv, ct, osl, rfl, lk, hcd, _, _⟩ := Fu.ex
  refine fnG_of lk hcd S (fun h => spI_len h) fun A outer s H vs Q E hr h => ⟨_, hbody cdv A outer s H E hr (takes_of rfl rfl rfl rfl), ?_⟩
  have rd := def_reads h
  obtain ⟨F, r, o, R, e, post⟩ := rd
  simp only [fOnly, Option.bind_eq_some_iff] at e
  obtain ⟨o1, e1, e2⟩ := e
  cases o1 with
  | rt hh r' =>
    cases e2
    exact ⟨F, r, hh, r', R, e1, fun v σ' F' H' R' S' q n => post v σ' F' H' R' S' q n⟩
  | nx _ => cases e2
  | bk _ => cases e2
  | ct _ => cases e2
end
end TL

namespace TL
open PySem PySem.Spec PyProof.Rows L2
/-! ### try: .., except D as n: m = n -- the error stays behind the suite, tracked -/
section
variable {X : Cx} {ps : List (Addr × Obj)} {σ : L2.St} {H : Hp} {t : Shared}
/-- an object that stands in the heap, not tracked so far, is tracked from now on -/
theorem Inv.trackX {a : Addr} {ob : Obj} {fv : Array Value} {o : HO} (J : Inv X ps σ H t) (ea : t.heap.get? a = some ob) (ed : ob.data = .fields fv) (z0 : X.s_0.heap.get? a = none) (za : H a = none) (zl : a ≠ X.env.locals) (zp : ∀ p ∈ X.pn ++ ps, p.1 ≠ a)
    (ok : ObjOk X.prog X.w (upd H a o) t.heap a o) : Inv X ps σ (upd H a o) t := by
  have other : ∀ {b : Addr} {u : HO}, H b = some u → b ≠ a := fun {b u} e q => by rw [q, za] at e; cases e
  have begun : ∀ {b : Addr} {u : Obj}, X.s_0.heap.get? b = some u → b ≠ a := fun {b u} e q => by rw [q, z0] at e; cases e
  have cellNe : ∀ {x c}, X.env.cells.lookup x = some c → c ≠ a := fun {x c} e q => by
    obtain ⟨v, oc, ho, hd⟩ := J.cell x c e
    rw [q, ea] at ho
    cases ho
    rw [ed] at hd
    cases hd
  refine ⟨J.ok, J.os, J.bare, ?_, J.loc, J.cell, ?_, fun x c e => ?_, fun p hp => ?_, fun b u e => ?_, J.len⟩
  · exact ⟨J.base.keep, J.base.slot, fun b u e n x => (upd_ne (begun e)).trans (J.base.free b u e n x), J.base.there, fun b xs e => (upd_ne (other (J.base.tups b xs e))).trans (J.base.tups b xs e),
      fun b u v e => (upd_ne (other (J.base.frzs b u v e))).trans (J.base.frzs b u v e), fun b xs e => by
        obtain ⟨more, q⟩ := J.base.tbls b xs e
        exact ⟨more, (upd_ne (other q)).trans q⟩⟩
  · rw [upd_ne (Ne.symm zl)]; exact J.free
  · rw [upd_ne (cellNe e)]; exact J.freeC x c e
  · obtain ⟨q1, q2, q3⟩ := J.pin p hp
    exact ⟨q1, (upd_ne (zp p hp)).trans q2, q3⟩
  · by_cases q : b = a
    · subst q
      rw [upd_same] at e
      cases e
      exact ok
    · rw [upd_ne q] at e
      exact (J.hok b u e).stay (fun _ _ _ z => z) (fun c z => (upd_ne (other z)).trans z) fun c xs z => (upd_ne (other z)).trans z
end
theorem ExD.ok {P : Program} {w : World} {H : Hp} {h : Heap} {C d a : Addr} {ob : Obj} {fv : Array Value} (e : h.get? a = some ob) (z : Zc (.ref C) (some d) ob) (q : ob.data = .fields fv) : ObjOk P w H h a (ExD C d a) :=
  ⟨⟨ob, fv, e, z, q⟩, ⟨ob, e⟩, fun _ _ ⟨o', v', g1, g2⟩ k => ⟨o', v', k o' g1, g2⟩⟩
/-- what is wished of the body's error -/
def wKeep (K : PySem.W.Frag) (c : Value) (i : Nat) (tk : Addr → Value → Option Addr → TS) (D : Ends) : WX := fun cls d σ H => ∃ C dd, cls = .ref C ∧ d = some dd ∧ PySem.W.exmOne K (.ref C) c = some true ∧
  ∀ a, H a = none → tk a cls d { nx := fun σ6 H6 => H6 a = none → D.nx (σ6.set i none) (upd H6 a (ExD C dd a)), rt := fun _ _ => False } (σ.set i (some (.ref a))) H
section
variable {X : Cx} {x n : Str} {c : Value} {i : Nat} {body suite : List Stmt} {b0 : Stmt} {q0 q1 q2 : Pos} {tb : WX → TS} {ts : Addr → Value → Option Addr → TS}
theorem ps_kept (st : X.stack = X.env :: X.outer) (fr : X.env.frame = some X.env.locals) (ex0 : X.ex = []) (nd : X.N.Nodup) (ni : X.N[i]? = some n) (kn : X.env.kindOf n = some .local) (nm : Names X x c)
    (bodyOk : ∀ (W : WX) (l : List (Addr × Obj)) (xe : Value → Shared → Prop), Takes (X.tr l xe) W → PSs (X.tr l xe) body (tb W))
    (suiteOk : ∀ (a : Addr) (ob : Obj) (cls : Value) (d : Option Addr) (l : List (Addr × Obj)), Zc cls d ob → (∃ vs, ob.data = .fields vs) → PSs (X.suite a ((a, ob) :: l)) (b0 :: suite) (ts a cls d)) :
    PS X (.Try body [.ExceptHandler (some (.Name x q0)) (some n) (b0 :: suite) q1] [] [] q2) (fun D σ H => tb (wKeep X.K c i ts D) D σ H) := by
  constructor
  intro pp s0 σ0 H0 D I0 wish
  have okX := I0.ok
  have frs0 : X.A.frames = some (X.env :: X.outer) := by
    rw [okX.frames, st]
  refine wpAny_Try_except ?_
  have T : Takes (X.tr (X.pn ++ pp) (fun e s₁ => wpAny (model X.prog X.w) X.A (noteFrame e X.env) (fun _ s₂ => wpAny (model X.prog X.w) X.A (setFlight e none) (fun _ s₃ =>
      wpAny (model X.prog X.w) X.A (handleBy e X.env [.ExceptHandler (some (.Name x q0)) (some n) (b0 :: suite) q1]) (SP X pp D) X.xe s₃) X.xe s₂) X.xe s₁)) (wKeep X.K c i ts D) := by
    rintro u s' ⟨a, B, sI, pins', σ1, H1, cls, d, rfl, J', nb, up, sky, na, os, ag, C, dd, rfl, rfl, hmatch, go⟩
    have J : Inv X pp σ1 H1 sI := J'.ofTry okX
    have skyX : Sky B (X.env :: X.outer) a (Zc (.ref C) (some dd)) X.env.locals s'.heap := by
      rw [← st]
      exact sky
    show wpAny (model X.prog X.w) X.A (noteFrame (.ref a) X.env) _ _ _
    refine Sky.land Zc.steady frs0 fr skyX fun g1 f1 u1 => ?_
    obtain ⟨o1, v1, p1, z1, d1⟩ := f1.there
    have J1 : Inv X pp σ1 H1 { s' with heap := g1 } := J.landed nb f1.1 (up.trans u1) os ag
    have noFrame : a ∉ frs (X.env :: X.outer) := fun m => by
      obtain ⟨_, ox, hx, nx⟩ := f1.2.2.1.mem m
      rw [p1] at hx
      cases hx
      exact nx _ d1
    have zl : a ≠ X.env.locals := fun z => noFrame (List.mem_filterMap.mpr ⟨X.env, List.mem_cons_self, by rw [fr, z]⟩)
    have zf : a ∉ X.fs := fun m => by
      obtain ⟨en, me, q⟩ := List.mem_filterMap.mp m
      exact noFrame (List.mem_filterMap.mpr ⟨en, List.mem_cons_of_mem _ me, q⟩)
    have atI : sI.heap.get? a = none := by
      cases q : sI.heap.get? a with
      | none => rfl
      | some o =>
        have z := nb a o q (by rw [st]; exact noFrame)
        rw [f1.2.1] at z
        cases z
    have at0 : X.s_0.heap.get? a = none := by
      cases q : X.s_0.heap.get? a with
      | none => rfl
      | some o =>
        obtain ⟨o', z⟩ := J.base.there a o q (by rw [ex0]; exact fun m => nomatch m)
        rw [atI] at z
        cases z
    have pinNe : ∀ p ∈ X.pn ++ pp, p.1 ≠ a := fun p hp e => by
      have z := (J.pin p hp).1
      rw [e, atI] at z
      cases z
    refine wpAny_handleBy_cons (codeAny_handlers_test ?_) (fun q => by cases q)
    have tyOf : PySem.W.Looks (model X.prog X.w) g1 (typeOf (.ref a)) (.ref C) := fun _ _ _ _ k q => wpAny_typeOf_ref (k _ _ p1) (by
      rw [z1.1]
      exact q)
    have hits := PySem.W.exm_one (M := model X.prog X.w) J1.kIn tyOf hmatch
    have I1 := J1.suite p1 d1 na zl zf
    have asked : ∀ {Q : Value → Shared → Prop} {E : Value → Shared → Prop}, Q c { s' with heap := g1 } → wpAny (model X.prog X.w) (X.A.mark (some (.ref a))) (eval (.Name x q0) X.env) Q E { s' with heap := g1 } := fun {Q E} q => by
      obtain ⟨k1, k2, k3 | ⟨k3, k4, k5⟩⟩ := nm
      · exact ld_glob (X := X.suite a ((a, o1) :: (X.pn ++ pp))) I1 k1 k3 q k2
      · exact ld_blt (X := X.suite a ((a, o1) :: (X.pn ++ pp))) I1 k1 k3 k4 q k5 k2
    refine asked (hits.here ?_)
    refine codeAny_handlers_suite_as (HandSPX.lands_againZ f1 fun g2 f2 u2 => ?_)
    obtain ⟨o2, v2, p2, z2, d2⟩ := f2.there
    have J2 : Inv X pp σ1 H1 { s' with heap := g2 } := J.landed nb f2.1 ((up.trans u1).trans u2) os ag
    refine store_ok (X := X.suite a ((a, o2) :: (X.pn ++ pp))) (v := .ref a) (J2.suite p2 d2 na zl zf) nd ni (.inl kn) rfl (fun s5 S5 => ?_) (.inr kn)
    refine wpAny_mono ((suiteOk a o2 (.ref C) (some dd) (X.pn ++ pp) z2 ⟨_, d2⟩).run [] s5 _ H1 _ S5 (go a na)) (fun f s6 out => ?_) (fun _ _ z => z.elim)
    cases f with
    | next =>
      obtain ⟨σ6, H6, S6, fin⟩ := out
      obtain ⟨g6, n6, _⟩ := S6.pin (a, o2) (List.mem_append_left _ List.mem_cons_self)
      have T6 := Inv.trackX (o := ExD C dd a) (S6.unsuite okX) g6 d2 at0 n6 zl pinNe (ExD.ok g6 z2 d2)
      exact gone_ok T6 nd ni kn fun s7 J7 => ⟨_, _, J7, fin n6⟩
    | brk =>
      obtain ⟨_, _, _, z⟩ := out
      exact z.elim
    | cont =>
      obtain ⟨_, _, _, z⟩ := out
      exact z.elim
    | ret u =>
      obtain ⟨_, _, _, _, _, z⟩ := out
      exact z.elim
  refine wpAny_mono ((bodyOk (wKeep X.K c i ts D) (X.pn ++ pp) _ T).run [] s0 σ0 H0 D (I0.toTry _) wish) (fun f s1 out => ?_) (fun e s1 q => q)
  cases f with
  | next =>
    obtain ⟨σ1, H1, J1, q⟩ := out
    exact wpAny_execs_nil ⟨σ1, H1, J1.ofTry okX, q⟩
  | brk =>
    obtain ⟨σ1, H1, J1, q⟩ := out
    exact ⟨σ1, H1, J1.ofTry okX, q⟩
  | cont =>
    obtain ⟨σ1, H1, J1, q⟩ := out
    exact ⟨σ1, H1, J1.ofTry okX, q⟩
  | ret u =>
    obtain ⟨v1, σ1, H1, J1, r1, q⟩ := out
    exact ⟨v1, σ1, H1, J1.ofTry okX, r1, q⟩
end
end TL

namespace TL
open PySem PySem.Spec PyProof.Rows L2
/-! ### the try statement by slots -/
theorem Rel.hole {K : PySem.W.Frag} {F H : Hp} {r : Ev} {σ : L2.St} (R : Rel K F r σ H) (j : Nat) (y : Option V) : Rel K F (r.set j none) (σ.set j y) H := by
  have at_ : ∀ {i : Nat} {s : Slt}, (r.set j none)[i]? = some (some s) → (σ.set j y)[i]? = σ[i]? := fun {i s} h => List.getElem?_set_ne (drop_get h).2
  have D := R.drop j
  refine ⟨D.sub, by rw [List.length_set, List.length_set]; exact R.len, fun i d h => ?_, fun i d h => ?_, fun i d h => ?_, fun i ns h => ?_, fun i ns h => ?_, fun i k s t x z a h1 h2 e1 e2 o1 o2 => ?_⟩
  · rw [at_ h]; exact D.fz i d h
  · have := D.own i d h
    rcases h with h | h <;> (rw [at_ h]; exact this)
  · rw [at_ h]; exact D.tr i d h
  · rw [at_ h]; exact D.scr i ns h
  · rw [at_ h]; exact D.xc i ns h
  · rw [at_ h1] at e1
    rw [at_ h2] at e2
    exact D.dja i k s t x z a h1 h2 e1 e2 o1 o2
theorem Rel.putX {K : PySem.W.Frag} {F H : Hp} {r : Ev} {σ : L2.St} (R : Rel K F r σ H) {j : Nat} {a : Addr} {p : Str × PyData} (q : XcAt K F a p) : Rel K F (r.set j (some (.xc p))) (σ.set j (some (.ref a))) H := by
  have D := R.hole j (some (.ref a))
  have dn : ∀ {i : Nat} {s : Slt}, (r.set j (some (.xc p)))[i]? = some (some s) → (i = j ∧ s = .xc p ∧ j < r.length) ∨ (r.set j none)[i]? = some (some s) := fun {i s} h => by
    rcases get_set _ _ _ _ _ h with ⟨rfl, e, hl⟩ | ⟨ne, h⟩
    · cases e; exact .inl ⟨rfl, rfl, hl⟩
    · right; rw [List.getElem?_set_ne ne]; exact h
  refine ⟨D.sub, by rw [List.length_set, List.length_set]; exact R.len, fun i d h => ?_, fun i d h => ?_, fun i d h => ?_, fun i ns h => ?_, fun i ns h => ?_, fun i k s t x z b h1 h2 e1 e2 o1 o2 => ?_⟩
  · rcases dn h with ⟨_, e, _⟩ | h
    · cases e
    · exact D.fz i d h
  · refine D.own i d ?_
    rcases h with h | h
    · rcases dn h with ⟨_, e, _⟩ | h
      · cases e
      · exact .inl h
    · rcases dn h with ⟨_, e, _⟩ | h
      · cases e
      · exact .inr h
  · rcases dn h with ⟨_, e, _⟩ | h
    · cases e
    · exact D.tr i d h
  · rcases dn h with ⟨_, e, _⟩ | h
    · cases e
    · exact D.scr i ns h
  · rcases dn h with ⟨rfl, e, hl⟩ | h
    · cases e
      exact ⟨a, by rw [List.getElem?_set_self (by rw [← R.len]; exact hl)], q⟩
    · exact D.xc i ns h
  · rcases dn h1 with ⟨_, rfl, _⟩ | h1
    · exact o1.elim
    · rcases dn h2 with ⟨_, rfl, _⟩ | h2
      · exact o2.elim
      · exact D.dja i k s t x z b h1 h2 e1 e2 o1 o2
theorem Stp.hole {r r1 : Ev} {σ σ1 : L2.St} {F F1 H H1 : Hp} (S : Stp r σ F H r1 σ1 F1 H1) {j : Nat} {y : Option V} (hj : isIo r1[j]? = false) : Stp r σ F H (r1.set j none) (σ1.set j y) F1 H1 := by
  have S2 := S.drop hj
  refine ⟨S2.ext, fun a ha hn => ?_, fun i d h => ?_, S2.stay, by rw [List.length_set]; exact S2.sl⟩
  · obtain ⟨q1, q2, q3⟩ := S2.pres a ha hn
    refine ⟨q1, q2, fun ⟨i, s, x, h1, h2, h3⟩ => q3 ⟨i, s, x, h1, ?_, h3⟩⟩
    rwa [List.getElem?_set_ne (drop_get h1).2] at h2
  · obtain ⟨d', q1, q2⟩ := S2.io i d h
    exact ⟨d', q1, by rw [List.getElem?_set_ne (drop_get q1).2]; exact q2⟩
theorem Stp.putX {r r1 : Ev} {σ σ1 : L2.St} {F F1 H H1 : Hp} (S : Stp r σ F H r1 σ1 F1 H1) {j : Nat} {p : Str × PyData} {x : V} (hj : isIo r1[j]? = false) : Stp r σ F H (r1.set j (some (.xc p))) (σ1.set j (some x)) F1 H1 :=
  S.putG (s := .xc p) (by rw [hj]; simp) fun _ z => z.elim

/-! f(..) as a statement, its error wished of at the slots where it comes -/
section
variable {X : Cx} {W : WX} {k : Nat} {f : Addr} {fd : FuncData} {ps : List Str} {sp : Sp} {x : Str} {e : Expr} {es : List Expr} {t : TA} {p pos : Pos}
theorem pg_callW (G : FnG X.prog X.w X.K X.mg X.base (L2.CX X.prog X.w) k f fd ps sp) (hr : RoomG k X.A) (hg : Gl X x) (hm : X.mg x = some (.ref f)) (kp : PySem.W.keepIn X.K (.ref f) = true) (hb : Binds X.K fd ps []) (tk : Takes X W) (ha : PA X (e :: es) t)
    (db : (x == ("__debug__" : Str)) = false := by decide) (st : starEach (e :: es) X.env = (false, eval e X.env) :: starEach es X.env := by rfl) (pl : (backTo pos (starEach es X.env)).any (·.1) = false := by rfl) :
    PE X (.Call (.Name x p) (e :: es) [] pos) (fun σ H Q => t σ H fun vs H1 => sp vs H1 Q fun cls d H2 => W cls d σ H2) := by
  constructor
  intro pins s σ H Q I h
  apply wpAny_Call_Name_kw
  refine ld_glob I hg hm ?_ db
  apply PySem.W.callWith_K (h₀ := X.base) I.ok.mod.kin kp _ st pl
  refine thn (ha.run pos pins s σ H _ I h) ?_
  rintro us s1 ⟨vs, H1, I1, rv, q⟩
  have b := hb s1 us I1.kIn (by rw [List.append_nil]; exact rv.length.symm.trans (G.ln q))
  rw [List.append_nil] at b
  refine ⟨I1.kIn, wpAny_call (codeAny_mono (G.go hr I1.env0 b rv q) fun res s' => ?_)⟩
  match res with
  | .error e => exact fun z => passAt tk σ pins H1 s1 e s' I1 z
  | .ok (.ret u) => exact fun z => I1.after z
  | .ok .next => exact False.elim
  | .ok .brk => exact False.elim
  | .ok .cont => exact False.elim
end
/-- L: the classes, each with what the body's error tells then; i: the clause's name, j: where the error is kept -/
def fTryR (L : List (Str × FE)) (fa : FA) (i j : Nat) : FS := fun r => L.findSome? fun p => (sCall p.2 none fa r).bind fun u => (esc u.1 u.2).bind fun v =>
  if (v.2[i]?).isSome = true ∧ isIo v.2[i]? = false ∧ isIo v.2[j]? = false ∧ i ≠ j then some (.nx ((v.2.set i none).set j (some (.xc (p.1, v.1))))) else none
section
variable {X : Cx} {c : Value} {i j : Nat} {L : List (Str × FE)} {fa : FA} {k : Nat} {f : Addr} {fd : FuncData} {ps : List Str} {x D n m : Str} {e : Expr} {es : List Expr} {q0 q1 q2 q3 q4 q5 q6 p pos : Pos}
theorem ss_tryR (st : X.stack = X.env :: X.outer) (fr : X.env.frame = some X.env.locals) (ex0 : X.ex = []) (nd : X.N.Nodup) (ni : X.N[i]? = some n) (kn : X.env.kindOf n = some .local) (nj : X.N[j]? = some m) (km : X.env.kindOf m = some .local) (nm : Names X D c) (hvn : Vis X.env.scope n)
    (hG : ∀ p ∈ L, FnG X.prog X.w X.K X.mg X.base (L2.CX X.prog X.w) k f fd ps (spR X.K (He.ga X.K p.1) p.2)) (hM : ∀ p ∈ L, PySem.W.exmOne X.K (.ref (He.ga X.K p.1)) c = some true)
    (hr : RoomG k X.A) (hg : Gl X x) (hm : X.mg x = some (.ref f)) (kp : PySem.W.keepIn X.K (.ref f) = true) (hb : Binds X.K fd ps []) (ha : ∀ l xe, SA (X.tr l xe) (e :: es) fa)
    (db : (x == ("__debug__" : Str)) = false := by decide) (se : starEach (e :: es) X.env = (false, eval e X.env) :: starEach es X.env := by rfl) (pl : (backTo pos (starEach es X.env)).any (·.1) = false := by rfl)
    (hs : swapsWith (.Call (.Name x p) (e :: es) [] pos) none q3.line X.env = pure false := by rfl)
    (hdn : (n == ("__debug__" : Str)) = false := by decide) (hcn : (n == ("__classdict__" : Str)) = false := by decide)
    (hs2 : swapsWith (.Name n q5) (some (.Name m q4)) q6.line X.env = pure false := by rfl) (hf2 : X.env.scope.names.lookup m = some .local := by rfl) :
    SS X (.Try [.Expr (.Call (.Name x p) (e :: es) [] pos) q3] [.ExceptHandler (some (.Name D q0)) (some n) [.Assign [.Name m q4] (.Name n q5) q6] q1] [] [] q2) (fTryR L fa i j) := by
  refine PSimp (ps_kept (tb := fun W D σ H => ∃ p ∈ L, tIA X.K fa σ H fun vs H1 => spR X.K (He.ga X.K p.1) p.2 vs H1 (fun _ H2 => D.nx σ H2) fun cls d H2 => W cls d σ H2) (ts := fun _ _ _ => tAsg (tVar i) (gName j)) st fr ex0 nd ni kn nm (fun W l xe tk => ?_) fun a ob cls d l _ _ => ?_) ?_
  · constructor
    intro pins s σ H D I ⟨p, hp, h⟩
    exact (PSsimp (pss_one (ps_expr (X := X.tr l xe) (pg_callW (X := X.tr l xe) (hG p hp) hr hg hm kp hb tk (ha l xe) db se pl) hs)) fun D σ H z => z).run pins s σ H D I h
  · exact pss_one (ps_set (X := X.suite a ((a, ob) :: l)) nd nj (.inl km) (pe_var (X := X.suite a ((a, ob) :: l)) ni hvn hdn hcn) hs2 (.inr hf2))
  · rintro D σ H ⟨F, r, o, R, e0, post⟩
    unfold fTryR at e0
    obtain ⟨p, hp, e0⟩ := List.exists_of_findSome?_eq_some e0
    simp only [Option.bind_eq_some_iff] at e0
    obtain ⟨⟨h, r1⟩, e1, ⟨y, r2⟩, e2, e3⟩ := e0
    dsimp only at e2 e3
    split at e3
    · rename_i hio
      obtain ⟨hsm, hi0, hj0, hij⟩ := hio
      cases e3
      refine ⟨p, hp, ?_⟩
      have call := sCall_ok (E := fun _ _ _ => True) σ H (RW (He.ga X.K p.1) fun cls d H2 => wKeep X.K c i (fun _ _ _ => tAsg (tVar i) (gName j)) D cls d σ H2) ⟨F, r, h, r1, R, e1, fun v F1 H1 R1 S1 q1 n1 => ?_⟩
      · obtain ⟨F0, r0, hs0, r00, R0, g1, g2⟩ := call
        refine ⟨F0, r0, hs0, r00, R0, g1, fun xs F1 H1 R1 S1 t => ?_⟩
        have z := g2 xs F1 H1 R1 S1 t
        have z : spI X.K p.2 (xs ++ []) H1 (RW (He.ga X.K p.1) fun cls d H2 => wKeep X.K c i (fun _ _ _ => tAsg (tVar i) (gName j)) D cls d σ H2) (fun _ _ _ => True) := z
        rw [List.append_nil] at z
        exact z
      · intro dd hdd
        obtain ⟨G, RG, SG, rp, _⟩ := esc_ok S1 R1 q1 n1 e2
        refine ⟨_, dd, rfl, rfl, hM p hp, fun a ha => ?_⟩
        have nad : a ≠ dd := fun z => by rw [z, upd_same] at ha; cases ha
        have ha1 : H1 a = none := by rwa [upd_ne nad] at ha
        have hil : i < σ.length := by
          rw [← RG.len]
          cases q : r2[i]? with
          | none => rw [q] at hsm; cases hsm
          | some s => exact (List.getElem?_eq_some_iff.mp q).1
        refine ⟨.ref a, by rw [List.getElem?_set_self hil], fun _ => ?_⟩
        have eσ : (((σ.set i (some (V.ref a))).set j (some (.ref a))).set i none) = (σ.set i none).set j (some (.ref a)) := by
          rw [List.set_comm _ _ hij.symm, List.set_set]
        rw [eσ]
        have gd : G dd = none := fnone RG.sub hdd
        have ga : G a = none := fnone RG.sub ha1
        have exG : Ext G (upd (upd G dd (.xd [(("value" : Str), v)])) a (ExD (He.ga X.K p.1) dd a)) := (Ext.new gd).trans (Ext.new (by rw [upd_ne nad]; exact ga))
        obtain ⟨R3, S3⟩ := RG.grow (F' := upd (upd G dd (.xd [(("value" : Str), v)])) a (ExD (He.ga X.K p.1) dd a)) (H' := upd (upd H1 dd (.xd [(("value" : Str), v)])) a (ExD (He.ga X.K p.1) dd a)) exG (fun b o hb => by
            by_cases h1 : b = a
            · rw [h1, upd_same] at hb ⊢; exact hb
            · rw [upd_ne h1] at hb ⊢
              by_cases h2 : b = dd
              · rw [h2, upd_same] at hb ⊢; exact hb
              · rw [upd_ne h2] at hb ⊢; exact RG.sub b o hb) (fun b hb => by
            have h1 : b ≠ a := fun z => hb (z ▸ ha1)
            have h2 : b ≠ dd := fun z => hb (z ▸ hdd)
            exact ⟨by rw [upd_ne h1, upd_ne h2], by rw [upd_ne h1, upd_ne h2]⟩)
        have at_ : XcAt X.K (upd (upd G dd (.xd [(("value" : Str), v)])) a (ExD (He.ga X.K p.1) dd a)) a (p.1, y) := ⟨dd, v, upd_same, by rw [upd_ne (Ne.symm nad), upd_same], rp.mono exG⟩
        exact post _ _ _ ((R3.hole i none).putX at_) (((SG.trans S3).hole hi0).putX (by rw [List.getElem?_set_ne hij]; exact hj0))
    · cases e3
end
end TL

namespace TL
open PySem PySem.Spec PyProof.Rows L2
/-! ### a kept error is looked at: isinstance(m, D), m.value -/
section
variable {X : Cx} {x D m : Str} {e : Expr} {te : TE} {q q' p pos : Pos} {i : Nat}
/-- isinstance(a, c) of a tracked error -/
def rIsX (K : PySem.W.Frag) : List V → Hp → VK → Prop := fun xs H Q => ∃ (a C d D : Addr) (fs : List (Str × V)) (b : Bool), xs = [.ref a, .ref D] ∧ H a = some (ExD C d a) ∧ H d = some (.xd fs) ∧ ExcC K C ∧ PySem.W.kitOne K (.ref C) (.ref D) = some b ∧ Q (.bl b) H
theorem call_isX : CallR X (.builtin "isinstance") (rIsX X.K) := by
  intro pins s σ H xs us Q I r h
  obtain ⟨a, C, d, D, fs, b, rfl, hx, hd, Z, hk, q⟩ := h
  obtain ⟨u1, u2, rfl, r1, r2⟩ := vals2 r
  obtain rfl : u1 = Value.ref a := r1
  obtain rfl : u2 = Value.ref D := r2
  obtain ⟨⟨ob, fv, h1, h2, h3⟩, _⟩ : ObjOk X.prog X.w H s.heap a (ExD C d a) := I.hok a _ hx
  obtain ⟨mA, hns, hr⟩ : ObjOk X.prog X.w H s.heap d (.xd fs) := I.hok d _ hd
  obtain ⟨od, ho, hlk⟩ := lookIn_ns hns
  have J : PySem.W.InstAt s.heap a ob C (some od) := ⟨h1, h2.1, by unfold PySem.W.notCls; rw [h3] <;> rfl, by rw [h2.2]; exact ho⟩
  obtain ⟨cd, hcd, _⟩ := PySem.W.any_some Z.hd
  exact PySem.W.kia_one (PySem.W.kitx_exc (by rw [hcd]; rfl) Z.hg Z.hk Z.hs Z.ha Z.hn Z.ht Z.hm) I.kIn J hk (fun z => nomatch z) fun tk => ⟨.bl b, H, I.tok tk, rfl, q⟩
/-- m.value of a tracked error -/
def tXv (n : Str) (te : TE) (K : PySem.W.Frag) : TE := fun σ H Q => te σ H fun x H1 => ∃ a C d fs v, x = .ref a ∧ H1 a = some (ExD C d a) ∧ ExcC K C ∧ PySem.W.findIn K (.ref C) n = some none ∧ H1 d = some (.xd fs) ∧ fs.lookup n = some v ∧ Q v H1
theorem pe_xv {n : Str} (he : PE X e te) (hb : attributeBase e n X.env (eval e X.env) = eval e X.env := by rfl) : PE X (.Attribute e n pos) (tXv n te X.K) := by
  refine ⟨fun pins s σ H Q I h => ?_⟩
  refine attr_of hb (thn (he.run pins s σ H _ I h) fun u s1 hh => ?_)
  obtain ⟨x, H1, I1, rx, a, C, d, fs, v, rfl, hx, Z, hno, hd, hl, q⟩ := hh
  obtain rfl : u = Value.ref a := rx
  obtain ⟨⟨ob, fv, h1, h2, h3⟩, _⟩ : ObjOk X.prog X.w H1 s1.heap a (ExD C d a) := I1.hok a _ hx
  obtain ⟨mA, hns, hr⟩ : ObjOk X.prog X.w H1 s1.heap d (.xd fs) := I1.hok d _ hd
  obtain ⟨od, ho, hlk⟩ := lookIn_ns hns
  obtain ⟨u, hu, ru⟩ := RelO.some_of (v := v) (o := mA n) (by rw [← hl]; exact hr n)
  have J : PySem.W.InstAt s1.heap a ob C (some od) := ⟨h1, h2.1, by unfold PySem.W.notCls; rw [h3] <;> rfl, by rw [h2.2]; exact ho⟩
  exact HandSPX.exc_get I1.kIn J Z.hg Z.hk Z.hs (PySem.W.findObj_own Z.hd hno rfl (by rw [hlk, hu])) (handed_of ru) ⟨v, H1, I1.tok _, ru, q⟩
/-- what is known of the classes: T is the table of the names -/
structure XcT (K : PySem.W.Frag) (T : List Str) : Prop where
  ex : ∀ n ∈ T, ExcC K (He.ga K n)
  no : ∀ n ∈ T, PySem.W.findIn K (.ref (He.ga K n)) "value" = some none
def xcD (i : Nat) (r : Ev) : Option (Str × PyData) := match r[i]? with
  | some (some (.xc p)) => some p
  | _ => none
theorem xcD_at {i : Nat} {r : Ev} {p : Str × PyData} (h : xcD i r = some p) : r[i]? = some (some (.xc p)) := by
  unfold xcD at h
  split at h
  · rename_i hs; cases h; exact hs
  · cases h
/-- isinstance(m, D): B says which of the classes are under D -/
def sIsX (i : Nat) (B : List (Str × Bool)) : FE := fun r => (xcD i r).bind fun p => (B.lookup p.1).map fun b => (.v (.bool b), r)
theorem lookup_mem {β : Type} {k : Str} {b : β} : ∀ {l : List (Str × β)}, l.lookup k = some b → (k, b) ∈ l
  | [], h => by cases h
  | (k', b') :: l, h => by
    rw [List.lookup_cons] at h
    split at h
    · rename_i hk
      cases h
      rw [eq_of_beq hk]
      exact List.mem_cons_self
    · exact List.mem_cons_of_mem _ (lookup_mem h)
theorem se_isX {B : List (Str × Bool)} {C : Addr} (hI : X.mg "isinstance" = none) (hN : X.N[i]? = some m) (hv : Vis X.env.scope m) (hD : X.mg D = some (.ref C)) (hB : ∀ p ∈ B, ExcC X.K (He.ga X.K p.1) ∧ PySem.W.kitOne X.K (.ref (He.ga X.K p.1)) (.ref C) = some p.2)
    (hg : Gl X "isinstance" := by rfl) (hgD : Gl X D := by rfl) (hdm : (m == ("__debug__" : Str)) = false := by decide) (hcm : (m == ("__classdict__" : Str)) = false := by decide) (hdD : (D == ("__debug__" : Str)) = false := by decide)
    (he : starEach [.Name m q, .Name D q'] X.env = (false, eval (.Name m q) X.env) :: starEach [.Name D q'] X.env := by rfl) (he2 : starEach [.Name D q'] X.env = (false, eval (.Name D q') X.env) :: starEach [] X.env := by rfl) (hpl : (backTo pos (starEach [.Name D q'] X.env)).any (·.1) = false := by rfl) :
    SE X (.Call (.Name "isinstance" p) [.Name m q, .Name D q'] [] pos) (sIsX i B) := by
  refine PEimp (pe_callB call_isX hg hI (by decide +kernel) (pa_cons (pe_var hN hv hdm hcm) (pa_cons (pe_glob (v := .ref C) hgD hD rfl hdD) pa_nil he2) he) (by decide) (by decide) he hpl) ?_
  rintro σ H Q ⟨F, ρ, h, ρ', R, e, k⟩
  simp only [sIsX, Option.bind_eq_some_iff, Option.map_eq_some_iff] at e
  obtain ⟨p, e1, b, e2, e3⟩ := e
  cases e3
  obtain ⟨a, w1, d, v, w2, w3, w4⟩ := R.xc i p (xcD_at e1)
  obtain ⟨k1, k2⟩ := hB _ (lookup_mem e2)
  exact ⟨.ref a, w1, a, _, d, C, _, b, rfl, R.sub _ _ w2, R.sub _ _ w3, k1, k2, k _ F H R (Stp.refl ..) (.v (.bl b)) nw_v⟩
/-- m.value -/
def sXv (i : Nat) (T : List Str) : FE := fun r => (xcD i r).bind fun p => if T.contains p.1 = true then some (.v p.2, r) else none
theorem se_xv {T : List Str} (hT : XcT X.K T) (hN : X.N[i]? = some m) (hv : Vis X.env.scope m) (hdm : (m == ("__debug__" : Str)) = false := by decide) (hcm : (m == ("__classdict__" : Str)) = false := by decide)
    (hb : attributeBase (.Name m q) "value" X.env (eval (.Name m q) X.env) = eval (.Name m q) X.env := by rfl) : SE X (.Attribute (.Name m q) "value" pos) (sXv i T) := by
  refine PEimp (pe_xv (pe_var hN hv hdm hcm) hb) ?_
  rintro σ H Q ⟨F, ρ, h, ρ', R, e, k⟩
  simp only [sXv, Option.bind_eq_some_iff] at e
  obtain ⟨p, e1, e2⟩ := e
  split at e2
  · rename_i hc
    cases e2
    have hm : p.1 ∈ T := by simpa using hc
    obtain ⟨a, w1, d, v, w2, w3, w4⟩ := R.xc i p (xcD_at e1)
    exact ⟨.ref a, w1, a, _, d, _, v, rfl, R.sub _ _ w2, hT.ex _ hm, hT.no _ hm, R.sub _ _ w3, by rfl, k _ F H R (Stp.refl ..) (.v w4) nw_v⟩
  · cases e2
/-- m is None, of a kept error or of anything else -/
def xNone (i : Nat) (t : FT) : FT := fun r => match xcD i r with
  | some _ => some (false, r)
  | none => t r
end
end TL

namespace TL
open PySem PySem.Spec PyProof.Rows L2
/-! ### what the head says of the classes -/
/-- isinstance asks the instances of x rightly -/
def xkB (K : PySem.W.Frag) (x : Str) : Bool :=
  He.eqO (PySem.W.findIn K (.ref (He.ga K x)) "__getattribute__") (some (some (.builtin "BaseException.__getattribute__"))) && (decide (PySem.W.findIn K (.ref (He.ga K x)) "__getattr__" = some none) && (decide (PySem.W.subIn K (.ref (He.ga K x)) (.type "BaseException") = some true) &&
  (PySem.W.hasDictIn K (He.ga K x) && (He.eqO (PySem.W.findIn K (.ref (He.ga K x)) "__class__") (some (some (.builtin "object.__class__"))) && (He.eqO (PySem.W.specialIn K (.builtin "object.__class__") "__get__") (some (some (.builtin "getset_descriptor.__get__"))) &&
  (decide (PySem.W.takesIn K (.builtin "object.__class__") = some true) && decide (PySem.W.mroIn K (He.ga K x) (.type "object") = some true)))))))
theorem xkB_ok {K : PySem.W.Frag} {x : Str} (h : xkB K x = true) : ExcC K (He.ga K x) := by
  unfold xkB at h
  simp only [Bool.and_eq_true, decide_eq_true_eq] at h
  obtain ⟨c1, c2, c3, c4, c5, c6, c7, c8⟩ := h
  exact ⟨He.eqO_ok c1, c2, c3, c4, He.eqO_ok c5, He.eqO_ok c6, c7, c8⟩
/-- which class is under which -/
def mtB (K : PySem.W.Frag) (p : Str × Str × Bool) : Bool := decide (PySem.W.kitOne K (.ref (He.ga K p.1)) (.ref (He.ga K p.2.1)) = some p.2.2) && decide (PySem.W.exmOne K (.ref (He.ga K p.1)) (.ref (He.ga K p.2.1)) = some p.2.2)
theorem mtB_ok {K : PySem.W.Frag} {p : Str × Str × Bool} (h : mtB K p = true) : PySem.W.kitOne K (.ref (He.ga K p.1)) (.ref (He.ga K p.2.1)) = some p.2.2 ∧ PySem.W.exmOne K (.ref (He.ga K p.1)) (.ref (He.ga K p.2.1)) = some p.2.2 := by
  unfold mtB at h
  simpa only [Bool.and_eq_true, decide_eq_true_eq] using h
abbrev AlE : Type := He.AlD × (Bool × Bool) × List XW
def obsE (file : Str) (fa : List He.Fa) (fn : List He.DefD) (xs : List XcD) (mt : List (Str × Str × Bool)) (K : PySem.W.Frag) : AlE := (He.obsD fa fn K, (xs.all (fun d => xkB K d.x), mt.all (mtB K)), xs.map fun d => xW K file d.x)
def valE (fn : List He.DefD) (xs : List XcD) : AlE := (He.valD fn, (true, true), xs.map XcD.val)
def SaysE (file : Str) (fa : List He.Fa) (fn : List He.DefD) (xs : List XcD) (mt : List (Str × Str × Bool)) (K : PySem.W.Frag) : Prop := obsE file fa fn xs mt K = valE fn xs
def obsEG (n : Nat) (file : Str) (fa : List He.Fa) (fn : List He.DefD) (xs : List XcD) (mt : List (Str × Str × Bool)) (g : Addr → Option Obj) : AlE := obsE file fa fn xs mt (He.frG g (He.asD g n ++ [cStatics]))
def hookE (n : Nat) (file : Str) (fa : List He.Fa) (fn : List He.DefD) (xs : List XcD) (mt : List (Str × Str × Bool)) : PySem.W.Hook where
  α := AlE
  obs := fun s => obsEG n file fa fn xs mt s.heap.get?
  val := fun _ => valE fn xs
  says := fun _ h => ∃ K : PySem.W.Frag, K.In h ∧ SaysE file fa fn xs mt K
  of := fun _ _ e => ⟨_, He.frG_in, e⟩
  keeps := fun _ _ _ ⟨K, i, c⟩ k => ⟨K, PySem.W.Frag.In.keeps i k, c⟩
theorem obsEG_eq {n : Nat} {file : Str} {fa : List He.Fa} {fn : List He.DefD} {xs : List XcD} {mt : List (Str × Str × Bool)} {g : Addr → Option Obj} {s : Shared} (h : ∀ a, g a = s.heap.get? a) : obsEG n file fa fn xs mt g = (hookE n file fa fn xs mt).obs s := by
  obtain rfl : g = s.heap.get? := funext h
  rfl
section
variable {file : Str} {fa : List He.Fa} {fn : List He.DefD} {xs : List XcD} {mt : List (Str × Str × Bool)} {K : PySem.W.Frag}
theorem SaysE.base (c : SaysE file fa fn xs mt K) : He.SaysD fa fn K := congrArg (fun z : AlE => z.1) c
theorem SaysE.cls {h : Heap} {mg : Str → Option Value} (X : K.In h) (G : h.Ns mainGlobals mg) (c : SaysE file fa fn xs mt K) (i : Nat) {d : XcD} (e : xs[i]? = some d := by rfl) : ∃ fI fd, XcF K mg file d (He.ga K d.x) fI fd := by
  have e1 : xs.map (fun d => xW K file d.x) = xs.map XcD.val := congrArg (fun z : AlE => z.2.2) c
  have e2 : (xs.map fun d => xW K file d.x)[i]? = (xs.map XcD.val)[i]? := by rw [e1]
  rw [List.getElem?_map, List.getElem?_map, e] at e2
  exact xW_ok X G (Option.some.inj e2)
theorem SaysE.exc (c : SaysE file fa fn xs mt K) (i : Nat) {d : XcD} (e : xs[i]? = some d := by rfl) : ExcC K (He.ga K d.x) := by
  have e1 : xs.all (fun d => xkB K d.x) = true := congrArg (fun z : AlE => z.2.1.1) c
  exact xkB_ok (List.all_eq_true.mp e1 d (List.mem_of_getElem? e))
theorem SaysE.mtx (c : SaysE file fa fn xs mt K) (i : Nat) {p : Str × Str × Bool} (e : mt[i]? = some p := by rfl) : PySem.W.kitOne K (.ref (He.ga K p.1)) (.ref (He.ga K p.2.1)) = some p.2.2 ∧ PySem.W.exmOne K (.ref (He.ga K p.1)) (.ref (He.ga K p.2.1)) = some p.2.2 := by
  have e1 : mt.all (mtB K) = true := congrArg (fun z : AlE => z.2.1.2) c
  exact mtB_ok (List.all_eq_true.mp e1 p (List.mem_of_getElem? e))
end
/-! ### the __init__ of a class, by the class's statement -/
def initOf : Stmt → Stmt
  | .ClassDef _ _ _ body _ _ _ _ _ _ _ => body.getD 0 (.Pass ⟨0, 0, 0, 0⟩)
  | _ => .Pass ⟨0, 0, 0, 0⟩
end TL

namespace TL
open PySem PySem.Spec PyProof.Rows L2
/-! ### more ways for a block to raise -/
section
variable {X : Cx} {C : Addr} {E : XK} {fd : FuncData} {x y : Str} {e : Expr} {es : List Expr} {rest a b : List Stmt} {fa : FA} {m : FE} {k i : Nat} {f : Addr} {ps : List Str} {p pos p' p2 : Pos} {c : Expr} {t : FT} {g : FS}
/-- the else branch raises -/
def fIfF (c : FT) (f : FS) : FS := fun r => (c r).bind fun p => if p.1 = false then f p.2 else none
theorem sr_else (hc : ST X c t) (hb : SR X C E b g) : SR X C E (.If c a b pos :: rest) (fIfF t g) := PSsimp (pss_cons (ps_if hc (pss_never (sts := a)) hb) pss_never) fun D σ H ⟨F, r, hh, r', R, e, kk⟩ => by
  simp only [fIfF, Option.bind_eq_some_iff] at e
  obtain ⟨⟨v, r1⟩, e1, e2⟩ := e
  refine ⟨F, r, v, r1, R, e1, fun F' H' R' S' => ?_⟩
  cases v with
  | true => cases e2
  | false => exact ⟨F', r1, hh, r', R', e2, fun v σ2 F2 H2 R2 S2 q n => kk v σ2 F2 H2 R2 (S'.trans S2) q (n.back S')⟩
/-- return f(e, ..), which raises -/
theorem sr_ret (G : FnG X.prog X.w X.K X.mg X.base (L2.CX X.prog X.w) k f fd ps (spR X.K C m)) (hr : RoomG k X.A) (hg : Gl X x) (hm : X.mg x = some (.ref f)) (kp : PySem.W.keepIn X.K (.ref f) = true) (hb : Binds X.K fd ps []) (tk : Takes X (fun cls d _ H => E cls d H)) (ha : SA X (e :: es) fa)
    (db : (x == ("__debug__" : Str)) = false := by decide) (st : starEach (e :: es) X.env = (false, eval e X.env) :: starEach es X.env := by rfl) (pl : (backTo pos (starEach es X.env)).any (·.1) = false := by rfl) :
    SR X C E (.Return (some (.Call (.Name x p) (e :: es) [] pos)) p' :: rest) (fRet (sCall m none fa)) := by
  refine PSsimp (pss_cons (ps_ret (pg_call1 G hr hg hm kp hb .nil (passes_call (E := E) tk fun _ _ _ _ h => h) ha db st pl)) pss_never) ?_
  rintro D σ H ⟨F, r, h, r', R, e1, kk⟩
  simp only [fRet, Option.map_eq_some_iff] at e1
  obtain ⟨⟨h1, r1⟩, e1, e2⟩ := e1
  cases e2
  exact sCall_ok (E := E) σ H (RW C E) ⟨F, r, _, _, R, e1, fun v F' H' R' S' q n => kk v σ F' H' R' S' q n⟩
/-- y = f(e, ..), which raises -/
theorem sr_set (i : Nat) (hN : X.N.Nodup) (G : FnG X.prog X.w X.K X.mg X.base (L2.CX X.prog X.w) k f fd ps (spR X.K C m)) (hr : RoomG k X.A) (hg : Gl X x) (hm : X.mg x = some (.ref f)) (kp : PySem.W.keepIn X.K (.ref f) = true) (hb : Binds X.K fd ps []) (tk : Takes X (fun cls d _ H => E cls d H)) (ha : SA X (e :: es) fa)
    (hi : X.N[i]? = some y := by rfl) (hx : Loc X.env.scope y := by first | exact .inl rfl | exact .inr rfl)
    (db : (x == ("__debug__" : Str)) = false := by decide) (st : starEach (e :: es) X.env = (false, eval e X.env) :: starEach es X.env := by rfl) (pl : (backTo pos (starEach es X.env)).any (·.1) = false := by rfl)
    (hs : swapsWith (.Call (.Name x p) (e :: es) [] pos) (some (.Name y p2)) p'.line X.env = pure false := by rfl) (hf : X.fn y = true ∨ X.env.scope.names.lookup y = some .local := by first | exact .inl rfl | exact .inr rfl) :
    SR X C E (.Assign [.Name y p2] (.Call (.Name x p) (e :: es) [] pos) p' :: rest) (fRet (sCall m none fa)) := by
  refine PSsimp (pss_cons (ps_set hN hi hx (pg_call1 G hr hg hm kp hb .nil (passes_call (E := E) tk fun _ _ _ _ h => h) ha db st pl) hs hf) pss_never) ?_
  rintro D σ H ⟨F, r, h, r', R, e1, kk⟩
  simp only [fRet, Option.map_eq_some_iff] at e1
  obtain ⟨⟨h1, r1⟩, e1, e2⟩ := e1
  cases e2
  exact sCall_ok (E := E) σ H (RW C E) ⟨F, r, _, _, R, e1, fun v F' H' R' S' q n => kk v σ F' H' R' S' q n⟩
end
end TL

namespace TL
open PySem PySem.Spec PyProof.Rows L2
/-! ### str(a whole number); a call without arguments -/
def bStrI : List PyData → Option Hd
  | [.int i] => if Nat.ble i.natAbs 1000000 = true then some (.v (.str (toString i))) else none
  | _ => none
theorem cok_strI : CallOk (fun xs H Q => ∃ i : Int, xs = [V.int i] ∧ i.natAbs.log2 < 1920 ∧ Q (V.str (toString i)) H) bStrI := by
  intro F H xs ds h Q e c q k
  unfold bStrI at q
  split at q
  · rename_i i
    split at q
    · rename_i hb
      cases q
      obtain ⟨x, rfl, cx⟩ := c.one
      cases cx.int
      have hb := Nat.le_of_ble_eq_true hb
      refine ⟨i, rfl, ?_, k _ _ _ (Ans.val' e (.str _))⟩
      by_cases z : i.natAbs = 0
      · rw [z]; decide
      · rw [Nat.log2_lt z]
        calc i.natAbs ≤ 1000000 := hb
          _ < 2 ^ 20 := by decide
          _ ≤ 2 ^ 1920 := Nat.pow_le_pow_right (by decide) (by decide)
    · cases q
  · cases q
@[simp] theorem x_bStrI {i : Int} : bStrI [.int i] = if Nat.ble i.natAbs 1000000 = true then some (.v (.str (toString i))) else none := (rfl)
theorem sCall0_ok {K : PySem.W.Frag} {m : FE} {E : XK} : ∀ σ H Q, tI K (sCall m none aNil) σ H Q → tCall (spI K m) [] E tNil σ H Q := fun σ H Q h => by
  obtain ⟨F, r, hs, r', R, e, k⟩ := sCall_ok (E := E) σ H Q h
  cases e
  exact k [] F H R (Stp.refl ..) ⟨rfl, fun j g y e => by simp at e, fun j g y e => by simp at e, fun i j h g x y a e => by simp at e⟩
end TL

namespace TL
open PySem PySem.Spec PyProof.Rows L2
/-! ### a def by what its body does, whatever is written of it -/
theorem fnG_ofD {P : Program} {w : World} {K : PySem.W.Frag} {mg : Str → Option Value} {base : Heap} {CX : CXT} {k : Nat} {x qual : Str} {params : Arguments} {body : List Stmt} {scope : Scope} {dvs : List V} {kws : List (Str × V)} {f : Addr} {fd : FuncData} {N ps : List Str} {sp : Sp}
    (Fu : FunD K x qual params body scope dvs kws f fd) (S : FnScope N ps scope) (ln : ∀ {vs H Q E}, sp vs H Q E → vs.length = ps.length)
    (hb : ∀ (cdv : Value) (A : Around) (outer : List Env) (s : Shared) (H : Hp) (vs : List V) (Q : VK) (E : XK), RoomG k (A.deeper (envOfC qual scope s.heap.objs.size f cdv)) → sp vs H Q E →
      ∃ t, PSs (cxOf CX P w K mg base N qual scope f cdv A outer s H E) body t ∧ t { nx := fun _ H' => Q .non H', rt := Q } (L2.start N vs) H) : FnG P w K mg base CX (k + 1) f fd ps sp := by
  obtain ⟨oc, od, dV, kV, doc, pm, an, cdv, ct, osl, rfl, lk, hcd, _, _⟩ := Fu.ex
  exact fnG_of lk hcd S ln fun A outer s H vs Q E hr h => hb cdv A outer s H vs Q E hr h
/-! ### an error whose value is the very object that was given -/
/-- f(a) raises C(a): a tracked object of content d, nobody else's -/
def spHd (K : PySem.W.Frag) (C : Addr) (d : PyData) : Sp := fun vs H _ E => ∃ a o, vs = [V.ref a] ∧ H a = some o ∧ OC (fun _ => none) o d ∧
  ∀ (H' F' : Hp) (o' : HO), H' a = some o' → OC F' o' d → Ext F' H' → (∀ b, b ≠ a → H b ≠ none → H' b = H b) → RW C E (.ref a) H'
theorem rel_io {K : PySem.W.Frag} {H : Hp} {a : Addr} {o : HO} {d : PyData} (h : H a = some o) (c : OC (fun _ => none) o d) : Rel K (fun _ => none) [some (.io d)] [some (V.ref a)] H := by
  have at0 : ∀ {i : Nat} {s : Slt}, [some (Slt.io d)][i]? = some (some s) → i = 0 ∧ s = .io d := fun {i s} e => by
    match i, e with
    | 0, e => cases e; exact ⟨rfl, rfl⟩
    | i + 1, e => simp at e
  refine ⟨(fun _ _ z => nomatch z), rfl, fun i e z => ?_, fun i e z => ?_, fun i e z => ?_, fun i ns z => ?_, fun i p z => ?_, fun i j s t x y b h1 h2 _ _ _ _ => ?_⟩
  · cases (at0 z).2
  · rcases z with z | z
    · cases (at0 z).2
    · obtain ⟨rfl, q⟩ := at0 z
      cases q
      exact ⟨a, o, rfl, h, rfl, c⟩
  · cases (at0 z).2
  · cases (at0 z).2
  · cases (at0 z).2
  · rw [(at0 h1).1, (at0 h2).1]
section
variable {P : Program} {w : World} {K : PySem.W.Frag} {mg : Str → Option Value} {base : Heap}
theorem fn_okH {x qual q : Str} {params : Arguments} {body : List Stmt} {scope : Scope} {dvs : List V} {kws : List (Str × V)} {f C : Addr} {fd : FuncData} {N : List Str} {k : Nat} {fb : FS} {d : PyData} (Fu : FunD K x qual params body scope dvs kws f fd) (S : FnScope N [q] scope)
    (hbody : ∀ (cdv : Value) (A : Around) (outer : List Env) (s : Shared) (H : Hp) (E : XK), RoomG k (A.deeper (envOfC qual scope s.heap.objs.size f cdv)) → Takes (cxOf (L2.CX P w) P w K mg base N qual scope f cdv A outer s H E) (fun cls d _ H => E cls d H) →
      SR (cxOf (L2.CX P w) P w K mg base N qual scope f cdv A outer s H E) C E body fb)
    (hfb : ∃ r', fb ([some (.io d)] ++ List.replicate (N.length - 1) none) = some (.rt (.s 0) r') ∧ r'[0]? = some (some (.io d))) : FnG P w K mg base (L2.CX P w) (k + 1) f fd [q] (spHd K C d) := by
  obtain ⟨oc, od, dV, kV, doc, pm, an, cdv, ct, osl, rfl, lk, hcd, _, _⟩ := Fu.ex
  refine fnG_of lk hcd S (fun {vs H Q E} h => by obtain ⟨a, o, rfl, _⟩ := h; rfl) fun A outer s H vs Q E hr h => ⟨_, hbody cdv A outer s H E hr (takes_of rfl rfl rfl rfl), ?_⟩
  obtain ⟨a, o, rfl, ha, hc, go⟩ := h
  obtain ⟨r', e1, e2⟩ := hfb
  refine ⟨fun _ => none, _, _, r', (rel_io ha hc).pad (N.length - 1), e1, fun v σ' F' H' R' S' q n => ?_⟩
  obtain ⟨d2, g1, g2⟩ := S'.io 0 d rfl
  obtain ⟨b, o', w1, w2, w3, w4⟩ := R'.own 0 d (.inr e2)
  have e3 : σ'[0]? = some (some (V.ref a)) := g2
  rw [e3] at w1
  cases w1
  have ev : v = .ref a := by
    cases q with
    | s q => rw [e3] at q; cases q; rfl
  rw [ev]
  refine go H' F' o' w2 w4 R'.sub fun b hb hn => (S'.pres b hn fun ⟨i, s, y, z1, z2, z3⟩ => ?_).1
  have z1 := pad_get z1
  match i, z1 with
  | 0, z1 =>
    cases z1
    cases z2
    cases z3
    exact hb rfl
  | i + 1, z1 => simp at z1
end
/-- one slot known, the others not -/
theorem at_one {n j i : Nat} {s t : Slt} (h : ((List.replicate n (none : Option Slt)).set j (some s))[i]? = some (some t)) : i = j ∧ t = s := by
  rcases get_set _ _ _ _ _ h with ⟨rfl, e, _⟩ | ⟨_, h⟩
  · cases e; exact ⟨rfl, rfl⟩
  · rw [List.getElem?_replicate] at h
    split at h <;> cases h
theorem rel_ow {K : PySem.W.Frag} {F H : Hp} {n j : Nat} {σ : L2.St} {a : Addr} {o : HO} {d : PyData} (sub : Ext F H) (hl : σ.length = n) (hs : σ[j]? = some (some (V.ref a))) (h : H a = some o) (f : F a = none) (c : OC F o d) : Rel K F ((List.replicate n none).set j (some (.ow d))) σ H := by
  refine ⟨sub, by rw [List.length_set, List.length_replicate, hl], fun i e z => ?_, fun i e z => ?_, fun i e z => ?_, fun i ns z => ?_, fun i p z => ?_, fun i k s t x y b h1 h2 _ _ _ _ => ?_⟩
  · cases (at_one z).2
  · rcases z with z | z
    · obtain ⟨rfl, q⟩ := at_one z
      cases q
      exact ⟨a, o, hs, h, f, c⟩
    · cases (at_one z).2
  · cases (at_one z).2
  · cases (at_one z).2
  · cases (at_one z).2
  · rw [(at_one h1).1, (at_one h2).1]
theorem rel_fz {K : PySem.W.Frag} {F H : Hp} {n j : Nat} {σ : L2.St} {x : V} {d : PyData} (sub : Ext F H) (hl : σ.length = n) (hs : σ[j]? = some (some x)) (c : Rp F x d) : Rel K F ((List.replicate n none).set j (some (.fz d))) σ H := by
  refine ⟨sub, by rw [List.length_set, List.length_replicate, hl], fun i e z => ?_, fun i e z => ?_, fun i e z => ?_, fun i ns z => ?_, fun i p z => ?_, fun i k s t x y b h1 h2 _ _ _ _ => ?_⟩
  · obtain ⟨rfl, q⟩ := at_one z
    cases q
    exact ⟨x, hs, c⟩
  · rcases z with z | z <;> cases (at_one z).2
  · cases (at_one z).2
  · cases (at_one z).2
  · cases (at_one z).2
  · rw [(at_one h1).1, (at_one h2).1]
theorem rel_nil {K : PySem.W.Frag} {F H : Hp} (sub : Ext F H) : Rel K F [] (([] : List V).map some) H :=
  ⟨sub, rfl, fun i _ z => by simp at z, fun i _ z => by rcases z with z | z <;> simp at z, fun i _ z => by simp at z, fun i _ z => by simp at z, fun i _ z => by simp at z, fun i _ _ _ _ _ _ z => by simp at z⟩
theorem not_own_nil {m : Nat} {σ : L2.St} {H : Hp} {c : Addr} : ¬ Owned ([] ++ List.replicate m none) σ H c := fun ⟨i, s, x, z, _⟩ => by
  have := pad_get (r := []) z
  simp at this
end TL

namespace TL
open PySem PySem.Spec PyProof.Rows L2
/-! ### {t: v}, t a tuple of ints and texts -/
def tDispT1 (tk tv : TE) : TE := fun σ H Q => ∀ p, H p = none → tk σ (upd H p (.dT [])) fun x H1 => tv σ H1 fun y H2 => H2 p = some (.dT []) ∧ ∃ (ks : List Key) (b : Addr), x = .ref b ∧ H2 b = some (.tup (ks.map kV)) ∧ Q (.ref p) (upd H2 p (.dT [(ks, y)]))
theorem pe_dispT1 {X : Cx} {pos : Pos} {k v : Expr} {tk tv : TE} (hu : X.A.units + 1 < cLine) (hk : PE X k tk) (hv : PE X v tv) : PE X (.Dict [some k] [v] pos) (tDispT1 tk tv) := by
  refine ⟨fun pins s σ H Q I q => ?_⟩
  have fresh := I.hok.fresh (Nat.le_refl s.heap.objs.size)
  have I1 := I.laid (a := s.heap.objs.size) (o := .dT []) (h' := s.heap.push { cls := .type "dict", data := .dict #[] }) (t' := s.toks) (fun _ _ q => Heap.get?_push_of_some _ q) (Nat.le_refl _) (dt_empty s.heap I.big)
  have run := (pps_cons (pos := pos) hk hv pps_nil).run pins _ σ _ (fun ps H3 => match ps with
      | [(x, y)] => H3 s.heap.objs.size = some (.dT []) ∧ ∃ (ks : List Key) (b : Addr), x = .ref b ∧ H3 b = some (.tup (ks.map kV)) ∧ Q (.ref s.heap.objs.size) (upd H3 s.heap.objs.size (.dT [(ks, y)]))
      | _ => False) I1 (q _ fresh)
  rw [arm_eval_Dict, zip_pairTrees [some k] [v] X.env pos rfl rfl, dictDisplay_pairs (pairTrees [some k] [v] X.env pos) (fun z => by cases z) (by show 1 < 17; decide)]
  refine wpAny_bind (wpAny_standAt (wpAny_bind (wpAny_subDictH (knd := tupleKind (mixKind X.prog X.w)) (show X.A.units < cLine by omega) (by show 1 ≤ 15; decide) (wpAny_mono run (fun ws s2 hh => ?_) fun _ _ e => e))))
  obtain ⟨ps, H2, I2, rel, h2⟩ := hh
  split at h2
  · rename_i x y
    obtain ⟨e, ks, b, rfl, eb, q2⟩ := h2
    cases rel with
    | cons r1 r2 =>
      cases r2
      rename_i w1 
      obtain ⟨u1, u2⟩ := w1
      obtain ⟨ra, rv⟩ := r1
      obtain rfl : u1 = Value.ref b := ra
      obtain ⟨z, hd, xs, rk, dd⟩ := dt_of I2.hok e
      cases rk
      refine ⟨[(ks, b, u2)], ⟨rfl, rfl, key_of I2.hok eb, trivial⟩, dd, fun h' tk' dd' hs => ?_⟩
      obtain ⟨ob, es, ep, hq, h3, h4, h5, _, h6⟩ := dd'
      refine wpAny_pure ⟨.ref s.heap.objs.size, _, ?_, rfl, q2⟩
      have ne : b ≠ s.heap.objs.size := fun z => by rw [z, e] at eb; cases eb
      refine d_write I2 (by rw [e]; exact True.intro) hs ⟨ob, hq⟩ ⟨by rw [sizeLine_eq]; show (1 : Nat) ≤ 16777216; decide, hd, [(ks, b, u2)], .cons ⟨rfl, by rw [upd_ne ne]; exact eb, rv⟩ .nil, ob, es, ep, hq, h3, h4, h5, by simp⟩
  · exact h2.elim
/-! ### by slots: {tuple(e): v}, {text: v} -/
def sDispT (fk : FE) (dv : PyData) : FE := fun r => (fk r).bind fun p => (cur p.1 p.2).bind fun d => match d with
  | .tuple ks => (keysOf ks).map fun _ => (.n (.dict [(.none, .none), (.tuple ks, dv)]), p.2)
  | _ => none
theorem Rel.alter {K : PySem.W.Frag} {F H : Hp} {r : Ev} {σ : L2.St} {p : Addr} {o : HO} (R : Rel K F r σ H) (hf : F p = none) (ho : ¬ Owned r σ H p) : Rel K F r σ (upd H p o) := by
  have ne : ∀ {i : Nat} {s : Slt} {x : V} {a : Addr}, r[i]? = some (some s) → σ[i]? = some (some x) → OwnA H s x a → a ≠ p := fun {i s x a} h1 h2 h3 z => ho ⟨i, s, x, h1, h2, z ▸ h3⟩
  refine ⟨fun a u h => ?_, R.len, R.fz, fun i d h => ?_, fun i d h => R.trKeep (Ext.refl F) h fun x b e ob => ⟨upd_ne (ne h e ob), rfl⟩, R.scr, R.xc, fun i j s t x y a h1 h2 e1 e2 o1 o2 => ?_⟩
  · rw [upd_ne (fun z => by rw [z, hf] at h; cases h)]
    exact R.sub a u h
  · obtain ⟨a, u, q1, q2, q3, q4⟩ := R.own i d h
    obtain ⟨s, w1, w2⟩ := h.a
    exact ⟨a, u, q1, (upd_ne (ne w1 q1 (w2 H a))).trans q2, q3, q4⟩
  · exact R.dja i j s t x y a h1 h2 e1 e2 (ownA_back R h1 e1 (fun b hb => upd_ne (ne h1 e1 hb)) o1) (ownA_back R h2 e2 (fun b hb => upd_ne (ne h2 e2 hb)) o2)
theorem sDispT_ok {K : PySem.W.Frag} {fk : FE} {v : V} {dv : PyData} (hv : ∀ F, Rp F v dv) : ∀ σ H Q, tI K (sDispT fk dv) σ H Q → tDispT1 (tI K fk) (tC v) σ H Q := by
  rintro σ H Q ⟨F, ρ, h, ρ', R, e, k⟩ p hp
  simp only [sDispT, Option.bind_eq_some_iff] at e
  obtain ⟨⟨h1, ρ1⟩, e1, d, e2, e3⟩ := e
  have fp : F p = none := fnone R.sub hp
  obtain ⟨R0, S0⟩ := R.grow (F' := F) (H' := upd H p (.dT [])) (Ext.refl F) (R.sub.trans (Ext.new hp)) (fun a ha => ⟨upd_ne (fun z => ha (z ▸ hp)), rfl⟩)
  have np : ¬ Owned ρ σ (upd H p (.dT [])) p := fun ⟨i, s, x, z1, z2, z3⟩ => (R.notNew hp) ⟨i, s, x, z1, z2, ownA_back R z1 z2 (fun b hb => upd_ne (fun z => (R.ownA z1 z2 hb).1 (z ▸ hp))) z3⟩
  refine ⟨F, ρ, h1, ρ1, R0, e1, fun x F1 H1 R1 S1 q1 n1 => ?_⟩
  obtain ⟨g1, g2, g3⟩ := S1.pres p (by rw [upd_same]; simp) np
  rw [upd_same] at g1
  have f1 : F1 p = none := g2.trans fp
  split at e3
  · rename_i ks
    rw [Option.map_eq_some_iff] at e3
    obtain ⟨k', h2, e4⟩ := e3
    cases e4
    cases keysOf_eq h2
    obtain ⟨b, vs, rfl, w0, w1, w3⟩ := (cur_ok R1 q1 e2).tuple R1.sub
    have ev : vs = k'.map kV := rp_keysV w3
    subst ev
    refine ⟨g1, k', b, rfl, w1, ?_⟩
    have R2 := R1.alter (o := .dT [(k', v)]) f1 g3
    have n2 : ¬ Owned ρ1 σ (upd H1 p (.dT [(k', v)])) p := fun ⟨i, s, x, z1, z2, z3⟩ => g3 ⟨i, s, x, z1, z2, ownA_back R1 z1 z2 (fun c hc => upd_ne (fun z => g3 ⟨i, s, x, z1, z2, by rw [← z]; exact hc⟩)) z3⟩
    refine k (.ref p) F1 _ R2 ⟨S0.ext.trans S1.ext, fun a ha hn => ?_, fun i d hi => ?_, fun a ha => ?_, S1.sl⟩ (.n upd_same f1 n2 (.dT (.cons (hv F1) .nil))) (fun a ea => ?_)
    · have nap : a ≠ p := fun z => ha (z ▸ hp)
      obtain ⟨c1, c2, c3⟩ := (S0.trans S1).pres a ha hn
      exact ⟨(upd_ne nap).trans c1, c2, fun ⟨i, s, x, z1, z2, z3⟩ => c3 ⟨i, s, x, z1, z2, ownA_back R1 z1 z2 (fun c hc => upd_ne (fun z => g3 ⟨i, s, x, z1, z2, by rw [← z]; exact hc⟩)) z3⟩⟩
    · exact (S0.trans S1).io i d hi
    · have nap : a ≠ p := fun z => ha (by rw [z]; exact hp)
      rw [upd_ne nap]
      exact (S0.trans S1).stay a ha
    · cases ea
      exact .inl hp
  · cases e3
def sDispK (fk : FE) (dv : PyData) : FE := fun r => (fk r).bind fun p => (cur p.1 p.2).bind fun d => (keyOf d).map fun _ => (.n (.dict [(d, dv)]), p.2)
theorem sDispK_ok {K : PySem.W.Frag} {fk : FE} {v : V} {dv : PyData} (hv : ∀ F, Rp F v dv) : ∀ σ H Q, tI K (sDispK fk dv) σ H Q → tDisp [(tI K fk, tC v)] σ H Q := by
  rintro σ H Q ⟨F, ρ, h, ρ', R, e, k⟩ p hp
  simp only [sDispK, Option.bind_eq_some_iff] at e
  obtain ⟨⟨h1, ρ1⟩, e1, d, e2, e3⟩ := e
  have fp : F p = none := fnone R.sub hp
  obtain ⟨R0, S0⟩ := R.grow (F' := F) (H' := upd H p (.dK [])) (Ext.refl F) (R.sub.trans (Ext.new hp)) (fun a ha => ⟨upd_ne (fun z => ha (z ▸ hp)), rfl⟩)
  have np : ¬ Owned ρ σ (upd H p (.dK [])) p := fun ⟨i, s, x, z1, z2, z3⟩ => (R.notNew hp) ⟨i, s, x, z1, z2, ownA_back R z1 z2 (fun b hb => upd_ne (fun z => (R.ownA z1 z2 hb).1 (z ▸ hp))) z3⟩
  refine ⟨F, ρ, h1, ρ1, R0, e1, fun x F1 H1 R1 S1 q1 n1 => ?_⟩
  obtain ⟨g1, g2, g3⟩ := S1.pres p (by rw [upd_same]; simp) np
  rw [upd_same] at g1
  have f1 : F1 p = none := g2.trans fp
  rw [Option.map_eq_some_iff] at e3
  obtain ⟨k', h2, e4⟩ := e3
  cases e4
  cases keyOf_eq h2
  have ev : x = kV k' := by
    cases cur_ok R1 q1 e2 with
    | r q => exact rp_keyV q
    | o h q => cases k' <;> cases q
  subst ev
  refine ⟨g1, [(k', v)], rfl, by show 1 ≤ 15; decide, ?_⟩
  show Q (.ref p) (upd H1 p (.dK [(k', v)]))
  have R2 := R1.alter (o := .dK [(k', v)]) f1 g3
  have n2 : ¬ Owned ρ1 σ (upd H1 p (.dK [(k', v)])) p := fun ⟨i, s, x, z1, z2, z3⟩ => g3 ⟨i, s, x, z1, z2, ownA_back R1 z1 z2 (fun c hc => upd_ne (fun z => g3 ⟨i, s, x, z1, z2, by rw [← z]; exact hc⟩)) z3⟩
  refine k (.ref p) F1 _ R2 ⟨S0.ext.trans S1.ext, fun a ha hn => ?_, fun i d hi => ?_, fun a ha => ?_, S1.sl⟩ (.n upd_same f1 n2 (.dK (.cons (hv F1) .nil))) (fun a ea => ?_)
  · have nap : a ≠ p := fun z => ha (z ▸ hp)
    obtain ⟨c1, c2, c3⟩ := (S0.trans S1).pres a ha hn
    exact ⟨(upd_ne nap).trans c1, c2, fun ⟨i, s, x, z1, z2, z3⟩ => c3 ⟨i, s, x, z1, z2, ownA_back R1 z1 z2 (fun c hc => upd_ne (fun z => g3 ⟨i, s, x, z1, z2, by rw [← z]; exact hc⟩)) z3⟩⟩
  · exact (S0.trans S1).io i d hi
  · have nap : a ≠ p := fun z => ha (by rw [z]; exact hp)
    rw [upd_ne nap]
    exact (S0.trans S1).stay a ha
  · cases ea
    exact .inl hp
theorem upd_over {H : Hp} {p : Addr} {a b : HO} : upd (upd H p a) p b = upd H p b := by
  funext c
  by_cases z : c = p
  · subst z; rw [upd_same, upd_same]
  · rw [upd_ne z, upd_ne z, upd_ne z]
theorem se_dispT {X : Cx} {pos : Pos} {k v : Expr} {fk : FE} {dv : PyData} {u : V} (hu : X.A.units + 1 < cLine) (hk : SE X k fk) (hv : PE X v (tC u)) (hr : ∀ F, Rp F u dv) : SE X (.Dict [some k] [v] pos) (sDispT fk dv) := PEimp (pe_dispT1 hu hk hv) (sDispT_ok hr)
theorem se_dispK {X : Cx} {pos : Pos} {k v : Expr} {fk : FE} {dv : PyData} {u : V} (hk : SE X k fk) (hv : PE X v (tC u)) (hr : ∀ F, Rp F u dv) : SE X (.Dict [some k] [v] pos) (sDispK fk dv) := PEimp (pe_disp (pps_cons hk hv pps_nil) rfl rfl (fun z => by cases z) (by show 1 ≤ 15; decide)) (sDispK_ok hr)
@[simp] theorem x_sDispK {fk : FE} {dv : PyData} {r : Ev} : sDispK fk dv r = (fk r).bind fun p => (cur p.1 p.2).bind fun d => (keyOf d).map fun _ => (.n (.dict [(d, dv)]), p.2) := (rfl)
@[simp] theorem x_keyOf_str {x : Str} : keyOf (.str x) = some (.inr x) := (rfl)
@[simp] theorem x_sDispT {fk : FE} {dv : PyData} {r : Ev} : sDispT fk dv r = (fk r).bind fun p => (cur p.1 p.2).bind fun d => match d with
  | .tuple ks => (keysOf ks).map fun _ => (.n (.dict [(.none, .none), (.tuple ks, dv)]), p.2)
  | _ => none := (rfl)
end TL

namespace TL
open PySem PySem.Spec PyProof.Rows L2
/-! ### except D as n: m = n.value if isinstance(n, D1) else k -/
section
variable {X : Cx} {a : Addr} {oe : Obj} {pn : List (Addr × Obj)} {cls : Value} {d : Option Addr}
/-- isinstance(n, c) in the suite -/
def rIsXs (K : PySem.W.Frag) (a : Addr) (cls : Value) (d : Option Addr) : List V → Hp → VK → Prop := fun xs H Q => ∃ (C dd D : Addr) (fs : List (Str × V)) (b : Bool), xs = [.ref a, .ref D] ∧ cls = .ref C ∧ d = some dd ∧ H dd = some (.xd fs) ∧ ExcC K C ∧ PySem.W.kitOne K (.ref C) (.ref D) = some b ∧ Q (.bl b) H
theorem call_isXs (hz : Zc cls d oe) (hf : ∃ vs, oe.data = .fields vs) : CallR (X.suite a ((a, oe) :: pn)) (.builtin "isinstance") (rIsXs X.K a cls d) := by
  intro pins s σ H xs us Q I r h
  obtain ⟨C, dd, D, fs, b, rfl, rfl, rfl, hd, Z, hk, q⟩ := h
  obtain ⟨u1, u2, rfl, r1, r2⟩ := vals2 r
  obtain rfl : u1 = Value.ref a := r1
  obtain rfl : u2 = Value.ref D := r2
  obtain ⟨h1, _⟩ := I.pin (a, oe) (List.mem_append_left _ List.mem_cons_self)
  obtain ⟨fv, h3⟩ := hf
  obtain ⟨mA, hns, hr⟩ : ObjOk X.prog X.w H s.heap dd (.xd fs) := I.hok dd _ hd
  obtain ⟨od, ho, hlk⟩ := lookIn_ns hns
  have J : PySem.W.InstAt s.heap a oe C (some od) := ⟨h1, hz.1, by unfold PySem.W.notCls; rw [h3] <;> rfl, by rw [hz.2]; exact ho⟩
  obtain ⟨cd, hcd, _⟩ := PySem.W.any_some Z.hd
  exact PySem.W.kia_one (PySem.W.kitx_exc (by rw [hcd]; rfl) Z.hg Z.hk Z.hs Z.ha Z.hn Z.ht Z.hm) I.kIn J hk (fun z => nomatch z) fun tk => ⟨.bl b, H, I.tok tk, rfl, q⟩
/-- n.value in the suite -/
def tXfA (K : PySem.W.Frag) (a : Addr) (cls : Value) (d : Option Addr) (f : Str) (te : TE) : TE := fun σ H Q => ∃ C, XfC K C ∧ PySem.W.findIn K (.ref C) f = some none ∧ tXf a cls d C f te σ H Q
theorem pe_xfA {e : Expr} {te : TE} {pos : Pos} {n : Str} (hz : Zc cls d oe) (hf : ∃ vs, oe.data = .fields vs) (he : PE (X.suite a ((a, oe) :: pn)) e te) (hb : attributeBase e n X.env (eval e X.env) = eval e X.env := by rfl) :
    PE (X.suite a ((a, oe) :: pn)) (.Attribute e n pos) (tXfA X.K a cls d n te) := ⟨fun pins s σ H Q I ⟨C, T, no, h⟩ => (pe_xf T no hz hf he hb).run pins s σ H Q I h⟩
end
/-- B: which classes are under D1; dw: else -/
def fTryV (L : List (Str × FE)) (fa : FA) (B : List (Str × Bool)) (dw : PyData) (i j : Nat) : FS := fun r => L.findSome? fun p => (sCall p.2 none fa r).bind fun u => (esc u.1 u.2).bind fun v => (B.lookup p.1).bind fun b =>
  if (v.2[i]?).isSome = true ∧ isIo v.2[i]? = false ∧ isIo v.2[j]? = false ∧ i ≠ j then some (.nx ((v.2.set i none).set j (some (.fz (if b = true then v.1 else dw))))) else none
section
variable {X : Cx} {c : Value} {i j : Nat} {L : List (Str × FE)} {fa : FA} {k : Nat} {f : Addr} {fd : FuncData} {ps : List Str} {x D n m D1 : Str} {e ek : Expr} {es : List Expr} {q0 q1 q2 q3 q4 q5 q6 q7 q8 q9 q10 q11 p pos : Pos} {B : List (Str × Bool)} {C1 : Addr} {w : V} {dw : PyData}
theorem ss_tryV (st : X.stack = X.env :: X.outer) (fr : X.env.frame = some X.env.locals) (ex0 : X.ex = []) (nd : X.N.Nodup) (ni : X.N[i]? = some n) (kn : X.env.kindOf n = some .local) (nj : X.N[j]? = some m) (km : X.env.kindOf m = some .local) (nm : Names X D c) (hvn : Vis X.env.scope n)
    (hG : ∀ p ∈ L, FnG X.prog X.w X.K X.mg X.base (L2.CX X.prog X.w) k f fd ps (spR X.K (He.ga X.K p.1) p.2)) (hM : ∀ p ∈ L, PySem.W.exmOne X.K (.ref (He.ga X.K p.1)) c = some true)
    (hr : RoomG k X.A) (hg : Gl X x) (hm : X.mg x = some (.ref f)) (kp : PySem.W.keepIn X.K (.ref f) = true) (hb : Binds X.K fd ps []) (ha : ∀ l xe, SA (X.tr l xe) (e :: es) fa)
    (hI : X.mg "isinstance" = none) (hD1 : X.mg D1 = some (.ref C1)) (hB : ∀ p ∈ B, ExcC X.K (He.ga X.K p.1) ∧ PySem.W.kitOne X.K (.ref (He.ga X.K p.1)) (.ref C1) = some p.2) (hno : ∀ p ∈ B, PySem.W.findIn X.K (.ref (He.ga X.K p.1)) "value" = some none)
    (hk : ∀ (a : Addr) (ob : Obj) (l : List (Addr × Obj)), PE (X.suite a ((a, ob) :: l)) ek (tC w)) (hw : ∀ F, Rp F w dw)
    (hgI : Gl X "isinstance" := by rfl) (hgD : Gl X D1 := by rfl) (hdD : (D1 == ("__debug__" : Str)) = false := by decide)
    (db : (x == ("__debug__" : Str)) = false := by decide) (se : starEach (e :: es) X.env = (false, eval e X.env) :: starEach es X.env := by rfl) (pl : (backTo pos (starEach es X.env)).any (·.1) = false := by rfl)
    (hs : swapsWith (.Call (.Name x p) (e :: es) [] pos) none q3.line X.env = pure false := by rfl)
    (hdn : (n == ("__debug__" : Str)) = false := by decide) (hcn : (n == ("__classdict__" : Str)) = false := by decide)
    (he1 : starEach [.Name n q8, .Name D1 q9] X.env = (false, eval (.Name n q8) X.env) :: starEach [.Name D1 q9] X.env := by rfl) (he2 : starEach [.Name D1 q9] X.env = (false, eval (.Name D1 q9) X.env) :: starEach [] X.env := by rfl) (hpl : (backTo q10 (starEach [.Name D1 q9] X.env)).any (·.1) = false := by rfl)
    (hat : attributeBase (.Name n q5) "value" X.env (eval (.Name n q5) X.env) = eval (.Name n q5) X.env := by rfl)
    (htv : ∀ whole, isTrue (.Call (.Name "isinstance" q7) [.Name n q8, .Name D1 q9] [] q10) X.env whole = (do let v ← whole; standAt q10; holding [v] (truthy v)) := by intro _; rfl)
    (hs2 : swapsWith (.IfExp (.Call (.Name "isinstance" q7) [.Name n q8, .Name D1 q9] [] q10) (.Attribute (.Name n q5) "value" q11) ek q6) (some (.Name m q4)) q2.line X.env = pure false := by rfl) (hf2 : X.env.scope.names.lookup m = some .local := by rfl) {q12 : Pos} :
    SS X (.Try [.Expr (.Call (.Name x p) (e :: es) [] pos) q3] [.ExceptHandler (some (.Name D q0)) (some n) [.Assign [.Name m q4] (.IfExp (.Call (.Name "isinstance" q7) [.Name n q8, .Name D1 q9] [] q10) (.Attribute (.Name n q5) "value" q11) ek q6) q2] q1] [] [] q12) (fTryV L fa B dw i j) := by
  refine PSimp (ps_kept (tb := fun W D σ H => ∃ p ∈ L, tIA X.K fa σ H fun vs H1 => spR X.K (He.ga X.K p.1) p.2 vs H1 (fun _ H2 => D.nx σ H2) fun cls d H2 => W cls d σ H2)
    (ts := fun a cls d => tAsg (tIf (tB (tCB (rIsXs X.K a cls d) (tCons (tVar i) (tCons (tC (.ref C1)) tNil)))) (tXfA X.K a cls d "value" (tVar i)) (tC w)) (gName j)) st fr ex0 nd ni kn nm (fun W l xe tk => ?_) fun a ob cls d l hz hf => ?_) ?_
  · constructor
    intro pins s σ H D I ⟨p, hp, h⟩
    exact (PSsimp (pss_one (ps_expr (X := X.tr l xe) (pg_callW (X := X.tr l xe) (hG p hp) hr hg hm kp hb tk (ha l xe) db se pl) hs)) fun D σ H z => z).run pins s σ H D I h
  · have vr : ∀ q, PE (X.suite a ((a, ob) :: l)) (.Name n q) (tVar i) := fun q => pe_var (X := X.suite a ((a, ob) :: l)) ni hvn hdn hcn
    exact pss_one (ps_set (X := X.suite a ((a, ob) :: l)) nd nj (.inl km) (pe_ifExp (pt_val (pe_callB (call_isXs hz hf) hgI hI (by decide +kernel) (pa_cons (vr q8) (pa_cons (pe_glob (X := X.suite a ((a, ob) :: l)) (v := .ref C1) hgD hD1 rfl hdD) pa_nil he2) he1) (by decide) (by decide) he1 hpl) htv) (pe_xfA hz hf (vr q5) hat) (hk a ob l)) hs2 (.inr hf2))
  · rintro D σ H ⟨F, r, o, R, e0, post⟩
    unfold fTryV at e0
    obtain ⟨p, hp, e0⟩ := List.exists_of_findSome?_eq_some e0
    simp only [Option.bind_eq_some_iff] at e0
    obtain ⟨⟨h, r1⟩, e1, ⟨y, r2⟩, e2, b, eb, e3⟩ := e0
    dsimp only at e2 e3
    split at e3
    · rename_i hio
      obtain ⟨hsm, hi0, hj0, hij⟩ := hio
      cases e3
      obtain ⟨kC, kB⟩ := hB _ (lookup_mem eb)
      refine ⟨p, hp, ?_⟩
      have call := sCall_ok (E := fun _ _ _ => True) σ H (RW (He.ga X.K p.1) fun cls d H2 => wKeep X.K c i (fun a cls d => tAsg (tIf (tB (tCB (rIsXs X.K a cls d) (tCons (tVar i) (tCons (tC (.ref C1)) tNil)))) (tXfA X.K a cls d "value" (tVar i)) (tC w)) (gName j)) D cls d σ H2) ⟨F, r, h, r1, R, e1, fun v F1 H1 R1 S1 q1 n1 => ?_⟩
      · obtain ⟨F0, r0, hs0, r00, R0, g1, g2⟩ := call
        refine ⟨F0, r0, hs0, r00, R0, g1, fun xs F1 H1 R1 S1 t => ?_⟩
        have z := g2 xs F1 H1 R1 S1 t
        have z : spI X.K p.2 (xs ++ []) H1 (RW (He.ga X.K p.1) fun cls d H2 => wKeep X.K c i (fun a cls d => tAsg (tIf (tB (tCB (rIsXs X.K a cls d) (tCons (tVar i) (tCons (tC (.ref C1)) tNil)))) (tXfA X.K a cls d "value" (tVar i)) (tC w)) (gName j)) D cls d σ H2) (fun _ _ _ => True) := z
        rw [List.append_nil] at z
        exact z
      · intro dd hdd
        obtain ⟨G, RG, SG, rp, _⟩ := esc_ok S1 R1 q1 n1 e2
        refine ⟨_, dd, rfl, rfl, hM p hp, fun a ha => ?_⟩
        have nad : a ≠ dd := fun z => by rw [z, upd_same] at ha; cases ha
        have ha1 : H1 a = none := by rwa [upd_ne nad] at ha
        have hil : i < σ.length := by
          rw [← RG.len]
          cases q : r2[i]? with
          | none => rw [q] at hsm; cases hsm
          | some s => exact (List.getElem?_eq_some_iff.mp q).1
        have si : (σ.set i (some (V.ref a)))[i]? = some (some (.ref a)) := by rw [List.getElem?_set_self hil]
        have gd : G dd = none := fnone RG.sub hdd
        have ga : G a = none := fnone RG.sub ha1
        obtain ⟨R3, S3⟩ := RG.grow (F' := G) (H' := upd (upd H1 dd (.xd [(("value" : Str), v)])) a (ExD (He.ga X.K p.1) dd a)) (Ext.refl G) (fun b o hb => by
            have h1 : b ≠ a := fun z => by rw [z, ga] at hb; cases hb
            have h2 : b ≠ dd := fun z => by rw [z, gd] at hb; cases hb
            rw [upd_ne h1, upd_ne h2]
            exact RG.sub b o hb) (fun b hb => by
            have h1 : b ≠ a := fun z => hb (by rw [z]; exact ha1)
            have h2 : b ≠ dd := fun z => hb (by rw [z]; exact hdd)
            exact ⟨by rw [upd_ne h1, upd_ne h2], rfl⟩)
        have fin : ∀ z : V, Rp G z (if b = true then y else dw) → D.nx ((((σ.set i (some (V.ref a))).set j (some z))).set i none) (upd (upd H1 dd (.xd [(("value" : Str), v)])) a (ExD (He.ga X.K p.1) dd a)) := fun z hz => by
          have eσ : (((σ.set i (some (V.ref a))).set j (some z)).set i none) = (σ.set i none).set j (some z) := by
            rw [List.set_comm _ _ hij.symm, List.set_set]
          rw [eσ]
          exact post _ _ _ ((R3.hole i none).putV hz) (((SG.trans S3).hole hi0).putV (by rw [List.getElem?_set_ne hij, hj0]; simp))
        refine ⟨.ref a, si, _, dd, C1, _, b, rfl, rfl, rfl, upd_same, kC, kB, b, rfl, ?_⟩
        cases b with
        | true => exact ⟨_, ⟨kC.hg, kC.hk, kC.hs, kC.hd⟩, hno _ (lookup_mem eb), .ref a, si, rfl, rfl, dd, _, v, rfl, upd_same, by rfl, fun _ => fin v rp⟩
        | false => exact fun _ => fin w (hw G)
    · cases e3
end
end TL

namespace TL
open PySem PySem.Spec PyProof.Rows L2
/-! ### xs[e] of a tree of one's own, told; the rest is forgotten -/
def natD : PyData → Option Nat
  | .int (.ofNat n) => some n
  | _ => none
theorem natD_eq {d : PyData} {n : Nat} (e : natD d = some n) : d = .int (n : Int) := by
  unfold natD at e
  split at e
  · cases e; rfl
  · cases e
def sPart (k : Nat) (g : FE) : FE := fun r => (g r).bind fun p => (cur p.1 p.2).bind fun i => (natD i).bind fun n => ((trD k r).bind isL).bind fun _ => ((trD k p.2).bind isL).bind fun ds => (ds[n]?).map fun d => (if scal2 d = true then .v d else .t d, p.2.set k none)
theorem sPart_ok {K : PySem.W.Frag} {k : Nat} {g : FE} : ∀ σ H Q, tI K (sPart k g) σ H Q → tOp (rIx K) (tVar k) (tI K g) σ H Q := by
  rintro σ H Q ⟨F, ρ, h, ρ', R, e, kk⟩
  simp only [sPart, Option.bind_eq_some_iff, Option.map_eq_some_iff] at e
  obtain ⟨⟨h1, ρ1⟩, e1, i, ei, n, e2, dsx, ⟨dx, ex, ex'⟩, ds, ⟨d0, e0, e0'⟩, d, e3, e4⟩ := e
  cases isL_eq e0'
  cases isL_eq ex'
  cases e4
  cases natD_eq e2
  dsimp only at ei e0
  have hk0 := trD_at ex
  have hk := trD_at e0
  obtain ⟨x, fp, sx, tx⟩ := R.tr k _ hk0
  refine ⟨x, sx, F, ρ, _, ρ1, R, e1, fun y F1 H1 R1 S1 q1 n1 => ?_⟩
  obtain ⟨x', fp1, sx', t1⟩ := R1.tr k _ hk
  rw [sx] at sx'
  cases sx'
  have ey : y = .int (n : Int) := (cur_ok R1 q1 ei).int
  subst ey
  have own : ∀ a ∈ fp1, OwnA H1 (.tr (.list ds)) x a := fun a ha => ⟨F1, fp1, t1, ha⟩
  have noO : ∀ a ∈ fp1, ¬ Owned (ρ1.set k none) σ H1 a := fun a ha ⟨i, s, z, z1, z2, z3⟩ => by
    obtain ⟨w1, w2⟩ := drop_get z1
    exact w2 (R1.dja k i _ _ _ _ a hk w1 sx z2 (own a ha) z3)
  have fsh : ∀ a ∈ fp1, Fsh ρ σ H a := fun a ha => Fsh.back (.inr ⟨k, _, x, hk, sx, own a ha⟩) S1
  have hj : isIo ρ1[k]? = false := by rw [hk]; rfl
  cases t1 with
  | leaf s _ => cases s
  | @ls a vs _ fp g1 g2 g3 g4 =>
    obtain ⟨v, f, w1, w2, w3, _⟩ := g3.part e3
    obtain ⟨z1, z2⟩ := part_rep (P := Fsh ρ σ H) (r := ρ1.set k none) (σ := σ) w2 (fun a ha => noO a (List.mem_cons_of_mem _ (w3 a ha))) (fun a ha => fsh a (List.mem_cons_of_mem _ (w3 a ha)))
    exact .inl ⟨a, vs, n, v, rfl, rfl, .inl (.inl g1), L2.atI_nat w1, kk v F1 H1 (R1.drop k) (S1.drop hj) z1 z2⟩
section
variable {X : Cx} {x : Str} {i : Expr} {g : FE} {pos p2 : Pos}
theorem se_part (k : Nat) (hi : SE X i g) (hN : X.N[k]? = some x := by rfl) (hv : Vis X.env.scope x := by first | exact Or.inl rfl | exact Or.inr (Or.inl rfl) | exact Or.inr (Or.inr rfl)) (hd : (x == ("__debug__" : Str)) = false := by decide) (hcd : (x == ("__classdict__" : Str)) = false := by decide)
    (hs : PlainIx i := by exact fun _ _ => rfl) : SE X (.Subscript (.Name x p2) i pos) (sPart k g) := PEimp (pe_ix ix_seq (pe_var hN hv hd hcd) hi hs) sPart_ok
end
@[simp] theorem x_sPart {k : Nat} {g : FE} {r : Ev} : sPart k g r = (g r).bind fun p => (cur p.1 p.2).bind fun i => (natD i).bind fun n => ((trD k r).bind isL).bind fun _ => ((trD k p.2).bind isL).bind fun ds => (ds[n]?).map fun d => (if scal2 d = true then .v d else .t d, p.2.set k none) := (rfl)
@[simp] theorem x_natD {n : Nat} : natD (iD n) = some n := (rfl)
@[simp] theorem x_natDi {n : Nat} : natD (.int (n : Int)) = some n := (rfl)
end TL

namespace K36
open PySem PySem.Spec PyProof.Rows L2 TL
noncomputable section
def T_own : List Str := ["InvalidNumber", "InvalidOrder"]
def B_InvalidNumber : List (Str × Bool) := [("InvalidNumber", true), ("InvalidOrder", false)]
def b__law_cell_body : FS := fSeq (fIf (t2 dLt (sVar 1) (sScLen 0)) (fRet (sScIx 0 (sVar 1))) (fSkip)) (fRet (s2 dMod (sBc bSum (aCons (sScSl 0 (oNo) (oSo (sC (.int 1)))) (aNil))) (sC (.int 1000003))))
def m__law_cell : FE := defM 2 2 b__law_cell_body
def b__law_generator_body : FS := fSeq (fAsg 2 (sCall m__law_cell (some 0) (aCons (sVar 0) (aCons (sVar 1) (aNil))))) (fRet (sLst (aCons (s2 dMod (sBc bInt (aCons (sBc bMax (aCons (s2 dSub (sVar 2) (s2 dPow (sC (.int 10)) (sC (.int 18)))) (aCons (sC (.int 0)) (aNil)))) (aNil))) (s2 dPow (s2 dPow (sC (.int 10)) (sC (.int 60))) (sC (.int 10)))) (aCons (s2 dMod (sBc bInt (aCons (sVar 2) (aNil))) (sC (.int 2147483647))) (aCons (s2 dMulA (sC (.int 1000)) (sVar 1)) (aNil))))))
def m__law_generator : FE := defM 3 2 b__law_generator_body
def b__law_moved_body : FS := fSeq (fAsg 3 (s2 dAdd (sMt "list" mIndex (sVar 0) (aCons (sVar 2) (aNil))) (sC (.int 1)))) (fRet (s2 dAdd (s2 dAdd (sSl (sVar 0) (oNo) (oSo (sVar 3))) (sLst (aCons (sVar 1) (aNil)))) (sSl (sVar 0) (oSo (sVar 3)) (oSo (s2 dSub (sBc bLen (aCons (sVar 0) (aNil))) (sC (.int 1)))))))
def m__law_moved : FE := defM 4 3 b__law_moved_body
def b__law_done_body : FS := fSeq (fPar [2, 3] (aCons (s2 dSub (sBc bLen (aCons (sVar 0) (aNil))) (sC (.int 1))) (aCons (s2 dIxA (sVar 0) (s2 dSub (sBc bLen (aCons (sVar 0) (aNil))) (sC (.int 1)))) (aNil)))) (fSeq (fIf (t2 dEq (sVar 1) (sC (.str (PySem.Str.ofString "u")))) (fRet (sCall m__law_moved none (aCons (sVar 0) (aCons (sVar 3) (aCons (sVar 2) (aNil)))))) (fSkip)) (fSeq (fAsg 4 (sCall m__law_moved none (aCons (sRg1 (sBc bLen (aCons (sVar 0) (aNil)))) (aCons (sVar 2) (aCons (sVar 3) (aNil)))))) (fRet (sLc [5] (wSeq (sVar 0)) (bNm 5) (cYes) (sMt "list" mIndex (sVar 4) (aCons (sVar 5) (aNil)))))))
def m__law_done : FE := defM 6 2 b__law_done_body
def W__law_class : Nat := 1000000
def b__law_class_body : FS := fSeq (fPar [1, 2, 3] (aCons (sLstT (aCons (sBc bList (aCons (sVar 0) (aNil))) (aNil))) (aCons (sDispK (sBc bReprA (aCons (sVar 0) (aNil))) (.bool true)) (aCons (sC (.int 0)) (aNil))))) (fSeq (fWhile W__law_class (tPure (t2 dLt (sVar 3) (sBc bLen (aCons (sVar 1) (aNil))))) (fSeq (fFor (wSeq (sLst (aCons (sC (.str (PySem.Str.ofString "u"))) (aCons (sC (.str (PySem.Str.ofString "l"))) (aNil))))) (bNm 4) (fSeq (fAsg 5 (sPure (sCall m__law_done none (aCons (s2 dIxA (sVar 1) (sVar 3)) (aCons (sVar 4) (aNil)))))) (fIf (t2 dNotInA (sBc bReprA (aCons (sVar 5) (aNil))) (sVar 2)) (fSeq (fSetI 2 (sC (.bool true)) (sBc bReprA (aCons (sVar 5) (aNil)))) (fExp (sAppX 1 (sVar 5)))) (fSkip)))) (fAsg 3 (s2 dAdd (sVar 3) (sC (.int 1)))))) (fRet (sSortT (sVar 1))))
def m__law_class : FE := defM 6 1 b__law_class_body
def b__law_hash_body : FS := fSeq (fAsg 2 (s2 dMod (sBc bInt (aCons (s2 dAdd (s2 dAdd (s2 dAdd (s2 dMulA (sVar 0) (sC (.int 1140671))) (s2 dMulA (s2 dMulA (sC (.int 27644437)) (sVar 1)) (sVar 1))) (s2 dMulA (sC (.int 131)) (sVar 1))) (sC (.int 19))) (aNil))) (sC (.int 2147483629)))) (fSeq (fAsg 2 (s2 dMod (sBc bInt (aCons (s2 dAdd (s2 dAdd (s2 dMulA (sVar 2) (sVar 2)) (s2 dMulA (sC (.int 62089)) (sVar 1))) (sC (.int 32416187))) (aNil))) (sC (.int 2147483587)))) (fRet (s2 dMod (sBc bInt (aCons (s2 dMulA (sVar 2) (sC (.int 48271))) (aNil))) (sC (.int 2147483647)))))
def m__law_hash : FE := defM 3 2 b__law_hash_body
def b__law_random_body : FS := fSeq (fIf (t2 dGt (s2 dIxA (sVar 0) (sC (.int 0))) (sC (.int 0))) (fSeq (fAsg 2 (s2 dMod (sBc bInt (aCons (s2 dIxA (sVar 0) (sC (.int 0))) (aNil))) (sVar 1))) (fSeq (fSetI 0 (s2 dFdiv (s2 dIxA (sVar 0) (sC (.int 0))) (sVar 1)) (sC (.int 0))) (fRet (sVar 2)))) (fSkip)) (fSeq (fAsg 2 (sC (.int 0))) (fSeq (fFor (wRg1 (s2 dAdd (sC (.int 1)) (s2 dFdiv (s1 dBits (sVar 1)) (sC (.int 30))))) (bNm 3) (fSeq (fSetI 0 (s2 dAdd (s2 dIxA (sVar 0) (sC (.int 2))) (sC (.int 1))) (sC (.int 2))) (fAsg 2 (s2 dAdd (s2 dMulA (sVar 2) (sC (.int 2147483587))) (sCall m__law_hash none (aCons (s2 dIxA (sVar 0) (sC (.int 1))) (aCons (s2 dIxA (sVar 0) (sC (.int 2))) (aNil)))))))) (fRet (s2 dMod (sBc bInt (aCons (sVar 2) (aNil))) (sVar 1)))))
def m__law_random : FE := defM 4 2 b__law_random_body
def b_is_whole_body : FS := fRet (sAn (s1 (isiT "int") (sVar 0)) (sNt (s1 (isiT "bool") (sVar 0))))
def m_is_whole : FE := defM 1 1 b_is_whole_body
def b_is_between_body : FS := fRet (sAn (sCall m_is_whole none (aCons (sVar 0) (aNil))) (sAn (s2b dGe (sVar 0) (sVar 1)) (sOr (s2b dIsN (sVar 2) (sC .none)) (s2b dLe (sVar 0) (sVar 2)))))
def m_is_between : FE := defM 3 3 b_is_between_body
def b_is_row_body : FS := fSeq (fIf (tOr' (tNt (tV (s1 (isiT "list") (sVar 0)))) (tNt (tCh dLe dLe (sC (.int 2)) (sBc bLen (aCons (sVar 0) (aNil))) (sC (.int 40))))) (fRet (sC (.bool false))) (fSkip)) (fSeq (fIf (t2 dNe (sLc [1] (wSeq (sVar 0)) (bNm 1) (tNt (tV (sCall m_is_between none (aCons (sVar 1) (aCons (sC (.int 0)) (aCons (s2 dSub (sBc bLen (aCons (sVar 0) (aNil))) (sC (.int 1))) (aNil))))))) (sVar 1)) (sLst (aNil))) (fRet (sC (.bool false))) (fSkip)) (fRet (s2b dEq (sBc bSorted (aCons (sVar 0) (aNil))) (sRg1 (sBc bLen (aCons (sVar 0) (aNil)))))))
def m_is_row : FE := defM 2 1 b_is_row_body
def b_fall_of_body : FS := fSeq (fAsg 1 (s1 dNeg (sC (.int 1)))) (fSeq (fFor (wEnum (sSl (sVar 0) (oNo) (oSo (s1 dNeg (sC (.int 1)))))) (bTp [2, 3]) (fSeq (fAsg 1 (sBc bMax (aCons (sVar 1) (aCons (sVar 3) (aNil))))) (fIf (t2 dEq (sVar 1) (sVar 2)) (fRet (s2 dAdd (sVar 2) (sC (.int 1)))) (fSkip)))) (fRet (sC .none)))
def m_fall_of : FE := defM 4 1 b_fall_of_body
def b_is_order_list_body : FS := fRet (sAn (sCall m_is_row none (aCons (sVar 0) (aNil))) (s2b dIsN (sCall m_fall_of none (aCons (sVar 0) (aNil))) (sC .none)))
def m_is_order_list : FE := defM 1 1 b_is_order_list_body
def b_check_order_body : FS := fIf (tNt (tV (sCall m_is_order_list none (aCons (sVar 0) (aNil))))) (fNever) (fSkip)
def m_check_order : FE := defM 1 1 b_check_order_body
def rb_check_order_1 : FS := fIfT (tNt (tV (sCall m_is_order_list none (aCons (sVar 0) (aNil))))) (fRet (sVar 0))
def mr_check_order_1 : FE := defM 1 1 (fOnly rb_check_order_1)
def b_moved_behind_body : FS := fSeq (fAsg 3 (s2 dAdd (sMt "list" mIndex (sVar 0) (aCons (sVar 2) (aNil))) (sC (.int 1)))) (fRet (s2 dAdd (s2 dAdd (sSl (sVar 0) (oNo) (oSo (sVar 3))) (sLst (aCons (sVar 1) (aNil)))) (sSl (sVar 0) (oSo (sVar 3)) (oSo (s1 dNeg (sC (.int 1)))))))
def m_moved_behind : FE := defM 4 3 b_moved_behind_body
def b_named_anew_body : FS := fSeq (fAsg 2 (sDc [3, 4] (wEnum (sVar 0)) (bTp [3, 4]) (cYes) (sVar 4) (sVar 3))) (fRet (sLc [4] (wSeq (sVar 1)) (bNm 4) (cYes) (s2 dIxA (sVar 2) (sVar 4))))
def m_named_anew : FE := defM 5 2 b_named_anew_body
def b_behind_deed_body : FS := fSeq (fPar [2, 3] (aCons (s2 dSub (sBc bLen (aCons (sVar 0) (aNil))) (sC (.int 1))) (aCons (s2 dIxA (sVar 0) (s1 dNeg (sC (.int 1)))) (aNil)))) (fSeq (fIf (t2 dEq (sVar 1) (sC (.str (PySem.Str.ofString "u")))) (fRet (sCall m_moved_behind none (aCons (sVar 0) (aCons (sVar 3) (aCons (sVar 2) (aNil)))))) (fSkip)) (fSeq (fAsg 4 (sCall m_moved_behind none (aCons (sRg1 (sBc bLen (aCons (sVar 0) (aNil)))) (aCons (sVar 2) (aCons (sVar 3) (aNil)))))) (fRet (sCall m_named_anew none (aCons (sVar 4) (aCons (sVar 0) (aNil)))))))
def m_behind_deed : FE := defM 5 2 b_behind_deed_body
def W_class_by : Nat := 1000000
def b_class_by_body : FS := fSeq (fPar [1, 2] (aCons (sDispT (sBc bTuple (aCons (sVar 0) (aNil))) (.bool true)) (aCons (sLstT (aCons (sBc bList (aCons (sVar 0) (aNil))) (aNil))) (aNil)))) (fSeq (fAsg 3 (sC (.int 0))) (fSeq (fWhile W_class_by (tPure (t2 dLt (sVar 3) (sBc bLen (aCons (sVar 2) (aNil))))) (fSeq (fFor (wSeq (sC (.str (PySem.Str.ofString "ul")))) (bNm 4) (fSeq (fAsg 5 (sPure (sCall m_behind_deed none (aCons (s2 dIxA (sVar 2) (sVar 3)) (aCons (sVar 4) (aNil)))))) (fIf (t2 dNotInA (sBc bTuple (aCons (sVar 5) (aNil))) (sVar 1)) (fSeq (fSetI 1 (sC (.bool true)) (sBc bTuple (aCons (sVar 5) (aNil)))) (fExp (sAppX 2 (sVar 5)))) (fSkip)))) (fAsg 3 (s2 dAdd (sVar 3) (sC (.int 1)))))) (fRet (sSortT (sVar 2)))))
def m_class_by : FE := defM 6 1 b_class_by_body
def b_class_number_body : FS := fSeq (fExp (sCall m_check_order none (aCons (sVar 0) (aNil)))) (fRet (sMt "list" mIndex (sFz (sCall m_class_by none (aCons (sVar 0) (aNil)))) (aCons (sVar 0) (aNil))))
def m_class_number : FE := defM 1 1 b_class_number_body
def b_check_number_body : FS := fIf (tNt (tV (sCall m_is_between none (aCons (sVar 0) (aCons (sVar 1) (aCons (sVar 2) (aNil))))))) (fNever) (fSkip)
def m_check_number : FE := defM 3 3 b_check_number_body
def rb_check_number_1 : FS := fIfT (tNt (tV (sCall m_is_between none (aCons (sVar 0) (aCons (sVar 1) (aCons (sVar 2) (aNil))))))) (fRet (sVar 0))
def mr_check_number_1 : FE := defM 3 3 (fOnly rb_check_number_1)
def b_class_numbered_body : FS := fSeq (fExp (sCall m_check_order none (aCons (sVar 0) (aNil)))) (fSeq (fAsg 2 (sCall m_class_by none (aCons (sVar 0) (aNil)))) (fSeq (fExp (sCall m_check_number none (aCons (sVar 1) (aCons (sC (.int 0)) (aCons (sPure (s2 dSub (sBc bLen (aCons (sVar 2) (aNil))) (sC (.int 1)))) (aNil)))))) (fRet (sPart 2 (sVar 1)))))
def m_class_numbered : FE := defM 3 2 b_class_numbered_body
def rb_class_numbered_1 : FS := fRet (sCall mr_check_order_1 none (aCons (sVar 0) (aNil)))
def mr_class_numbered_1 : FE := defM 3 2 (fOnly rb_class_numbered_1)
def rb_class_numbered_2 : FS := fSeqN (fExp (sCall m_check_order none (aCons (sVar 0) (aNil)))) (fSeqN (fAsg 2 (sCall m_class_by none (aCons (sVar 0) (aNil)))) (fRet (sCall mr_check_number_1 none (aCons (sVar 1) (aCons (sC (.int 0)) (aCons (sPure (s2 dSub (sBc bLen (aCons (sVar 2) (aNil))) (sC (.int 1)))) (aNil)))))))
def mr_class_numbered_2 : FE := defM 3 2 (fOnly rb_class_numbered_2)
def b_next_in_class_body : FS := fSeq (fExp (sCall m_check_order none (aCons (sVar 0) (aNil)))) (fSeq (fAsg 1 (sCall m_class_by none (aCons (sVar 0) (aNil)))) (fSeq (fAsg 2 (sPure (s2 dAdd (sMt "list" mIndex (sVar 1) (aCons (sVar 0) (aNil))) (sC (.int 1))))) (fRet (sIf (tPure (t2 dLt (sVar 2) (sBc bLen (aCons (sVar 1) (aNil))))) (sPart 1 (sVar 2)) (sC .none)))))
def m_next_in_class : FE := defM 3 1 b_next_in_class_body
def b__law_caught_body : FS := fSeq (fAsg 2 (sC .none)) (fSeq (fTryR [("InvalidOrder", mr_class_numbered_1), ("InvalidNumber", mr_class_numbered_2)] (aCons (sVar 0) (aCons (sVar 1) (aNil))) 3 2) (fRet (sIf (tV (sIsX 2 B_InvalidNumber)) (sXv 2 T_own) (sC (.str (PySem.Str.ofString "none"))))))
def m__law_caught : FE := defM 4 2 b__law_caught_body
def c_order_right_1 : FT := tOr' (tV (s1 (isiT "bool") (sVar 7))) (tOr' (t2 dNe (sVar 7) (sVar 5)) (tOr' (t2 dNe (sCallN 0 1 m_class_number [0] aNil (aCons (sVar 6) (aNil))) (sVar 5)) (t2 dNe (sVar 6) (s2 dIxA (sVar 2) (sVar 5)))))
def c_order_right_2 : FT := tPure (tOr' (t2 dNe (sVar 8) (s2 dIxA (sVar 2) (sVar 5))) (t2 dNe (sFz (sCallN 0 2 m_class_numbered [1, 0] aNil (aCons (sVar 5) (aCons (sVar 1) (aNil))))) (s2 dIxA (sVar 2) (sVar 5))))
def c_order_right_3 : FT := tPure (tOr' (t2 dNe (sVar 9) (sIf (t2 dLt (s2 dAdd (sVar 5) (sC (.int 1))) (sVar 4)) (s2 dIxA (sVar 2) (s2 dAdd (sVar 5) (sC (.int 1)))) (sC .none))) (tOr' (t2 dNe (sFz (sCallN 0 1 m_next_in_class [0] aNil (aCons (sVar 6) (aNil)))) (sVar 9)) (t2 dNe (sVar 6) (s2 dIxA (sVar 2) (sVar 5)))))
def c_order_right_4 : FT := tPure (t2 dNotN (sVar 9) (sC .none))
def l_order_right_1 : FS := fSeq (fAsg 6 (sBc bList (aCons (s2 dIxA (sVar 2) (sVar 5)) (aNil)))) (fSeq (fAsg 7 (sCall m_class_number none (aCons (sVar 6) (aNil)))) (fSeq (fIf c_order_right_1 (fRet (sC (.bool false))) (fSkip)) (fSeq (fAsg 8 (sCall m_class_numbered none (aCons (sVar 1) (aCons (sVar 5) (aNil))))) (fSeq (fIf c_order_right_2 (fRet (sC (.bool false))) (fSkip)) (fSeq (fExp (sAppX 8 (sC .none))) (fSeq (fAsg 9 (sCall m_next_in_class none (aCons (sVar 6) (aNil)))) (fSeq (fIf c_order_right_3 (fRet (sC (.bool false))) (fSkip)) (fIf c_order_right_4 (fExp (sAppX 9 (sC .none))) (fSkip)))))))))
def e_order_right_1 : FE := sAn (s2b dEq (sVar 1) (sVar 3)) (sAn (s2b dEq (sFz (sCall m_class_numbered none (aCons (sVar 1) (aCons (s2 dSub (sVar 4) (sC (.int 1))) (aNil))))) (s2 dIxA (sVar 2) (s2 dSub (sVar 4) (sC (.int 1))))) (sAn (s2b dEq (sCall m__law_caught none (aCons (sVar 1) (aCons (sVar 4) (aNil)))) (sVar 4)) (s2b dEq (sCall m__law_caught none (aCons (sVar 1) (aCons (s2 dPow (sC (.int 10)) (sC (.int 29))) (aNil)))) (s2 dPow (sC (.int 10)) (sC (.int 29))))))
def b__law_order_right_body : FS := fSeq (fPar [2, 3] (aCons (sFz (sCall m__law_class none (aCons (sVar 1) (aNil)))) (aCons (sBc bList (aCons (sVar 1) (aNil))) (aNil)))) (fSeq (fAsg 4 (sBc bLen (aCons (sVar 2) (aNil)))) (fSeq (fFor (wSeq (sLst (aCons (sC (.int 0)) (aCons (s2 dSub (sVar 4) (sC (.int 1))) (aCons (sCall m__law_random (some 0) (aCons (sVar 0) (aCons (sVar 4) (aNil)))) (aCons (sCall m__law_random (some 0) (aCons (sVar 0) (aCons (sVar 4) (aNil)))) (aNil))))))) (bNm 5) l_order_right_1) (fRet e_order_right_1)))
def m__law_order_right : FE := defM 10 2 b__law_order_right_body
def b__law_falls_body : FS := fRet (s2b dNe (sLc [1] (wRg2 (sC (.int 1)) (sBc bLen (aCons (sVar 0) (aNil)))) (bNm 1) (t2 dEq (sBc bSorted (aCons (sSl (sVar 0) (oNo) (oSo (sVar 1))) (aNil))) (sRg1 (sVar 1))) (sVar 1)) (sLst (aNil)))
def m__law_falls : FE := defM 2 1 b__law_falls_body
def b__law_order_body : FS := fSeq (fPar [2, 3] (aCons (sRg1 (sVar 1)) (aCons (sLst (aNil)) (aNil)))) (fSeq (fFor (wRg1 (sVar 1)) (bNm 4) (fExp (sApp 3 (sPopAt 2 (sCall m__law_random (some 0) (aCons (sVar 0) (aCons (sBc bLen (aCons (sVar 2) (aNil))) (aNil)))))))) (fSeq (fFor (wRg1 (sVar 1)) (bNm 5) (fIf (tV (sCall m__law_falls none (aCons (sVar 3) (aNil)))) (fSeq (fAsg 6 (s2 dIxA (sLc [4] (wRg2 (sC (.int 1)) (sVar 1)) (bNm 4) (t2 dEq (sBc bSorted (aCons (sSl (sVar 3) (oNo) (oSo (sVar 4))) (aNil))) (sRg1 (sVar 4))) (sVar 4)) (sC (.int 0)))) (fAsg 3 (s2 dAdd (s2 dAdd (s2 dAdd (sSl (sVar 3) (oNo) (oSo (s2 dSub (sVar 6) (sC (.int 1))))) (sLst (aCons (s2 dIxA (sVar 3) (s2 dSub (sVar 1) (sC (.int 1)))) (aNil)))) (sSl (sVar 3) (oSo (sVar 6)) (oSo (s2 dSub (sVar 1) (sC (.int 1)))))) (sLst (aCons (s2 dIxA (sVar 3) (s2 dSub (sVar 6) (sC (.int 1)))) (aNil)))))) (fSkip))) (fRet (sIf (tV (sCall m__law_falls none (aCons (sVar 3) (aNil)))) (s1 dRevA (sRg1 (sVar 1))) (sVar 3)))))
def m__law_order : FE := defM 7 2 b__law_order_body
def c_law_1 : FT := tNt (tV (sCall m__law_order_right (some 0) (aCons (sVar 2) (aCons (sCall m__law_order (some 0) (aCons (sVar 2) (aCons (s2 dAdd (sC (.int 2)) (sCall m__law_random (some 0) (aCons (sVar 2) (aCons (sC (.int 5)) (aNil))))) (aNil)))) (aNil)))))
def l_law_1 : FS := fSeq (fAsg 2 (sCall m__law_generator (some 0) (aCons (sVar 0) (aCons (sVar 1) (aNil))))) (fIf c_law_1 (fRet (sC (.bool false))) (fSkip))
def c_law_2 : FT := tOr' (t2 dNe (sCall m_class_number none (aCons (sVar 3) (aNil))) (sC (.int 0))) (tOr' (t2 dNe (sFz (sCall m_next_in_class none (aCons (sVar 3) (aNil)))) (sLst (aCons (sC (.int 1)) (aCons (sC (.int 3)) (aCons (sC (.int 5)) (aCons (sC (.int 0)) (aCons (sC (.int 2)) (aCons (sC (.int 6)) (aCons (sC (.int 4)) (aNil)))))))))) (t2 dNe (sFz (sCall m_class_numbered none (aCons (sVar 3) (aCons (sC (.int 254)) (aNil))))) (sLst (aCons (sC (.int 4)) (aCons (sC (.int 0)) (aCons (sC (.int 3)) (aCons (sC (.int 6)) (aCons (sC (.int 2)) (aCons (sC (.int 1)) (aCons (sC (.int 5)) (aNil)))))))))))
def c_law_3 : FT := tOr' (t2 dNe (sFz (sCall m_class_numbered none (aCons (sVar 3) (aCons (sC (.int 508)) (aNil))))) (sVar 4)) (tOr' (t2 dNe (sCall m_class_number none (aCons (sVar 4) (aNil))) (sC (.int 508))) (tOr' (t2 dNotN (sFz (sCall m_next_in_class none (aCons (sVar 4) (aNil)))) (sC .none)) (t2 dNe (sCall m__law_caught none (aCons (sVar 3) (aCons (sC (.int 509)) (aNil)))) (sC (.int 509)))))
def c_law_4 : FT := t2 dNe (sLc [5] (wSeq (sLst (aCons (sC (.int 0)) (aCons (sC (.int 2)) (aCons (sC (.int 6)) (aNil)))))) (bNm 5) (cYes) (sFz (sCall m_class_numbered none (aCons (sLst (aCons (sC (.int 3)) (aCons (sC (.int 2)) (aCons (sC (.int 1)) (aCons (sC (.int 0)) (aNil)))))) (aCons (sVar 5) (aNil)))))) (sLst (aCons (sLst (aCons (sC (.int 1)) (aCons (sC (.int 3)) (aCons (sC (.int 0)) (aCons (sC (.int 2)) (aNil)))))) (aCons (sLst (aCons (sC (.int 2)) (aCons (sC (.int 0)) (aCons (sC (.int 3)) (aCons (sC (.int 1)) (aNil)))))) (aCons (sLst (aCons (sC (.int 3)) (aCons (sC (.int 2)) (aCons (sC (.int 1)) (aCons (sC (.int 0)) (aNil)))))) (aNil)))))
def e_law_1 : FE := sAn (s2b dEq (sFz (sCall m_next_in_class none (aCons (sLst (aCons (sC (.int 2)) (aCons (sC (.int 0)) (aCons (sC (.int 3)) (aCons (sC (.int 1)) (aNil)))))) (aNil)))) (sLst (aCons (sC (.int 2)) (aCons (sC (.int 1)) (aCons (sC (.int 3)) (aCons (sC (.int 0)) (aNil))))))) (sAn (s2b dIsN (sFz (sCall m_next_in_class none (aCons (sLst (aCons (sC (.int 3)) (aCons (sC (.int 2)) (aCons (sC (.int 1)) (aCons (sC (.int 0)) (aNil)))))) (aNil)))) (sC .none)) (s2b dEq (sCall m_class_number none (aCons (sLst (aCons (sC (.int 1)) (aCons (sC (.int 0)) (aNil)))) (aNil))) (sC (.int 0))))
def b_law_body : FS := fSeq (fFor (wRg1 (sC (.int 2))) (bNm 1) l_law_1) (fSeq (fPar [3, 4] (aCons (sLst (aCons (sC (.int 1)) (aCons (sC (.int 3)) (aCons (sC (.int 0)) (aCons (sC (.int 5)) (aCons (sC (.int 4)) (aCons (sC (.int 6)) (aCons (sC (.int 2)) (aNil))))))))) (aCons (sLst (aCons (sC (.int 6)) (aCons (sC (.int 5)) (aCons (sC (.int 4)) (aCons (sC (.int 3)) (aCons (sC (.int 1)) (aCons (sC (.int 0)) (aCons (sC (.int 2)) (aNil))))))))) (aNil)))) (fSeq (fIf c_law_2 (fRet (sC (.bool false))) (fSkip)) (fSeq (fIf c_law_3 (fRet (sC (.bool false))) (fSkip)) (fSeq (fIf c_law_4 (fRet (sC (.bool false))) (fSkip)) (fRet e_law_1)))))
def m_law : FE := defM 6 1 b_law_body
end
end K36

namespace K36
open PySem PySem.Spec PyProof.Rows L2 TL
/-! ### where the defs stand -/
def top (i : Nat) : Stmt := PySem.Challenge.pw_turnlines_k36_orders_numbered_in_classes.main.body.getD i (.Pass ⟨0, 0, 0, 0⟩)
abbrev FnP (K : PySem.W.Frag) (x : Str) (st : Stmt) (f : Addr) (fd : FuncData) : Prop := FunD K x x (defArgs st) (defBody st) (defScope st) [] [] f fd
def fileC : Str := PySem.Challenge.pw_turnlines_k36_orders_numbered_in_classes.main.file
structure Px (P : Program) : Prop where
  file : (P.main.file : Str) = fileC
  sup : (P.main.scope.names.lookup ("super" : Str)).isSome = false
def xd_InvalidNumber : XcD := ⟨"InvalidNumber", "InvalidNumber.__init__", defArgs (initOf (top 3)), defBody (initOf (top 3))⟩
def xd_InvalidOrder : XcD := ⟨"InvalidOrder", "InvalidOrder.__init__", defArgs (initOf (top 2)), defBody (initOf (top 2))⟩
structure Fx (K : PySem.W.Frag) (mg : Str → Option Value) where
  a__law_cell : Addr
  d__law_cell : FuncData
  f__law_cell : FnP K "_law_cell" (top 25) a__law_cell d__law_cell
  g__law_cell : mg "_law_cell" = some (.ref a__law_cell)
  a__law_generator : Addr
  d__law_generator : FuncData
  f__law_generator : FnP K "_law_generator" (top 26) a__law_generator d__law_generator
  g__law_generator : mg "_law_generator" = some (.ref a__law_generator)
  a__law_moved : Addr
  d__law_moved : FuncData
  f__law_moved : FnP K "_law_moved" (top 27) a__law_moved d__law_moved
  g__law_moved : mg "_law_moved" = some (.ref a__law_moved)
  a__law_done : Addr
  d__law_done : FuncData
  f__law_done : FnP K "_law_done" (top 28) a__law_done d__law_done
  g__law_done : mg "_law_done" = some (.ref a__law_done)
  a__law_class : Addr
  d__law_class : FuncData
  f__law_class : FnP K "_law_class" (top 29) a__law_class d__law_class
  g__law_class : mg "_law_class" = some (.ref a__law_class)
  a__law_hash : Addr
  d__law_hash : FuncData
  f__law_hash : FnP K "_law_hash" (top 23) a__law_hash d__law_hash
  g__law_hash : mg "_law_hash" = some (.ref a__law_hash)
  a__law_random : Addr
  d__law_random : FuncData
  f__law_random : FnP K "_law_random" (top 24) a__law_random d__law_random
  g__law_random : mg "_law_random" = some (.ref a__law_random)
  a_is_whole : Addr
  d_is_whole : FuncData
  f_is_whole : FnP K "is_whole" (top 6) a_is_whole d_is_whole
  g_is_whole : mg "is_whole" = some (.ref a_is_whole)
  a_is_between : Addr
  d_is_between : FuncData
  f_is_between : FnP K "is_between" (top 7) a_is_between d_is_between
  g_is_between : mg "is_between" = some (.ref a_is_between)
  a_is_row : Addr
  d_is_row : FuncData
  f_is_row : FnP K "is_row" (top 9) a_is_row d_is_row
  g_is_row : mg "is_row" = some (.ref a_is_row)
  a_fall_of : Addr
  d_fall_of : FuncData
  f_fall_of : FnP K "fall_of" (top 10) a_fall_of d_fall_of
  g_fall_of : mg "fall_of" = some (.ref a_fall_of)
  a_is_order_list : Addr
  d_is_order_list : FuncData
  f_is_order_list : FnP K "is_order_list" (top 11) a_is_order_list d_is_order_list
  g_is_order_list : mg "is_order_list" = some (.ref a_is_order_list)
  a_check_order : Addr
  d_check_order : FuncData
  f_check_order : FnP K "check_order" (top 12) a_check_order d_check_order
  g_check_order : mg "check_order" = some (.ref a_check_order)
  a_moved_behind : Addr
  d_moved_behind : FuncData
  f_moved_behind : FnP K "moved_behind" (top 15) a_moved_behind d_moved_behind
  g_moved_behind : mg "moved_behind" = some (.ref a_moved_behind)
  a_named_anew : Addr
  d_named_anew : FuncData
  f_named_anew : FnP K "named_anew" (top 13) a_named_anew d_named_anew
  g_named_anew : mg "named_anew" = some (.ref a_named_anew)
  a_behind_deed : Addr
  d_behind_deed : FuncData
  f_behind_deed : FnP K "behind_deed" (top 16) a_behind_deed d_behind_deed
  g_behind_deed : mg "behind_deed" = some (.ref a_behind_deed)
  a_class_by : Addr
  d_class_by : FuncData
  f_class_by : FnP K "class_by" (top 18) a_class_by d_class_by
  g_class_by : mg "class_by" = some (.ref a_class_by)
  a_class_number : Addr
  d_class_number : FuncData
  f_class_number : FnP K "class_number" (top 19) a_class_number d_class_number
  g_class_number : mg "class_number" = some (.ref a_class_number)
  a_check_number : Addr
  d_check_number : FuncData
  f_check_number : FnP K "check_number" (top 8) a_check_number d_check_number
  g_check_number : mg "check_number" = some (.ref a_check_number)
  a_class_numbered : Addr
  d_class_numbered : FuncData
  f_class_numbered : FnP K "class_numbered" (top 20) a_class_numbered d_class_numbered
  g_class_numbered : mg "class_numbered" = some (.ref a_class_numbered)
  a_next_in_class : Addr
  d_next_in_class : FuncData
  f_next_in_class : FnP K "next_in_class" (top 21) a_next_in_class d_next_in_class
  g_next_in_class : mg "next_in_class" = some (.ref a_next_in_class)
  a__law_caught : Addr
  d__law_caught : FuncData
  f__law_caught : FnP K "_law_caught" (top 33) a__law_caught d__law_caught
  g__law_caught : mg "_law_caught" = some (.ref a__law_caught)
  a__law_order_right : Addr
  d__law_order_right : FuncData
  f__law_order_right : FnP K "_law_order_right" (top 34) a__law_order_right d__law_order_right
  g__law_order_right : mg "_law_order_right" = some (.ref a__law_order_right)
  a__law_falls : Addr
  d__law_falls : FuncData
  f__law_falls : FnP K "_law_falls" (top 30) a__law_falls d__law_falls
  g__law_falls : mg "_law_falls" = some (.ref a__law_falls)
  a__law_order : Addr
  d__law_order : FuncData
  f__law_order : FnP K "_law_order" (top 31) a__law_order d__law_order
  g__law_order : mg "_law_order" = some (.ref a__law_order)
  a_law : Addr
  d_law : FuncData
  f_law : FnP K "law" (top 35) a_law d_law
  g_law : mg "law" = some (.ref a_law)
  t_MOST_SIZE : Tok
  c_MOST_SIZE : mg "MOST_SIZE" = some (.int 40 t_MOST_SIZE)
  n_bool : mg "bool" = none
  n_enumerate : mg "enumerate" = none
  n_int : mg "int" = none
  n_isinstance : mg "isinstance" = none
  n_len : mg "len" = none
  n_list : mg "list" = none
  n_max : mg "max" = none
  n_range : mg "range" = none
  n_repr : mg "repr" = none
  n_sorted : mg "sorted" = none
  n_sum : mg "sum" = none
  n_tuple : mg "tuple" = none
  I_InvalidNumber : Addr
  D_InvalidNumber : FuncData
  X_InvalidNumber : XcF K mg fileC xd_InvalidNumber (He.ga K "InvalidNumber") I_InvalidNumber D_InvalidNumber
  K_InvalidNumber : ExcC K (He.ga K "InvalidNumber")
  I_InvalidOrder : Addr
  D_InvalidOrder : FuncData
  X_InvalidOrder : XcF K mg fileC xd_InvalidOrder (He.ga K "InvalidOrder") I_InvalidOrder D_InvalidOrder
  K_InvalidOrder : ExcC K (He.ga K "InvalidOrder")
  g_InvalidNumber : mg "InvalidNumber" = some (.ref (He.ga K "InvalidNumber"))
  g_InvalidOrder : mg "InvalidOrder" = some (.ref (He.ga K "InvalidOrder"))
  g_TurnError : mg "TurnError" = some (.ref (He.ga K "TurnError"))
  mt_InvalidNumber_InvalidNumber : PySem.W.kitOne K (.ref (He.ga K "InvalidNumber")) (.ref (He.ga K "InvalidNumber")) = some true ∧ PySem.W.exmOne K (.ref (He.ga K "InvalidNumber")) (.ref (He.ga K "InvalidNumber")) = some true
  mt_InvalidNumber_TurnError : PySem.W.kitOne K (.ref (He.ga K "InvalidNumber")) (.ref (He.ga K "TurnError")) = some true ∧ PySem.W.exmOne K (.ref (He.ga K "InvalidNumber")) (.ref (He.ga K "TurnError")) = some true
  mt_InvalidOrder_InvalidNumber : PySem.W.kitOne K (.ref (He.ga K "InvalidOrder")) (.ref (He.ga K "InvalidNumber")) = some false ∧ PySem.W.exmOne K (.ref (He.ga K "InvalidOrder")) (.ref (He.ga K "InvalidNumber")) = some false
  mt_InvalidOrder_TurnError : PySem.W.kitOne K (.ref (He.ga K "InvalidOrder")) (.ref (He.ga K "TurnError")) = some true ∧ PySem.W.exmOne K (.ref (He.ga K "InvalidOrder")) (.ref (He.ga K "TurnError")) = some true
theorem init_InvalidNumber {P : Program} {w : World} {K : PySem.W.Frag} {mg : Str → Option Value} {base : Heap} (E : Fx K mg) (PX : Px P) : FnOk P w K mg base CX0 1 E.I_InvalidNumber E.D_InvalidNumber ["self", "value"] (spXI (He.ga K "InvalidNumber")) := XcF.init (k := 0) E.X_InvalidNumber PX.file PX.sup (by intros; exact ⟨_, rfl⟩)
theorem init_InvalidOrder {P : Program} {w : World} {K : PySem.W.Frag} {mg : Str → Option Value} {base : Heap} (E : Fx K mg) (PX : Px P) : FnOk P w K mg base CX0 1 E.I_InvalidOrder E.D_InvalidOrder ["self", "value"] (spXI (He.ga K "InvalidOrder")) := XcF.init (k := 0) E.X_InvalidOrder PX.file PX.sup (by intros; exact ⟨_, rfl⟩)
theorem isB_InvalidNumber {K : PySem.W.Frag} {mg : Str → Option Value} (E : Fx K mg) : ∀ p ∈ B_InvalidNumber, ExcC K (He.ga K p.1) ∧ PySem.W.kitOne K (.ref (He.ga K p.1)) (.ref (He.ga K "InvalidNumber")) = some p.2 := by
  intro p hp
  simp only [B_InvalidNumber, List.mem_cons, List.mem_nil_iff, or_false] at hp
  rcases hp with rfl | rfl
  · exact ⟨E.K_InvalidNumber, (E.mt_InvalidNumber_InvalidNumber).1⟩
  · exact ⟨E.K_InvalidOrder, (E.mt_InvalidOrder_InvalidNumber).1⟩
theorem noB_InvalidNumber {K : PySem.W.Frag} {mg : Str → Option Value} (E : Fx K mg) : ∀ p ∈ B_InvalidNumber, PySem.W.findIn K (.ref (He.ga K p.1)) "value" = some none := by
  intro p hp
  simp only [B_InvalidNumber, List.mem_cons, List.mem_nil_iff, or_false] at hp
  rcases hp with rfl | rfl
  · exact E.X_InvalidNumber.no
  · exact E.X_InvalidOrder.no
theorem xcT {K : PySem.W.Frag} {mg : Str → Option Value} (E : Fx K mg) : XcT K T_own := ⟨by
  intro p hp
  simp only [T_own, List.mem_cons, List.mem_nil_iff, or_false] at hp
  rcases hp with rfl | rfl
  · exact E.K_InvalidNumber
  · exact E.K_InvalidOrder, by
  intro p hp
  simp only [T_own, List.mem_cons, List.mem_nil_iff, or_false] at hp
  rcases hp with rfl | rfl
  · exact E.X_InvalidNumber.no
  · exact E.X_InvalidOrder.no⟩


/-! ### what they do -/
theorem sc__law_cell : FnScope ["_law_script", "_law_index"] ["_law_script", "_law_index"] (defScope (top 25)) := ⟨rfl, rfl, rfl, by decide +kernel, rfl, by decide +kernel, by decide +kernel⟩
theorem b__law_cell {K : PySem.W.Frag} {mg : Str → Option Value} (E : Fx K mg) : Binds K E.d__law_cell ["_law_script", "_law_index"] [] := E.f__law_cell.bindsN fun _ _ _ _ _ _ us hl => match us, hl with | [_, _], _ => rfl
theorem ok__law_cell {P : Program} {w : World} {K : PySem.W.Frag} {mg : Str → Option Value} {base : Heap} (E : Fx K mg) (PX : Px P) : FnG P w K mg base CX0 1 E.a__law_cell E.d__law_cell ["_law_script", "_law_index"] (spI K m__law_cell) := by
  refine fn_okG (N := ["_law_script", "_law_index"]) (ps := ["_law_script", "_law_index"]) (k := 0) (scope := defScope (top 25)) (fb := b__law_cell_body) E.f__law_cell sc__law_cell fun cdv A outer s H Q E1 hr => ?_
  have hu := hu_of hr.rm
  have hu65 := hu65_of hr.rm
  have hgd := hr.gd
  have hu64 := hu64_of hr.rm
  exact sss_cons (ss_if (st_cmp op_lt ok_cmp (se_var 1) (PEimp (pe_callB call_len (by rfl) E.n_len (by decide +kernel) (pa_cons (pe_v 0) pa_nil)) sScLen_ok) (nomark _)) (sss_one (ss_ret (PEimp (pe_ix ix_list (pe_v 0) (se_var 1) (fun _ _ => rfl)) sScIx_ok)))
    (sss_nil))
    (sss_one (ss_ret (se_bin op_mod ok_mod (se_bc (cr_sum rfl) cok_sum (by decide +kernel) E.n_sum (sa_cons (PEimp (pe_slice sl_list (pe_v 0) (so_none) (so_some (se_int))) sScSl_ok) (sa_nil))) (se_int))))

theorem sc__law_generator : FnScope ["_law_script", "_law_index", "_law_seed"] ["_law_script", "_law_index"] (defScope (top 26)) := ⟨rfl, rfl, rfl, by decide +kernel, rfl, by decide +kernel, by decide +kernel⟩
theorem b__law_generator {K : PySem.W.Frag} {mg : Str → Option Value} (E : Fx K mg) : Binds K E.d__law_generator ["_law_script", "_law_index"] [] := E.f__law_generator.bindsN fun _ _ _ _ _ _ us hl => match us, hl with | [_, _], _ => rfl
theorem ok__law_generator {P : Program} {w : World} {K : PySem.W.Frag} {mg : Str → Option Value} {base : Heap} (E : Fx K mg) (PX : Px P) : FnG P w K mg base CX0 2 E.a__law_generator E.d__law_generator ["_law_script", "_law_index"] (spI K m__law_generator) := by
  refine fn_okG (N := ["_law_script", "_law_index", "_law_seed"]) (ps := ["_law_script", "_law_index"]) (k := 1) (scope := defScope (top 26)) (fb := b__law_generator_body) E.f__law_generator sc__law_generator fun cdv A outer s H Q E1 hr => ?_
  have hu := hu_of hr.rm
  have hu65 := hu65_of hr.rm
  have hgd := hr.gd
  have hu64 := hu64_of hr.rm
  exact sss_cons (ss_set 2 sc__law_generator.nd (PEimp (pg_call1 (ok__law_cell E PX) (hr.mono (by decide)) (by rfl) E.g__law_cell E.f__law_cell.kp (b__law_cell E) .nil pass0 (sa_cons (se_var 0) (sa_cons (se_var 1) (sa_nil)))) sCall_ok))
    (sss_one (ss_ret (se_lst (sa_cons (se_bin op_mod ok_mod (se_bt call_int1 cok_int (by decide +kernel) E.n_int (sa_cons (se_bc (call_max2 rfl) cok_max (by decide +kernel) E.n_max (sa_cons (se_bin op_subA ok_sub (se_var 2) (se_bin op_powA ok_pow (se_int) (se_int))) (sa_cons (se_int) (sa_nil)))) (sa_nil))) (se_bin op_powA ok_pow (se_bin op_powA ok_pow (se_int) (se_int)) (se_int))) (sa_cons (se_bin op_mod ok_mod (se_bt call_int1 cok_int (by decide +kernel) E.n_int (sa_cons (se_var 2) (sa_nil))) (se_int)) (sa_cons (se_bin op_mulB ok_mulB (se_int) (se_var 1)) (sa_nil)))))))

theorem sc__law_moved : FnScope ["_law_row", "_law_letter", "_law_winner", "_law_place"] ["_law_row", "_law_letter", "_law_winner"] (defScope (top 27)) := ⟨rfl, rfl, rfl, by decide +kernel, rfl, by decide +kernel, by decide +kernel⟩
theorem b__law_moved {K : PySem.W.Frag} {mg : Str → Option Value} (E : Fx K mg) : Binds K E.d__law_moved ["_law_row", "_law_letter", "_law_winner"] [] := E.f__law_moved.bindsN fun _ _ _ _ _ _ us hl => match us, hl with | [_, _, _], _ => rfl
theorem ok__law_moved {P : Program} {w : World} {K : PySem.W.Frag} {mg : Str → Option Value} {base : Heap} (E : Fx K mg) (PX : Px P) : FnG P w K mg base CX0 1 E.a__law_moved E.d__law_moved ["_law_row", "_law_letter", "_law_winner"] (spI K m__law_moved) := by
  refine fn_okG (N := ["_law_row", "_law_letter", "_law_winner", "_law_place"]) (ps := ["_law_row", "_law_letter", "_law_winner"]) (k := 0) (scope := defScope (top 27)) (fb := b__law_moved_body) E.f__law_moved sc__law_moved fun cdv A outer s H Q E1 hr => ?_
  have hu := hu_of hr.rm
  have hu65 := hu65_of hr.rm
  have hgd := hr.gd
  have hu64 := hu64_of hr.rm
  exact sss_cons (ss_set 3 sc__law_moved.nd (se_bin op_addA ok_add (PEimp (pe_bm PySem.F.plainAttrs_list PySem.F.slot_list_index PySem.F.type_list_index (mt_indexD hu65) (se_var 0) (sa_cons (se_var 2) (sa_nil))) (sMt_ok (.inl rfl) mok_index)) (se_int)))
    (sss_one (ss_ret (se_bin op_addA ok_add (se_bin op_addA ok_add (se_sl (se_var 0) (so_none) (so_some (se_var 3))) (se_lst (sa_cons (se_var 1) (sa_nil)))) (se_sl (se_var 0) (so_some (se_var 3)) (so_some (se_bin op_subA ok_sub (se_bc call_len cok_len (by decide +kernel) E.n_len (sa_cons (se_var 0) (sa_nil))) (se_int)))))))

theorem sc__law_done : FnScope ["_law_order_here", "_law_deed", "_law_above", "_law_below", "_law_upper", "_law_letter"] ["_law_order_here", "_law_deed"] (defScope (top 28)) := ⟨rfl, rfl, rfl, by decide +kernel, rfl, by decide +kernel, by decide +kernel⟩
theorem b__law_done {K : PySem.W.Frag} {mg : Str → Option Value} (E : Fx K mg) : Binds K E.d__law_done ["_law_order_here", "_law_deed"] [] := E.f__law_done.bindsN fun _ _ _ _ _ _ us hl => match us, hl with | [_, _], _ => rfl
theorem ok__law_done {P : Program} {w : World} {K : PySem.W.Frag} {mg : Str → Option Value} {base : Heap} (E : Fx K mg) (PX : Px P) : FnG P w K mg base CX0 2 E.a__law_done E.d__law_done ["_law_order_here", "_law_deed"] (spI K m__law_done) := by
  refine fn_okG (N := ["_law_order_here", "_law_deed", "_law_above", "_law_below", "_law_upper", "_law_letter"]) (ps := ["_law_order_here", "_law_deed"]) (k := 1) (scope := defScope (top 28)) (fb := b__law_done_body) E.f__law_done sc__law_done fun cdv A outer s H Q E1 hr => ?_
  have hu := hu_of hr.rm
  have hu65 := hu65_of hr.rm
  have hgd := hr.gd
  have hu64 := hu64_of hr.rm
  exact sss_cons (ss_par2 2 3 sc__law_done.nd (sa_cons (se_bin op_subA ok_sub (se_bc call_len cok_len (by decide +kernel) E.n_len (sa_cons (se_var 0) (sa_nil))) (se_int)) (sa_cons (se_ixA hu (se_var 0) (se_bin op_subA ok_sub (se_bc call_len cok_len (by decide +kernel) E.n_len (sa_cons (se_var 0) (sa_nil))) (se_int))) (sa_nil))))
    (sss_cons (ss_if (st_cmp (op_eqD hu64) ok_eq (se_var 1) (se_str) (nomark _)) (sss_one (ss_ret (PEimp (pg_call1 (ok__law_moved E PX) (hr.mono (by decide)) (by rfl) E.g__law_moved E.f__law_moved.kp (b__law_moved E) .nil pass0 (sa_cons (se_var 0) (sa_cons (se_var 3) (sa_cons (se_var 2) (sa_nil))))) sCall_ok)))
    (sss_nil))
    (sss_cons (ss_set 4 sc__law_done.nd (PEimp (pg_call1 (ok__law_moved E PX) (hr.mono (by decide)) (by rfl) E.g__law_moved E.f__law_moved.kp (b__law_moved E) .nil pass0 (sa_cons (se_lr1 E.n_list E.n_range (se_bc call_len cok_len (by decide +kernel) E.n_len (sa_cons (se_var 0) (sa_nil)))) (sa_cons (se_var 2) (sa_cons (se_var 3) (sa_nil))))) sCall_ok))
    (sss_one (ss_ret (se_lc (own := [("_law_letter", 5)]) sc__law_done.nd (si_seq (se_var 0)) (blkOk_by (by kernel_rfl)) (bd_nm (i := 5)) (by decide) (fun s H C cl fp => pg_name (i := 5) sc__law_done.nd rfl (by first | exact Or.inl rfl | exact Or.inr rfl)) (fun s H C cl fp => sts_nil) (fun s H C cl fp => PEimp (pe_bm PySem.F.plainAttrs_list PySem.F.slot_list_index PySem.F.type_list_index (mt_indexD hu65) (se_var 4) (sa_cons (se_var 5) (sa_nil))) (sMt_ok (.inl rfl) mok_index)))))))

theorem sc__law_class : FnScope ["_law_order_here", "_law_found", "_law_known", "_law_at", "_law_deed", "_law_further"] ["_law_order_here"] (defScope (top 29)) := ⟨rfl, rfl, rfl, by decide +kernel, rfl, by decide +kernel, by decide +kernel⟩
theorem b__law_class {K : PySem.W.Frag} {mg : Str → Option Value} (E : Fx K mg) : Binds K E.d__law_class ["_law_order_here"] [] := E.f__law_class.bindsN fun _ _ _ _ _ _ us hl => match us, hl with | [_], _ => rfl
theorem ok__law_class {P : Program} {w : World} {K : PySem.W.Frag} {mg : Str → Option Value} {base : Heap} (E : Fx K mg) (PX : Px P) : FnG P w K mg base CX0 3 E.a__law_class E.d__law_class ["_law_order_here"] (spI K m__law_class) := by
  refine fn_okG (N := ["_law_order_here", "_law_found", "_law_known", "_law_at", "_law_deed", "_law_further"]) (ps := ["_law_order_here"]) (k := 2) (scope := defScope (top 29)) (fb := b__law_class_body) E.f__law_class sc__law_class fun cdv A outer s H Q E1 hr => ?_
  have hu := hu_of hr.rm
  have hu65 := hu65_of hr.rm
  have hgd := hr.gd
  have hu64 := hu64_of hr.rm
  exact sss_cons (ss_par3 1 2 3 sc__law_class.nd (sa_cons (se_lstT (sa_cons (se_bt call_list_of cok_list (by decide +kernel) E.n_list (sa_cons (se_var 0) (sa_nil))) (sa_nil))) (sa_cons (se_dispK (se_bc (call_reprA hgd hu65) cok_reprA (by decide +kernel) E.n_repr (sa_cons (se_var 0) (sa_nil))) pe_bl (fun _ => Rp.bl true)) (sa_cons (se_int) (sa_nil)))))
    (sss_cons (ss_while W__law_class PassesOwn.never (st_pure (st_cmp op_lt ok_cmp (se_var 3) (se_bc call_len cok_len (by decide +kernel) E.n_len (sa_cons (se_var 1) (sa_nil))) (nomark _))) (sss_cons (ss_for PassesOwn.never (si_seq (se_lst (sa_cons (se_str) (sa_cons (se_str) (sa_nil))))) (pg_name (i := 4) sc__law_class.nd rfl (by first | exact Or.inl rfl | exact Or.inr rfl)) (bd_nm (i := 4)) (sss_cons (ss_set 5 sc__law_class.nd (se_pure (PEimp (pg_call1 (ok__law_done E PX) (hr.mono (by decide)) (by rfl) E.g__law_done E.f__law_done.kp (b__law_done E) .nil pass0 (sa_cons (se_ixA hu (se_var 1) (se_var 3)) (sa_cons (se_var 4) (sa_nil)))) sCall_ok)))
    (sss_one (ss_if (st_notin hu65 (se_bc (call_reprA hgd hu65) cok_reprA (by decide +kernel) E.n_repr (sa_cons (se_var 5) (sa_nil))) (se_var 2)) (sss_cons (ss_setI 2 hu (se_bl) (se_bc (call_reprA hgd hu65) cok_reprA (by decide +kernel) E.n_repr (sa_cons (se_var 5) (sa_nil))))
    (sss_one (ss_exp (PEimp (pe_bm PySem.F.plainAttrs_list PySem.F.slot_list_append PySem.F.type_list_append mt_append (pe_v 1) (pa_cons (se_var 5) pa_nil)) sAppX_ok))))
    (sss_nil)))))
    (sss_one (ss_set 3 sc__law_class.nd (se_bin op_addA ok_add (se_var 3) (se_int))))))
    (sss_one (ss_ret (se_sortT hu65 E.n_sorted (se_var 1)))))

theorem sc__law_hash : FnScope ["_law_seed", "_law_index", "_law_mixed"] ["_law_seed", "_law_index"] (defScope (top 23)) := ⟨rfl, rfl, rfl, by decide +kernel, rfl, by decide +kernel, by decide +kernel⟩
theorem b__law_hash {K : PySem.W.Frag} {mg : Str → Option Value} (E : Fx K mg) : Binds K E.d__law_hash ["_law_seed", "_law_index"] [] := E.f__law_hash.bindsN fun _ _ _ _ _ _ us hl => match us, hl with | [_, _], _ => rfl
theorem ok__law_hash {P : Program} {w : World} {K : PySem.W.Frag} {mg : Str → Option Value} {base : Heap} (E : Fx K mg) (PX : Px P) : FnG P w K mg base CX0 1 E.a__law_hash E.d__law_hash ["_law_seed", "_law_index"] (spI K m__law_hash) := by
  refine fn_okG (N := ["_law_seed", "_law_index", "_law_mixed"]) (ps := ["_law_seed", "_law_index"]) (k := 0) (scope := defScope (top 23)) (fb := b__law_hash_body) E.f__law_hash sc__law_hash fun cdv A outer s H Q E1 hr => ?_
  have hu := hu_of hr.rm
  have hu65 := hu65_of hr.rm
  have hgd := hr.gd
  have hu64 := hu64_of hr.rm
  exact sss_cons (ss_set 2 sc__law_hash.nd (se_bin op_mod ok_mod (se_bt call_int1 cok_int (by decide +kernel) E.n_int (sa_cons (se_bin op_addA ok_add (se_bin op_addA ok_add (se_bin op_addA ok_add (se_bin op_mulB ok_mulB (se_var 0) (se_int)) (se_bin op_mulB ok_mulB (se_bin op_mulB ok_mulB (se_int) (se_var 1)) (se_var 1))) (se_bin op_mulB ok_mulB (se_int) (se_var 1))) (se_int)) (sa_nil))) (se_int)))
    (sss_cons (ss_set 2 sc__law_hash.nd (se_bin op_mod ok_mod (se_bt call_int1 cok_int (by decide +kernel) E.n_int (sa_cons (se_bin op_addA ok_add (se_bin op_addA ok_add (se_bin op_mulB ok_mulB (se_var 2) (se_var 2)) (se_bin op_mulB ok_mulB (se_int) (se_var 1))) (se_int)) (sa_nil))) (se_int)))
    (sss_one (ss_ret (se_bin op_mod ok_mod (se_bt call_int1 cok_int (by decide +kernel) E.n_int (sa_cons (se_bin op_mulB ok_mulB (se_var 2) (se_int)) (sa_nil))) (se_int)))))

theorem sc__law_random : FnScope ["_law_generator_here", "_law_bound", "_law_drawn", "_law_turn"] ["_law_generator_here", "_law_bound"] (defScope (top 24)) := ⟨rfl, rfl, rfl, by decide +kernel, rfl, by decide +kernel, by decide +kernel⟩
theorem b__law_random {K : PySem.W.Frag} {mg : Str → Option Value} (E : Fx K mg) : Binds K E.d__law_random ["_law_generator_here", "_law_bound"] [] := E.f__law_random.bindsN fun _ _ _ _ _ _ us hl => match us, hl with | [_, _], _ => rfl
theorem ok__law_random {P : Program} {w : World} {K : PySem.W.Frag} {mg : Str → Option Value} {base : Heap} (E : Fx K mg) (PX : Px P) : FnG P w K mg base CX0 2 E.a__law_random E.d__law_random ["_law_generator_here", "_law_bound"] (spI K m__law_random) := by
  refine fn_okG (N := ["_law_generator_here", "_law_bound", "_law_drawn", "_law_turn"]) (ps := ["_law_generator_here", "_law_bound"]) (k := 1) (scope := defScope (top 24)) (fb := b__law_random_body) E.f__law_random sc__law_random fun cdv A outer s H Q E1 hr => ?_
  have hu := hu_of hr.rm
  have hu65 := hu65_of hr.rm
  have hgd := hr.gd
  have hu64 := hu64_of hr.rm
  exact sss_cons (ss_if (st_cmp op_gt ok_cmp (se_ixA hu (se_var 0) (se_int)) (se_int) (nomark _)) (sss_cons (ss_set 2 sc__law_random.nd (se_bin op_mod ok_mod (se_bt call_int1 cok_int (by decide +kernel) E.n_int (sa_cons (se_ixA hu (se_var 0) (se_int)) (sa_nil))) (se_var 1)))
    (sss_cons (ss_setI 0 hu (se_bin op_fdivW ok_fdiv (se_ixA hu (se_var 0) (se_int)) (se_var 1)) (se_int))
    (sss_one (ss_ret (se_var 2)))))
    (sss_nil))
    (sss_cons (ss_set 2 sc__law_random.nd (se_int))
    (sss_cons (ss_for PassesOwn.never (si_rg1 E.n_range (se_bin op_addA ok_add (se_int) (se_bin op_fdivW ok_fdiv (se_bits (se_var 1)) (se_int)))) (pg_name (i := 3) sc__law_random.nd rfl (by first | exact Or.inl rfl | exact Or.inr rfl)) (bd_nm (i := 3)) (sss_cons (ss_setI 0 hu (se_bin op_addA ok_add (se_ixA hu (se_var 0) (se_int)) (se_int)) (se_int))
    (sss_one (ss_set 2 sc__law_random.nd (se_bin op_addA ok_add (se_bin op_mulB ok_mulB (se_var 2) (se_int)) (PEimp (pg_call1 (ok__law_hash E PX) (hr.mono (by decide)) (by rfl) E.g__law_hash E.f__law_hash.kp (b__law_hash E) .nil pass0 (sa_cons (se_ixA hu (se_var 0) (se_int)) (sa_cons (se_ixA hu (se_var 0) (se_int)) (sa_nil)))) sCall_ok))))))
    (sss_one (ss_ret (se_bin op_mod ok_mod (se_bt call_int1 cok_int (by decide +kernel) E.n_int (sa_cons (se_var 2) (sa_nil))) (se_var 1))))))

theorem sc_is_whole : FnScope ["value"] ["value"] (defScope (top 6)) := ⟨rfl, rfl, rfl, by decide +kernel, rfl, by decide +kernel, by decide +kernel⟩
theorem b_is_whole {K : PySem.W.Frag} {mg : Str → Option Value} (E : Fx K mg) : Binds K E.d_is_whole ["value"] [] := E.f_is_whole.bindsN fun _ _ _ _ _ _ us hl => match us, hl with | [_], _ => rfl
theorem ok_is_whole {P : Program} {w : World} {K : PySem.W.Frag} {mg : Str → Option Value} {base : Heap} (E : Fx K mg) (PX : Px P) : FnG P w K mg base CX0 1 E.a_is_whole E.d_is_whole ["value"] (spI K m_is_whole) := by
  refine fn_okG (N := ["value"]) (ps := ["value"]) (k := 0) (scope := defScope (top 6)) (fb := b_is_whole_body) E.f_is_whole sc_is_whole fun cdv A outer s H Q E1 hr => ?_
  have hu := hu_of hr.rm
  have hu65 := hu65_of hr.rm
  have hgd := hr.gd
  have hu64 := hu64_of hr.rm
  exact sss_one (ss_ret (se_and (se_isi E.n_isinstance (se_var 0) (pe_bltn (by rfl) E.n_int (by decide +kernel) rfl)) (se_one (se_not (se_isi E.n_isinstance (se_var 0) (pe_bltn (by rfl) E.n_bool (by decide +kernel) rfl))))))

theorem sc_is_between : FnScope ["value", "low", "high"] ["value", "low", "high"] (defScope (top 7)) := ⟨rfl, rfl, rfl, by decide +kernel, rfl, by decide +kernel, by decide +kernel⟩
theorem b_is_between {K : PySem.W.Frag} {mg : Str → Option Value} (E : Fx K mg) : Binds K E.d_is_between ["value", "low", "high"] [] := E.f_is_between.bindsN fun _ _ _ _ _ _ us hl => match us, hl with | [_, _, _], _ => rfl
theorem ok_is_between {P : Program} {w : World} {K : PySem.W.Frag} {mg : Str → Option Value} {base : Heap} (E : Fx K mg) (PX : Px P) : FnG P w K mg base CX0 2 E.a_is_between E.d_is_between ["value", "low", "high"] (spI K m_is_between) := by
  refine fn_okG (N := ["value", "low", "high"]) (ps := ["value", "low", "high"]) (k := 1) (scope := defScope (top 7)) (fb := b_is_between_body) E.f_is_between sc_is_between fun cdv A outer s H Q E1 hr => ?_
  have hu := hu_of hr.rm
  have hu65 := hu65_of hr.rm
  have hgd := hr.gd
  have hu64 := hu64_of hr.rm
  exact sss_one (ss_ret (se_and (PEimp (pg_call1 (ok_is_whole E PX) (hr.mono (by decide)) (by rfl) E.g_is_whole E.f_is_whole.kp (b_is_whole E) .nil pass0 (sa_cons (se_var 0) (sa_nil))) sCall_ok) (se_and (se_cmp op_ge ok_cmp (se_var 0) (se_var 1) (nomark _)) (se_one (se_or (se_cmp op_isN ok_isN (se_var 2) (se_non) (nomark _)) (se_one (se_cmp op_le ok_cmp (se_var 0) (se_var 2) (nomark _))))))))

theorem sc_is_row : FnScope ["value", "letter"] ["value"] (defScope (top 9)) := ⟨rfl, rfl, rfl, by decide +kernel, rfl, by decide +kernel, by decide +kernel⟩
theorem b_is_row {K : PySem.W.Frag} {mg : Str → Option Value} (E : Fx K mg) : Binds K E.d_is_row ["value"] [] := E.f_is_row.bindsN fun _ _ _ _ _ _ us hl => match us, hl with | [_], _ => rfl
theorem ok_is_row {P : Program} {w : World} {K : PySem.W.Frag} {mg : Str → Option Value} {base : Heap} (E : Fx K mg) (PX : Px P) : FnG P w K mg base CX0 3 E.a_is_row E.d_is_row ["value"] (spI K m_is_row) := by
  refine fn_okG (N := ["value", "letter"]) (ps := ["value"]) (k := 2) (scope := defScope (top 9)) (fb := b_is_row_body) E.f_is_row sc_is_row fun cdv A outer s H Q E1 hr => ?_
  have hu := hu_of hr.rm
  have hu65 := hu65_of hr.rm
  have hgd := hr.gd
  have hu64 := hu64_of hr.rm
  exact sss_cons (ss_if (st_w (sw_or (st_not (st_val (se_isi E.n_isinstance (se_var 0) (pe_bltn (by rfl) E.n_list (by decide +kernel) rfl)))) (sw_or1 (st_not (st_chain op_le ok_cmp op_le ok_cmp (se_int) (se_bc call_len cok_len (by decide +kernel) E.n_len (sa_cons (se_var 0) (sa_nil))) (se_gint E.c_MOST_SIZE)))))) (sss_one (ss_ret (se_bl)))
    (sss_nil))
    (sss_cons (ss_if (st_cmp (op_neD hu64) ok_ne (se_lc (own := [("letter", 1)]) sc_is_row.nd (si_seq (se_var 0)) (blkOk_by (by kernel_rfl)) (bd_nm (i := 1)) (by decide) (fun s H C cl fp => pg_name (i := 1) sc_is_row.nd rfl (by first | exact Or.inl rfl | exact Or.inr rfl)) (fun s H C cl fp => sts_one (st_not (st_val (PEimp (pg_call1 (ok_is_between E PX) (hr.mono (by decide)) (by rfl) E.g_is_between E.f_is_between.kp (b_is_between E) .nil pass0 (sa_cons (se_var 1) (sa_cons (se_int) (sa_cons (se_bin op_subA ok_sub (se_bc call_len cok_len (by decide +kernel) E.n_len (sa_cons (se_var 0) (sa_nil))) (se_int)) (sa_nil))))) sCall_ok)))) (fun s H C cl fp => se_var 1)) (se_lst (sa_nil)) (nomark _)) (sss_one (ss_ret (se_bl)))
    (sss_nil))
    (sss_one (ss_ret (se_cmp (op_eqD hu64) ok_eq (se_bc (cr_sortedX hu65) cok_sorted (by decide +kernel) E.n_sorted (sa_cons (se_var 0) (sa_nil))) (se_lr1 E.n_list E.n_range (se_bc call_len cok_len (by decide +kernel) E.n_len (sa_cons (se_var 0) (sa_nil)))) (nomark _)))))

theorem sc_fall_of : FnScope ["row", "most", "at", "letter"] ["row"] (defScope (top 10)) := ⟨rfl, rfl, rfl, by decide +kernel, rfl, by decide +kernel, by decide +kernel⟩
theorem b_fall_of {K : PySem.W.Frag} {mg : Str → Option Value} (E : Fx K mg) : Binds K E.d_fall_of ["row"] [] := E.f_fall_of.bindsN fun _ _ _ _ _ _ us hl => match us, hl with | [_], _ => rfl
theorem ok_fall_of {P : Program} {w : World} {K : PySem.W.Frag} {mg : Str → Option Value} {base : Heap} (E : Fx K mg) (PX : Px P) : FnG P w K mg base CX0 1 E.a_fall_of E.d_fall_of ["row"] (spI K m_fall_of) := by
  refine fn_okG (N := ["row", "most", "at", "letter"]) (ps := ["row"]) (k := 0) (scope := defScope (top 10)) (fb := b_fall_of_body) E.f_fall_of sc_fall_of fun cdv A outer s H Q E1 hr => ?_
  have hu := hu_of hr.rm
  have hu65 := hu65_of hr.rm
  have hgd := hr.gd
  have hu64 := hu64_of hr.rm
  exact sss_cons (ss_set 1 sc_fall_of.nd (se_neg (se_int)))
    (sss_cons (ss_for PassesOwn.never (si_enum E.n_enumerate (se_sl (se_var 0) (so_none) (so_some (se_neg (se_int))))) (pg_tup rfl (pgs_cons (pg_name (i := 2) sc_fall_of.nd rfl (by first | exact Or.inl rfl | exact Or.inr rfl)) (pgs_cons (pg_name (i := 3) sc_fall_of.nd rfl (by first | exact Or.inl rfl | exact Or.inr rfl)) (pgs_nil)))) (bd_tp (is := [2, 3])) (sss_cons (ss_set 1 sc_fall_of.nd (se_bc (call_max2 rfl) cok_max (by decide +kernel) E.n_max (sa_cons (se_var 1) (sa_cons (se_var 3) (sa_nil)))))
    (sss_one (ss_if (st_cmp (op_eqD hu64) ok_eq (se_var 1) (se_var 2) (nomark _)) (sss_one (ss_ret (se_bin op_addA ok_add (se_var 2) (se_int))))
    (sss_nil)))))
    (sss_one (ss_ret (se_non))))

theorem sc_is_order_list : FnScope ["value"] ["value"] (defScope (top 11)) := ⟨rfl, rfl, rfl, by decide +kernel, rfl, by decide +kernel, by decide +kernel⟩
theorem b_is_order_list {K : PySem.W.Frag} {mg : Str → Option Value} (E : Fx K mg) : Binds K E.d_is_order_list ["value"] [] := E.f_is_order_list.bindsN fun _ _ _ _ _ _ us hl => match us, hl with | [_], _ => rfl
theorem ok_is_order_list {P : Program} {w : World} {K : PySem.W.Frag} {mg : Str → Option Value} {base : Heap} (E : Fx K mg) (PX : Px P) : FnG P w K mg base CX0 4 E.a_is_order_list E.d_is_order_list ["value"] (spI K m_is_order_list) := by
  refine fn_okG (N := ["value"]) (ps := ["value"]) (k := 3) (scope := defScope (top 11)) (fb := b_is_order_list_body) E.f_is_order_list sc_is_order_list fun cdv A outer s H Q E1 hr => ?_
  have hu := hu_of hr.rm
  have hu65 := hu65_of hr.rm
  have hgd := hr.gd
  have hu64 := hu64_of hr.rm
  exact sss_one (ss_ret (se_and (PEimp (pg_call1 (ok_is_row E PX) (hr.mono (by decide)) (by rfl) E.g_is_row E.f_is_row.kp (b_is_row E) .nil pass0 (sa_cons (se_var 0) (sa_nil))) sCall_ok) (se_one (se_cmp op_isN ok_isN (PEimp (pg_call1 (ok_fall_of E PX) (hr.mono (by decide)) (by rfl) E.g_fall_of E.f_fall_of.kp (b_fall_of E) .nil pass0 (sa_cons (se_var 0) (sa_nil))) sCall_ok) (se_non) (nomark _)))))

theorem sc_check_order : FnScope ["order"] ["order"] (defScope (top 12)) := ⟨rfl, rfl, rfl, by decide +kernel, rfl, by decide +kernel, by decide +kernel⟩
theorem b_check_order {K : PySem.W.Frag} {mg : Str → Option Value} (E : Fx K mg) : Binds K E.d_check_order ["order"] [] := E.f_check_order.bindsN fun _ _ _ _ _ _ us hl => match us, hl with | [_], _ => rfl
theorem ok_check_order {P : Program} {w : World} {K : PySem.W.Frag} {mg : Str → Option Value} {base : Heap} (E : Fx K mg) (PX : Px P) : FnG P w K mg base CX0 5 E.a_check_order E.d_check_order ["order"] (spI K m_check_order) := by
  refine fn_okG (N := ["order"]) (ps := ["order"]) (k := 4) (scope := defScope (top 12)) (fb := b_check_order_body) E.f_check_order sc_check_order fun cdv A outer s H Q E1 hr => ?_
  have hu := hu_of hr.rm
  have hu65 := hu65_of hr.rm
  have hgd := hr.gd
  have hu64 := hu64_of hr.rm
  exact sss_one (ss_if (st_not (st_val (PEimp (pg_call1 (ok_is_order_list E PX) (hr.mono (by decide)) (by rfl) E.g_is_order_list E.f_is_order_list.kp (b_is_order_list E) .nil pass0 (sa_cons (se_var 0) (sa_nil))) sCall_ok))) (sss_one (ss_never))
    (sss_nil))

theorem rn_mr_check_order_1 {P : Program} {w : World} {K : PySem.W.Frag} {mg : Str → Option Value} {base : Heap} (E : Fx K mg) (PX : Px P) : FnG P w K mg base (L2.CX P w) 5 E.a_check_order E.d_check_order ["order"] (spR K (He.ga K "InvalidOrder") mr_check_order_1) := by
  refine fn_okR (N := ["order"]) (ps := ["order"]) (k := 4) (scope := defScope (top 12)) (fb := rb_check_order_1) E.f_check_order sc_check_order fun cdv A outer s H E1 hr tk => ?_
  have hu := hu_of hr.rm
  have hu65 := hu65_of hr.rm
  have hgd := hr.gd
  have hu64 := hu64_of hr.rm
  exact sr_if (st_not (st_val (PEimp (pg_call1 (ok_is_order_list E PX) (hr.mono (by decide)) (by rfl) E.g_is_order_list E.f_is_order_list.kp (b_is_order_list E) .nil pass0 (sa_cons (se_var 0) (sa_nil))) sCall_ok))) (sr_raise (k := 1) E.X_InvalidOrder.T E.X_InvalidOrder.iC E.X_InvalidOrder.tI (init_InvalidOrder E PX) (hr.rm.mono (by decide)) E.X_InvalidOrder.binds (by rfl) E.X_InvalidOrder.g rfl tk (se_var 0))
theorem sc_moved_behind : FnScope ["row", "letter", "winner", "place"] ["row", "letter", "winner"] (defScope (top 15)) := ⟨rfl, rfl, rfl, by decide +kernel, rfl, by decide +kernel, by decide +kernel⟩
theorem b_moved_behind {K : PySem.W.Frag} {mg : Str → Option Value} (E : Fx K mg) : Binds K E.d_moved_behind ["row", "letter", "winner"] [] := E.f_moved_behind.bindsN fun _ _ _ _ _ _ us hl => match us, hl with | [_, _, _], _ => rfl
theorem ok_moved_behind {P : Program} {w : World} {K : PySem.W.Frag} {mg : Str → Option Value} {base : Heap} (E : Fx K mg) (PX : Px P) : FnG P w K mg base CX0 1 E.a_moved_behind E.d_moved_behind ["row", "letter", "winner"] (spI K m_moved_behind) := by
  refine fn_okG (N := ["row", "letter", "winner", "place"]) (ps := ["row", "letter", "winner"]) (k := 0) (scope := defScope (top 15)) (fb := b_moved_behind_body) E.f_moved_behind sc_moved_behind fun cdv A outer s H Q E1 hr => ?_
  have hu := hu_of hr.rm
  have hu65 := hu65_of hr.rm
  have hgd := hr.gd
  have hu64 := hu64_of hr.rm
  exact sss_cons (ss_set 3 sc_moved_behind.nd (se_bin op_addA ok_add (PEimp (pe_bm PySem.F.plainAttrs_list PySem.F.slot_list_index PySem.F.type_list_index (mt_indexD hu65) (se_var 0) (sa_cons (se_var 2) (sa_nil))) (sMt_ok (.inl rfl) mok_index)) (se_int)))
    (sss_one (ss_ret (se_bin op_addA ok_add (se_bin op_addA ok_add (se_sl (se_var 0) (so_none) (so_some (se_var 3))) (se_lst (sa_cons (se_var 1) (sa_nil)))) (se_sl (se_var 0) (so_some (se_var 3)) (so_some (se_neg (se_int)))))))

theorem sc_named_anew : FnScope ["upper", "lower", "names", "at", "letter"] ["upper", "lower"] (defScope (top 13)) := ⟨rfl, rfl, rfl, by decide +kernel, rfl, by decide +kernel, by decide +kernel⟩
theorem b_named_anew {K : PySem.W.Frag} {mg : Str → Option Value} (E : Fx K mg) : Binds K E.d_named_anew ["upper", "lower"] [] := E.f_named_anew.bindsN fun _ _ _ _ _ _ us hl => match us, hl with | [_, _], _ => rfl
theorem ok_named_anew {P : Program} {w : World} {K : PySem.W.Frag} {mg : Str → Option Value} {base : Heap} (E : Fx K mg) (PX : Px P) : FnG P w K mg base CX0 1 E.a_named_anew E.d_named_anew ["upper", "lower"] (spI K m_named_anew) := by
  refine fn_okG (N := ["upper", "lower", "names", "at", "letter"]) (ps := ["upper", "lower"]) (k := 0) (scope := defScope (top 13)) (fb := b_named_anew_body) E.f_named_anew sc_named_anew fun cdv A outer s H Q E1 hr => ?_
  have hu := hu_of hr.rm
  have hu65 := hu65_of hr.rm
  have hgd := hr.gd
  have hu64 := hu64_of hr.rm
  exact sss_cons (ss_set 2 sc_named_anew.nd (se_dc (own := [("at", 3), ("letter", 4)]) sc_named_anew.nd (si_enum E.n_enumerate (se_var 0)) (blkOk_by (by kernel_rfl)) (bd_tp (is := [3, 4])) (by decide) (fun s H C cl fp => pg_tup rfl (pgs_cons (pg_name (i := 3) sc_named_anew.nd rfl (by first | exact Or.inl rfl | exact Or.inr rfl)) (pgs_cons (pg_name (i := 4) sc_named_anew.nd rfl (by first | exact Or.inl rfl | exact Or.inr rfl)) (pgs_nil)))) (fun s H C cl fp => sts_nil) (fun s H C cl fp => se_var 4) (fun s H C cl fp => se_var 3)))
    (sss_one (ss_ret (se_lc (own := [("letter", 4)]) sc_named_anew.nd (si_seq (se_var 1)) (blkOk_by (by kernel_rfl)) (bd_nm (i := 4)) (by decide) (fun s H C cl fp => pg_name (i := 4) sc_named_anew.nd rfl (by first | exact Or.inl rfl | exact Or.inr rfl)) (fun s H C cl fp => sts_nil) (fun s H C cl fp => se_ixA hu (se_var 2) (se_var 4)))))

theorem sc_behind_deed : FnScope ["order", "deed", "above", "below", "upper"] ["order", "deed"] (defScope (top 16)) := ⟨rfl, rfl, rfl, by decide +kernel, rfl, by decide +kernel, by decide +kernel⟩
theorem b_behind_deed {K : PySem.W.Frag} {mg : Str → Option Value} (E : Fx K mg) : Binds K E.d_behind_deed ["order", "deed"] [] := E.f_behind_deed.bindsN fun _ _ _ _ _ _ us hl => match us, hl with | [_, _], _ => rfl
theorem ok_behind_deed {P : Program} {w : World} {K : PySem.W.Frag} {mg : Str → Option Value} {base : Heap} (E : Fx K mg) (PX : Px P) : FnG P w K mg base CX0 2 E.a_behind_deed E.d_behind_deed ["order", "deed"] (spI K m_behind_deed) := by
  refine fn_okG (N := ["order", "deed", "above", "below", "upper"]) (ps := ["order", "deed"]) (k := 1) (scope := defScope (top 16)) (fb := b_behind_deed_body) E.f_behind_deed sc_behind_deed fun cdv A outer s H Q E1 hr => ?_
  have hu := hu_of hr.rm
  have hu65 := hu65_of hr.rm
  have hgd := hr.gd
  have hu64 := hu64_of hr.rm
  exact sss_cons (ss_par2 2 3 sc_behind_deed.nd (sa_cons (se_bin op_subA ok_sub (se_bc call_len cok_len (by decide +kernel) E.n_len (sa_cons (se_var 0) (sa_nil))) (se_int)) (sa_cons (se_ixA hu (se_var 0) (se_neg (se_int))) (sa_nil))))
    (sss_cons (ss_if (st_cmp (op_eqD hu64) ok_eq (se_var 1) (se_str) (nomark _)) (sss_one (ss_ret (PEimp (pg_call1 (ok_moved_behind E PX) (hr.mono (by decide)) (by rfl) E.g_moved_behind E.f_moved_behind.kp (b_moved_behind E) .nil pass0 (sa_cons (se_var 0) (sa_cons (se_var 3) (sa_cons (se_var 2) (sa_nil))))) sCall_ok)))
    (sss_nil))
    (sss_cons (ss_set 4 sc_behind_deed.nd (PEimp (pg_call1 (ok_moved_behind E PX) (hr.mono (by decide)) (by rfl) E.g_moved_behind E.f_moved_behind.kp (b_moved_behind E) .nil pass0 (sa_cons (se_lr1 E.n_list E.n_range (se_bc call_len cok_len (by decide +kernel) E.n_len (sa_cons (se_var 0) (sa_nil)))) (sa_cons (se_var 2) (sa_cons (se_var 3) (sa_nil))))) sCall_ok))
    (sss_one (ss_ret (PEimp (pg_call1 (ok_named_anew E PX) (hr.mono (by decide)) (by rfl) E.g_named_anew E.f_named_anew.kp (b_named_anew E) .nil pass0 (sa_cons (se_var 4) (sa_cons (se_var 0) (sa_nil)))) sCall_ok)))))

theorem sc_class_by : FnScope ["order", "known", "line", "at", "deed", "further"] ["order"] (defScope (top 18)) := ⟨rfl, rfl, rfl, by decide +kernel, rfl, by decide +kernel, by decide +kernel⟩
theorem b_class_by {K : PySem.W.Frag} {mg : Str → Option Value} (E : Fx K mg) : Binds K E.d_class_by ["order"] [] := E.f_class_by.bindsN fun _ _ _ _ _ _ us hl => match us, hl with | [_], _ => rfl
theorem ok_class_by {P : Program} {w : World} {K : PySem.W.Frag} {mg : Str → Option Value} {base : Heap} (E : Fx K mg) (PX : Px P) : FnG P w K mg base CX0 3 E.a_class_by E.d_class_by ["order"] (spI K m_class_by) := by
  refine fn_okG (N := ["order", "known", "line", "at", "deed", "further"]) (ps := ["order"]) (k := 2) (scope := defScope (top 18)) (fb := b_class_by_body) E.f_class_by sc_class_by fun cdv A outer s H Q E1 hr => ?_
  have hu := hu_of hr.rm
  have hu65 := hu65_of hr.rm
  have hgd := hr.gd
  have hu64 := hu64_of hr.rm
  exact sss_cons (ss_par2 1 2 sc_class_by.nd (sa_cons (se_dispT hu (se_bt call_tuple_of cok_tuple (by decide +kernel) E.n_tuple (sa_cons (se_var 0) (sa_nil))) pe_bl (fun _ => Rp.bl true)) (sa_cons (se_lstT (sa_cons (se_bt call_list_of cok_list (by decide +kernel) E.n_list (sa_cons (se_var 0) (sa_nil))) (sa_nil))) (sa_nil))))
    (sss_cons (ss_set 3 sc_class_by.nd (se_int))
    (sss_cons (ss_while W_class_by PassesOwn.never (st_pure (st_cmp op_lt ok_cmp (se_var 3) (se_bc call_len cok_len (by decide +kernel) E.n_len (sa_cons (se_var 2) (sa_nil))) (nomark _))) (sss_cons (ss_for PassesOwn.never (si_seq (se_str)) (pg_name (i := 4) sc_class_by.nd rfl (by first | exact Or.inl rfl | exact Or.inr rfl)) (bd_nm (i := 4)) (sss_cons (ss_set 5 sc_class_by.nd (se_pure (PEimp (pg_call1 (ok_behind_deed E PX) (hr.mono (by decide)) (by rfl) E.g_behind_deed E.f_behind_deed.kp (b_behind_deed E) .nil pass0 (sa_cons (se_ixA hu (se_var 2) (se_var 3)) (sa_cons (se_var 4) (sa_nil)))) sCall_ok)))
    (sss_one (ss_if (st_notin hu65 (se_bt call_tuple_of cok_tuple (by decide +kernel) E.n_tuple (sa_cons (se_var 5) (sa_nil))) (se_var 1)) (sss_cons (ss_setI 1 hu (se_bl) (se_bt call_tuple_of cok_tuple (by decide +kernel) E.n_tuple (sa_cons (se_var 5) (sa_nil))))
    (sss_one (ss_exp (PEimp (pe_bm PySem.F.plainAttrs_list PySem.F.slot_list_append PySem.F.type_list_append mt_append (pe_v 2) (pa_cons (se_var 5) pa_nil)) sAppX_ok))))
    (sss_nil)))))
    (sss_one (ss_set 3 sc_class_by.nd (se_bin op_addA ok_add (se_var 3) (se_int))))))
    (sss_one (ss_ret (se_sortT hu65 E.n_sorted (se_var 2))))))

theorem sc_class_number : FnScope ["order"] ["order"] (defScope (top 19)) := ⟨rfl, rfl, rfl, by decide +kernel, rfl, by decide +kernel, by decide +kernel⟩
theorem b_class_number {K : PySem.W.Frag} {mg : Str → Option Value} (E : Fx K mg) : Binds K E.d_class_number ["order"] [] := E.f_class_number.bindsN fun _ _ _ _ _ _ us hl => match us, hl with | [_], _ => rfl
theorem ok_class_number {P : Program} {w : World} {K : PySem.W.Frag} {mg : Str → Option Value} {base : Heap} (E : Fx K mg) (PX : Px P) : FnG P w K mg base CX0 6 E.a_class_number E.d_class_number ["order"] (spI K m_class_number) := by
  refine fn_okG (N := ["order"]) (ps := ["order"]) (k := 5) (scope := defScope (top 19)) (fb := b_class_number_body) E.f_class_number sc_class_number fun cdv A outer s H Q E1 hr => ?_
  have hu := hu_of hr.rm
  have hu65 := hu65_of hr.rm
  have hgd := hr.gd
  have hu64 := hu64_of hr.rm
  exact sss_cons (ss_exp (PEimp (pg_call1 (ok_check_order E PX) (hr.mono (by decide)) (by rfl) E.g_check_order E.f_check_order.kp (b_check_order E) .nil pass0 (sa_cons (se_var 0) (sa_nil))) sCall_ok))
    (sss_one (ss_ret (PEimp (pe_bm PySem.F.plainAttrs_list PySem.F.slot_list_index PySem.F.type_list_index (mt_indexD hu65) (se_fz (PEimp (pg_call1 (ok_class_by E PX) (hr.mono (by decide)) (by rfl) E.g_class_by E.f_class_by.kp (b_class_by E) .nil pass0 (sa_cons (se_var 0) (sa_nil))) sCall_ok)) (sa_cons (se_var 0) (sa_nil))) (sMt_ok (.inl rfl) mok_index))))

theorem kb_class_number_order {K : PySem.W.Frag} {mg : Str → Option Value} (E : Fx K mg) : KBn K E.d_class_number ["order"] 0 ["order"] (guP [0]) (gvP [0]) := kbN (n := 0) E.f_class_number (fun kV doc pm an cdv ct us ws h1 h2 => match us, ws, h1, h2 with | [], [_], _, _ => rfl) (by decide)

theorem sc_check_number : FnScope ["number", "low", "high"] ["number", "low", "high"] (defScope (top 8)) := ⟨rfl, rfl, rfl, by decide +kernel, rfl, by decide +kernel, by decide +kernel⟩
theorem b_check_number {K : PySem.W.Frag} {mg : Str → Option Value} (E : Fx K mg) : Binds K E.d_check_number ["number", "low", "high"] [] := E.f_check_number.bindsN fun _ _ _ _ _ _ us hl => match us, hl with | [_, _, _], _ => rfl
theorem ok_check_number {P : Program} {w : World} {K : PySem.W.Frag} {mg : Str → Option Value} {base : Heap} (E : Fx K mg) (PX : Px P) : FnG P w K mg base CX0 3 E.a_check_number E.d_check_number ["number", "low", "high"] (spI K m_check_number) := by
  refine fn_okG (N := ["number", "low", "high"]) (ps := ["number", "low", "high"]) (k := 2) (scope := defScope (top 8)) (fb := b_check_number_body) E.f_check_number sc_check_number fun cdv A outer s H Q E1 hr => ?_
  have hu := hu_of hr.rm
  have hu65 := hu65_of hr.rm
  have hgd := hr.gd
  have hu64 := hu64_of hr.rm
  exact sss_one (ss_if (st_not (st_val (PEimp (pg_call1 (ok_is_between E PX) (hr.mono (by decide)) (by rfl) E.g_is_between E.f_is_between.kp (b_is_between E) .nil pass0 (sa_cons (se_var 0) (sa_cons (se_var 1) (sa_cons (se_var 2) (sa_nil))))) sCall_ok))) (sss_one (ss_never))
    (sss_nil))

theorem rn_mr_check_number_1 {P : Program} {w : World} {K : PySem.W.Frag} {mg : Str → Option Value} {base : Heap} (E : Fx K mg) (PX : Px P) : FnG P w K mg base (L2.CX P w) 3 E.a_check_number E.d_check_number ["number", "low", "high"] (spR K (He.ga K "InvalidNumber") mr_check_number_1) := by
  refine fn_okR (N := ["number", "low", "high"]) (ps := ["number", "low", "high"]) (k := 2) (scope := defScope (top 8)) (fb := rb_check_number_1) E.f_check_number sc_check_number fun cdv A outer s H E1 hr tk => ?_
  have hu := hu_of hr.rm
  have hu65 := hu65_of hr.rm
  have hgd := hr.gd
  have hu64 := hu64_of hr.rm
  exact sr_if (st_not (st_val (PEimp (pg_call1 (ok_is_between E PX) (hr.mono (by decide)) (by rfl) E.g_is_between E.f_is_between.kp (b_is_between E) .nil pass0 (sa_cons (se_var 0) (sa_cons (se_var 1) (sa_cons (se_var 2) (sa_nil))))) sCall_ok))) (sr_raise (k := 1) E.X_InvalidNumber.T E.X_InvalidNumber.iC E.X_InvalidNumber.tI (init_InvalidNumber E PX) (hr.rm.mono (by decide)) E.X_InvalidNumber.binds (by rfl) E.X_InvalidNumber.g rfl tk (se_var 0))
theorem sc_class_numbered : FnScope ["order", "number", "found"] ["order", "number"] (defScope (top 20)) := ⟨rfl, rfl, rfl, by decide +kernel, rfl, by decide +kernel, by decide +kernel⟩
theorem b_class_numbered {K : PySem.W.Frag} {mg : Str → Option Value} (E : Fx K mg) : Binds K E.d_class_numbered ["order", "number"] [] := E.f_class_numbered.bindsN fun _ _ _ _ _ _ us hl => match us, hl with | [_, _], _ => rfl
theorem ok_class_numbered {P : Program} {w : World} {K : PySem.W.Frag} {mg : Str → Option Value} {base : Heap} (E : Fx K mg) (PX : Px P) : FnG P w K mg base CX0 6 E.a_class_numbered E.d_class_numbered ["order", "number"] (spI K m_class_numbered) := by
  refine fn_okG (N := ["order", "number", "found"]) (ps := ["order", "number"]) (k := 5) (scope := defScope (top 20)) (fb := b_class_numbered_body) E.f_class_numbered sc_class_numbered fun cdv A outer s H Q E1 hr => ?_
  have hu := hu_of hr.rm
  have hu65 := hu65_of hr.rm
  have hgd := hr.gd
  have hu64 := hu64_of hr.rm
  exact sss_cons (ss_exp (PEimp (pg_call1 (ok_check_order E PX) (hr.mono (by decide)) (by rfl) E.g_check_order E.f_check_order.kp (b_check_order E) .nil pass0 (sa_cons (se_var 0) (sa_nil))) sCall_ok))
    (sss_cons (ss_set 2 sc_class_numbered.nd (PEimp (pg_call1 (ok_class_by E PX) (hr.mono (by decide)) (by rfl) E.g_class_by E.f_class_by.kp (b_class_by E) .nil pass0 (sa_cons (se_var 0) (sa_nil))) sCall_ok))
    (sss_cons (ss_exp (PEimp (pg_call1 (ok_check_number E PX) (hr.mono (by decide)) (by rfl) E.g_check_number E.f_check_number.kp (b_check_number E) .nil pass0 (sa_cons (se_var 1) (sa_cons (se_int) (sa_cons (se_pure (se_bin op_subA ok_sub (se_bc call_len cok_len (by decide +kernel) E.n_len (sa_cons (se_var 2) (sa_nil))) (se_int))) (sa_nil))))) sCall_ok))
    (sss_one (ss_ret (se_part 2 (se_var 1))))))

theorem rn_mr_class_numbered_1 {P : Program} {w : World} {K : PySem.W.Frag} {mg : Str → Option Value} {base : Heap} (E : Fx K mg) (PX : Px P) : FnG P w K mg base (L2.CX P w) 6 E.a_class_numbered E.d_class_numbered ["order", "number"] (spR K (He.ga K "InvalidOrder") mr_class_numbered_1) := by
  refine fn_okR (N := ["order", "number", "found"]) (ps := ["order", "number"]) (k := 5) (scope := defScope (top 20)) (fb := rb_class_numbered_1) E.f_class_numbered sc_class_numbered fun cdv A outer s H E1 hr tk => ?_
  have hu := hu_of hr.rm
  have hu65 := hu65_of hr.rm
  have hgd := hr.gd
  have hu64 := hu64_of hr.rm
  exact sr_call (k := 5) (C := He.ga K "InvalidOrder") (rn_mr_check_order_1 E PX) (hr.mono (by decide)) (by rfl) E.g_check_order E.f_check_order.kp (b_check_order E) tk (sa_cons (se_var 0) (sa_nil))
theorem rn_mr_class_numbered_2 {P : Program} {w : World} {K : PySem.W.Frag} {mg : Str → Option Value} {base : Heap} (E : Fx K mg) (PX : Px P) : FnG P w K mg base (L2.CX P w) 6 E.a_class_numbered E.d_class_numbered ["order", "number"] (spR K (He.ga K "InvalidNumber") mr_class_numbered_2) := by
  refine fn_okR (N := ["order", "number", "found"]) (ps := ["order", "number"]) (k := 5) (scope := defScope (top 20)) (fb := rb_class_numbered_2) E.f_class_numbered sc_class_numbered fun cdv A outer s H E1 hr tk => ?_
  have hu := hu_of hr.rm
  have hu65 := hu65_of hr.rm
  have hgd := hr.gd
  have hu64 := hu64_of hr.rm
  exact sr_seq (ss_exp (PEimp (pg_call1 (ok_check_order E PX) (hr.mono (by decide)) (by rfl) E.g_check_order E.f_check_order.kp (b_check_order E) .nil pass0 (sa_cons (se_var 0) (sa_nil))) sCall_ok)) (sr_seq (ss_set 2 sc_class_numbered.nd (PEimp (pg_call1 (ok_class_by E PX) (hr.mono (by decide)) (by rfl) E.g_class_by E.f_class_by.kp (b_class_by E) .nil pass0 (sa_cons (se_var 0) (sa_nil))) sCall_ok)) (sr_call (k := 3) (C := He.ga K "InvalidNumber") (rn_mr_check_number_1 E PX) (hr.mono (by decide)) (by rfl) E.g_check_number E.f_check_number.kp (b_check_number E) tk (sa_cons (se_var 1) (sa_cons (se_int) (sa_cons (se_pure (se_bin op_subA ok_sub (se_bc call_len cok_len (by decide +kernel) E.n_len (sa_cons (se_var 2) (sa_nil))) (se_int))) (sa_nil))))))
theorem kb_class_numbered_number_order {K : PySem.W.Frag} {mg : Str → Option Value} (E : Fx K mg) : KBn K E.d_class_numbered ["order", "number"] 0 ["number", "order"] (guP [1, 0]) (gvP [1, 0]) := kbN (n := 0) E.f_class_numbered (fun kV doc pm an cdv ct us ws h1 h2 => match us, ws, h1, h2 with | [], [_, _], _, _ => rfl) (by decide)

theorem sc_next_in_class : FnScope ["order", "found", "at"] ["order"] (defScope (top 21)) := ⟨rfl, rfl, rfl, by decide +kernel, rfl, by decide +kernel, by decide +kernel⟩
theorem b_next_in_class {K : PySem.W.Frag} {mg : Str → Option Value} (E : Fx K mg) : Binds K E.d_next_in_class ["order"] [] := E.f_next_in_class.bindsN fun _ _ _ _ _ _ us hl => match us, hl with | [_], _ => rfl
theorem ok_next_in_class {P : Program} {w : World} {K : PySem.W.Frag} {mg : Str → Option Value} {base : Heap} (E : Fx K mg) (PX : Px P) : FnG P w K mg base CX0 6 E.a_next_in_class E.d_next_in_class ["order"] (spI K m_next_in_class) := by
  refine fn_okG (N := ["order", "found", "at"]) (ps := ["order"]) (k := 5) (scope := defScope (top 21)) (fb := b_next_in_class_body) E.f_next_in_class sc_next_in_class fun cdv A outer s H Q E1 hr => ?_
  have hu := hu_of hr.rm
  have hu65 := hu65_of hr.rm
  have hgd := hr.gd
  have hu64 := hu64_of hr.rm
  exact sss_cons (ss_exp (PEimp (pg_call1 (ok_check_order E PX) (hr.mono (by decide)) (by rfl) E.g_check_order E.f_check_order.kp (b_check_order E) .nil pass0 (sa_cons (se_var 0) (sa_nil))) sCall_ok))
    (sss_cons (ss_set 1 sc_next_in_class.nd (PEimp (pg_call1 (ok_class_by E PX) (hr.mono (by decide)) (by rfl) E.g_class_by E.f_class_by.kp (b_class_by E) .nil pass0 (sa_cons (se_var 0) (sa_nil))) sCall_ok))
    (sss_cons (ss_set 2 sc_next_in_class.nd (se_pure (se_bin op_addA ok_add (PEimp (pe_bm PySem.F.plainAttrs_list PySem.F.slot_list_index PySem.F.type_list_index (mt_indexD hu65) (se_var 1) (sa_cons (se_var 0) (sa_nil))) (sMt_ok (.inl rfl) mok_index)) (se_int))))
    (sss_one (ss_ret (se_ite (st_pure (st_cmp op_lt ok_cmp (se_var 2) (se_bc call_len cok_len (by decide +kernel) E.n_len (sa_cons (se_var 1) (sa_nil))) (nomark _))) (se_part 1 (se_var 2)) (se_non))))))

theorem kb_next_in_class_order {K : PySem.W.Frag} {mg : Str → Option Value} (E : Fx K mg) : KBn K E.d_next_in_class ["order"] 0 ["order"] (guP [0]) (gvP [0]) := kbN (n := 0) E.f_next_in_class (fun kV doc pm an cdv ct us ws h1 h2 => match us, ws, h1, h2 with | [], [_], _, _ => rfl) (by decide)

theorem sc__law_caught : FnScope ["_law_order_here", "_law_number", "_law_error", "e"] ["_law_order_here", "_law_number"] (defScope (top 33)) := ⟨rfl, rfl, rfl, by decide +kernel, rfl, by decide +kernel, by decide +kernel⟩
theorem b__law_caught {K : PySem.W.Frag} {mg : Str → Option Value} (E : Fx K mg) : Binds K E.d__law_caught ["_law_order_here", "_law_number"] [] := E.f__law_caught.bindsN fun _ _ _ _ _ _ us hl => match us, hl with | [_, _], _ => rfl
theorem ok__law_caught {P : Program} {w : World} {K : PySem.W.Frag} {mg : Str → Option Value} {base : Heap} (E : Fx K mg) (PX : Px P) : FnG P w K mg base CX0 7 E.a__law_caught E.d__law_caught ["_law_order_here", "_law_number"] (spI K m__law_caught) := by
  refine fn_okG (N := ["_law_order_here", "_law_number", "_law_error", "e"]) (ps := ["_law_order_here", "_law_number"]) (k := 6) (scope := defScope (top 33)) (fb := b__law_caught_body) E.f__law_caught sc__law_caught fun cdv A outer s H Q E1 hr => ?_
  have hu := hu_of hr.rm
  have hu65 := hu65_of hr.rm
  have hgd := hr.gd
  have hu64 := hu64_of hr.rm
  exact sss_cons (ss_set 2 sc__law_caught.nd (se_non))
    (sss_cons (ss_tryR (i := 3) (j := 2) (k := 6) rfl rfl rfl sc__law_caught.nd (by rfl) (by rfl) (by rfl) (by rfl) ⟨by rfl, by decide, .inl E.g_TurnError⟩ (by first | exact Or.inl rfl | exact Or.inr (Or.inl rfl) | exact Or.inr (Or.inr rfl)) (by
      intro p hp
      simp only [List.mem_cons, List.mem_nil_iff, or_false] at hp
      rcases hp with rfl | rfl
      · exact rn_mr_class_numbered_1 E PX
      · exact rn_mr_class_numbered_2 E PX) (by
      intro p hp
      simp only [List.mem_cons, List.mem_nil_iff, or_false] at hp
      rcases hp with rfl | rfl
      · exact (E.mt_InvalidOrder_TurnError).2
      · exact (E.mt_InvalidNumber_TurnError).2) (hr.mono (by decide)) (by rfl) E.g_class_numbered E.f_class_numbered.kp (b_class_numbered E) (fun l xe => sa_cons (se_var 0) (sa_cons (se_var 1) (sa_nil))))
    (sss_one (ss_ret (se_ite (st_val (se_isX (i := 2) (B := B_InvalidNumber) E.n_isinstance (by rfl) (by first | exact Or.inl rfl | exact Or.inr (Or.inl rfl) | exact Or.inr (Or.inr rfl)) E.g_InvalidNumber (isB_InvalidNumber E))) (se_xv (i := 2) (T := T_own) (xcT E) (by rfl) (by first | exact Or.inl rfl | exact Or.inr (Or.inl rfl) | exact Or.inr (Or.inr rfl))) (se_str)))))

theorem sc__law_order_right : FnScope ["_law_generator_here", "_law_order_here", "_law_due", "_law_kept", "_law_many", "_law_at", "_law_here", "_law_told", "_law_found", "_law_after"] ["_law_generator_here", "_law_order_here"] (defScope (top 34)) := ⟨rfl, rfl, rfl, by decide +kernel, rfl, by decide +kernel, by decide +kernel⟩
theorem b__law_order_right {K : PySem.W.Frag} {mg : Str → Option Value} (E : Fx K mg) : Binds K E.d__law_order_right ["_law_generator_here", "_law_order_here"] [] := E.f__law_order_right.bindsN fun _ _ _ _ _ _ us hl => match us, hl with | [_, _], _ => rfl
theorem ok__law_order_right {P : Program} {w : World} {K : PySem.W.Frag} {mg : Str → Option Value} {base : Heap} (E : Fx K mg) (PX : Px P) : FnG P w K mg base CX0 8 E.a__law_order_right E.d__law_order_right ["_law_generator_here", "_law_order_here"] (spI K m__law_order_right) := by
  refine fn_okG (N := ["_law_generator_here", "_law_order_here", "_law_due", "_law_kept", "_law_many", "_law_at", "_law_here", "_law_told", "_law_found", "_law_after"]) (ps := ["_law_generator_here", "_law_order_here"]) (k := 7) (scope := defScope (top 34)) (fb := b__law_order_right_body) E.f__law_order_right sc__law_order_right fun cdv A outer s H Q E1 hr => ?_
  have hu := hu_of hr.rm
  have hu65 := hu65_of hr.rm
  have hgd := hr.gd
  have hu64 := hu64_of hr.rm
  exact sss_cons (ss_par2 2 3 sc__law_order_right.nd (sa_cons (se_fz (PEimp (pg_call1 (ok__law_class E PX) (hr.mono (by decide)) (by rfl) E.g__law_class E.f__law_class.kp (b__law_class E) .nil pass0 (sa_cons (se_var 1) (sa_nil))) sCall_ok)) (sa_cons (se_bt call_list_of cok_list (by decide +kernel) E.n_list (sa_cons (se_var 1) (sa_nil))) (sa_nil))))
    (sss_cons (ss_set 4 sc__law_order_right.nd (se_bc call_len cok_len (by decide +kernel) E.n_len (sa_cons (se_var 2) (sa_nil))))
    (sss_cons (ss_for (fb := l_order_right_1) PassesOwn.never (si_seq (se_lst (sa_cons (se_int) (sa_cons (se_bin op_subA ok_sub (se_var 4) (se_int)) (sa_cons (PEimp (pg_call1 (ok__law_random E PX) (hr.mono (by decide)) (by rfl) E.g__law_random E.f__law_random.kp (b__law_random E) .nil pass0 (sa_cons (se_var 0) (sa_cons (se_var 4) (sa_nil)))) sCall_ok) (sa_cons (PEimp (pg_call1 (ok__law_random E PX) (hr.mono (by decide)) (by rfl) E.g__law_random E.f__law_random.kp (b__law_random E) .nil pass0 (sa_cons (se_var 0) (sa_cons (se_var 4) (sa_nil)))) sCall_ok) (sa_nil))))))) (pg_name (i := 5) sc__law_order_right.nd rfl (by first | exact Or.inl rfl | exact Or.inr rfl)) (bd_nm (i := 5)) (sss_cons (ss_set 6 sc__law_order_right.nd (se_bt call_list_of cok_list (by decide +kernel) E.n_list (sa_cons (se_ixA hu (se_var 2) (se_var 5)) (sa_nil))))
    (sss_cons (ss_set 7 sc__law_order_right.nd (PEimp (pg_call1 (ok_class_number E PX) (hr.mono (by decide)) (by rfl) E.g_class_number E.f_class_number.kp (b_class_number E) .nil pass0 (sa_cons (se_var 6) (sa_nil))) sCall_ok))
    (sss_cons (ss_if (t := c_order_right_1) (st_w (sw_or (st_val (se_isi E.n_isinstance (se_var 7) (pe_bltn (by rfl) E.n_bool (by decide +kernel) rfl))) (sw_or (st_cmp (op_neD hu64) ok_ne (se_var 7) (se_var 5) (nomark _)) (sw_or (st_cmp (op_neD hu64) ok_ne (se_gN0 (ok_class_number E PX) (hr.mono (by decide)) (by rfl) E.g_class_number E.f_class_number.kp (kb_class_number_order E) pass0 (sk_cons (se_var 6) (sk_nil))) (se_var 5) (nomark _)) (sw_or1 (st_cmp (op_neD hu64) ok_ne (se_var 6) (se_ixA hu (se_var 2) (se_var 5)) (nomark _)))))))
    (sss_one (ss_ret (se_bl)))
    (sss_nil))
    (sss_cons (ss_set 8 sc__law_order_right.nd (PEimp (pg_call1 (ok_class_numbered E PX) (hr.mono (by decide)) (by rfl) E.g_class_numbered E.f_class_numbered.kp (b_class_numbered E) .nil pass0 (sa_cons (se_var 1) (sa_cons (se_var 5) (sa_nil)))) sCall_ok))
    (sss_cons (ss_if (t := c_order_right_2) (st_pure (st_w (sw_or (st_cmp (op_neD hu64) ok_ne (se_var 8) (se_ixA hu (se_var 2) (se_var 5)) (nomark _)) (sw_or1 (st_cmp (op_neD hu64) ok_ne (se_fz (se_gN0 (ok_class_numbered E PX) (hr.mono (by decide)) (by rfl) E.g_class_numbered E.f_class_numbered.kp (kb_class_numbered_number_order E) pass0 (sk_cons (se_var 5) (sk_cons (se_var 1) (sk_nil))))) (se_ixA hu (se_var 2) (se_var 5)) (nomark _))))))
    (sss_one (ss_ret (se_bl)))
    (sss_nil))
    (sss_cons (ss_exp (PEimp (pe_bm PySem.F.plainAttrs_list PySem.F.slot_list_append PySem.F.type_list_append mt_append (pe_v 8) (pa_cons (se_non) pa_nil)) sAppX_ok))
    (sss_cons (ss_set 9 sc__law_order_right.nd (PEimp (pg_call1 (ok_next_in_class E PX) (hr.mono (by decide)) (by rfl) E.g_next_in_class E.f_next_in_class.kp (b_next_in_class E) .nil pass0 (sa_cons (se_var 6) (sa_nil))) sCall_ok))
    (sss_cons (ss_if (t := c_order_right_3) (st_pure (st_w (sw_or (st_cmp (op_neD hu64) ok_ne (se_var 9) (se_ite (st_cmp op_lt ok_cmp (se_bin op_addA ok_add (se_var 5) (se_int)) (se_var 4) (nomark _)) (se_ixA hu (se_var 2) (se_bin op_addA ok_add (se_var 5) (se_int))) (se_non)) (nomark _)) (sw_or (st_cmp (op_neD hu64) ok_ne (se_fz (se_gN0 (ok_next_in_class E PX) (hr.mono (by decide)) (by rfl) E.g_next_in_class E.f_next_in_class.kp (kb_next_in_class_order E) pass0 (sk_cons (se_var 6) (sk_nil)))) (se_var 9) (nomark _)) (sw_or1 (st_cmp (op_neD hu64) ok_ne (se_var 6) (se_ixA hu (se_var 2) (se_var 5)) (nomark _)))))))
    (sss_one (ss_ret (se_bl)))
    (sss_nil))
    (sss_one (ss_if (t := c_order_right_4) (st_pure (st_cmp op_notN ok_notN (se_var 9) (se_non) (nomark _)))
    (sss_one (ss_exp (PEimp (pe_bm PySem.F.plainAttrs_list PySem.F.slot_list_append PySem.F.type_list_append mt_append (pe_v 9) (pa_cons (se_non) pa_nil)) sAppX_ok)))
    (sss_nil))))))))))))
    (sss_one (ss_ret (f := e_order_right_1) (se_and (se_cmp (op_eqD hu64) ok_eq (se_var 1) (se_var 3) (nomark _)) (se_and (se_cmp (op_eqD hu64) ok_eq (se_fz (PEimp (pg_call1 (ok_class_numbered E PX) (hr.mono (by decide)) (by rfl) E.g_class_numbered E.f_class_numbered.kp (b_class_numbered E) .nil pass0 (sa_cons (se_var 1) (sa_cons (se_bin op_subA ok_sub (se_var 4) (se_int)) (sa_nil)))) sCall_ok)) (se_ixA hu (se_var 2) (se_bin op_subA ok_sub (se_var 4) (se_int))) (nomark _)) (se_and (se_cmp (op_eqD hu64) ok_eq (PEimp (pg_call1 (ok__law_caught E PX) (hr.mono (by decide)) (by rfl) E.g__law_caught E.f__law_caught.kp (b__law_caught E) .nil pass0 (sa_cons (se_var 1) (sa_cons (se_var 4) (sa_nil)))) sCall_ok) (se_var 4) (nomark _)) (se_one (se_cmp (op_eqD hu64) ok_eq (PEimp (pg_call1 (ok__law_caught E PX) (hr.mono (by decide)) (by rfl) E.g__law_caught E.f__law_caught.kp (b__law_caught E) .nil pass0 (sa_cons (se_var 1) (sa_cons (se_bin op_powA ok_pow (se_int) (se_int)) (sa_nil)))) sCall_ok) (se_bin op_powA ok_pow (se_int) (se_int)) (nomark _))))))))))

theorem sc__law_falls : FnScope ["_law_row", "_law_size"] ["_law_row"] (defScope (top 30)) := ⟨rfl, rfl, rfl, by decide +kernel, rfl, by decide +kernel, by decide +kernel⟩
theorem b__law_falls {K : PySem.W.Frag} {mg : Str → Option Value} (E : Fx K mg) : Binds K E.d__law_falls ["_law_row"] [] := E.f__law_falls.bindsN fun _ _ _ _ _ _ us hl => match us, hl with | [_], _ => rfl
theorem ok__law_falls {P : Program} {w : World} {K : PySem.W.Frag} {mg : Str → Option Value} {base : Heap} (E : Fx K mg) (PX : Px P) : FnG P w K mg base CX0 1 E.a__law_falls E.d__law_falls ["_law_row"] (spI K m__law_falls) := by
  refine fn_okG (N := ["_law_row", "_law_size"]) (ps := ["_law_row"]) (k := 0) (scope := defScope (top 30)) (fb := b__law_falls_body) E.f__law_falls sc__law_falls fun cdv A outer s H Q E1 hr => ?_
  have hu := hu_of hr.rm
  have hu65 := hu65_of hr.rm
  have hgd := hr.gd
  have hu64 := hu64_of hr.rm
  exact sss_one (ss_ret (se_cmp (op_neD hu64) ok_ne (se_lc (own := [("_law_size", 1)]) sc__law_falls.nd (si_rg2 E.n_range (se_int) (se_bc call_len cok_len (by decide +kernel) E.n_len (sa_cons (se_var 0) (sa_nil)))) (blkOk_by (by kernel_rfl)) (bd_nm (i := 1)) (by decide) (fun s H C cl fp => pg_name (i := 1) sc__law_falls.nd rfl (by first | exact Or.inl rfl | exact Or.inr rfl)) (fun s H C cl fp => sts_one (st_cmp (op_eqD hu64) ok_eq (se_bc (cr_sortedX hu65) cok_sorted (by decide +kernel) E.n_sorted (sa_cons (se_sl (se_var 0) (so_none) (so_some (se_var 1))) (sa_nil))) (se_lr1 E.n_list E.n_range (se_var 1)) (nomark _))) (fun s H C cl fp => se_var 1)) (se_lst (sa_nil)) (nomark _)))

theorem sc__law_order : FnScope ["_law_generator_here", "_law_size", "_law_left", "_law_found", "_law_place", "_law_turn", "_law_at"] ["_law_generator_here", "_law_size"] (defScope (top 31)) := ⟨rfl, rfl, rfl, by decide +kernel, rfl, by decide +kernel, by decide +kernel⟩
theorem b__law_order {K : PySem.W.Frag} {mg : Str → Option Value} (E : Fx K mg) : Binds K E.d__law_order ["_law_generator_here", "_law_size"] [] := E.f__law_order.bindsN fun _ _ _ _ _ _ us hl => match us, hl with | [_, _], _ => rfl
theorem ok__law_order {P : Program} {w : World} {K : PySem.W.Frag} {mg : Str → Option Value} {base : Heap} (E : Fx K mg) (PX : Px P) : FnG P w K mg base CX0 3 E.a__law_order E.d__law_order ["_law_generator_here", "_law_size"] (spI K m__law_order) := by
  refine fn_okG (N := ["_law_generator_here", "_law_size", "_law_left", "_law_found", "_law_place", "_law_turn", "_law_at"]) (ps := ["_law_generator_here", "_law_size"]) (k := 2) (scope := defScope (top 31)) (fb := b__law_order_body) E.f__law_order sc__law_order fun cdv A outer s H Q E1 hr => ?_
  have hu := hu_of hr.rm
  have hu65 := hu65_of hr.rm
  have hgd := hr.gd
  have hu64 := hu64_of hr.rm
  exact sss_cons (ss_parT [2, 3] (pgs_cons (pg_name (i := 2) sc__law_order.nd rfl (by first | exact Or.inl rfl | exact Or.inr rfl)) (pgs_cons (pg_name (i := 3) sc__law_order.nd rfl (by first | exact Or.inl rfl | exact Or.inr rfl)) (pgs_nil))) (sa_cons (se_lr1 E.n_list E.n_range (se_var 1)) (sa_cons (se_lst (sa_nil)) (sa_nil))))
    (sss_cons (ss_for PassesOwn.never (si_rg1 E.n_range (se_var 1)) (pg_name (i := 4) sc__law_order.nd rfl (by first | exact Or.inl rfl | exact Or.inr rfl)) (bd_nm (i := 4)) (sss_one (ss_exp (PEimp (pe_bm PySem.F.plainAttrs_list PySem.F.slot_list_append PySem.F.type_list_append mt_append (pe_v 3) (pa_cons (PEimp (pe_bm PySem.F.plainAttrs_list PySem.F.slot_list_pop PySem.F.type_list_pop mt_popAt (pe_v 2) (pa_cons (PEimp (pg_call1 (ok__law_random E PX) (hr.mono (by decide)) (by rfl) E.g__law_random E.f__law_random.kp (b__law_random E) .nil pass0 (sa_cons (se_var 0) (sa_cons (se_bc call_len cok_len (by decide +kernel) E.n_len (sa_cons (se_var 2) (sa_nil))) (sa_nil)))) sCall_ok) pa_nil)) sPopAt_ok) pa_nil)) sApp_ok))))
    (sss_cons (ss_for PassesOwn.never (si_rg1 E.n_range (se_var 1)) (pg_name (i := 5) sc__law_order.nd rfl (by first | exact Or.inl rfl | exact Or.inr rfl)) (bd_nm (i := 5)) (sss_one (ss_if (st_val (PEimp (pg_call1 (ok__law_falls E PX) (hr.mono (by decide)) (by rfl) E.g__law_falls E.f__law_falls.kp (b__law_falls E) .nil pass0 (sa_cons (se_var 3) (sa_nil))) sCall_ok)) (sss_cons (ss_set 6 sc__law_order.nd (se_ixA hu (se_lc (own := [("_law_place", 4)]) sc__law_order.nd (si_rg2 E.n_range (se_int) (se_var 1)) (blkOk_by (by kernel_rfl)) (bd_nm (i := 4)) (by decide) (fun s H C cl fp => pg_name (i := 4) sc__law_order.nd rfl (by first | exact Or.inl rfl | exact Or.inr rfl)) (fun s H C cl fp => sts_one (st_cmp (op_eqD hu64) ok_eq (se_bc (cr_sortedX hu65) cok_sorted (by decide +kernel) E.n_sorted (sa_cons (se_sl (se_var 3) (so_none) (so_some (se_var 4))) (sa_nil))) (se_lr1 E.n_list E.n_range (se_var 4)) (nomark _))) (fun s H C cl fp => se_var 4)) (se_int)))
    (sss_one (ss_set 3 sc__law_order.nd (se_bin op_addA ok_add (se_bin op_addA ok_add (se_bin op_addA ok_add (se_sl (se_var 3) (so_none) (so_some (se_bin op_subA ok_sub (se_var 6) (se_int)))) (se_lst (sa_cons (se_ixA hu (se_var 3) (se_bin op_subA ok_sub (se_var 1) (se_int))) (sa_nil)))) (se_sl (se_var 3) (so_some (se_var 6)) (so_some (se_bin op_subA ok_sub (se_var 1) (se_int))))) (se_lst (sa_cons (se_ixA hu (se_var 3) (se_bin op_subA ok_sub (se_var 6) (se_int))) (sa_nil)))))))
    (sss_nil))))
    (sss_one (ss_ret (se_ite (st_val (PEimp (pg_call1 (ok__law_falls E PX) (hr.mono (by decide)) (by rfl) E.g__law_falls E.f__law_falls.kp (b__law_falls E) .nil pass0 (sa_cons (se_var 3) (sa_nil))) sCall_ok)) (se_revA (se_lr1 E.n_list E.n_range (se_var 1))) (se_var 3))))))

theorem sc_law : FnScope ["_law_script", "_law_index", "_law_generator_here", "_law_row", "_law_last", "_law_number"] ["_law_script"] (defScope (top 35)) := ⟨rfl, rfl, rfl, by decide +kernel, rfl, by decide +kernel, by decide +kernel⟩
theorem b_law {K : PySem.W.Frag} {mg : Str → Option Value} (E : Fx K mg) : Binds K E.d_law ["_law_script"] [] := E.f_law.bindsN fun _ _ _ _ _ _ us hl => match us, hl with | [_], _ => rfl
theorem ok_law {P : Program} {w : World} {K : PySem.W.Frag} {mg : Str → Option Value} {base : Heap} (E : Fx K mg) (PX : Px P) : FnG P w K mg base CX0 9 E.a_law E.d_law ["_law_script"] (spI K m_law) := by
  refine fn_okG (N := ["_law_script", "_law_index", "_law_generator_here", "_law_row", "_law_last", "_law_number"]) (ps := ["_law_script"]) (k := 8) (scope := defScope (top 35)) (fb := b_law_body) E.f_law sc_law fun cdv A outer s H Q E1 hr => ?_
  have hu := hu_of hr.rm
  have hu65 := hu65_of hr.rm
  have hgd := hr.gd
  have hu64 := hu64_of hr.rm
  exact sss_cons (ss_for (fb := l_law_1) PassesOwn.never (si_rg1 E.n_range (se_int)) (pg_name (i := 1) sc_law.nd rfl (by first | exact Or.inl rfl | exact Or.inr rfl)) (bd_nm (i := 1)) (sss_cons (ss_set 2 sc_law.nd (PEimp (pg_call1 (ok__law_generator E PX) (hr.mono (by decide)) (by rfl) E.g__law_generator E.f__law_generator.kp (b__law_generator E) .nil pass0 (sa_cons (se_var 0) (sa_cons (se_var 1) (sa_nil)))) sCall_ok))
    (sss_one (ss_if (t := c_law_1) (st_not (st_val (PEimp (pg_call1 (ok__law_order_right E PX) (hr.mono (by decide)) (by rfl) E.g__law_order_right E.f__law_order_right.kp (b__law_order_right E) .nil pass0 (sa_cons (se_var 2) (sa_cons (PEimp (pg_call1 (ok__law_order E PX) (hr.mono (by decide)) (by rfl) E.g__law_order E.f__law_order.kp (b__law_order E) .nil pass0 (sa_cons (se_var 2) (sa_cons (se_bin op_addA ok_add (se_int) (PEimp (pg_call1 (ok__law_random E PX) (hr.mono (by decide)) (by rfl) E.g__law_random E.f__law_random.kp (b__law_random E) .nil pass0 (sa_cons (se_var 2) (sa_cons (se_int) (sa_nil)))) sCall_ok)) (sa_nil)))) sCall_ok) (sa_nil)))) sCall_ok)))
    (sss_one (ss_ret (se_bl)))
    (sss_nil)))))
    (sss_cons (ss_par2 3 4 sc_law.nd (sa_cons (se_lst (sa_cons (se_int) (sa_cons (se_int) (sa_cons (se_int) (sa_cons (se_int) (sa_cons (se_int) (sa_cons (se_int) (sa_cons (se_int) (sa_nil))))))))) (sa_cons (se_lst (sa_cons (se_int) (sa_cons (se_int) (sa_cons (se_int) (sa_cons (se_int) (sa_cons (se_int) (sa_cons (se_int) (sa_cons (se_int) (sa_nil))))))))) (sa_nil))))
    (sss_cons (ss_if (t := c_law_2) (st_w (sw_or (st_cmp (op_neD hu64) ok_ne (PEimp (pg_call1 (ok_class_number E PX) (hr.mono (by decide)) (by rfl) E.g_class_number E.f_class_number.kp (b_class_number E) .nil pass0 (sa_cons (se_var 3) (sa_nil))) sCall_ok) (se_int) (nomark _)) (sw_or (st_cmp (op_neD hu64) ok_ne (se_fz (PEimp (pg_call1 (ok_next_in_class E PX) (hr.mono (by decide)) (by rfl) E.g_next_in_class E.f_next_in_class.kp (b_next_in_class E) .nil pass0 (sa_cons (se_var 3) (sa_nil))) sCall_ok)) (se_lst (sa_cons (se_int) (sa_cons (se_int) (sa_cons (se_int) (sa_cons (se_int) (sa_cons (se_int) (sa_cons (se_int) (sa_cons (se_int) (sa_nil))))))))) (nomark _)) (sw_or1 (st_cmp (op_neD hu64) ok_ne (se_fz (PEimp (pg_call1 (ok_class_numbered E PX) (hr.mono (by decide)) (by rfl) E.g_class_numbered E.f_class_numbered.kp (b_class_numbered E) .nil pass0 (sa_cons (se_var 3) (sa_cons (se_int) (sa_nil)))) sCall_ok)) (se_lst (sa_cons (se_int) (sa_cons (se_int) (sa_cons (se_int) (sa_cons (se_int) (sa_cons (se_int) (sa_cons (se_int) (sa_cons (se_int) (sa_nil))))))))) (nomark _))))))
    (sss_one (ss_ret (se_bl)))
    (sss_nil))
    (sss_cons (ss_if (t := c_law_3) (st_w (sw_or (st_cmp (op_neD hu64) ok_ne (se_fz (PEimp (pg_call1 (ok_class_numbered E PX) (hr.mono (by decide)) (by rfl) E.g_class_numbered E.f_class_numbered.kp (b_class_numbered E) .nil pass0 (sa_cons (se_var 3) (sa_cons (se_int) (sa_nil)))) sCall_ok)) (se_var 4) (nomark _)) (sw_or (st_cmp (op_neD hu64) ok_ne (PEimp (pg_call1 (ok_class_number E PX) (hr.mono (by decide)) (by rfl) E.g_class_number E.f_class_number.kp (b_class_number E) .nil pass0 (sa_cons (se_var 4) (sa_nil))) sCall_ok) (se_int) (nomark _)) (sw_or (st_cmp op_notN ok_notN (se_fz (PEimp (pg_call1 (ok_next_in_class E PX) (hr.mono (by decide)) (by rfl) E.g_next_in_class E.f_next_in_class.kp (b_next_in_class E) .nil pass0 (sa_cons (se_var 4) (sa_nil))) sCall_ok)) (se_non) (nomark _)) (sw_or1 (st_cmp (op_neD hu64) ok_ne (PEimp (pg_call1 (ok__law_caught E PX) (hr.mono (by decide)) (by rfl) E.g__law_caught E.f__law_caught.kp (b__law_caught E) .nil pass0 (sa_cons (se_var 3) (sa_cons (se_int) (sa_nil)))) sCall_ok) (se_int) (nomark _)))))))
    (sss_one (ss_ret (se_bl)))
    (sss_nil))
    (sss_cons (ss_if (t := c_law_4) (st_cmp (op_neD hu64) ok_ne (se_lc (own := [("_law_number", 5)]) sc_law.nd (si_seq (se_lst (sa_cons (se_int) (sa_cons (se_int) (sa_cons (se_int) (sa_nil)))))) (blkOk_by (by kernel_rfl)) (bd_nm (i := 5)) (by decide) (fun s H C cl fp => pg_name (i := 5) sc_law.nd rfl (by first | exact Or.inl rfl | exact Or.inr rfl)) (fun s H C cl fp => sts_nil) (fun s H C cl fp => se_fz (PEimp (pg_call1 (ok_class_numbered E PX) (hr.mono (by decide)) (by rfl) E.g_class_numbered E.f_class_numbered.kp (b_class_numbered E) .nil pass0 (sa_cons (se_lst (sa_cons (se_int) (sa_cons (se_int) (sa_cons (se_int) (sa_cons (se_int) (sa_nil)))))) (sa_cons (se_var 5) (sa_nil)))) sCall_ok))) (se_lst (sa_cons (se_lst (sa_cons (se_int) (sa_cons (se_int) (sa_cons (se_int) (sa_cons (se_int) (sa_nil)))))) (sa_cons (se_lst (sa_cons (se_int) (sa_cons (se_int) (sa_cons (se_int) (sa_cons (se_int) (sa_nil)))))) (sa_cons (se_lst (sa_cons (se_int) (sa_cons (se_int) (sa_cons (se_int) (sa_cons (se_int) (sa_nil)))))) (sa_nil))))) (nomark _))
    (sss_one (ss_ret (se_bl)))
    (sss_nil))
    (sss_one (ss_ret (f := e_law_1) (se_and (se_cmp (op_eqD hu64) ok_eq (se_fz (PEimp (pg_call1 (ok_next_in_class E PX) (hr.mono (by decide)) (by rfl) E.g_next_in_class E.f_next_in_class.kp (b_next_in_class E) .nil pass0 (sa_cons (se_lst (sa_cons (se_int) (sa_cons (se_int) (sa_cons (se_int) (sa_cons (se_int) (sa_nil)))))) (sa_nil))) sCall_ok)) (se_lst (sa_cons (se_int) (sa_cons (se_int) (sa_cons (se_int) (sa_cons (se_int) (sa_nil)))))) (nomark _)) (se_and (se_cmp op_isN ok_isN (se_fz (PEimp (pg_call1 (ok_next_in_class E PX) (hr.mono (by decide)) (by rfl) E.g_next_in_class E.f_next_in_class.kp (b_next_in_class E) .nil pass0 (sa_cons (se_lst (sa_cons (se_int) (sa_cons (se_int) (sa_cons (se_int) (sa_cons (se_int) (sa_nil)))))) (sa_nil))) sCall_ok)) (se_non) (nomark _)) (se_one (se_cmp (op_eqD hu64) ok_eq (PEimp (pg_call1 (ok_class_number E PX) (hr.mono (by decide)) (by rfl) E.g_class_number E.f_class_number.kp (b_class_number E) .nil pass0 (sa_cons (se_lst (sa_cons (se_int) (sa_cons (se_int) (sa_nil)))) (sa_nil))) sCall_ok) (se_int) (nomark _)))))))))))

end K36

namespace K36
open PySem PySem.Spec PyProof.Rows L2 TL
/-! ### the head -/
def dd (st : Stmt) (x : Str) : He.DefD := ⟨(x, none), x, x, defArgs st, defBody st, defScope st, [], []⟩
def fnl : List He.DefD := [dd (top 25) "_law_cell", dd (top 26) "_law_generator", dd (top 27) "_law_moved", dd (top 28) "_law_done", dd (top 29) "_law_class", dd (top 23) "_law_hash", dd (top 24) "_law_random", dd (top 6) "is_whole", dd (top 7) "is_between", dd (top 9) "is_row", dd (top 10) "fall_of", dd (top 11) "is_order_list", dd (top 12) "check_order", dd (top 15) "moved_behind", dd (top 13) "named_anew", dd (top 16) "behind_deed", dd (top 18) "class_by", dd (top 19) "class_number", dd (top 8) "check_number", dd (top 20) "class_numbered", dd (top 21) "next_in_class", dd (top 33) "_law_caught", dd (top 34) "_law_order_right", dd (top 30) "_law_falls", dd (top 31) "_law_order", dd (top 35) "law"]
def xl : List XcD := [xd_InvalidNumber, xd_InvalidOrder]
def ml : List (Str × Str × Bool) := [("InvalidNumber", "InvalidNumber", true), ("InvalidNumber", "TurnError", true), ("InvalidOrder", "InvalidNumber", false), ("InvalidOrder", "TurnError", true)]
def fal : List He.Fa := [.glo "_law_cell", .glo "_law_generator", .glo "_law_moved", .glo "_law_done", .glo "_law_class", .glo "_law_hash", .glo "_law_random", .glo "is_whole", .glo "is_between", .glo "is_row", .glo "fall_of", .glo "is_order_list", .glo "check_order", .glo "moved_behind", .glo "named_anew", .glo "behind_deed", .glo "class_by", .glo "class_number", .glo "check_number", .glo "class_numbered", .glo "next_in_class", .glo "_law_caught", .glo "_law_order_right", .glo "_law_falls", .glo "_law_order", .glo "law", .int "MOST_SIZE" 40, .free "bool", .free "enumerate", .free "int", .free "isinstance", .free "len", .free "list", .free "max", .free "range", .free "repr", .free "sorted", .free "sum", .free "tuple", .glo "InvalidNumber", .glo "InvalidOrder", .glo "TurnError"]
def lo : List Str := (["__name__", "TurnError", "InvalidOrder", "InvalidNumber", "MOST_SIZE", "is_whole", "is_between", "check_number", "is_row", "fall_of", "is_order_list", "check_order", "named_anew", "moved_behind", "behind_deed", "class_by", "class_number", "class_numbered", "next_in_class", "_law_hash", "_law_random", "_law_cell", "_law_generator", "_law_moved", "_law_done", "_law_class", "_law_falls", "_law_order", "_law_all_orders", "_law_caught"] : List Str) ++ (["_law_order_right"] : List Str)
abbrev R : PySem.W.OpenRow := PySem.W.OpenLaw.row PySem.Challenge.rw_turnlines_k36_orders_numbered_in_classes
abbrev hk : PySem.W.Hook := hookE 4 fileC fal fnl xl ml
def ob (s : PySem.W.SharedT) : AlE := obsEG 4 fileC fal fnl xl ml (HandSHeadRun.getT s)
theorem ob_eq (s : PySem.W.SharedT) : ob s = hk.obs s.abs := obsEG_eq (HandSHeadRun.getT_eq s)
theorem run (w : World) : HandSHeadRun.RunEq R (PySem.W.view R.prog [35]) hk ob 4000 lo w := by
  intro os
  kernel_rfl
theorem facts {K : PySem.W.Frag} {h : Heap} {mg : Str → Option Value} (X : K.In h) (G : h.Ns mainGlobals mg) (c0 : SaysE fileC fal fnl xl ml K) : Nonempty (Fx K mg) := by
  have c := c0.base
  obtain ⟨I_InvalidNumber, D_InvalidNumber, X_InvalidNumber⟩ := c0.cls X G 0 (d := xd_InvalidNumber) rfl
  obtain ⟨I_InvalidOrder, D_InvalidOrder, X_InvalidOrder⟩ := c0.cls X G 1 (d := xd_InvalidOrder) rfl
  obtain ⟨d__law_cell, f__law_cell⟩ := c.def_ 0 (d := dd (top 25) "_law_cell") rfl
  obtain ⟨d__law_generator, f__law_generator⟩ := c.def_ 1 (d := dd (top 26) "_law_generator") rfl
  obtain ⟨d__law_moved, f__law_moved⟩ := c.def_ 2 (d := dd (top 27) "_law_moved") rfl
  obtain ⟨d__law_done, f__law_done⟩ := c.def_ 3 (d := dd (top 28) "_law_done") rfl
  obtain ⟨d__law_class, f__law_class⟩ := c.def_ 4 (d := dd (top 29) "_law_class") rfl
  obtain ⟨d__law_hash, f__law_hash⟩ := c.def_ 5 (d := dd (top 23) "_law_hash") rfl
  obtain ⟨d__law_random, f__law_random⟩ := c.def_ 6 (d := dd (top 24) "_law_random") rfl
  obtain ⟨d_is_whole, f_is_whole⟩ := c.def_ 7 (d := dd (top 6) "is_whole") rfl
  obtain ⟨d_is_between, f_is_between⟩ := c.def_ 8 (d := dd (top 7) "is_between") rfl
  obtain ⟨d_is_row, f_is_row⟩ := c.def_ 9 (d := dd (top 9) "is_row") rfl
  obtain ⟨d_fall_of, f_fall_of⟩ := c.def_ 10 (d := dd (top 10) "fall_of") rfl
  obtain ⟨d_is_order_list, f_is_order_list⟩ := c.def_ 11 (d := dd (top 11) "is_order_list") rfl
  obtain ⟨d_check_order, f_check_order⟩ := c.def_ 12 (d := dd (top 12) "check_order") rfl
  obtain ⟨d_moved_behind, f_moved_behind⟩ := c.def_ 13 (d := dd (top 15) "moved_behind") rfl
  obtain ⟨d_named_anew, f_named_anew⟩ := c.def_ 14 (d := dd (top 13) "named_anew") rfl
  obtain ⟨d_behind_deed, f_behind_deed⟩ := c.def_ 15 (d := dd (top 16) "behind_deed") rfl
  obtain ⟨d_class_by, f_class_by⟩ := c.def_ 16 (d := dd (top 18) "class_by") rfl
  obtain ⟨d_class_number, f_class_number⟩ := c.def_ 17 (d := dd (top 19) "class_number") rfl
  obtain ⟨d_check_number, f_check_number⟩ := c.def_ 18 (d := dd (top 8) "check_number") rfl
  obtain ⟨d_class_numbered, f_class_numbered⟩ := c.def_ 19 (d := dd (top 20) "class_numbered") rfl
  obtain ⟨d_next_in_class, f_next_in_class⟩ := c.def_ 20 (d := dd (top 21) "next_in_class") rfl
  obtain ⟨d__law_caught, f__law_caught⟩ := c.def_ 21 (d := dd (top 33) "_law_caught") rfl
  obtain ⟨d__law_order_right, f__law_order_right⟩ := c.def_ 22 (d := dd (top 34) "_law_order_right") rfl
  obtain ⟨d__law_falls, f__law_falls⟩ := c.def_ 23 (d := dd (top 30) "_law_falls") rfl
  obtain ⟨d__law_order, f__law_order⟩ := c.def_ 24 (d := dd (top 31) "_law_order") rfl
  obtain ⟨d_law, f_law⟩ := c.def_ 25 (d := dd (top 35) "law") rfl
  obtain ⟨t_MOST_SIZE, c_MOST_SIZE⟩ := He.int_ok X G (c.fact 26 (f := .int "MOST_SIZE" 40) rfl)
  exact ⟨{ a__law_cell := _, d__law_cell := d__law_cell, f__law_cell := f__law_cell, g__law_cell := He.glo_ok X G (c.fact 0 (f := .glo "_law_cell") rfl), a__law_generator := _, d__law_generator := d__law_generator, f__law_generator := f__law_generator, g__law_generator := He.glo_ok X G (c.fact 1 (f := .glo "_law_generator") rfl), a__law_moved := _, d__law_moved := d__law_moved, f__law_moved := f__law_moved, g__law_moved := He.glo_ok X G (c.fact 2 (f := .glo "_law_moved") rfl), a__law_done := _, d__law_done := d__law_done, f__law_done := f__law_done, g__law_done := He.glo_ok X G (c.fact 3 (f := .glo "_law_done") rfl), a__law_class := _, d__law_class := d__law_class, f__law_class := f__law_class, g__law_class := He.glo_ok X G (c.fact 4 (f := .glo "_law_class") rfl), a__law_hash := _, d__law_hash := d__law_hash, f__law_hash := f__law_hash, g__law_hash := He.glo_ok X G (c.fact 5 (f := .glo "_law_hash") rfl), a__law_random := _, d__law_random := d__law_random, f__law_random := f__law_random, g__law_random := He.glo_ok X G (c.fact 6 (f := .glo "_law_random") rfl), a_is_whole := _, d_is_whole := d_is_whole, f_is_whole := f_is_whole, g_is_whole := He.glo_ok X G (c.fact 7 (f := .glo "is_whole") rfl), a_is_between := _, d_is_between := d_is_between, f_is_between := f_is_between, g_is_between := He.glo_ok X G (c.fact 8 (f := .glo "is_between") rfl), a_is_row := _, d_is_row := d_is_row, f_is_row := f_is_row, g_is_row := He.glo_ok X G (c.fact 9 (f := .glo "is_row") rfl), a_fall_of := _, d_fall_of := d_fall_of, f_fall_of := f_fall_of, g_fall_of := He.glo_ok X G (c.fact 10 (f := .glo "fall_of") rfl), a_is_order_list := _, d_is_order_list := d_is_order_list, f_is_order_list := f_is_order_list, g_is_order_list := He.glo_ok X G (c.fact 11 (f := .glo "is_order_list") rfl), a_check_order := _, d_check_order := d_check_order, f_check_order := f_check_order, g_check_order := He.glo_ok X G (c.fact 12 (f := .glo "check_order") rfl), a_moved_behind := _, d_moved_behind := d_moved_behind, f_moved_behind := f_moved_behind, g_moved_behind := He.glo_ok X G (c.fact 13 (f := .glo "moved_behind") rfl), a_named_anew := _, d_named_anew := d_named_anew, f_named_anew := f_named_anew, g_named_anew := He.glo_ok X G (c.fact 14 (f := .glo "named_anew") rfl), a_behind_deed := _, d_behind_deed := d_behind_deed, f_behind_deed := f_behind_deed, g_behind_deed := He.glo_ok X G (c.fact 15 (f := .glo "behind_deed") rfl), a_class_by := _, d_class_by := d_class_by, f_class_by := f_class_by, g_class_by := He.glo_ok X G (c.fact 16 (f := .glo "class_by") rfl), a_class_number := _, d_class_number := d_class_number, f_class_number := f_class_number, g_class_number := He.glo_ok X G (c.fact 17 (f := .glo "class_number") rfl), a_check_number := _, d_check_number := d_check_number, f_check_number := f_check_number, g_check_number := He.glo_ok X G (c.fact 18 (f := .glo "check_number") rfl), a_class_numbered := _, d_class_numbered := d_class_numbered, f_class_numbered := f_class_numbered, g_class_numbered := He.glo_ok X G (c.fact 19 (f := .glo "class_numbered") rfl), a_next_in_class := _, d_next_in_class := d_next_in_class, f_next_in_class := f_next_in_class, g_next_in_class := He.glo_ok X G (c.fact 20 (f := .glo "next_in_class") rfl), a__law_caught := _, d__law_caught := d__law_caught, f__law_caught := f__law_caught, g__law_caught := He.glo_ok X G (c.fact 21 (f := .glo "_law_caught") rfl), a__law_order_right := _, d__law_order_right := d__law_order_right, f__law_order_right := f__law_order_right, g__law_order_right := He.glo_ok X G (c.fact 22 (f := .glo "_law_order_right") rfl), a__law_falls := _, d__law_falls := d__law_falls, f__law_falls := f__law_falls, g__law_falls := He.glo_ok X G (c.fact 23 (f := .glo "_law_falls") rfl), a__law_order := _, d__law_order := d__law_order, f__law_order := f__law_order, g__law_order := He.glo_ok X G (c.fact 24 (f := .glo "_law_order") rfl), a_law := _, d_law := d_law, f_law := f_law, g_law := He.glo_ok X G (c.fact 25 (f := .glo "law") rfl), t_MOST_SIZE := t_MOST_SIZE, c_MOST_SIZE := c_MOST_SIZE, n_bool := He.free_ok X G (c.fact 27 (f := .free "bool") rfl), n_enumerate := He.free_ok X G (c.fact 28 (f := .free "enumerate") rfl), n_int := He.free_ok X G (c.fact 29 (f := .free "int") rfl), n_isinstance := He.free_ok X G (c.fact 30 (f := .free "isinstance") rfl), n_len := He.free_ok X G (c.fact 31 (f := .free "len") rfl), n_list := He.free_ok X G (c.fact 32 (f := .free "list") rfl), n_max := He.free_ok X G (c.fact 33 (f := .free "max") rfl), n_range := He.free_ok X G (c.fact 34 (f := .free "range") rfl), n_repr := He.free_ok X G (c.fact 35 (f := .free "repr") rfl), n_sorted := He.free_ok X G (c.fact 36 (f := .free "sorted") rfl), n_sum := He.free_ok X G (c.fact 37 (f := .free "sum") rfl), n_tuple := He.free_ok X G (c.fact 38 (f := .free "tuple") rfl), I_InvalidNumber := I_InvalidNumber, D_InvalidNumber := D_InvalidNumber, X_InvalidNumber := X_InvalidNumber, K_InvalidNumber := c0.exc 0 (d := xd_InvalidNumber) rfl, I_InvalidOrder := I_InvalidOrder, D_InvalidOrder := D_InvalidOrder, X_InvalidOrder := X_InvalidOrder, K_InvalidOrder := c0.exc 1 (d := xd_InvalidOrder) rfl, g_InvalidNumber := He.glo_ok X G (c.fact 39 (f := .glo "InvalidNumber") rfl), g_InvalidOrder := He.glo_ok X G (c.fact 40 (f := .glo "InvalidOrder") rfl), g_TurnError := He.glo_ok X G (c.fact 41 (f := .glo "TurnError") rfl), mt_InvalidNumber_InvalidNumber := c0.mtx 0 (p := ("InvalidNumber", "InvalidNumber", true)) rfl, mt_InvalidNumber_TurnError := c0.mtx 1 (p := ("InvalidNumber", "TurnError", true)) rfl, mt_InvalidOrder_InvalidNumber := c0.mtx 2 (p := ("InvalidOrder", "InvalidNumber", false)) rfl, mt_InvalidOrder_TurnError := c0.mtx 3 (p := ("InvalidOrder", "TurnError", true)) rfl }⟩
theorem fin (hl : ∀ ns : List Int, ns.length ≤ 63 → ∃ r, m_law [some (.sc ns)] = some (.v (.bool true), r)) : PySem.Challenge.rw_turnlines_k36_orders_numbered_in_classes.Holds := by
  w_on; o_law
  refine HandSHeadRun.head_any (r := PySem.W.OpenLaw.row PySem.Challenge.rw_turnlines_k36_orders_numbered_in_classes) (q := PySem.W.view (PySem.W.OpenLaw.row PySem.Challenge.rw_turnlines_k36_orders_numbered_in_classes).prog [35]) (H := hk) (ob := ob) (M := 4000) (loose := lo) (d := HandSHeadRun.topDef (PySem.W.OpenLaw.row PySem.Challenge.rw_turnlines_k36_orders_numbered_in_classes).prog 35) (kwd := []) ob_eq
    (by kernel_rfl) (fun s => by kernel_rfl) run (by kernel_rfl) (by kernel_rfl) (by kernel_rfl) (by rfl) (by first | assumption | decide +kernel) (by decide +kernel) ⟨rfl, rfl, rfl, rfl, rfl, by decide +kernel⟩ ?hw ?hc
  case hw => w_witness2
  case hc =>
    refine TL.walkG (l := PySem.Challenge.rw_turnlines_k36_orders_numbered_in_classes) (n := 63) (k := 9) (x := "_law_script") rfl (by decide) (by kernel_rfl) ⟨⟨rfl, by decide, by decide⟩, rfl⟩ ?F
    intro w mg fa h Y G hmg0
    obtain ⟨K, KX, c⟩ := Y
    have hmg : mg ("law" : PySem.Str) = some (.ref fa) := by
      have e : (HandSHeadRun.topDef (PySem.W.OpenLaw.row PySem.Challenge.rw_turnlines_k36_orders_numbered_in_classes).prog 35).name = ("law" : PySem.Str) := by kernel_rfl
      rw [← e]
      exact hmg0
    obtain ⟨E⟩ := facts KX G c
    have ea := hmg.symm.trans E.g_law
    cases ea
    exact ⟨K, E.d_law, spI K m_law, KX, fun s u => (FunD.bindsA (ps := ["_law_script"]) E.f_law fun _ _ _ _ _ _ us hl => match us, hl with | [_], _ => rfl) s [u] rfl, fun H a ns hn hS => sp_end hS (hl ns hn), fun base _ _ => ok_law E ⟨by kernel_rfl, by kernel_rfl⟩⟩
end K36

namespace K36
open PySem PySem.Spec PyProof.Rows L2 TL
/-! ### is_whole, is_between -/
noncomputable def isI : PyData → Bool
  | .int _ => true
  | _ => false
theorem sp_is_whole (d : PyData) : m_is_whole [some (.fz d)] = some (.v (.bool (isI d)), [some (.fz d)]) := by
  have h1 : isiT "int" d = some (.v (.bool (match d with | .int _ => true | .bool _ => true | _ => false))) := by cases d <;> rfl
  have h2 : isiT "bool" d = some (.v (.bool (match d with | .bool _ => true | _ => false))) := by cases d <;> rfl
  cases d <;> simp [m_is_whole, b_is_whole_body, h1, h2, isI]
theorem sp_is_between (i a b : Int) : m_is_between [some (.fz (.int i)), some (.fz (.int a)), some (.fz (.int b))] = some (.v (.bool (decide (a ≤ i) && decide (i ≤ b))), [some (.fz (.int i)), some (.fz (.int a)), some (.fz (.int b))]) := by
  simp [m_is_between, b_is_between_body, sp_is_whole, isI, dCmp, dIsN, isNone]
  by_cases h : a ≤ i <;> simp [h]
/-! ### fall_of -/
noncomputable def fallsGo (m : Int) (i : Nat) : List Nat → Option Nat
  | [] => none
  | x :: xs => if (if (x : Int) > m then (x : Int) else m) = (i : Int) then some (i + 1) else fallsGo (if (x : Int) > m then (x : Int) else m) (i + 1) xs
noncomputable def oI : Option Nat → PyData
  | none => .none
  | some k => .int (k : Int)
noncomputable def fallLoop : FS := fSeq (fAsg 1 (sBc bMax (aCons (sVar 1) (aCons (sVar 3) (aNil))))) (fIf (t2 dEq (sVar 1) (sVar 2)) (fRet (s2 dAdd (sVar 2) (sC (.int 1)))) (fSkip))
noncomputable def noIoS : Option Slt → Prop
  | none => True
  | some (.fz _) => True
  | _ => False
theorem fall_loop (d : PyData) : ∀ (xs : List Nat) (i : Nat) (m : Int) (s2 s3 : Option Slt), isIo (some s2) = false → isIo (some s3) = false → ∃ r : Ev, ∃ m' s2' s3', r = [some (.fz d), some (.fz (.int m')), s2', s3'] ∧
    loopD (bTp [2, 3]) fallLoop (enumD i (il xs)) [some (.fz d), some (.fz (.int m)), s2, s3] = some (match fallsGo m i xs with
      | none => .nx r
      | some k => .rt (.v (.int (k : Int))) r)
  | [], i, m, s2, s3, h2, h3 => ⟨_, m, s2, s3, rfl, rfl⟩
  | x :: xs, i, m, s2, s3, h2, h3 => by
    simp only [il_cons, enumD]
    by_cases hc : (if (x : Int) > m then (x : Int) else m) = (i : Int)
    · refine ⟨[some (.fz d), some (.fz (.int (if (x : Int) > m then (x : Int) else m))), some (.fz (.int (i : Int))), some (.fz (iD x))], _, _, _, rfl, ?_⟩
      rw [loop_rt (a := .v (.int ((i : Int) + 1)))]
      · simp only [fallsGo, if_pos hc]
        rfl
      · simp only [gt_iff_lt] at hc
        simp [fallLoop, h2, h3, iD, bMax, hc]
    · obtain ⟨r, m', s2', s3', er, ih⟩ := fall_loop d xs (i + 1) (if (x : Int) > m then (x : Int) else m) (some (.fz (.int (i : Int)))) (some (.fz (iD x))) rfl rfl
      refine ⟨r, m', s2', s3', er, ?_⟩
      rw [loop_nx (r2 := [some (.fz d), some (.fz (.int (if (x : Int) > m then (x : Int) else m))), some (.fz (.int (i : Int))), some (.fz (iD x))]), ih]
      · simp only [fallsGo, if_neg hc]
      · simp only [gt_iff_lt] at hc
        simp [fallLoop, h2, h3, iD, bMax, hc]
theorem sp_fall_of (p : List Nat) : m_fall_of [some (.fz (dn p))] = some (.v (oI (fallsGo (-1) 0 p.dropLast)), [some (.fz (dn p))]) := by
  obtain ⟨r, m', s2', s3', er, e⟩ := fall_loop (dn p) p.dropLast 0 (-1) none none rfl rfl
  simp [m_fall_of, b_fall_of_body]
  have e' := e
  simp only [fallLoop] at e'
  rw [e']
  subst er
  cases fallsGo (-1) 0 p.dropLast <;> simp [oI]
end K36

namespace K36
open PySem PySem.Spec PyProof.Rows L2 TL
/-! ### orders -/
structure Ord (p : List Nat) : Prop where
  perm : (List.range p.length).Perm p
  lo : 2 ≤ p.length
  hi : p.length ≤ 40
  irr : fallsGo (-1) 0 p.dropLast = none
theorem Ord.lt {p : List Nat} (o : Ord p) {x : Nat} (h : x ∈ p) : x < p.length := List.mem_range.mp (o.perm.symm.subset h)
theorem Ord.nodup {p : List Nat} (o : Ord p) : p.Nodup := o.perm.nodup_iff.mp List.nodup_range
theorem Ord.mem {p : List Nat} (o : Ord p) {x : Nat} (h : x < p.length) : x ∈ p := o.perm.subset (List.mem_range.mpr h)
theorem range_pw (n : Nat) : (List.range n).Pairwise (· ≤ ·) := List.pairwise_lt_range.imp fun h => Nat.le_of_lt h
theorem sp_is_row {p : List Nat} (o : Ord p) : m_is_row [some (.fz (dn p))] = some (.v (.bool true), [some (.fz (dn p))]) := by
  have h2 : (2 : Int) ≤ (p.length : Int) := by have := o.lo; omega
  have h3 : (p.length : Int) ≤ 40 := by have := o.hi; omega
  have h4 : ¬ (16000000 : Int) < (p.length : Int) := by omega
  have h0 : (0 : Int) ≤ (p.length : Int) := by omega
  have hz : isiT "list" (dn p) = some (.v (.bool true)) := rfl
  simp [m_is_row, b_is_row_body, tCh, sCh, dCmp, h2, h3, hz]
  rw [lcD_pure (b := fun _ => false) (g := id)]
  · have hs := sorted_dn (p := p) o.perm (range_pw _)
    have hle : okR (p.length : Int) = true := okR_nat (by omega)
    simp [list_nil, hs, rgD_dn, hle]
  · simp; have := o.hi; omega
  · intro d hd
    obtain ⟨k, hk, rfl⟩ := il_mem hd
    have hk2 := o.lt hk
    refine ⟨[some (.fz (dn p)), some (.fz (iD k))], [some (.fz (dn p)), some (.fz (iD k))], by simp, ?_, by simp, by simp⟩
    have e1 : (0 : Int) ≤ k := by omega
    have e2 : (k : Int) ≤ (p.length : Int) - 1 := by omega
    simp [iD, sp_is_between, e1, e2]
theorem sp_is_order_list {p : List Nat} (o : Ord p) : m_is_order_list [some (.fz (dn p))] = some (.v (.bool true), [some (.fz (dn p))]) := by
  simp [m_is_order_list, b_is_order_list_body, sp_is_row o, sp_fall_of, o.irr, oI, dIsN, isNone]
theorem sp_check_order {p : List Nat} (o : Ord p) : m_check_order [some (.fz (dn p))] = some (.v .none, [some (.fz (dn p))]) := by
  simp [m_check_order, b_check_order_body, sp_is_order_list o]
/-! ### words -/
noncomputable def sgn (c : Bool) : Nat := if c then 117 else 108
noncomputable def sgD (c : Bool) : PyData := .str ⟨#[sgn c]⟩
noncomputable def wS (w : List Bool) : Str := ⟨(w.map sgn).toArray⟩
noncomputable def wl (w : List Bool) : List PyData := w.map sgD
@[simp] theorem wl_nil : wl [] = [] := rfl
@[simp] theorem wl_cons (c : Bool) (w : List Bool) : wl (c :: w) = sgD c :: wl w := rfl
@[simp] theorem wl_len (w : List Bool) : (wl w).length = w.length := List.length_map _
theorem wl_mem {w : List Bool} {d : PyData} (h : d ∈ wl w) : ∃ c ∈ w, d = sgD c := by
  obtain ⟨k, h1, h2⟩ := List.mem_map.mp h
  exact ⟨k, h1, h2.symm⟩
@[simp] theorem seqD_wS (w : List Bool) : seqD (.str (wS w)) = some (wl w) := by
  simp only [seqD, wS, wl, List.map_map, Option.some.injEq]
  rfl
theorem wS_len (w : List Bool) : (wS w).length = w.length := by simp [wS, Str.length]
theorem in_ul (c : Bool) : dNotInA (sgD c) (.str (Str.ofString "ul")) = some false := by cases c <;> decide +kernel
end K36

namespace K36
open PySem PySem.Spec PyProof.Rows L2 TL
@[simp] theorem add_iD1 (k : Nat) : dAdd (iD k) (.int 1) = some (.v (iD (k + 1))) := rfl
@[simp] theorem add_iD2 (k : Nat) : dAdd (iD k) (.int 2) = some (.v (iD (k + 2))) := rfl
@[simp] theorem sl_to1 (p : List Nat) (k : Nat) : dSl (dn p) none (some ((k : Int) + 1)) = some (.n (dn (p.take (k + 1)))) := sl_to p (k + 1)
@[simp] theorem sl_from1 (p : List Nat) (k : Nat) : dSl (dn p) (some ((k : Int) + 1)) none = some (.n (dn (p.drop (k + 1)))) := sl_from p (k + 1)
@[simp] theorem sl_from2 (p : List Nat) (k : Nat) : dSl (dn p) (some ((k : Int) + 2)) none = some (.n (dn (p.drop (k + 2)))) := sl_from p (k + 2)
@[simp] theorem sl_from1_m1 (p : List Nat) (k : Nat) : dSl (dn p) (some ((k : Int) + 1)) (some (-1)) = some (.n (dn (p.dropLast.drop (k + 1)))) := sl_from_m1 p (k + 1)
theorem list_iD (k : Nat) : PyData.list [iD k] = dn [k] := rfl
/-! ### moved_behind -/
theorem sp_moved_behind {p : List Nat} {a b : Nat} (hb : b ∈ p) (hl : p.length ≤ 1000) : m_moved_behind [some (.fz (dn p)), some (.fz (iD a)), some (.fz (iD b))] =
    some (.n (dn (p.take (p.idxOf b + 1) ++ [a] ++ p.dropLast.drop (p.idxOf b + 1))), [some (.fz (dn p)), some (.fz (iD a)), some (.fz (iD b))]) := by
  have hi := List.idxOf_lt_length_of_mem hb
  have e1 := mIndex_dn hb (by omega)
  have e2 : dAdd (dn (p.take (p.idxOf b + 1))) (dn [a]) = some (.n (dn (p.take (p.idxOf b + 1) ++ [a]))) := add_dn _ _ (by simp; omega)
  have e3 : dAdd (dn (p.take (p.idxOf b + 1) ++ [a])) (dn (p.dropLast.drop (p.idxOf b + 1))) = some (.n (dn (p.take (p.idxOf b + 1) ++ [a] ++ p.dropLast.drop (p.idxOf b + 1)))) := add_dn _ _ (by simp; omega)
  simp only [List.append_assoc] at e3 ⊢
  simp [m_moved_behind, b_moved_behind_body, e1, e2, e3, list_iD]
/-! ### names -/
noncomputable def kvE (i : Nat) : List Nat → KD
  | [] => []
  | x :: xs => (iD x, iD i) :: kvE (i + 1) xs
theorem keyEq_iD (a b : Nat) : keyEq (iD a) (iD b) = decide (a = b) := by
  show ((a : Int) == (b : Int)) = _
  by_cases h : a = b
  · subst h; simp
  · rw [decide_eq_false h]; simp; omega
theorem kvE_app (i : Nat) (u : List Nat) (x : Nat) : kvE i (u ++ [x]) = kvE i u ++ [(iD x, iD (i + u.length))] := by
  induction u generalizing i with
  | nil => rfl
  | cons y u ih => simp only [List.cons_append, kvE, ih, List.length_cons]; rw [show i + 1 + u.length = i + (u.length + 1) by omega]
theorem kvE_any (i : Nat) (u : List Nat) (x : Nat) : (kvE i u).any (fun p => keyEq p.1 (iD x)) = decide (x ∈ u) := by
  induction u generalizing i with
  | nil => rfl
  | cons y u ih =>
    simp only [kvE, List.any_cons, keyEq_iD, ih, List.mem_cons]
    by_cases h : y = x <;> by_cases h2 : x ∈ u <;> simp [h, h2] <;> exact fun h3 => h h3.symm
theorem kvE_look {u : List Nat} {x : Nat} (h : x ∈ u) (i : Nat) : lookK (kvE i u) (iD x) = some (iD (i + u.idxOf x)) := by
  unfold lookK
  induction u generalizing i with
  | nil => cases h
  | cons y u ih =>
    simp only [kvE, List.find?_cons, keyEq_iD]
    by_cases e : y = x
    · subst e; simp
    · simp only [e, decide_false]
      have hx : x ∈ u := (List.mem_cons.mp h).resolve_left fun z => e z.symm
      rw [ih hx (i + 1)]
      have : (y == x) = false := by simpa using e
      simp only [List.idxOf_cons, this, cond_false]
      congr 2; omega
theorem kvE_put {u : List Nat} {x : Nat} (h : x ∉ u) : putKD (kvE 0 u) (iD x) (iD u.length) = kvE 0 (u ++ [x]) := by
  unfold putKD
  rw [kvE_any, decide_eq_false h, kvE_app]
  simp
theorem kvE_len (i : Nat) (u : List Nat) : (kvE i u).length = u.length := by
  induction u generalizing i with
  | nil => rfl
  | cons y u ih => simp [kvE, ih]
theorem kvE_mk (i : Nat) (u : List Nat) : isMk (kvE i u) = none := by cases u <;> rfl
theorem dSel_kv (i : Nat) (u : List Nat) (x : Nat) : dSel (kvE i u) (iD x) = some (false, kvE i u) := by
  unfold dSel
  rw [kvE_mk]
  rfl
theorem ix_kv {u : List Nat} {x : Nat} (h : x ∈ u) : dIxA (.dict (kvE 0 u)) (iD x) = some (.v (iD (u.idxOf x))) := by
  show (dGet (.dict (kvE 0 u)) (iD x)).map Hd.v = _
  simp only [dGet, dSel_kv, Option.bind_some, kvE_look h, Option.map_some, Nat.zero_add]
end K36

namespace K36
open PySem PySem.Spec PyProof.Rows L2 TL
noncomputable def nameS : FE := sDc [3, 4] (wEnum (sVar 0)) (bTp [3, 4]) (cYes) (sVar 4) (sVar 3)
theorem dc_names (a b : PyData) : ∀ (v u : List Nat), (u ++ v).Nodup → (u ++ v).length ≤ 1000 → dcD [3, 4] (bTp [3, 4]) cYes (sVar 4) (sVar 3) (enumD u.length (il v)) [some (.fz a), some (.fz b), none, none, none] (kvE 0 u) = some (kvE 0 (u ++ v), [some (.fz a), some (.fz b), none, none, none])
  | [], u, _, _ => by simp [enumD, dcD]
  | x :: v, u, nd, hl => by
    have hx : x ∉ u := fun h => by
      have := List.nodup_append.mp nd
      exact this.2.2 x h x List.mem_cons_self rfl
    have e : (u ++ x :: v) = (u ++ [x]) ++ v := by simp
    have ih := dc_names a b v (u ++ [x]) (by rw [← e]; exact nd) (by rw [← e]; exact hl)
    have hk : keyOf (iD x) = some (.inl (x : Int)) := rfl
    have hp : putKD (kvE 0 u) (iD x) (.int (u.length : Int)) = kvE 0 (u ++ [x]) := kvE_put hx
    have hlen : u.length < 16000000 := by simp at hl; omega
    simp only [il_cons, enumD, dcD]
    simp [hk, hp, kvE_len, hlen]
    have e2 : (u ++ [x]).length = u.length + 1 := by simp
    rw [e2] at ih
    rw [ih, ← e]
theorem sp_named_anew {u l : List Nat} (nd : u.Nodup) (hu : u.length ≤ 1000) (hl : l.length ≤ 1000) (hm : ∀ x ∈ l, x ∈ u) : m_named_anew [some (.fz (dn u)), some (.fz (dn l))] =
    some (.n (dn (l.map u.idxOf)), [some (.fz (dn u)), some (.fz (dn l))]) := by
  have e := dc_names (dn u) (dn l) u [] (by simpa using nd) (by simpa using hu)
  simp only [List.length_nil, List.nil_append, kvE] at e
  simp [m_named_anew, b_named_anew_body, e]
  rw [lcD_num (f := u.idxOf) l (by omega)]
  · simp [list_il]
  · intro k hk
    simp [lcStep, ix_kv (hm k hk)]
noncomputable def kvLoop : FS := fSetI 2 (sVar 3) (sVar 4)
theorem named_loop (a b : PyData) : ∀ (v u : List Nat) (s3 s4 : Option Slt), isIo (some s3) = false → isIo (some s4) = false → (u ++ v).Nodup → (u ++ v).length ≤ 1000 →
    ∃ s3' s4', (isIo (some s3') = false ∧ isIo (some s4') = false) ∧ loopD (bTp [3, 4]) kvLoop (enumD u.length (il v)) [some (.fz a), some (.fz b), some (.ow (.dict (kvE 0 u))), s3, s4] = some (.nx [some (.fz a), some (.fz b), some (.ow (.dict (kvE 0 (u ++ v)))), s3', s4'])
  | [], u, s3, s4, h3, h4, _, _ => ⟨s3, s4, ⟨h3, h4⟩, by simp [enumD]⟩
  | x :: v, u, s3, s4, h3, h4, nd, hl => by
    have hx : x ∉ u := fun h => by
      have := List.nodup_append.mp nd
      exact this.2.2 x h x List.mem_cons_self rfl
    have e : (u ++ x :: v) = (u ++ [x]) ++ v := by simp
    obtain ⟨s3', s4', hh, ih⟩ := named_loop a b v (u ++ [x]) (some (.fz (.int (u.length : Int)))) (some (.fz (iD x))) rfl rfl (by rw [← e]; exact nd) (by rw [← e]; exact hl)
    refine ⟨s3', s4', hh, ?_⟩
    have hp : putKD (kvE 0 u) (iD x) (.int (u.length : Int)) = kvE 0 (u ++ [x]) := kvE_put hx
    have hlen : u.length < 16000000 := by simp at hl; omega
    simp only [il_cons, enumD]
    rw [loop_nx (r2 := [some (.fz a), some (.fz b), some (.ow (.dict (kvE 0 (u ++ [x])))), some (.fz (.int (u.length : Int))), some (.fz (iD x))])]
    · have e2 : (u ++ [x]).length = u.length + 1 := by simp
      rw [e2] at ih
      rw [ih, ← e]
    · simp [kvLoop, h3, h4, setItemD, dSel_kv, kvE_len, hlen, hp]
end K36

namespace K36
open PySem PySem.Spec PyProof.Rows L2 TL
theorem ixA_0 (p : List Nat) : dIxA (dn p) (.int 0) = (p.head?).map fun x => .v (iD x) := by
  have := ixA_nat p 0
  rw [List.head?_eq_getElem?]
  exact this
/-! ### orders' plain facts -/
theorem falls_irr : ∀ (xs : List Nat) (i : Nat) (m : Int), fallsGo m i xs = none → ∀ k, k < xs.length → ∃ z : Int, (z = m ∨ ∃ j x, j ≤ k ∧ xs[j]? = some x ∧ z = (x : Int)) ∧ (i + k : Int) ≠ z ∧ m ≤ z ∧ ∀ j x, j ≤ k → xs[j]? = some x → (x : Int) ≤ z
  | [], i, m, _, k, hk => by simp at hk
  | x :: xs, i, m, h, k, hk => by
    simp only [fallsGo] at h
    have hM : (if (x : Int) > m then (x : Int) else m) = max (x : Int) m := by split <;> omega
    rw [hM] at h
    clear hM
    by_cases hne : max (x : Int) m = (i : Int)
    · rw [if_pos hne] at h; cases h
    · rw [if_neg hne] at h
      cases k with
      | zero =>
        refine ⟨max (x : Int) m, ?_, ?_, by omega, ?_⟩
        · rcases Int.le_total (x : Int) m with h | h
          · exact .inl (by omega)
          · exact .inr ⟨0, x, Nat.le_refl _, rfl, by omega⟩
        · intro h; exact hne (by rw [← h]; simp)
        · intro j y hj hy
          have : j = 0 := by omega
          subst this
          simp at hy; subst hy
          omega
      | succ k =>
        obtain ⟨z, h1, h2, h3, h4⟩ := falls_irr xs (i + 1) _ h k (by simpa using hk)
        refine ⟨z, ?_, by push_cast at h2 ⊢; omega, by omega, ?_⟩
        · rcases h1 with h1 | ⟨j, y, hj, hy, hz⟩
          · rcases Int.le_total (x : Int) m with h | h
            · exact .inl (by omega)
            · exact .inr ⟨0, x, by omega, rfl, by omega⟩
          · exact .inr ⟨j + 1, y, by omega, by simpa using hy, hz⟩
        · intro j y hj hy
          cases j with
          | zero => simp at hy; subst hy; omega
          | succ j => exact h4 j y (by omega) (by simpa using hy)
theorem irr_falls : ∀ (xs : List Nat) (i : Nat) (m : Int), (∀ k, k < xs.length → ∃ z : Int, (i + k : Int) < z ∧ (z = m ∨ ∃ j x, j ≤ k ∧ xs[j]? = some x ∧ z = (x : Int))) → fallsGo m i xs = none
  | [], i, m, _ => rfl
  | x :: xs, i, m, h => by
    simp only [fallsGo]
    have hM : (if (x : Int) > m then (x : Int) else m) = max (x : Int) m := by split <;> omega
    rw [hM]
    clear hM
    obtain ⟨z, h1, h2⟩ := h 0 (by simp)
    have hz : z ≤ max (x : Int) m := by
      rcases h2 with h2 | ⟨j, y, hj, hy, h2⟩
      · omega
      · have : j = 0 := by omega
        subst this
        simp at hy; subst hy; omega
    rw [if_neg (by push_cast at h1; omega)]
    refine irr_falls xs (i + 1) _ fun k hk => ?_
    obtain ⟨z, h1, h2⟩ := h (k + 1) (by simpa using hk)
    rcases h2 with h2 | ⟨j, y, hj, hy, h2⟩
    · exact ⟨max (x : Int) m, by push_cast at h1 ⊢; omega, .inl rfl⟩
    · cases j with
      | zero => simp at hy; subst hy; exact ⟨max (x : Int) m, by push_cast at h1 ⊢; omega, .inl rfl⟩
      | succ j => exact ⟨z, by push_cast at h1 ⊢; omega, .inr ⟨j, y, by omega, by simpa using hy, h2⟩⟩
/-- the count: as many as they are, below k -/
theorem nodup_bound : ∀ (k : Nat) (l : List Nat), l.Nodup → (∀ x ∈ l, x < k) → l.length ≤ k
  | 0, l, nd, h => by
    cases l with
    | nil => simp
    | cons x l => exact absurd (h x List.mem_cons_self) (by omega)
  | k + 1, l, nd, h => by
    have h1 := nodup_bound k (l.erase k) (nd.erase k) fun x hx => by
      have h2 := (List.Nodup.mem_erase_iff nd).mp hx
      have := h x h2.2
      have h3 := h2.1
      omega
    have h4 := List.length_erase (a := k) (l := l)
    split at h4 <;> omega
theorem full_of {l : List Nat} {k : Nat} (nd : l.Nodup) (h : ∀ x ∈ l, x < k) (hl : l.length = k) {x : Nat} (hx : x < k) : x ∈ l := by
  by_cases hm : x ∈ l
  · exact hm
  · have := nodup_bound k (x :: l) (List.nodup_cons.mpr ⟨hm, nd⟩) fun y hy => by
      rcases List.mem_cons.mp hy with rfl | hy
      · exact hx
      · exact h y hy
    simp only [List.length_cons] at this
    omega
/-- a row is a row of all numbers -/
theorem perm_of {p : List Nat} (nd : p.Nodup) (h : ∀ x ∈ p, x < p.length) : (List.range p.length).Perm p := by
  refine (List.perm_ext_iff_of_nodup List.nodup_range nd).mpr fun x => ?_
  rw [List.mem_range]
  exact ⟨fun hx => full_of nd h rfl hx, h x⟩
/-- no first part is closed -/
noncomputable def Irr (p : List Nat) : Prop := ∀ k, 0 < k → k < p.length → ∃ j x, j < k ∧ p[j]? = some x ∧ k ≤ x
theorem dropLast_get {p : List Nat} {j : Nat} (h : j + 1 < p.length) : p.dropLast[j]? = p[j]? := by
  rw [List.dropLast_eq_take, List.getElem?_take, if_pos (by omega)]
theorem irr_of {p : List Nat} (nd : p.Nodup) (hf : fallsGo (-1) 0 p.dropLast = none) (hlt : ∀ x ∈ p, x < p.length) : Irr p := by
  intro k h0 hk
  refine Classical.byContradiction fun hn => ?_
  have hall : ∀ j x, j < k → p[j]? = some x → x < k := fun j x hj hx => Nat.lt_of_not_le fun hle => hn ⟨j, x, hj, hx, hle⟩
  have hm : k - 1 ∈ p.take k := full_of (nd.sublist (List.take_sublist _ _)) (fun x hx => by
    obtain ⟨j, hj⟩ := List.mem_iff_getElem?.mp hx
    rw [List.getElem?_take] at hj
    split at hj
    · exact hall j x (by assumption) hj
    · cases hj) (by rw [List.length_take]; omega) (by omega)
  obtain ⟨j0, hj0⟩ := List.mem_iff_getElem?.mp hm
  rw [List.getElem?_take] at hj0
  split at hj0
  · rename_i hjk
    obtain ⟨z, h1, h2, h3, h4⟩ := falls_irr _ _ _ hf (k - 1) (by rw [List.length_dropLast]; omega)
    have hz : ((k - 1 : Nat) : Int) ≤ z := h4 j0 (k - 1) (by omega) (by rw [dropLast_get (by omega)]; exact hj0)
    rcases h1 with h1 | ⟨j, x, hj, hx, hzx⟩
    · omega
    · rw [dropLast_get (by omega)] at hx
      have := hall j x (by omega) hx
      omega
  · cases hj0
theorem falls_of {p : List Nat} (h : Irr p) : fallsGo (-1) 0 p.dropLast = none := by
  refine irr_falls _ _ _ fun k hk => ?_
  rw [List.length_dropLast] at hk
  obtain ⟨j, x, hj, hx, hle⟩ := h (k + 1) (by omega) (by omega)
  exact ⟨(x : Int), by push_cast; omega, .inr ⟨j, x, by omega, by rw [dropLast_get (by omega)]; exact hx, rfl⟩⟩
end K36

namespace K36
open PySem PySem.Spec PyProof.Rows L2 TL
noncomputable def lst (p : List Nat) : Nat := p.getLast?.getD 0
theorem lst_eq {p : List Nat} (h : p ≠ []) : p.getLast h = lst p := by simp [lst, List.getLast?_eq_some_getLast h]
theorem lst_app (p : List Nat) (x : Nat) : lst (p ++ [x]) = x := by simp [lst]
theorem lst_get {p : List Nat} (h : p ≠ []) : p[p.length - 1]? = some (lst p) := by
  rw [← List.getLast?_eq_getElem?, List.getLast?_eq_some_getLast h, lst_eq h]
theorem Ord.ne {p : List Nat} (o : Ord p) : p ≠ [] := by rintro rfl; exact absurd o.lo (by simp)
theorem Ord.Irr {p : List Nat} (o : Ord p) : K36.Irr p := irr_of o.nodup o.irr fun _ => o.lt
theorem Ord.mk' {p : List Nat} (nd : p.Nodup) (h : ∀ x ∈ p, x < p.length) (h2 : 2 ≤ p.length) (h3 : p.length ≤ 40) (i : K36.Irr p) : Ord p := ⟨perm_of nd h, h2, h3, falls_of i⟩
theorem get_inj {p : List Nat} (nd : p.Nodup) {i j x : Nat} (h1 : p[i]? = some x) (h2 : p[j]? = some x) : i = j := by
  obtain ⟨hi, e1⟩ := List.getElem?_eq_some_iff.mp h1
  obtain ⟨hj, e2⟩ := List.getElem?_eq_some_iff.mp h2
  exact (List.getElem_inj nd).mp (e1.trans e2.symm)
/-- the greatest letter stands ahead of the last place -/
theorem Ord.split {p : List Nat} (o : Ord p) : ∃ (A B : List Nat) (l : Nat), p = A ++ (p.length - 1) :: (B ++ [l]) := by
  have h2 := o.lo
  obtain ⟨j, x, hj, hx, hle⟩ := o.Irr (p.length - 1) (by omega) (by omega)
  have hxlt := o.lt (List.mem_of_getElem? hx)
  have : x = p.length - 1 := by omega
  subst this
  obtain ⟨hj', ex⟩ := List.getElem?_eq_some_iff.mp hx
  have e : p = p.take j ++ p[j] :: p.drop (j + 1) := by
    rw [← List.drop_eq_getElem_cons hj', List.take_append_drop]
  have hd : p.drop (j + 1) ≠ [] := by
    intro z
    have := congrArg List.length z
    simp at this
    omega
  refine ⟨p.take j, (p.drop (j + 1)).dropLast, (p.drop (j + 1)).getLast hd, ?_⟩
  rw [List.dropLast_concat_getLast hd, ← ex]
  exact e
theorem Ord.last {p : List Nat} (o : Ord p) : lst p < p.length - 1 := by
  obtain ⟨A, B, l, e⟩ := o.split
  have h1 : lst p = l := by
    have : p = (A ++ (p.length - 1) :: B) ++ [l] := by rw [List.append_assoc, List.cons_append]; exact e
    rw [this, lst_app]
  have hl : l < p.length := o.lt (by rw [e]; simp)
  have nd := o.nodup
  rw [h1]
  have : l ≠ p.length - 1 := by
    intro z
    rw [e] at nd
    have := (List.nodup_append.mp nd).2.1
    simp [z] at this
  omega
/-! ### the deed u -/
noncomputable def upD (p : List Nat) : List Nat := p.take (p.idxOf (p.length - 1) + 1) ++ [lst p] ++ p.dropLast.drop (p.idxOf (p.length - 1) + 1)
noncomputable def upA (p : List Nat) : List Nat := p.take (p.idxOf (p.length - 1) + 1) ++ p.drop (p.idxOf (p.length - 1) + 2) ++ [(p[p.idxOf (p.length - 1) + 1]?).getD 0]
theorem idx_at {A X : List Nat} {m : Nat} (h : m ∉ A) : (A ++ m :: X).idxOf m = A.length := by
  rw [List.idxOf_append, if_neg h]; simp
theorem take_mid (A X : List Nat) (m : Nat) : (A ++ m :: X).take (A.length + 1) = A ++ [m] := by
  rw [List.take_append, List.take_of_length_le (by omega), show A.length + 1 - A.length = 1 by omega]; simp
theorem drop_mid (A X : List Nat) (m k : Nat) : (A ++ m :: X).drop (A.length + (k + 1)) = X.drop k := by
  rw [List.drop_append, List.drop_of_length_le (by omega), show A.length + (k + 1) - A.length = k + 1 by omega]; simp
theorem upD_eq {A B : List Nat} {m l : Nat} (h : m ∉ A) (hm : (A ++ m :: (B ++ [l])).length = m + 1) : upD (A ++ m :: (B ++ [l])) = A ++ m :: l :: B := by
  unfold upD
  rw [hm, Nat.add_sub_cancel, idx_at h]
  have e : A ++ m :: (B ++ [l]) = (A ++ m :: B) ++ [l] := by simp
  rw [e, lst_app, List.dropLast_concat]
  have t1 : ((A ++ m :: B) ++ [l]).take (A.length + 1) = A ++ [m] := by rw [← e]; exact take_mid ..
  have t2 : (A ++ m :: B).drop (A.length + 1) = B := drop_mid A B m 0
  rw [t1, t2]; simp
theorem upA_eq {A B : List Nat} {m l : Nat} (h : m ∉ A) (hm : (A ++ m :: l :: B).length = m + 1) : upA (A ++ m :: l :: B) = A ++ m :: (B ++ [l]) := by
  unfold upA
  rw [hm, Nat.add_sub_cancel, idx_at h]
  have t1 : (A ++ m :: l :: B).take (A.length + 1) = A ++ [m] := take_mid ..
  have t2 : (A ++ m :: l :: B).drop (A.length + 2) = B := drop_mid A (l :: B) m 1
  have t3 : (A ++ m :: l :: B)[A.length + 1]? = some l := by rw [List.getElem?_append_right (by omega), show A.length + 1 - A.length = 1 by omega]; rfl
  rw [t1, t2, t3]; simp
theorem irr_head {A X : List Nat} {m : Nat} (hm : (A ++ m :: X).length = m + 1) : K36.Irr (A ++ m :: X) ↔ ∀ k, 0 < k → k ≤ A.length → ∃ j x, j < k ∧ A[j]? = some x ∧ k ≤ x := by
  have hA : A.length < m + 1 := by rw [← hm]; simp
  constructor
  · intro h k h0 hk
    obtain ⟨j, x, hj, hx, hle⟩ := h k h0 (by rw [hm]; omega)
    exact ⟨j, x, hj, by rw [List.getElem?_append_left (by omega)] at hx; exact hx, hle⟩
  · intro h k h0 hk
    rw [hm] at hk
    by_cases hk2 : k ≤ A.length
    · obtain ⟨j, x, hj, hx, hle⟩ := h k h0 hk2
      exact ⟨j, x, hj, by rw [List.getElem?_append_left (by omega)]; exact hx, hle⟩
    · exact ⟨A.length, m, by omega, by simp, by omega⟩
theorem Ord.move {A X Y : List Nat} {m : Nat} (o : Ord (A ++ m :: X)) (hm : (A ++ m :: X).length = m + 1) (hp : X.Perm Y) : Ord (A ++ m :: Y) := by
  have pp : (A ++ m :: X).Perm (A ++ m :: Y) := (List.Perm.cons m hp).append_left A
  have hl := pp.length_eq
  refine Ord.mk' (pp.nodup_iff.mp o.nodup) (fun x hx => by rw [← hl]; exact o.lt (pp.symm.subset hx)) (by rw [← hl]; exact o.lo) (by rw [← hl]; exact o.hi) ?_
  exact (irr_head (by rw [← hl]; exact hm)).mpr ((irr_head hm).mp o.Irr)
theorem rot_perm (B : List Nat) (l : Nat) : (B ++ [l]).Perm (l :: B) := List.perm_append_singleton l B
theorem Ord.parts {p : List Nat} (o : Ord p) : ∃ (A B : List Nat) (m l : Nat), p = A ++ m :: (B ++ [l]) ∧ m ∉ A ∧ (A ++ m :: (B ++ [l])).length = m + 1 := by
  obtain ⟨A, B, l, e⟩ := o.split
  have h2 := o.lo
  refine ⟨A, B, p.length - 1, l, e, fun z => ?_, by rw [← e]; omega⟩
  have nd := o.nodup
  rw [e] at nd
  exact (List.nodup_append.mp nd).2.2 _ z _ List.mem_cons_self rfl
theorem Ord.up {p : List Nat} (o : Ord p) : Ord (upD p) ∧ upA (upD p) = p ∧ (upD p).length = p.length := by
  obtain ⟨A, B, m, l, rfl, hA, hm⟩ := o.parts
  rw [upD_eq hA hm]
  have hm2 : (A ++ m :: l :: B).length = m + 1 := by rw [← hm]; simp
  exact ⟨o.move hm (rot_perm B l), upA_eq hA hm2, by rw [hm, hm2]⟩
theorem Ord.upA {p : List Nat} (o : Ord p) : Ord (K36.upA p) ∧ (K36.upA p).length = p.length := by
  obtain ⟨A, B, m, l, rfl, hA, hm⟩ := o.parts
  obtain ⟨l', B', e⟩ : ∃ l' B', B ++ [l] = l' :: B' := by
    cases B with
    | nil => exact ⟨l, [], rfl⟩
    | cons x B => exact ⟨x, B ++ [l], rfl⟩
  rw [e] at o hm ⊢
  rw [upA_eq hA hm]
  have hm2 : (A ++ m :: (B' ++ [l'])).length = m + 1 := by rw [← hm]; simp
  exact ⟨o.move hm (rot_perm B' l').symm, by rw [hm, hm2]⟩
end K36

namespace K36
open PySem PySem.Spec PyProof.Rows L2 TL
/-! ### the deed l: names exchanged -/
structure Nm (u : List Nat) (n b : Nat) : Prop where
  nd : u.Nodup
  len : u.length = n
  lt : ∀ x ∈ u, x < n
  id : ∀ i, i ≤ b → u[i]? = some i
section
variable {u : List Nat} {n b : Nat} (N : Nm u n b)
include N
theorem Nm.mem {x : Nat} (h : x < n) : x ∈ u := full_of N.nd N.lt N.len h
theorem Nm.at {x : Nat} (h : x < n) : u[u.idxOf x]? = some x := by
  have := List.idxOf_lt_length_of_mem (N.mem h)
  rw [List.getElem?_eq_getElem this, List.getElem_idxOf]
theorem Nm.ilt {x : Nat} (h : x < n) : u.idxOf x < n := by
  have := List.idxOf_lt_length_of_mem (N.mem h)
  rw [N.len] at this; exact this
theorem Nm.inj {x y : Nat} (hx : x < n) (hy : y < n) (e : u.idxOf x = u.idxOf y) : x = y := by
  have h1 := N.at hx
  rw [e, N.at hy] at h1
  exact (Option.some.inj h1).symm
theorem Nm.of {i x : Nat} (h : u[i]? = some x) : u.idxOf x = i := by
  have hx := N.lt x (List.mem_of_getElem? h)
  exact get_inj N.nd (N.at hx) h
theorem Nm.low {x : Nat} (h : x ≤ b) : u.idxOf x = x := N.of (N.id x h)
theorem Nm.high {x : Nat} (hx : x < n) (h : b < x) : b < u.idxOf x := by
  refine Nat.lt_of_not_le fun hle => ?_
  have h1 := N.id _ hle
  rw [N.at hx] at h1
  have := Option.some.inj h1
  omega
theorem Nm.ord {p : List Nat} (o : Ord p) (hn : p.length = n) (hb : lst p = b) : Ord (p.map u.idxOf) ∧ lst (p.map u.idxOf) = b := by
  have hlast := o.last
  have hbm : p[p.length - 1]? = some b := by rw [lst_get o.ne, hb]
  have nd2 : (p.map u.idxOf).Nodup := by
    have := o.nodup
    unfold List.Nodup at this ⊢
    rw [List.pairwise_map]
    refine List.Pairwise.imp_of_mem ?_ this
    intro x y hx hy hne e
    exact hne (N.inj (by rw [← hn]; exact o.lt hx) (by rw [← hn]; exact o.lt hy) e)
  refine ⟨Ord.mk' nd2 (fun y hy => ?_) (by rw [List.length_map]; exact o.lo) (by rw [List.length_map]; exact o.hi) ?_, ?_⟩
  · obtain ⟨x, hx, rfl⟩ := List.mem_map.mp hy
    rw [List.length_map, hn]
    exact N.ilt (by rw [← hn]; exact o.lt hx)
  · intro k h0 hk
    rw [List.length_map] at hk
    by_cases hkb : k ≤ b + 1
    · obtain ⟨j, x, hj, hx, hle⟩ := o.Irr k h0 hk
      have hxn : x < n := by rw [← hn]; exact o.lt (List.mem_of_getElem? hx)
      refine ⟨j, u.idxOf x, hj, by rw [List.getElem?_map, hx]; rfl, ?_⟩
      by_cases hxb : x ≤ b
      · rw [N.low hxb]; exact hle
      · have := N.high hxn (by omega)
        omega
    · refine Classical.byContradiction fun hn' => ?_
      have hall : ∀ j y, j < k → (p.map u.idxOf)[j]? = some y → y < k := fun j y hj hy => Nat.lt_of_not_le fun hle => hn' ⟨j, y, hj, hy, hle⟩
      have hm : b ∈ (p.map u.idxOf).take k := full_of (nd2.sublist (List.take_sublist _ _)) (fun y hy => by
        obtain ⟨j, hj⟩ := List.mem_iff_getElem?.mp hy
        rw [List.getElem?_take] at hj
        split at hj
        · exact hall j y (by assumption) hj
        · cases hj) (by rw [List.length_take, List.length_map]; omega) (by omega)
      obtain ⟨j, hj⟩ := List.mem_iff_getElem?.mp hm
      rw [List.getElem?_take] at hj
      split at hj
      · rename_i hjk
        have e2 : (p.map u.idxOf)[p.length - 1]? = some b := by rw [List.getElem?_map, hbm]; exact congrArg some (N.low (Nat.le_refl b))
        have := get_inj nd2 hj e2
        omega
      · cases hj
  · have : (p.map u.idxOf)[(p.map u.idxOf).length - 1]? = some b := by rw [List.length_map, List.getElem?_map, hbm]; exact congrArg some (N.low (Nat.le_refl b))
    rw [lst_get (by simpa using o.ne)] at this
    exact Option.some.inj this
end
noncomputable def loU (n b : Nat) : List Nat := (List.range n).take (b + 1) ++ [n - 1] ++ (List.range n).dropLast.drop (b + 1)
noncomputable def loV (n b : Nat) : List Nat := (List.range n).take (b + 1) ++ (List.range n).drop (b + 2) ++ [b + 1]
theorem loU_at {n b : Nat} (h : b + 1 < n) (i : Nat) : (loU n b)[i]? = if i ≤ b then some i else if i = b + 1 then some (n - 1) else if i < n then some (i - 1) else none := by
  unfold loU
  have l1 : ((List.range n).take (b + 1)).length = b + 1 := by rw [List.length_take, List.length_range]; omega
  rw [List.getElem?_append, List.getElem?_append]
  simp only [List.length_append, l1, List.length_singleton]
  by_cases h1 : i ≤ b
  · rw [if_pos (by omega), if_pos (by omega), if_pos h1, List.getElem?_take, if_pos (by omega), List.getElem?_range (by omega)]
  · rw [if_neg h1]
    by_cases h2 : i = b + 1
    · subst h2
      rw [if_pos (by omega), if_neg (by omega), if_pos rfl, Nat.sub_self]; rfl
    · rw [if_neg (by omega), if_neg h2, List.getElem?_drop, List.dropLast_eq_take, List.getElem?_take, List.length_range]
      by_cases h3 : i < n
      · rw [if_pos (by omega), if_pos h3, List.getElem?_range (by omega)]
        congr 1; omega
      · rw [if_neg (by omega), if_neg h3]
theorem loV_at {n b : Nat} (h : b + 1 < n) (i : Nat) : (loV n b)[i]? = if i ≤ b then some i else if i < n - 1 then some (i + 1) else if i = n - 1 then some (b + 1) else none := by
  unfold loV
  have l1 : ((List.range n).take (b + 1)).length = b + 1 := by rw [List.length_take, List.length_range]; omega
  have l2 : ((List.range n).drop (b + 2)).length = n - (b + 2) := by rw [List.length_drop, List.length_range]
  rw [List.getElem?_append, List.getElem?_append]
  simp only [List.length_append, l1, l2]
  by_cases h1 : i ≤ b
  · rw [if_pos (by omega), if_pos (by omega), if_pos h1, List.getElem?_take, if_pos (by omega), List.getElem?_range (by omega)]
  · rw [if_neg h1]
    by_cases h2 : i < n - 1
    · rw [if_pos (by omega), if_neg (by omega), if_pos h2, List.getElem?_drop, List.getElem?_range (by omega)]
      congr 1; omega
    · rw [if_neg (by omega), if_neg h2]
      by_cases h3 : i = n - 1
      · subst h3
        rw [if_pos rfl, show n - 1 - (b + 1 + (n - (b + 2))) = 0 by omega]; rfl
      · rw [if_neg h3, List.getElem?_eq_none (by simp; omega)]
theorem nodup_at {l : List Nat} (h : ∀ (i j x : Nat), l[i]? = some x → l[j]? = some x → i = j) : l.Nodup := by
  rw [List.nodup_iff_pairwise_ne, List.pairwise_iff_getElem]
  intro i j hi hj hij e
  have := h i j l[i] (List.getElem?_eq_getElem hi) (by rw [e]; exact List.getElem?_eq_getElem hj)
  omega
theorem loU_nm {n b : Nat} (h : b + 1 < n) : Nm (loU n b) n b := by
  refine ⟨nodup_at fun i j x hi hj => ?_, by simp [loU]; omega, fun x hx => ?_, fun i hi => by rw [loU_at h, if_pos hi]⟩
  · rw [loU_at h] at hi hj
    split at hi <;> split at hj <;> (try split at hi) <;> (try split at hj) <;> (try split at hi) <;> (try split at hj) <;> simp at hi hj <;> omega
  · obtain ⟨i, hi⟩ := List.mem_iff_getElem?.mp hx
    rw [loU_at h] at hi
    split at hi
    · simp at hi; omega
    · split at hi
      · simp at hi; omega
      · split at hi
        · simp at hi; omega
        · cases hi
theorem loV_nm {n b : Nat} (h : b + 1 < n) : Nm (loV n b) n b := by
  refine ⟨nodup_at fun i j x hi hj => ?_, by simp [loV]; omega, fun x hx => ?_, fun i hi => by rw [loV_at h, if_pos hi]⟩
  · rw [loV_at h] at hi hj
    split at hi <;> split at hj <;> (try split at hi) <;> (try split at hj) <;> (try split at hi) <;> (try split at hj) <;> simp at hi hj <;> omega
  · obtain ⟨i, hi⟩ := List.mem_iff_getElem?.mp hx
    rw [loV_at h] at hi
    split at hi
    · simp at hi; omega
    · split at hi
      · simp at hi; omega
      · split at hi
        · simp at hi; omega
        · cases hi
theorem lo_back {n b x : Nat} (h : b + 1 < n) (hx : x < n) : (loV n b).idxOf ((loU n b).idxOf x) = x := by
  refine (loV_nm h).of ?_
  have U := loU_nm h
  rw [loV_at h]
  split
  · rename_i h1
    rw [U.low h1]
  · rename_i h1
    split
    · rename_i h2
      have : (loU n b)[x + 1]? = some x := by rw [loU_at h, if_neg (by omega), if_neg (by omega), if_pos (by omega)]; rfl
      rw [U.of this]
    · rename_i h2
      rw [if_pos (by omega)]
      have : (loU n b)[b + 1]? = some x := by rw [loU_at h, if_neg (by omega), if_pos rfl]; congr 1; omega
      rw [U.of this]
noncomputable def loD (p : List Nat) : List Nat := p.map (loU p.length (lst p)).idxOf
noncomputable def loA (p : List Nat) : List Nat := p.map (loV p.length (lst p)).idxOf
theorem Ord.lo' {p : List Nat} (o : Ord p) : Ord (loD p) ∧ loA (loD p) = p ∧ (loD p).length = p.length := by
  have h := o.last
  have hb : lst p + 1 < p.length := by omega
  obtain ⟨o2, e2⟩ := (loU_nm hb).ord o rfl rfl
  have hl : (loD p).length = p.length := by simp [loD]
  refine ⟨o2, ?_, hl⟩
  unfold loA
  rw [hl, show lst (loD p) = lst p from e2]
  unfold loD
  rw [List.map_map]
  have : ∀ x ∈ p, ((loV p.length (lst p)).idxOf ∘ (loU p.length (lst p)).idxOf) x = x := fun x hx => lo_back hb (o.lt hx)
  rw [List.map_congr_left this]; simp
theorem Ord.loA {p : List Nat} (o : Ord p) : Ord (K36.loA p) ∧ (K36.loA p).length = p.length := by
  have h := o.last
  have hb : lst p + 1 < p.length := by omega
  obtain ⟨o2, e2⟩ := (loV_nm hb).ord o rfl rfl
  exact ⟨o2, by simp [K36.loA]⟩
/-! ### both deeds -/
noncomputable def bh (c : Bool) (p : List Nat) : List Nat := if c = true then upD p else loD p
noncomputable def ah (c : Bool) (p : List Nat) : List Nat := if c = true then upA p else loA p
theorem Ord.bh {p : List Nat} (o : Ord p) (c : Bool) : Ord (K36.bh c p) ∧ K36.ah c (K36.bh c p) = p ∧ (K36.bh c p).length = p.length := by
  cases c
  · exact o.lo'
  · exact o.up
theorem Ord.ah {p : List Nat} (o : Ord p) (c : Bool) : Ord (K36.ah c p) ∧ (K36.ah c p).length = p.length := by
  cases c
  · exact o.loA
  · exact o.upA
noncomputable def fw (w : List Bool) (p : List Nat) : List Nat := w.foldl (fun q c => K36.bh c q) p
noncomputable def bw (w : List Bool) (p : List Nat) : List Nat := w.foldr (fun c q => K36.ah c q) p
theorem Ord.fw {p : List Nat} : ∀ (w : List Bool), Ord p → Ord (K36.fw w p) ∧ (K36.fw w p).length = p.length := by
  intro w
  induction w generalizing p with
  | nil => intro o; exact ⟨o, rfl⟩
  | cons c w ih =>
    intro o
    obtain ⟨h1, _, h3⟩ := o.bh c
    obtain ⟨h4, h5⟩ := ih h1
    exact ⟨h4, h5.trans h3⟩
theorem Ord.bw {p : List Nat} (o : Ord p) : ∀ (w : List Bool), Ord (K36.bw w p) ∧ (K36.bw w p).length = p.length
  | [] => ⟨o, rfl⟩
  | c :: w => by
    obtain ⟨h1, h2⟩ := Ord.bw o w
    obtain ⟨h3, h4⟩ := h1.ah c
    exact ⟨h3, h4.trans h2⟩
theorem bw_fw : ∀ (w : List Bool) (p : List Nat), Ord p → K36.bw w (K36.fw w p) = p
  | [], p, _ => rfl
  | c :: w, p, o => by
    obtain ⟨h1, h2, _⟩ := o.bh c
    show K36.ah c (K36.bw w (K36.fw w (K36.bh c p))) = p
    rw [bw_fw w _ h1, h2]
theorem fw_app (v w : List Bool) (p : List Nat) : K36.fw (v ++ w) p = K36.fw w (K36.fw v p) := List.foldl_append
theorem bw_app (v w : List Bool) (p : List Nat) : K36.bw (v ++ w) p = K36.bw v (K36.bw w p) := List.foldr_append
end K36

namespace K36
open PySem PySem.Spec PyProof.Rows L2 TL
theorem isu (c : Bool) : dEq (sgD c) (.str (Str.ofString "u")) = some c := by cases c <;> decide +kernel
theorem idx_range {n x : Nat} (h : x < n) : (List.range n).idxOf x = x := by
  have hm : x ∈ List.range n := List.mem_range.mpr h
  have h1 := List.idxOf_lt_length_of_mem hm
  have h2 : (List.range n)[(List.range n).idxOf x]? = some x := by rw [List.getElem?_eq_getElem h1, List.getElem_idxOf]
  rw [List.getElem?_range (by simpa using h1)] at h2
  exact Option.some.inj h2
theorem pred_iD {n : Nat} (h : 1 ≤ n) : PyData.int ((n : Int) - 1) = iD (n - 1) := by
  unfold iD; congr 1; omega
theorem sp_behind_deed {p : List Nat} (o : Ord p) (c : Bool) : m_behind_deed [some (.fz (dn p)), some (.fz (sgD c))] = some (.n (dn (bh c p)), [some (.fz (dn p)), some (.fz (sgD c))]) := by
  have h2 := o.lo
  have h3 := o.hi
  have e1 := pred_iD (n := p.length) (by omega)
  have e2 : dIxA (dn p) (.int (-1)) = some (.v (iD (lst p))) := by rw [ixA_last p o.ne, lst_eq o.ne]
  have hlt := o.last
  cases c with
  | true =>
    have e3 := sp_moved_behind (p := p) (a := lst p) (b := p.length - 1) (o.mem (by omega)) (by omega)
    have e4 : upD p = p.take (p.idxOf (p.length - 1) + 1) ++ [lst p] ++ p.dropLast.drop (p.idxOf (p.length - 1) + 1) := rfl
    simp [m_behind_deed, b_behind_deed_body, e1, e2, isu, e3, bh, e4]
  | false =>
    have hr : lst p ∈ List.range p.length := List.mem_range.mpr (by omega)
    have e3 := sp_moved_behind (p := List.range p.length) (a := p.length - 1) (b := lst p) hr (by simp; omega)
    rw [idx_range (by omega)] at e3
    have hb : lst p + 1 < p.length := by omega
    have N := loU_nm hb
    have e4 := sp_named_anew (u := loU p.length (lst p)) (l := p) N.nd (by rw [N.len]; omega) (by omega) (fun x hx => N.mem (o.lt hx))
    have hle : okR (p.length : Int) = true := okR_nat (by omega)
    have e5 : loU p.length (lst p) = (List.range p.length).take (lst p + 1) ++ [p.length - 1] ++ (List.range p.length).dropLast.drop (lst p + 1) := rfl
    rw [← e5] at e3
    simp [m_behind_deed, b_behind_deed_body, e1, e2, isu, hle, rgD_dn, e3, bh, e4, loD]
theorem ix_last {p : List Nat} (h : p ≠ []) : dIxA (dn p) (iD (p.length - 1)) = some (.v (iD (lst p))) := by
  rw [ixA_iD, lst_get h]; rfl
theorem find_idx {q : List Nat} {a : Nat} (h : a ∈ q) : ((List.range q.length).filter fun i => decide (q[i]? = some a)).head? = some (q.idxOf a) := by
  rw [List.head?_filter, List.find?_range_eq_some]
  have h1 := List.idxOf_lt_length_of_mem h
  refine ⟨by simp [List.getElem?_eq_getElem h1], List.mem_range.mpr h1, fun j hj => ?_⟩
  have h2 : j < q.length := by omega
  have := List.not_of_lt_findIdx (p := fun x => x == a) (xs := q) hj
  simp [List.getElem?_eq_getElem h2]
  simpa using this
theorem il_dropLast (p : List Nat) : (il p).dropLast = il p.dropLast := List.map_dropLast.symm
theorem il_last {p : List Nat} (h : p ≠ []) : (il p)[p.length - 1]? = some (iD (lst p)) := by rw [il_get, lst_get h]; rfl
theorem law_up {p : List Nat} (o : Ord p) : p.length - 1 ∈ p.dropLast ∧ p.dropLast.take (p.dropLast.idxOf (p.length - 1) + 1) ++ [lst p] ++ p.dropLast.drop (p.dropLast.idxOf (p.length - 1) + 1) = upD p := by
  obtain ⟨A, B, m, l, rfl, hA, hm⟩ := o.parts
  rw [upD_eq hA hm, hm, Nat.add_sub_cancel]
  have e : A ++ m :: (B ++ [l]) = (A ++ m :: B) ++ [l] := by simp
  rw [e, lst_app, List.dropLast_concat, idx_at hA, take_mid, drop_mid A B m 0]
  simp
theorem law_lo {n b : Nat} (h : b + 1 < n) : (List.range n).dropLast.take (b + 1) ++ [n - 1] ++ (List.range n).dropLast.drop (b + 1) = loU n b := by
  unfold loU
  congr 2
  rw [List.dropLast_eq_take, List.take_take, List.length_range, Nat.min_eq_left (by omega)]
theorem map_range {n : Nat} {l : List Nat} (h : ∀ x ∈ l, x < n) : l.map (List.range n).idxOf = l := by
  rw [List.map_congr_left fun x hx => idx_range (h x hx)]; simp
end K36

namespace K36
open PySem PySem.Spec PyProof.Rows L2 TL
theorem Ord.top {p : List Nat} (o : Ord p) : p.idxOf (p.length - 1) + 1 < p.length := by
  obtain ⟨A, B, m, l, rfl, hA, hm⟩ := o.parts
  rw [hm, Nat.add_sub_cancel, idx_at hA]
  simp at hm; omega
/-! ### words of deeds -/
noncomputable def ledLoop (m : FE) : FS := fAsg 2 (sCall m none (aCons (sVar 2) (aCons (sVar 3) (aNil))))
theorem led_loop {m : FE} {step : Bool → List Nat → List Nat} (hs : ∀ (p : List Nat) (c : Bool), Ord p → Ord (step c p) ∧ m [some (.fz (dn p)), some (.fz (sgD c))] = some (.n (dn (step c p)), [some (.fz (dn p)), some (.fz (sgD c))])) (a b : PyData) :
    ∀ (w : List Bool) (q : List Nat) (s3 : Option Slt), isIo (some s3) = false → Ord q → ∃ s3', isIo (some s3') = false ∧ loopD (bNm 3) (ledLoop m) (wl w) [some (.fz a), some (.fz b), some (.ow (dn q)), s3] = some (.nx [some (.fz a), some (.fz b), some (.ow (dn (w.foldl (fun q c => step c q) q))), s3'])
  | [], q, s3, h3, _ => ⟨s3, h3, rfl⟩
  | c :: w, q, s3, h3, o => by
    obtain ⟨o2, e⟩ := hs q c o
    obtain ⟨s3', h3', ih⟩ := led_loop hs a b w (step c q) (some (.fz (sgD c))) rfl o2
    refine ⟨s3', h3', ?_⟩
    rw [wl_cons, loop_nx (r2 := [some (.fz a), some (.fz b), some (.ow (dn (step c q))), some (.fz (sgD c))]), ih]
    · rfl
    · simp [ledLoop, h3, e]
theorem strRev_wS (w : List Bool) : strRev (wS w) = wS w.reverse := by
  have h := PyProof.Rows.step_rev_list (wS w) 0
  have e : (strRev (wS w)).cps.toList = (wS w.reverse).cps.toList := by
    show (Txt.sliceBy (wS w) none none (-1, 0)).cps.toList = _
    rw [h, wS_len]
    show _ = (w.reverse.map sgn)
    refine List.ext_getElem (by simp) fun i h1 h2 => ?_
    simp only [List.length_map, List.length_range] at h1
    simp only [List.getElem_map, List.getElem_range, List.getElem_reverse, wS]
    have : w.length - 1 - i < w.length := by omega
    simp [Array.getD, this]
  generalize strRev (wS w) = a at e
  generalize wS w.reverse = b at e
  obtain ⟨⟨a⟩⟩ := a
  obtain ⟨⟨b⟩⟩ := b
  simp at e
  rw [e]
theorem rev_wS {w : List Bool} (h : w.length ≤ 16000000) : dRevA (.str (wS w)) = some (.v (.str (wS w.reverse))) := by
  simp only [dRevA, wS_len]
  rw [if_pos h, strRev_wS]
end K36

namespace K36
open PySem PySem.Spec PyProof.Rows L2 TL
/-! ### drawing -/
theorem mul_ok {i j : Int} (h : i.natAbs < 2 ^ 64 ∨ j.natAbs < 2 ^ 64) : dMulA (.int i) (.int j) = some (.v (.int (i * j))) := by
  show (if (i.natAbs < 2 ^ 64 ∨ j.natAbs < 2 ^ 64) ∨ (i.natAbs < 2 ^ 400000 ∧ j.natAbs < 2 ^ 400000) then some (Hd.v (.int (i * j))) else none) = _
  rw [if_pos (.inl h)]
theorem fdiv_ok {a k : Int} (h0 : 0 < k) (h : k ≤ 1000000000000) : dFdiv (.int a) (.int k) = some (.v (.int (a / k))) := by
  show (if 0 < k ∧ k.natAbs < 2 ^ 9000 then some (Hd.v (.int (a / k))) else none) = _
  refine if_pos ⟨h0, ?_⟩
  have h1 : k.natAbs < 2 ^ 64 := by omega
  exact Nat.lt_of_lt_of_le h1 (Nat.pow_le_pow_right (by omega) (by omega))
theorem mod_ok {a k : Int} (h0 : 0 < k) : dMod (.int a) (.int k) = some (.v (.int (a % k))) := if_pos h0
theorem sp_hash {s i : Int} (hs : 0 ≤ s) (hs2 : s < 2147483647) (hi : 0 ≤ i) (hi2 : i < 2 ^ 61) : ∃ h : Int, 0 ≤ h ∧ m__law_hash [some (.fz (.int s)), some (.fz (.int i))] = some (.v (.int h), [some (.fz (.int s)), some (.fz (.int i))]) := by
  have m1 : dMulA (.int s) (.int 1140671) = some (.v (.int (s * 1140671))) := mul_ok (.inl (by omega))
  have m2 : dMulA (.int 27644437) (.int i) = some (.v (.int (27644437 * i))) := mul_ok (.inl (by omega))
  have m3 : dMulA (.int (27644437 * i)) (.int i) = some (.v (.int (27644437 * i * i))) := mul_ok (.inr (by omega))
  have m4 : dMulA (.int 131) (.int i) = some (.v (.int (131 * i))) := mul_ok (.inl (by omega))
  have m5 : dMulA (.int 62089) (.int i) = some (.v (.int (62089 * i))) := mul_ok (.inl (by omega))
  obtain ⟨x, hx⟩ : ∃ x, x = s * 1140671 + 27644437 * i * i + 131 * i + 19 := ⟨_, rfl⟩
  have d1 : dMod (.int x) (.int 2147483629) = some (.v (.int (x % 2147483629))) := mod_ok (by omega)
  have x0 := Int.emod_nonneg x (show (2147483629 : Int) ≠ 0 by omega)
  have x1 := Int.emod_lt_of_pos x (show (0 : Int) < 2147483629 by omega)
  obtain ⟨y, hy⟩ : ∃ y, y = x % 2147483629 := ⟨_, rfl⟩
  rw [← hy] at d1 x0 x1
  have m6 : dMulA (.int y) (.int y) = some (.v (.int (y * y))) := mul_ok (.inl (by omega))
  obtain ⟨z, hz⟩ : ∃ z, z = y * y + 62089 * i + 32416187 := ⟨_, rfl⟩
  have d2 : dMod (.int z) (.int 2147483587) = some (.v (.int (z % 2147483587))) := mod_ok (by omega)
  have z0 := Int.emod_nonneg z (show (2147483587 : Int) ≠ 0 by omega)
  have z1 := Int.emod_lt_of_pos z (show (0 : Int) < 2147483587 by omega)
  obtain ⟨u, hu⟩ : ∃ u, u = z % 2147483587 := ⟨_, rfl⟩
  rw [← hu] at d2 z0 z1
  have m7 : dMulA (.int u) (.int 48271) = some (.v (.int (u * 48271))) := mul_ok (.inl (by omega))
  have d3 : dMod (.int (u * 48271)) (.int 2147483647) = some (.v (.int (u * 48271 % 2147483647))) := mod_ok (by omega)
  refine ⟨u * 48271 % 2147483647, Int.emod_nonneg _ (by omega), ?_⟩
  simp [m__law_hash, b__law_hash_body, m1, m2, m3, m4, m5, ← hx, d1, m6, ← hz, d2, m7, d3]
structure Gn (n : Nat) (d : PyData) : Prop where
  ex : ∃ a b c : Int, d = .list [.int a, .int b, .int c] ∧ 0 ≤ a ∧ 0 ≤ b ∧ b < 2147483647 ∧ 0 ≤ c ∧ c ≤ n
theorem sp_random {n k : Nat} {d : PyData} (g : Gn n d) (hn : n ≤ 2 ^ 60) (hk : 0 < k) (hk2 : k ≤ 100000) : ∃ v d', v < k ∧ Gn (n + 1) d' ∧ m__law_random [some (.io d), some (.fz (iD k))] = some (.v (iD v), [some (.io d'), some (.fz (iD k))]) := by
  obtain ⟨a, b, c, rfl, ha, hb, hb2, hc, hc2⟩ := g.ex
  have i0 : ∀ x y z : PyData, dIxA (.list [x, y, z]) (.int 0) = some (.v x) := fun _ _ _ => rfl
  have i1 : ∀ x y z : PyData, dIxA (.list [x, y, z]) (.int 1) = some (.v y) := fun _ _ _ => rfl
  have i2 : ∀ x y z : PyData, dIxA (.list [x, y, z]) (.int 2) = some (.v z) := fun _ _ _ => rfl
  have s0 : ∀ x y z w : PyData, setItemD (.list [x, y, z]) (.int 0) w = some (.list [w, y, z]) := fun _ _ _ _ => rfl
  have s2' : ∀ x y z w : PyData, setItemD (.list [x, y, z]) (.int 2) w = some (.list [x, y, w]) := fun _ _ _ _ => rfl
  have fin : ∀ x : Int, ∃ v, v < k ∧ dMod (.int x) (iD k) = some (.v (iD v)) := fun x => by
    have h0 := Int.emod_nonneg x (show (k : Int) ≠ 0 by omega)
    have h1 := Int.emod_lt_of_pos x (show (0 : Int) < k by omega)
    refine ⟨(x % (k : Int)).toNat, by omega, ?_⟩
    rw [show dMod (.int x) (iD k) = some (.v (.int (x % (k : Int)))) from mod_ok (by omega)]
    unfold iD
    congr 3
    omega
  by_cases h : 0 < a
  · obtain ⟨v, hv, e1⟩ := fin a
    have e2 : dFdiv (.int a) (iD k) = some (.v (.int (a / (k : Int)))) := fdiv_ok (by omega) (by omega)
    refine ⟨v, .list [.int (a / (k : Int)), .int b, .int c], hv, ⟨_, _, _, rfl, Int.ediv_nonneg ha (by omega), hb, hb2, hc, by omega⟩, ?_⟩
    simp [m__law_random, b__law_random_body, i0, dCmp, h, e1, e2, s0]
  · obtain ⟨hh, hh0, e1⟩ := sp_hash (s := b) (i := c + 1) hb hb2 (by omega) (by omega)
    have eb : dBits (iD k) = some (.v (.int (Builtin.Int.intBits (k : Int) : Nat))) := rfl
    have hbits : Builtin.Int.intBits (k : Int) ≤ 20 := PySem.intBits_le_iff.mpr (by omega)
    have e2 : dFdiv (.int (Builtin.Int.intBits (k : Int) : Nat)) (.int 30) = some (.v (.int 0)) := by
      rw [fdiv_ok (by omega) (by omega)]
      congr 3
      omega
    have e3 : dMulA (.int 0) (.int 2147483587) = some (.v (.int (0 * 2147483587))) := mul_ok (.inl (by decide))
    obtain ⟨v, hv, e4⟩ := fin hh
    have hr : rgD 0 1 = [.int 0] := rfl
    have hl : inLim 1 = true := rfl
    refine ⟨v, .list [.int a, .int b, .int (c + 1)], hv, ⟨_, _, _, rfl, ha, hb, hb2, by omega, by omega⟩, ?_⟩
    simp [m__law_random, b__law_random_body, i0, dCmp, h, eb, e2, hl, hr]
    rw [loop_nx (r2 := [some (.io (.list [.int a, .int b, .int (c + 1)])), some (.fz (iD k)), some (.fz (.int hh)), some (.fz (.int 0))])]
    · simp [e4]
    · simp [i0, i1, i2, s2', e3, e1]
end K36

namespace K36
open PySem PySem.Spec PyProof.Rows L2 TL
theorem strsOf_wl : ∀ w : List Bool, strsOf (wl w) = some (w.map fun c => ⟨#[sgn c]⟩)
  | [] => rfl
  | c :: w => by
    show (strsOf (wl w)).map (fun xs => (⟨#[sgn c]⟩ : Str) :: xs) = _
    rw [strsOf_wl w]; rfl
theorem fold_wl : ∀ (w : List Bool) (acc : Array Nat), ((w.map fun c => (⟨#[sgn c]⟩ : Str)).foldl (fun acc p => acc ++ (Str.ofString "").cps ++ p.cps) acc).toList = acc.toList ++ w.map sgn
  | [], acc => by simp
  | c :: w, acc => by
    have h0 : (Str.ofString "").cps = #[] := by decide +kernel
    rw [List.map_cons, List.foldl_cons, fold_wl w]
    simp [h0]
theorem join_wl (w : List Bool) : Txt.join (Str.ofString "") (w.map fun c => ⟨#[sgn c]⟩) = wS w := by
  show Builtin.Str.glued (Str.ofString "") (w.map fun c => (⟨#[sgn c]⟩ : Str)) = wS w
  unfold Builtin.Str.glued
  cases w with
  | nil => decide +kernel
  | cons c w =>
    have h := fold_wl w #[sgn c]
    show (⟨_⟩ : Str) = ⟨_⟩
    congr 1
    apply Array.ext'
    rw [show ((List.map (fun c => (⟨#[sgn c]⟩ : Str)) (c :: w)).drop 1) = w.map (fun c => (⟨#[sgn c]⟩ : Str)) from rfl, show ((List.map (fun c => (⟨#[sgn c]⟩ : Str)) (c :: w)).headD Str.empty).cps = #[sgn c] from rfl, h]
    simp
theorem join_ok {w : List Bool} (h : w.length ≤ 1000) : mJoin (.str (Str.ofString "")) [.list (wl w)] = some (.v (.str (wS w))) := by
  have hs : ((w.map fun c => (⟨#[sgn c]⟩ : Str)).map (·.length)).sum = w.length := by
    induction w with
    | nil => rfl
    | cons c w ih => simp only [List.map_cons, List.sum_cons, List.length_cons, ih (by simp at h; omega)]; show 1 + _ = _; omega
  have h0 : (Str.ofString "").length = 0 := by decide +kernel
  show (strsOf (wl w)).bind (fun ys => if (ys.map (·.length)).sum + ys.length * (Str.ofString "").length ≤ 16000000 then some (Hd.v (.str (Txt.join (Str.ofString "") ys))) else none) = _
  rw [strsOf_wl]
  simp only [Option.bind_some]
  rw [hs, h0, if_pos (by omega), join_wl]
noncomputable def wordElt : FE := s2 dIxA (sLst (aCons (sC (.str (PySem.Str.ofString "u"))) (aCons (sC (.str (PySem.Str.ofString "l"))) (aNil)))) (sCall m__law_random (some 0) (aCons (sVar 0) (aCons (sC (.int 2)) (aNil))))
theorem ix_ul (v : Nat) (h : v < 2) : ∃ c, dIxA (.list [.str (Str.ofString "u"), .str (Str.ofString "l")]) (iD v) = some (.v (sgD c)) := by
  have hu : Str.ofString "u" = ⟨#[117]⟩ := by decide +kernel
  have hl : Str.ofString "l" = ⟨#[108]⟩ := by decide +kernel
  match v, h with
  | 0, _ => exact ⟨true, by rw [hu]; rfl⟩
  | 1, _ => exact ⟨false, by rw [hl]; rfl⟩
theorem word_loop (e : PyData) : ∀ (l : List Nat) (n : Nat) (d : PyData) (acc : List PyData), Gn n d → n + l.length ≤ 2 ^ 60 → acc.length + l.length ≤ 1000 →
    ∃ w d', w.length = l.length ∧ Gn (n + l.length) d' ∧ lcD [2] (bNm 2) cYes wordElt (il l) [some (.io d), some (.fz e), none] acc = some (acc ++ wl w, [some (.io d'), some (.fz e), none])
  | [], n, d, acc, g, _, _ => ⟨[], d, rfl, g, by simp [lcD]⟩
  | k :: l, n, d, acc, g, hn, hl => by
    simp only [List.length_cons] at hn hl
    obtain ⟨v, d1, hv, g1, e1⟩ := sp_random (k := 2) g (by omega) (by omega) (by omega)
    obtain ⟨c, ec⟩ := ix_ul v hv
    obtain ⟨w, d', hw, g', e2⟩ := word_loop e l (n + 1) d1 (acc ++ [sgD c]) g1 (by omega) (by simp; omega)
    refine ⟨c :: w, d', by simp [hw], by rw [show n + (k :: l).length = n + 1 + l.length by simp; omega]; exact g', ?_⟩
    have e1 : m__law_random [some (.io d), some (.fz (.int 2))] = some (.v (iD v), [some (.io d1), some (.fz (.int 2))]) := e1
    rw [il_cons, lcD_cons (o := some (sgD c)) (r' := [some (.io d1), some (.fz e), none]) _ (by omega)]
    · show lcD _ _ _ _ _ _ (acc ++ [sgD c]) = _
      rw [e2]
      simp
    · simp [lcStep, wordElt, e1, ec]
/-! ### rows -/
end K36

namespace K36
open PySem PySem.Spec PyProof.Rows L2 TL
theorem Gn.mono {n m : Nat} {d : PyData} (g : Gn n d) (h : n ≤ m) : Gn m d := by
  obtain ⟨a, b, c, h0, h1, h2, h3, h4, h5⟩ := g.ex
  exact ⟨a, b, c, h0, h1, h2, h3, h4, by omega⟩
noncomputable def rowBody : FS := fSeq (fAsg 5 (sCall m__law_random (some 0) (aCons (sVar 0) (aCons (sBc bLen (aCons (sVar 2) (aNil))) (aNil))))) (fSeq (fExp (sApp 3 (s2 dIxA (sVar 2) (sVar 5)))) (fAsg 2 (s2 dAdd (sSl (sVar 2) (oNo) (oSo (sVar 5))) (sSl (sVar 2) (oSo (s2 dAdd (sVar 5) (sC (.int 1)))) (oNo)))))
theorem cut_perm {l : List Nat} {v : Nat} (h : v < l.length) : (l[v] :: (l.take v ++ l.drop (v + 1))).Perm l := by
  have e : l = l.take v ++ l[v] :: l.drop (v + 1) := by rw [← List.drop_eq_getElem_cons h, List.take_append_drop]
  have := List.perm_middle (a := l[v]) (l₁ := l.take v) (l₂ := l.drop (v + 1))
  rw [← e] at this
  exact this.symm
theorem row_loop (e : PyData) : ∀ (l : List Nat) (n : Nat) (d : PyData) (left found : List Nat) (s4 s5 : Option Slt), isIo (some s4) = false → isIo (some s5) = false → Gn n d → n + l.length ≤ 2 ^ 59 → left.length = l.length → left.length + found.length ≤ 1000 →
    ∃ fnd d' s4' s5', fnd.Perm (found ++ left) ∧ Gn (n + l.length) d' ∧ loopD (bNm 4) rowBody (il l) [some (.io d), some (.fz e), some (.ow (dn left)), some (.ow (dn found)), s4, s5] = some (.nx [some (.io d'), some (.fz e), some (.ow (dn [])), some (.ow (dn fnd)), s4', s5'])
  | [], n, d, left, found, s4, s5, _, _, g, _, hl, _ => by
    have : left = [] := List.eq_nil_of_length_eq_zero hl
    subst this
    exact ⟨found, d, s4, s5, by simp, g, rfl⟩
  | k :: l, n, d, left, found, s4, s5, h4, h5, g, hn, hl, hb => by
    simp only [List.length_cons] at hn hl
    obtain ⟨v, d1, hv, g1, e1⟩ := sp_random (k := left.length) g (by omega) (by omega) (by omega)
    have hlen : (left.take v ++ left.drop (v + 1)).length = l.length := by simp; omega
    obtain ⟨fnd, d', s4', s5', hp, g', e2⟩ := row_loop e l (n + 1) d1 (left.take v ++ left.drop (v + 1)) (found ++ [left[v]]) (some (.fz (iD k))) (some (.fz (iD v))) rfl rfl g1 (by omega) hlen (by simp at hlen ⊢; omega)
    refine ⟨fnd, d', s4', s5', hp.trans ?_, by rw [show n + (k :: l).length = n + 1 + l.length by simp; omega]; exact g', ?_⟩
    · rw [List.append_assoc]
      exact (List.Perm.append_left found (cut_perm hv))
    · rw [il_cons, loop_nx (r2 := [some (.io d1), some (.fz e), some (.ow (dn (left.take v ++ left.drop (v + 1)))), some (.ow (dn (found ++ [left[v]]))), some (.fz (iD k)), some (.fz (iD v))]), e2]
      have e1 : m__law_random [some (.io d), some (.fz (.int (left.length : Int)))] = some (.v (iD v), [some (.io d1), some (.fz (.int (left.length : Int)))]) := e1
      have ei : dIxA (dn left) (iD v) = some (.v (iD left[v])) := by rw [ixA_iD, List.getElem?_eq_getElem hv]; rfl
      have ea : PyData.list (il found ++ [iD left[v]]) = dn (found ++ [left[v]]) := by show PyData.list (il found ++ il [left[v]]) = _; rw [il_app]; rfl
      have hf : found.length < 16000000 := by omega
      have a1 : dAdd (dn (left.take v)) (dn (left.drop (v + 1))) = some (.n (dn (left.take v ++ left.drop (v + 1)))) := add_dn _ _ (by simp; omega)
      simp [rowBody, h4, h5, e1, ei, ea, hf, a1]
theorem ord_rev {k : Nat} (hk : 2 ≤ k) (hk2 : k ≤ 40) : Ord (List.range k).reverse := by
  refine Ord.mk' ((List.reverse_perm _).nodup_iff.mpr List.nodup_range) (fun x hx => ?_) (by simpa using hk) (by simpa using hk2) (fun j h0 hj => ?_)
  · rw [List.length_reverse, List.length_range]
    exact List.mem_range.mp (List.mem_reverse.mp hx)
  · rw [List.length_reverse, List.length_range] at hj
    refine ⟨0, k - 1, h0, ?_, by omega⟩
    rw [List.getElem?_reverse (by simp; omega), List.length_range, List.getElem?_range (by omega)]
    rfl
end K36

namespace K36
open PySem PySem.Spec PyProof.Rows L2 TL
theorem sum_ints (l : List Int) : bSum [.list (l.map .int)] = some (.v (.int l.sum)) := by
  show (intsOf (l.map .int)).map (fun ns => Hd.v (.int ns.sum)) = _
  rw [intsOf_map]; rfl
theorem sp_law_cell (ns : List Int) : ∃ i : Int, m__law_cell [some (.sc ns), some (.fz (.int 0))] = some (.v (.int i), [some (.sc ns), some (.fz (.int 0))]) := by
  by_cases h : ns = []
  · subst h
    have e : bSum [.list []] = some (.v (.int 0)) := rfl
    have e2 : dMod (.int 0) (.int 1000003) = some (.v (.int 0)) := mod_ok (by omega)
    exact ⟨0, by simp [m__law_cell, b__law_cell_body, dCmp, e, e2]⟩
  · obtain ⟨x, l, rfl⟩ : ∃ x l, ns = x :: l := by
      cases ns with
      | nil => exact absurd rfl h
      | cons x l => exact ⟨x, l, rfl⟩
    have e : atI (x :: l) 0 = some x := by rw [show (0 : Int) = ((0 : Nat) : Int) from rfl, TL.atI_nat]; rfl
    have e2 : (0 : Int) < (l.length : Int) + 1 := by omega
    exact ⟨x, by simp [m__law_cell, b__law_cell_body, dCmp, e, e2]⟩
theorem pow_ok {i j : Int} (h : CPowA i j) : dPow (.int i) (.int j) = some (.v (.int (i ^ j.toNat))) := if_pos h
theorem sp_law_generator (ns : List Int) : ∃ d, Gn 0 d ∧ m__law_generator [some (.sc ns), some (.fz (.int 0))] = some (.n d, [some (.sc ns), some (.fz (.int 0))]) := by
  obtain ⟨i, e0⟩ := sp_law_cell ns
  have p1 := pow_ok (i := 10) (j := 18) (by decide +kernel)
  have p2 := pow_ok (i := 10) (j := 60) (by decide +kernel)
  have p3 := pow_ok (i := 10 ^ (60 : Int).toNat) (j := 10) (by decide +kernel)
  obtain ⟨x, hx⟩ : ∃ x : Int, x = 10 ^ (18 : Int).toNat := ⟨_, rfl⟩
  obtain ⟨y, hy⟩ : ∃ y : Int, y = 10 ^ (60 : Int).toNat := ⟨_, rfl⟩
  rw [← hy] at p2 p3
  obtain ⟨z, hz⟩ : ∃ z : Int, z = y ^ (10 : Int).toNat := ⟨_, rfl⟩
  rw [← hx] at p1
  rw [← hz] at p3
  have hz0 : 0 < z := by
    rw [hz, hy]
    exact Int.pow_pos (Int.pow_pos (by omega))
  clear hz hy hx
  obtain ⟨a, ha⟩ : ∃ a : Int, bMax [.int (i - x), .int 0] = some (.v (.int a)) := ⟨_, rfl⟩
  have d1 : dMod (.int a) (.int z) = some (.v (.int (a % z))) := mod_ok hz0
  have d2 : dMod (.int i) (.int 2147483647) = some (.v (.int (i % 2147483647))) := mod_ok (by omega)
  have m1 : dMulA (.int 1000) (.int 0) = some (.v (.int (1000 * 0))) := mul_ok (.inl (by omega))
  refine ⟨.list [.int (a % z), .int (i % 2147483647), .int 0], ⟨_, _, _, rfl, Int.emod_nonneg _ (by omega), Int.emod_nonneg _ (by omega), Int.emod_lt_of_pos _ (by omega), by omega, by omega⟩, ?_⟩
  simp [m__law_generator, b__law_generator_body, e0, p1, p2, p3, ha, d1, d2, m1]
end K36

namespace K36
open PySem PySem.Spec PyProof.Rows L2 TL
/-! ### generators of any place -/
theorem sp_law_cell_at (ns : List Int) (i : Nat) : ∃ x : Int, m__law_cell [some (.sc ns), some (.fz (iD i))] = some (.v (.int x), [some (.sc ns), some (.fz (iD i))]) := by
  by_cases h : i < ns.length
  · refine ⟨ns[i], ?_⟩
    have e : atI ns (i : Int) = some ns[i] := by rw [TL.atI_nat]; exact List.getElem?_eq_getElem h
    have e2 : (i : Int) < (ns.length : Int) := by omega
    simp [m__law_cell, b__law_cell_body, dCmp, iD, e, e2]
  · have e2 : ¬ (i : Int) < (ns.length : Int) := by omega
    have e : bSum [.list ((ns.take (HT.sIx ns.length ns.length (some 1))).map .int)] = some (.v (.int (ns.take (HT.sIx ns.length ns.length (some 1))).sum)) := sum_ints _
    have e3 : ∀ a : Int, dMod (.int a) (.int 1000003) = some (.v (.int (a % 1000003))) := fun a => mod_ok (by omega)
    refine ⟨(ns.take (HT.sIx ns.length ns.length (some 1))).sum % 1000003, ?_⟩
    simp only [List.map_take] at e
    simp [m__law_cell, b__law_cell_body, dCmp, iD, e, e2, e3]
theorem sp_law_generator_at (ns : List Int) (k : Nat) (hk : k ≤ 1000) : ∃ d, Gn (1000 * k) d ∧ m__law_generator [some (.sc ns), some (.fz (iD k))] = some (.n d, [some (.sc ns), some (.fz (iD k))]) := by
  obtain ⟨i, e0⟩ := sp_law_cell_at ns k
  have p1 := pow_ok (i := 10) (j := 18) (by decide +kernel)
  have p2 := pow_ok (i := 10) (j := 60) (by decide +kernel)
  have p3 := pow_ok (i := 10 ^ (60 : Int).toNat) (j := 10) (by decide +kernel)
  obtain ⟨x, hx⟩ : ∃ x : Int, x = 10 ^ (18 : Int).toNat := ⟨_, rfl⟩
  obtain ⟨y, hy⟩ : ∃ y : Int, y = 10 ^ (60 : Int).toNat := ⟨_, rfl⟩
  rw [← hy] at p2 p3
  obtain ⟨z, hz⟩ : ∃ z : Int, z = y ^ (10 : Int).toNat := ⟨_, rfl⟩
  rw [← hx] at p1
  rw [← hz] at p3
  have hz0 : 0 < z := by
    rw [hz, hy]
    exact Int.pow_pos (Int.pow_pos (by omega))
  clear hz hy hx
  obtain ⟨a, ha⟩ : ∃ a : Int, bMax [.int (i - x), .int 0] = some (.v (.int a)) := ⟨_, rfl⟩
  have d1 : dMod (.int a) (.int z) = some (.v (.int (a % z))) := mod_ok hz0
  have d2 : dMod (.int i) (.int 2147483647) = some (.v (.int (i % 2147483647))) := mod_ok (by omega)
  have m1 : dMulA (.int 1000) (iD k) = some (.v (.int (1000 * (k : Int)))) := mul_ok (.inl (by omega))
  refine ⟨.list [.int (a % z), .int (i % 2147483647), .int (1000 * (k : Int))], ⟨_, _, _, rfl, Int.emod_nonneg _ (by omega), Int.emod_nonneg _ (by omega), Int.emod_lt_of_pos _ (by omega), by omega, by omega⟩, ?_⟩
  simp [m__law_generator, b__law_generator_body, e0, p1, p2, p3, ha, d1, d2, m1]
/-! ### rows drawn by pop -/
noncomputable def drLoop : FS := fExp (sApp 4 (sPopAt 3 (sCall m__law_random (some 0) (aCons (sVar 0) (aCons (sBc bLen (aCons (sVar 3) (aNil))) (aNil))))))
theorem eraseIdx_perm {l : List Nat} {v : Nat} (h : v < l.length) : (l[v] :: l.eraseIdx v).Perm l := by
  rw [List.eraseIdx_eq_take_drop_succ]
  exact cut_perm h
theorem il_erase (l : List Nat) (v : Nat) : (il l).eraseIdx v = il (l.eraseIdx v) := by
  simp only [il, List.eraseIdx_eq_take_drop_succ, List.map_append, List.map_take, List.map_drop]
theorem dr_loop (e : PyData) (s2 : Option Slt) : ∀ (l : List Nat) (n : Nat) (d : PyData) (left found : List Nat) (s5 s6 : Option Slt), isIo (some s5) = false → Gn n d → n + l.length ≤ 2 ^ 59 → left.length = l.length → left.length + found.length ≤ 1000 →
    ∃ fnd d' s5', fnd.Perm (found ++ left) ∧ isIo (some s5') = false ∧ Gn (n + l.length) d' ∧ loopD (bNm 5) drLoop (il l) [some (.io d), some (.fz e), s2, some (.ow (dn left)), some (.ow (dn found)), s5, s6] = some (.nx [some (.io d'), some (.fz e), s2, some (.ow (dn [])), some (.ow (dn fnd)), s5', s6])
  | [], n, d, left, found, s5, s6, h5, g, _, hl, _ => by
    have : left = [] := List.eq_nil_of_length_eq_zero hl
    subst this
    exact ⟨found, d, s5, by simp, h5, g, rfl⟩
  | k :: l, n, d, left, found, s5, s6, h5, g, hn, hl, hb => by
    simp only [List.length_cons] at hn hl
    obtain ⟨v, d1, hv, g1, e1⟩ := sp_random (k := left.length) g (by omega) (by omega) (by omega)
    have hlen : (left.eraseIdx v).length = l.length := by rw [List.length_eraseIdx_of_lt hv]; omega
    obtain ⟨fnd, d', s5', hp, h5', g', e2⟩ := dr_loop e s2 l (n + 1) d1 (left.eraseIdx v) (found ++ [left[v]]) (some (.fz (iD k))) s6 rfl g1 (by omega) hlen (by simp at hlen ⊢; omega)
    refine ⟨fnd, d', s5', hp.trans ?_, h5', by rw [show n + (k :: l).length = n + 1 + l.length by simp; omega]; exact g', ?_⟩
    · rw [List.append_assoc]
      exact (List.Perm.append_left found (eraseIdx_perm hv))
    · rw [il_cons, loop_nx (r2 := [some (.io d1), some (.fz e), s2, some (.ow (dn (left.eraseIdx v))), some (.ow (dn (found ++ [left[v]]))), some (.fz (iD k)), s6]), e2]
      have e1 : m__law_random [some (.io d), some (.fz (.int (left.length : Int)))] = some (.v (iD v), [some (.io d1), some (.fz (.int (left.length : Int)))]) := e1
      have ea : PyData.list (il found ++ [iD left[v]]) = dn (found ++ [left[v]]) := by show PyData.list (il found ++ il [left[v]]) = _; rw [il_app]; rfl
      have hf : found.length < 16000000 := by omega
      have ev : (il left)[v]? = some (iD left[v]) := by rw [il_get, List.getElem?_eq_getElem hv]; rfl
      have hc : v < 16000000 := by omega
      have hc' : (v : Int) < 16000000 := by omega
      have hv0 : okR (v : Int) = true := okR_nat (by omega)
      have ev2 : ∀ h, (il left)[v]'h = iD left[v] := fun h => by simp [il]
      simp [drLoop, h5, e1, hf, il_erase, hc, hc', hv, hv0, list_il, ev2, ea]
/-- sorted -/
noncomputable def srt (q : List Nat) : List Nat := q.mergeSort fun a b => decide (a ≤ b)
theorem srt_perm (q : List Nat) : (srt q).Perm q := List.mergeSort_perm ..
theorem srt_pw (q : List Nat) : (srt q).Pairwise (· ≤ ·) := by
  have := List.pairwise_mergeSort (le := fun a b : Nat => decide (a ≤ b)) (fun a b c h1 h2 => by simp at *; omega) (fun a b => by simp; omega) q
  exact this.imp fun h => by simpa using h
theorem sorted_srt (q : List Nat) : bSorted [dn q] = some (.n (dn (srt q))) := sorted_dn (srt_perm q) (srt_pw q)
theorem irr_srt {p : List Nat} (nd : p.Nodup) (h : ∀ k, 1 ≤ k → k < p.length → srt (p.take k) ≠ List.range k) : K36.Irr p := by
  intro k h0 hk
  refine Classical.byContradiction fun hn => h k h0 hk ?_
  have hall : ∀ x ∈ p.take k, x < k := fun x hx => by
    obtain ⟨j, hj⟩ := List.mem_iff_getElem?.mp hx
    rw [List.getElem?_take] at hj
    split at hj
    · exact Nat.lt_of_not_le fun hle => hn ⟨j, x, by assumption, hj, hle⟩
    · cases hj
  have hlen : (p.take k).length = k := by rw [List.length_take]; omega
  have pm := perm_of (p := p.take k) (nd.sublist (List.take_sublist _ _)) (by rw [hlen]; exact hall)
  rw [hlen] at pm
  refine List.Perm.eq_of_pairwise (le := (· ≤ ·)) (fun a b _ _ h1 h2 => by omega) (srt_pw _) (range_pw k) ((srt_perm _).trans pm.symm)
noncomputable def drCond : FE := sLc [6] (wRg2 (sC (.int 1)) (sVar 1)) (bNm 6) (t2 dEq (sBc bSorted (aCons (sSl (sVar 4) (oNo) (oSo (sVar 6))) (aNil))) (sRg1 (sVar 6))) (sVar 6)
theorem rgD_map (a b : Nat) : rgD (a : Int) (b : Int) = il ((List.range (b - a)).map (a + ·)) := by
  unfold rgD il
  rw [List.map_map, show ((b : Int) - (a : Int)).toNat = b - a by omega]
  refine List.map_congr_left fun i _ => ?_
  show PyData.int _ = PyData.int _
  congr 1
theorem dr_cond {k : Nat} (hk2 : k ≤ 100) (p : List Nat) (hp : p.length = k) (d : PyData) (s2 s3 s5 : Option Slt) : ∃ l, (l = [] → ∀ j, 1 ≤ j → j < k → srt (p.take j) ≠ List.range j) ∧
    drCond [some (.io d), some (.fz (iD k)), s2, s3, some (.ow (dn p)), s5, none] = some (.n (dn l), [some (.io d), some (.fz (iD k)), s2, s3, some (.ow (dn p)), s5, none]) := by
  have li : inLim 1 = true := rfl
  have li2 : inLim (k : Int) = true := inLim_nat (by omega)
  have e : rgD 1 (k : Int) = il ((List.range (k - 1)).map (1 + ·)) := rgD_map 1 k
  have lc : lcD [6] (bNm 6) (t2 dEq (sBc bSorted (aCons (sSl (sVar 4) (oNo) (oSo (sVar 6))) (aNil))) (sRg1 (sVar 6))) (sVar 6) (il ((List.range (k - 1)).map (1 + ·))) [some (.io d), some (.fz (iD k)), s2, s3, some (.ow (dn p)), s5, none] [] =
      some (il (((List.range (k - 1)).map (1 + ·)).filter fun j => decide (srt (p.take j) = List.range j)), [some (.io d), some (.fz (iD k)), s2, s3, some (.ow (dn p)), s5, none]) := by
    refine lcD_sub _ (by simp; omega) fun j hj => ?_
    have hj2 : j ≤ 16000000 := by
      obtain ⟨i, hi, rfl⟩ := List.mem_map.mp hj
      rw [List.mem_range] at hi
      omega
    have hle : okR (j : Int) = true := okR_nat (by omega)
    by_cases h : srt (p.take j) = List.range j <;> simp [lcStep, sorted_srt, hle, rgD_dn, h]
  refine ⟨_, fun h j h1 h2 hz => ?_, by simp [drCond, li, li2, e, lc, list_il]; rfl⟩
  have : j ∈ (((List.range (k - 1)).map (1 + ·)).filter fun j => decide (srt (p.take j) = List.range j)) := by
    rw [List.mem_filter]
    refine ⟨List.mem_map.mpr ⟨j - 1, List.mem_range.mpr (by omega), by omega⟩, by simpa using hz⟩
  rw [h] at this
  cases this
noncomputable def drawBody : FS := fSeq (fPar [3, 4] (aCons (sRg1 (sVar 1)) (aCons (sLst (aNil)) (aNil)))) (fSeq (fFor (wRg1 (sVar 1)) (bNm 5) drLoop) (fIf (t2 dEq drCond (sLst (aNil))) (fRet (sVar 4)) (fSkip)))
theorem draw_loop {k : Nat} (hk : 2 ≤ k) (hk2 : k ≤ 40) : ∀ (l : List Nat) (n : Nat) (d : PyData) (s2 s3 s4 s5 : Option Slt), isIo (some s2) = false → isIo (some s3) = false → isIo (some s4) = false → isIo (some s5) = false → Gn n d → n + l.length * k ≤ 2 ^ 58 →
    ∃ d' s2' s3' s4' s5', Gn (n + l.length * k) d' ∧ ((loopD (bNm 2) drawBody (il l) [some (.io d), some (.fz (iD k)), s2, s3, s4, s5, none] = some (.nx [some (.io d'), some (.fz (iD k)), s2', s3', s4', s5', none])) ∨
      ∃ p, Ord p ∧ p.length = k ∧ loopD (bNm 2) drawBody (il l) [some (.io d), some (.fz (iD k)), s2, s3, s4, s5, none] = some (.rt (.s 4) [some (.io d'), some (.fz (iD k)), s2', s3', some (.ow (dn p)), s5', none]))
  | [], n, d, s2, s3, s4, s5, _, _, _, _, g, _ => ⟨d, s2, s3, s4, s5, by simpa using g, .inl rfl⟩
  | x :: l, n, d, s2, s3, s4, s5, h2, h3, h4, h5, g, hn => by
    simp only [List.length_cons, Nat.add_mul, Nat.one_mul] at hn
    obtain ⟨p, d1, s5', hp, h5', g1, e1⟩ := dr_loop (iD k) (some (.fz (iD x))) (List.range k) n d (List.range k) [] s5 none h5 g (by simp; omega) (by simp) (by simp; omega)
    rw [List.length_range] at g1
    simp only [List.nil_append] at hp
    have hpl : p.length = k := by rw [hp.length_eq, List.length_range]
    obtain ⟨fl, hfl, e2⟩ := dr_cond (k := k) (by omega) p hpl d1 (some (.fz (iD x))) (some (.ow (dn []))) s5'
    have gm : ∀ {m : Nat} {d : PyData}, Gn (n + k + m) d → m ≤ l.length * k → Gn (n + (x :: l).length * k) d := fun g h => g.mono (by simp only [List.length_cons, Nat.add_mul, Nat.one_mul]; omega)
    have hle : okR (k : Int) = true := okR_nat (by omega)
    have li : inLim (k : Int) = true := inLim_nat (by omega)
    by_cases hf : fl = []
    · refine ⟨d1, some (.fz (iD x)), some (.ow (dn [])), none, s5', gm (m := 0) g1 (Nat.zero_le _), .inr ⟨p, Ord.mk' (hp.nodup_iff.mpr List.nodup_range) (fun y hy => by rw [hpl]; exact List.mem_range.mp (hp.subset hy)) (by omega) (by omega) (irr_srt (hp.nodup_iff.mpr List.nodup_range) (by rw [hpl]; exact hfl hf)), hpl, ?_⟩⟩
      rw [il_cons, loop_rt (a := .s 4)]
      simp [drawBody, h2, h3, h4, hle, rgD_dn, list_nil]
      simp [li, rgD_iD, e1, e2, hf]
    · obtain ⟨d', s2', s3', s4', s5'', g', h⟩ := draw_loop hk hk2 l (n + k) d1 (some (.fz (iD x))) (some (.ow (dn []))) (some (.ow (dn p))) s5' rfl rfl rfl h5' g1 (by omega)
      have ex : loopD (bNm 2) drawBody (il (x :: l)) [some (.io d), some (.fz (iD k)), s2, s3, s4, s5, none] = loopD (bNm 2) drawBody (il l) [some (.io d1), some (.fz (iD k)), some (.fz (iD x)), some (.ow (dn [])), some (.ow (dn p)), s5', none] := by
        rw [il_cons, loop_nx (r2 := [some (.io d1), some (.fz (iD k)), some (.fz (iD x)), some (.ow (dn [])), some (.ow (dn p)), s5', none])]
        simp [drawBody, h2, h3, h4, hle, rgD_dn, list_nil]
        simp [li, rgD_iD, e1, e2, hf]
      rw [ex]
      exact ⟨d', s2', s3', s4', s5'', gm (m := l.length * k) g' (Nat.le_refl _), h⟩
end K36

namespace K36
open PySem PySem.Spec PyProof.Rows L2 TL
/-! ### what repr may be asked of -/
structure Sm (d : PyData) (k w : Nat) : Prop where
  lay : d.canLay0 = true
  shw : d.showable = true
  dep : d.depth ≤ k
  wid : wd d ≤ w
theorem Sm.ok {d : PyData} {k w : Nat} (h : Sm d k w) (hk : k ≤ 60) (hw : w ≤ 16000000) : shOk d = true := by
  have h3 : d.depth ≤ 60 := Nat.le_trans h.dep hk
  have h4 : wd d ≤ 16000000 := Nat.le_trans h.wid hw
  simp only [shOk, h.lay, h.shw, h3, h4, decide_true, Bool.and_self]
theorem Sm.up {d : PyData} {k w k' w' : Nat} (h : Sm d k w) (hk : k ≤ k') (hw : w ≤ w') : Sm d k' w' := ⟨h.lay, h.shw, Nat.le_trans h.dep hk, Nat.le_trans h.wid hw⟩
theorem Sm.num {x : Nat} (h : x ≤ 1000000000000) : Sm (iD x) 1 1924 := by
  have := show_int (small_lt h)
  simp only [shOk, Bool.and_eq_true, decide_eq_true_eq] at this
  exact ⟨this.1, this.2.1, by simp [iD, PyData.depth], by simp [iD, wd]⟩
theorem Sm.list {ds : List PyData} {k w : Nat} (h : ∀ d ∈ ds, Sm d k w) : Sm (.list ds) (k + 1) (2 + ds.length * (w + 2)) := by
  have a1 : PyData.canLayAll0 ds = true := canLayAll_of fun d hd => (h d hd).lay
  have a2 : ∀ es : List PyData, (∀ d ∈ es, Sm d k w) → PyData.showableAll es = true := fun es he => by
    induction es with
    | nil => rfl
    | cons d es ih =>
      simp only [PyData.showableAll, Bool.and_eq_true]
      exact ⟨(he d List.mem_cons_self).shw, ih fun x hx => he x (List.mem_cons_of_mem _ hx)⟩
  have a3 : ∀ es : List PyData, (∀ d ∈ es, Sm d k w) → PyData.depthAll es ≤ k := fun es he => by
    induction es with
    | nil => simp [PyData.depthAll]
    | cons d es ih =>
      have := (he d List.mem_cons_self).dep
      have := ih fun x hx => he x (List.mem_cons_of_mem _ hx)
      simp only [PyData.depthAll]
      omega
  have a4 : ∀ es : List PyData, (∀ d ∈ es, Sm d k w) → wdA es ≤ es.length * (w + 2) := fun es he => by
    induction es with
    | nil => simp [wdA]
    | cons d es ih =>
      have h1 := (he d List.mem_cons_self).wid
      have h2 := ih fun x hx => he x (List.mem_cons_of_mem _ hx)
      simp only [wdA, List.length_cons, Nat.add_mul, Nat.one_mul]
      omega
  have b3 := a3 ds h
  have b4 := a4 ds h
  refine ⟨by simp only [PyData.canLay0]; exact a1, by simp only [PyData.showable]; exact a2 ds h, by simp only [PyData.depth]; omega, by simp only [wd]; omega⟩
theorem Sm.row {p : List Nat} (h : ∀ x ∈ p, x ≤ 1000000000000) : Sm (dn p) 2 (2 + p.length * 1926) := by
  have := Sm.list (ds := p.map iD) (k := 1) (w := 1924) fun d hd => by
    obtain ⟨x, hx, rfl⟩ := List.mem_map.mp hd
    exact Sm.num (h x hx)
  rw [List.length_map] at this
  rw [dn_eq]; exact this
theorem Sm.bool (b : Bool) : Sm (.bool b) 1 1924 := by
  have : shOk (.bool b) = true := by cases b <;> rfl
  simp only [shOk, Bool.and_eq_true, decide_eq_true_eq] at this
  refine ⟨this.1, this.2.1, ?_, ?_⟩ <;> cases b <;> simp [PyData.depth, wd]
theorem Sm.none : Sm .none 1 1924 := by
  have : shOk .none = true := rfl
  simp only [shOk, Bool.and_eq_true, decide_eq_true_eq] at this
  exact ⟨this.1, this.2.1, by simp [PyData.depth], by simp [wd]⟩
theorem repr_of {d : PyData} (h : shOk d = true) (hn : ∀ kv, d ≠ .dict kv) : bReprA [d] = some (.v (.str d.shown)) := by
  have e : bReprA [d] = bRepr [d] := by cases d <;> first | rfl | exact absurd rfl (hn _)
  rw [e]; exact bRepr_of h
end K36

namespace K36
open PySem PySem.Spec PyProof.Rows L2 TL
/-! ### lists of rows -/
noncomputable def rwD (l : List (List Nat)) : PyData := .list (l.map dn)
noncomputable def elO (d : PyData) : Bool := d.canLay0 && decide (d.depth ≤ 3)
theorem layO : ∀ {ds : List PyData}, (∀ d ∈ ds, elO d = true) → PyData.canLayAll0 ds = true ∧ PyData.depthAll ds ≤ 3
  | [], _ => ⟨rfl, Nat.zero_le _⟩
  | d :: ds, h => by
    have h1 := h d List.mem_cons_self
    simp only [elO, Bool.and_eq_true, decide_eq_true_eq] at h1
    have h2 := layO fun x hx => h x (List.mem_cons_of_mem _ hx)
    simp only [PyData.canLayAll0, PyData.depthAll, h1.1, h2.1, Bool.and_self, true_and]
    omega
theorem shaped_elO {ds : List PyData} (h : ∀ d ∈ ds, elO d = true) : SeqAt.shaped (.list ds) = true := by
  have := layO h
  have h2 := this.2
  simp [SeqAt.shaped, PyData.canLay0, PyData.depth, this.1]
  omega
theorem elO_dn (p : List Nat) : elO (dn p) = true := by
  have h := canLayAll_dn p
  rw [dn_eq]
  simp [elO, PyData.canLay0, PyData.depth, h, depthAll_dn]
theorem shaped_rw (l : List (List Nat)) : SeqAt.shaped (rwD l) = true := shaped_elO fun d hd => by
  obtain ⟨p, _, rfl⟩ := List.mem_map.mp hd
  exact elO_dn p
theorem eqv_dn (p q : List Nat) : PyData.eqv (dn p) (dn q) = decide (p = q) := by
  rw [dn_eq, dn_eq]
  simp only [PyData.eqv, eqvAll_dn]
theorem notin_rw (x : List Nat) (l : List (List Nat)) : dNotInA (dn x) (rwD l) = some (!decide (x ∈ l)) := by
  show ((if SeqAt.shaped (dn x) = true ∧ SeqAt.shaped (rwD l) = true then some ((l.map dn).any fun z => PyData.eqv z (dn x)) else none)).map (!·) = _
  rw [if_pos ⟨shaped_dn x, shaped_rw l⟩, List.any_map]
  simp only [Option.map_some]
  congr 2
  induction l with
  | nil => simp
  | cons y l ih =>
    simp only [List.any_cons, Function.comp_apply, eqv_dn, ih, List.mem_cons]
    by_cases h : x = y
    · subst h; simp
    · have : ¬ y = x := fun z => h z.symm
      simp [h, this]
theorem ix_rw {l : List (List Nat)} {i : Nat} (h : i < l.length) : dIxA (rwD l) (iD i) = some (.v (dn l[i])) := by
  show (atI (l.map dn) ((i : Nat) : Int)).map Hd.v = _
  rw [TL.atI_nat, List.getElem?_map, List.getElem?_eq_getElem h]; rfl
theorem index_rw {l : List (List Nat)} {x : List Nat} (h : x ∈ l) (hl : l.length ≤ 1000) : mIndex (rwD l) [dn x] = some (.v (iD (l.idxOf x))) := by
  show (if SeqAt.shaped (dn x) = true ∧ SeqAt.shaped (rwD l) = true ∧ (l.map dn).length ≤ 16000000 then (firstAt (l.map dn) (dn x)).map fun j => Hd.v (.int (j : Nat)) else none) = _
  rw [if_pos ⟨shaped_dn x, shaped_rw l, by rw [List.length_map]; omega⟩]
  have : firstAt (l.map dn) (dn x) = some (l.idxOf x) := by
    unfold firstAt
    rw [List.findIdx?_map]
    have e : ((fun z => PyData.eqv z (dn x)) ∘ dn) = fun y => y == x := by
      funext y
      simp only [Function.comp_apply, eqv_dn]
      by_cases h : y = x <;> simp [h]
    rw [e]
    have hlt := List.idxOf_lt_length_of_mem h
    rw [List.findIdx?_eq_some_iff_getElem]
    refine ⟨hlt, by simp, fun j hj => ?_⟩
    simpa using List.not_of_lt_findIdx (p := fun y => y == x) hj
  rw [this]; rfl
noncomputable def zs (p : List Nat) : List Int := p.map fun k : Nat => (k : Int)
theorem zs_inj {p q : List Nat} (h : zs p = zs q) : p = q := by
  unfold zs at h
  exact List.map_inj_right (fun a b h => by omega) |>.mp h
noncomputable def srw (l : List (List Nat)) : List (List Nat) := l.mergeSort fun p q => decide (zs p ≤ zs q)
theorem sortD_rw (l : List (List Nat)) : sortD (l.map dn) = (srw l).map dn := by
  unfold sortD srw
  have hm := List.map_mergeSort (r := PySem.W.dataLe false dn) (s := PySem.W.dataLe false id) (f := dn) (l := l) (fun _ _ _ _ => rfl)
  rw [← hm]
  have hd : dn = fun b => PyData.list ((zs b).map .int) := by
    funext b
    rw [dn_eq, dn_ints]; rfl
  have hle : PySem.W.dataLe false dn = fun p q => decide (zs p ≤ zs q) := by
    rw [hd]
    exact PySem.W.dataLe_rows zs
  rw [hle]
theorem srw_perm {l m : List (List Nat)} (h : l.Perm m) : srw l = srw m := by
  have tr : ∀ a b c : List Nat, decide (zs a ≤ zs b) = true → decide (zs b ≤ zs c) = true → decide (zs a ≤ zs c) = true := fun a b c h1 h2 => by
    simp only [decide_eq_true_eq] at *
    exact List.le_trans h1 h2
  have to : ∀ a b : List Nat, (decide (zs a ≤ zs b) || decide (zs b ≤ zs a)) = true := fun a b => by
    simp only [Bool.or_eq_true, decide_eq_true_eq]
    exact List.le_total _ _
  have s1 := List.pairwise_mergeSort tr to l
  have s2 := List.pairwise_mergeSort tr to m
  refine List.Perm.eq_of_pairwise (le := fun a b : List Nat => decide (zs a ≤ zs b) = true) (fun a b _ _ h1 h2 => ?_) s1 s2 ((List.mergeSort_perm ..).trans (h.trans (List.mergeSort_perm ..).symm))
  simp only [decide_eq_true_eq] at h1 h2
  exact zs_inj (List.le_antisymm h1 h2)
theorem sorted_rw {l : List (List Nat)} (h : l ≠ []) : bSorted [rwD l] = some (.n (rwD (srw l))) := by
  cases l with
  | nil => exact absurd rfl h
  | cons x l =>
    have e0 : intsOf ((x :: l).map dn) = none := rfl
    have al : ∀ a b : List Nat, PySem.W.alike (dn a) (dn b) = true := fun a b => by
      have h2 : ∀ a b : List Nat, PySem.W.alikeAll (a.map iD) (b.map iD) = true := fun a => by
        induction a with
        | nil => intro b; cases b <;> rfl
        | cons y a ih =>
          intro b
          cases b with
          | nil => rfl
          | cons z b =>
            simp only [List.map_cons, PySem.W.alikeAll, ih b, Bool.and_true]
            rfl
      rw [dn_eq, dn_eq]
      simp only [PySem.W.alike]
      exact h2 a b
    have e1 : sOk ((x :: l).map dn) = true := by
      unfold sOk
      rw [List.all_map, List.all_map, List.all_map, List.all_map]
      have a1 : (x :: l).all ((fun d => ((x :: l).map dn).all fun d' => PySem.W.alike d d') ∘ dn) = true := List.all_eq_true.mpr fun a _ => by
        show ((x :: l).map dn).all _ = true
        rw [List.all_map]
        exact List.all_eq_true.mpr fun b _ => al a b
      have a2 : (x :: l).all (notTup ∘ dn) = true := List.all_eq_true.mpr fun a _ => rfl
      have a3 : (x :: l).all ((fun d : PyData => d.canLay0 && decide (d.depth ≤ 60)) ∘ dn) = true := List.all_eq_true.mpr fun a _ => by
        have := elO_dn a
        simp only [elO, Bool.and_eq_true, decide_eq_true_eq] at this
        simp only [Function.comp_apply, Bool.and_eq_true, decide_eq_true_eq]
        exact ⟨this.1, by omega⟩
      rw [a1, a2, a3]; simp
    show (match intsOf ((x :: l).map dn) with | some ns => some (Hd.n (.list ((sortI ns).map .int))) | none => if sOk ((x :: l).map dn) = true then some (.n (.list (sortD ((x :: l).map dn)))) else none) = _
    rw [e0, e1, sortD_rw]; rfl
theorem ne_rw (l : List (List Nat)) : dNe (rwD l) (rwD l) = some false := dNe_self (shaped_rw l)
/-! ### the class -/
noncomputable def add1 (l : List (List Nat)) (x : List Nat) : List (List Nat) := if x ∈ l then l else l ++ [x]
theorem add1_get {l : List (List Nat)} {x h : List Nat} {i : Nat} (e : l[i]? = some h) : (add1 l x)[i]? = some h := by
  unfold add1
  split
  · exact e
  · rw [List.getElem?_append_left (List.getElem?_eq_some_iff.mp e).1, e]
theorem flat_rw (l : List (List Nat)) (h : l ≠ []) : flat (.n (rwD l)) = false := by
  cases l with
  | nil => exact absurd rfl h
  | cons x l => rfl
theorem add1_len (l : List (List Nat)) (x : List Nat) : (add1 l x).length ≤ l.length + 1 := by unfold add1; split <;> simp
theorem add1_mem {l : List (List Nat)} {x y : List Nat} (h : y ∈ add1 l x) : y ∈ l ∨ y = x := by
  unfold add1 at h
  split at h
  · exact .inl h
  · simpa using h
end K36

namespace K36
open PySem PySem.Spec PyProof.Rows L2 TL
/-! ### how many rows there may be -/
theorem nodup_sub {α : Type} [DecidableEq α] : ∀ (l m : List α), l.Nodup → (∀ x ∈ l, x ∈ m) → l.length ≤ m.length
  | [], m, _, _ => Nat.zero_le _
  | x :: l, m, nd, h => by
    have hx := h x List.mem_cons_self
    have nd' := List.nodup_cons.mp nd
    have := nodup_sub l (m.erase x) nd'.2 fun y hy => by
      have ne : y ≠ x := fun e => nd'.1 (e ▸ hy)
      exact (List.mem_erase_of_ne ne).mpr (h y (List.mem_cons_of_mem _ hy))
    rw [List.length_erase_of_mem hx] at this
    have : 0 < m.length := List.length_pos_of_mem hx
    simp only [List.length_cons]
    omega
noncomputable def insE (x : Nat) : List Nat → List (List Nat)
  | [] => [[x]]
  | y :: l => (x :: y :: l) :: (insE x l).map (y :: ·)
noncomputable def prm : Nat → List (List Nat)
  | 0 => [[]]
  | n + 1 => (prm n).flatMap (insE n)
noncomputable def fct : Nat → Nat
  | 0 => 1
  | n + 1 => fct n * (n + 1)
theorem insE_len (x : Nat) : ∀ l : List Nat, (insE x l).length = l.length + 1
  | [] => rfl
  | y :: l => by simp [insE, insE_len x l]
theorem insE_mem {x : Nat} : ∀ {p : List Nat}, x ∈ p → p ∈ insE x (p.erase x)
  | [], h => by cases h
  | y :: t, h => by
    by_cases e : y = x
    · subst e
      rw [List.erase_cons_head]
      cases t with
      | nil => simp [insE]
      | cons z t => simp [insE]
    · have ht : x ∈ t := by
        rcases List.mem_cons.mp h with h | h
        · exact absurd h.symm e
        · exact h
      rw [List.erase_cons_tail (by simpa using e)]
      simp only [insE, List.mem_cons, List.mem_map]
      exact .inr ⟨t, insE_mem ht, rfl⟩
theorem insE_el {x : Nat} : ∀ {l p : List Nat}, p ∈ insE x l → p.length = l.length + 1
  | [], p, h => by simp [insE] at h; rw [h]; rfl
  | y :: l, p, h => by
    simp only [insE, List.mem_cons, List.mem_map] at h
    rcases h with rfl | ⟨q, hq, rfl⟩
    · rfl
    · simp [insE_el hq]
theorem prm_el : ∀ {n : Nat} {p : List Nat}, p ∈ prm n → p.length = n
  | 0, p, h => by simp [prm] at h; rw [h]; rfl
  | n + 1, p, h => by
    obtain ⟨q, hq, hp⟩ := List.mem_flatMap.mp h
    rw [insE_el hp, prm_el hq]
theorem sum_const {α : Type} (f : α → Nat) (k : Nat) : ∀ l : List α, (∀ x ∈ l, f x = k) → (l.map f).sum = l.length * k
  | [], _ => by simp
  | x :: l, h => by
    rw [List.map_cons, List.sum_cons, sum_const f k l fun y hy => h y (List.mem_cons_of_mem _ hy), h x List.mem_cons_self, List.length_cons, Nat.add_mul, Nat.one_mul]
    omega
theorem prm_len : ∀ n, (prm n).length = fct n
  | 0 => rfl
  | n + 1 => by
    rw [prm, List.length_flatMap, sum_const _ (n + 1) _ fun x hx => by rw [insE_len, prm_el hx], prm_len n]
    rfl
theorem prm_mem : ∀ {n : Nat} {p : List Nat}, p.Perm (List.range n) → p ∈ prm n
  | 0, p, h => by rw [List.range_zero] at h; rw [h.eq_nil]; simp [prm]
  | n + 1, p, h => by
    have hn : n ∈ p := h.mem_iff.mpr (by simp)
    have h2 : (p.erase n).Perm (List.range n) := by
      have := h.erase n
      rw [List.range_succ, List.erase_append_right _ (by simp)] at this
      simpa using this
    exact List.mem_flatMap.mpr ⟨_, prm_mem h2, insE_mem hn⟩
/-! ### the walk of a class -/
noncomputable def stp2 (l : List (List Nat)) (h : List Nat) : List (List Nat) := add1 (add1 l (bh true h)) (bh false h)
noncomputable def bfs : Nat → List (List Nat) → Nat → List (List Nat)
  | 0, l, _ => l
  | k + 1, l, i => match l[i]? with
    | some h => bfs k (stp2 l h) (i + 1)
    | none => l
theorem add1_mem_iff {l : List (List Nat)} {x y : List Nat} : y ∈ add1 l x ↔ y ∈ l ∨ y = x := by
  unfold add1
  split
  · rename_i h
    exact ⟨.inl, fun z => z.elim id fun e => e ▸ h⟩
  · simp
theorem add1_nd {l : List (List Nat)} {x : List Nat} (h : l.Nodup) : (add1 l x).Nodup := by
  unfold add1
  split
  · exact h
  · rename_i hx
    exact List.nodup_append.mpr ⟨h, by simp, fun a ha b hb => by simp at hb; rw [hb]; exact fun e => hx (e ▸ ha)⟩
theorem stp2_get {l : List (List Nat)} {h x : List Nat} {i : Nat} (e : l[i]? = some x) : (stp2 l h)[i]? = some x := add1_get (add1_get e)
theorem stp2_mem {l : List (List Nat)} {h y : List Nat} : y ∈ stp2 l h ↔ y ∈ l ∨ y = bh true h ∨ y = bh false h := by
  unfold stp2
  rw [add1_mem_iff, add1_mem_iff, or_assoc]
/-- what holds while the class is walked -/
structure Wk (p : List Nat) (l : List (List Nat)) (i : Nat) : Prop where
  nd : l.Nodup
  st : p ∈ l
  rc : ∀ h ∈ l, ∃ w, h = fw w p
  cl : ∀ j h, j < i → l[j]? = some h → ∀ c, bh c h ∈ l
  le : i ≤ l.length
theorem fw_snoc (w : List Bool) (c : Bool) (p : List Nat) : fw (w ++ [c]) p = bh c (fw w p) := by simp [fw]
theorem Wk.step {p : List Nat} {l : List (List Nat)} {i : Nat} {h : List Nat} (W : Wk p l i) (e : l[i]? = some h) : Wk p (stp2 l h) (i + 1) := by
  have hm : h ∈ l := List.mem_of_getElem? e
  refine ⟨add1_nd (add1_nd W.nd), stp2_mem.mpr (.inl W.st), fun x hx => ?_, fun j x hj ex c => ?_, ?_⟩
  · obtain ⟨w, hw⟩ := W.rc h hm
    rcases stp2_mem.mp hx with hx | rfl | rfl
    · exact W.rc x hx
    · exact ⟨w ++ [true], by rw [fw_snoc, ← hw]⟩
    · exact ⟨w ++ [false], by rw [fw_snoc, ← hw]⟩
  · by_cases hji : j = i
    · subst hji
      rw [stp2_get e] at ex
      cases ex
      cases c
      · exact stp2_mem.mpr (.inr (.inr rfl))
      · exact stp2_mem.mpr (.inr (.inl rfl))
    · have hlt : j < l.length := by have := W.le; omega
      obtain ⟨y, hy⟩ : ∃ y, l[j]? = some y := ⟨_, List.getElem?_eq_getElem hlt⟩
      rw [stp2_get hy] at ex
      cases ex
      exact stp2_mem.mpr (.inl (W.cl j _ (by omega) hy c))
  · have h1 := (List.getElem?_eq_some_iff.mp e).1
    have h2 : l.length ≤ (stp2 l h).length := nodup_sub _ _ W.nd fun x hx => stp2_mem.mpr (.inl hx)
    omega
theorem Wk.len {p : List Nat} {l : List (List Nat)} {i : Nat} (W : Wk p l i) (o : Ord p) : l.length ≤ fct p.length := by
  rw [← prm_len]
  refine nodup_sub _ _ W.nd fun x hx => ?_
  obtain ⟨w, rfl⟩ := W.rc x hx
  obtain ⟨o2, l2⟩ := o.fw w
  have := o2.perm.symm
  rw [l2] at this
  exact prm_mem this
theorem bfs_done {p : List Nat} (o : Ord p) : ∀ (k : Nat) (l : List (List Nat)) (i : Nat), Wk p l i → fct p.length < k + i → ∃ i', Wk p (bfs k l i) i' ∧ i' = (bfs k l i).length
  | 0, l, i, W, h => by have := W.len o; have := W.le; omega
  | k + 1, l, i, W, h => by
    simp only [bfs]
    cases e : l[i]? with
    | none => exact ⟨i, W, by show i = l.length; have := W.le; have := List.getElem?_eq_none_iff.mp e; omega⟩
    | some x => exact bfs_done o k _ _ (W.step e) (by omega)
/-- the class, in the order in which it is met -/
noncomputable def cl (p : List Nat) : List (List Nat) := bfs (fct p.length + 1) [p] 0
theorem cl_walk {p : List Nat} (o : Ord p) : Wk p (cl p) (cl p).length := by
  obtain ⟨i, W, e⟩ := bfs_done o (fct p.length + 1) [p] 0 ⟨by simp, by simp, fun h hh => ⟨[], by simpa [fw] using hh⟩, fun j h hj => by omega, Nat.zero_le _⟩ (by omega)
  rw [e] at W
  exact W
theorem cl_closed {p h : List Nat} (o : Ord p) (hm : h ∈ cl p) (c : Bool) : bh c h ∈ cl p := by
  obtain ⟨j, hj, e⟩ := List.getElem_of_mem hm
  exact (cl_walk o).cl j h hj (by rw [List.getElem?_eq_getElem hj, e]) c
theorem cl_fw {p : List Nat} (o : Ord p) : ∀ (w : List Bool) {h : List Nat}, h ∈ cl p → fw w h ∈ cl p
  | [], h, hm => hm
  | c :: w, h, hm => cl_fw o w (cl_closed o hm c)
theorem cl_mem {p h : List Nat} (o : Ord p) : h ∈ cl p ↔ ∃ w, h = fw w p :=
  ⟨(cl_walk o).rc h, fun ⟨w, e⟩ => e ▸ cl_fw o w (cl_walk o).st⟩
theorem cl_ord {p h : List Nat} (o : Ord p) (hm : h ∈ cl p) : Ord h ∧ h.length = p.length := by
  obtain ⟨w, rfl⟩ := (cl_mem o).mp hm
  exact o.fw w
/-- closed under the ways back: the deeds send the class into itself, each order elsewhere -/
theorem cl_back {p h : List Nat} (o : Ord p) (hm : h ∈ cl p) (c : Bool) : ah c h ∈ cl p := by
  have nd : ((cl p).map (bh c)).Nodup := List.pairwise_map.mpr (List.Pairwise.imp_of_mem (fun {a b} ha hb ne e => ne (by
    have h1 := ((cl_ord o ha).1.bh c).2.1
    have h2 := ((cl_ord o hb).1.bh c).2.1
    rw [← h1, ← h2, e])) (cl_walk o).nd)
  have hin : h ∈ (cl p).map (bh c) := by
    by_cases z : h ∈ (cl p).map (bh c)
    · exact z
    · have := nodup_sub ((cl p).map (bh c)) ((cl p).erase h) nd fun x hx => by
        obtain ⟨y, hy, rfl⟩ := List.mem_map.mp hx
        have ne : bh c y ≠ h := fun e => z (e ▸ hx)
        exact (List.mem_erase_of_ne ne).mpr (cl_closed o hy c)
      rw [List.length_map, List.length_erase_of_mem hm] at this
      have := List.length_pos_of_mem hm
      omega
  obtain ⟨y, hy, e⟩ := List.mem_map.mp hin
  rw [← e, ((cl_ord o hy).1.bh c).2.1]
  exact hy
theorem cl_bw {p : List Nat} (o : Ord p) : ∀ (w : List Bool) {h : List Nat}, h ∈ cl p → bw w h ∈ cl p
  | [], h, hm => hm
  | c :: w, h, hm => cl_back o (cl_bw o w hm) c
theorem cl_sub {p q : List Nat} (o : Ord p) (hq : q ∈ cl p) : ∀ h ∈ cl p, h ∈ cl q := by
  have oq := (cl_ord o hq).1
  obtain ⟨w, hw⟩ := (cl_mem o).mp hq
  have hp : p ∈ cl q := by
    have z := cl_bw oq w (cl_walk oq).st
    have e : bw w q = p := by rw [hw]; exact bw_fw _ _ o
    rwa [e] at z
  intro h hh
  obtain ⟨v, rfl⟩ := (cl_mem o).mp hh
  exact cl_fw oq v hp
theorem cl_perm {p q : List Nat} (o : Ord p) (hq : q ∈ cl p) : (cl q).Perm (cl p) := by
  have oq := (cl_ord o hq).1
  have hp : p ∈ cl q := cl_sub o hq p (cl_walk o).st
  refine (List.perm_ext_iff_of_nodup (cl_walk oq).nd (cl_walk o).nd).mpr fun x => ⟨fun h => cl_sub oq hp x h, fun h => cl_sub o hq x h⟩
theorem srw_cl {p q : List Nat} (o : Ord p) (hq : q ∈ cl p) : srw (cl q) = srw (cl p) := srw_perm (cl_perm o hq)
end K36

namespace K36
open PySem PySem.Spec PyProof.Rows L2 TL
/-! ### what is known, by tuples -/
noncomputable def kT (l : List (List Nat)) : KD := l.map fun q => (.tuple (il q), .bool true)
noncomputable def kn (l : List (List Nat)) : PyData := .dict ((.none, .none) :: kT l)
theorem il_key (q : List Nat) : il q = (q.map fun k : Nat => (Sum.inl (k : Int) : Key)).map keyD := by
  unfold il
  rw [List.map_map]; rfl
theorem keysOf_key : ∀ ks : List Key, keysOf (ks.map keyD) = some ks
  | [] => rfl
  | k :: ks => by
    have : keyOf (keyD k) = some k := by cases k <;> rfl
    simp [keysOf, this, keysOf_key ks]
theorem keysOf_il (q : List Nat) : keysOf (il q) = some (q.map fun k : Nat => (Sum.inl (k : Int) : Key)) := by
  rw [il_key, keysOf_key]
theorem keyEq_il (p q : List Nat) : keyEq (.tuple (il p)) (.tuple (il q)) = decide (p = q) := by
  show keysEq (il p) (il q) = _
  rw [il_key, il_key, keysEq_D]
  refine decide_eq_decide.mpr ⟨fun h => ?_, fun h => by rw [h]⟩
  exact (List.map_inj_right (f := fun k : Nat => (Sum.inl (k : Int) : Key)) (fun a b e => by
    have := Sum.inl.inj e
    omega)).mp h
theorem look_kT (q : List Nat) (l : List (List Nat)) : lookK (kT l) (.tuple (il q)) = if q ∈ l then some (.bool true) else none := by
  induction l with
  | nil => rfl
  | cons x l ih =>
    unfold lookK kT at *
    rw [List.map_cons, List.find?_cons]
    simp only [keyEq_il]
    by_cases h : x = q
    · subst h; simp
    · have h2 : ¬ q = x := fun e => h e.symm
      rw [decide_eq_false h]
      simp only [List.mem_cons, h2, false_or]
      exact ih
theorem any_kT (q : List Nat) (l : List (List Nat)) : ((kT l).any fun p => keyEq p.1 (.tuple (il q))) = decide (q ∈ l) := by
  unfold kT
  rw [List.any_map]
  induction l with
  | nil => rfl
  | cons x l ih =>
    rw [List.any_cons, ih]
    simp only [Function.comp_apply, keyEq_il, List.mem_cons]
    by_cases h : x = q
    · subst h; simp
    · have h2 : ¬ q = x := fun e => h e.symm
      simp [h, h2]
theorem notin_kn (q : List Nat) (l : List (List Nat)) : dNotInA (.tuple (il q)) (kn l) = some (!decide (q ∈ l)) := by
  have e : dSel ((.none, .none) :: kT l) (.tuple (il q)) = some (true, kT l) := by
    show (keysOf (il q)).map _ = _
    rw [keysOf_il]; rfl
  show ((dSel ((.none, .none) :: kT l) (.tuple (il q))).map fun p => (lookK p.2 (.tuple (il q))).isSome).map (!·) = _
  rw [e, Option.map_some, Option.map_some, look_kT]
  by_cases h : q ∈ l <;> simp [h]
theorem put_kn {q : List Nat} {l : List (List Nat)} (h : q ∉ l) (hl : l.length < 16000000) : setItemD (kn l) (.tuple (il q)) (.bool true) = some (kn (l ++ [q])) := by
  have e : dSel ((.none, .none) :: kT l) (.tuple (il q)) = some (true, kT l) := by
    show (keysOf (il q)).map _ = _
    rw [keysOf_il]; rfl
  show (dSel ((.none, .none) :: kT l) (.tuple (il q))).bind (fun p => if p.2.length < 16000000 then some (PyData.dict (if p.1 = true then (.none, .none) :: putKD p.2 (.tuple (il q)) (.bool true) else putKD p.2 (.tuple (il q)) (.bool true))) else none) = _
  have hl2 : (kT l).length < 16000000 := by unfold kT; rw [List.length_map]; exact hl
  have pk : putKD (kT l) (.tuple (il q)) (.bool true) = kT (l ++ [q]) := by
    unfold putKD
    rw [any_kT, decide_eq_false h, if_neg Bool.false_ne_true]
    simp [kT]
  rw [e, Option.bind_some, if_pos hl2, if_pos rfl, pk]
  rfl
/-! ### class_by -/
noncomputable def clF : FS := fSeq (fAsg 5 (sPure (sCall m_behind_deed none (aCons (s2 dIxA (sVar 2) (sVar 3)) (aCons (sVar 4) (aNil)))))) (fIf (t2 dNotInA (sBc bTuple (aCons (sVar 5) (aNil))) (sVar 1)) (fSeq (fSetI 1 (sC (.bool true)) (sBc bTuple (aCons (sVar 5) (aNil)))) (fExp (sAppX 2 (sVar 5)))) (fSkip))
noncomputable def clW : FS := fSeq (fFor (wSeq (sC (.str (PySem.Str.ofString "ul")))) (bNm 4) clF) (fAsg 3 (s2 dAdd (sVar 3) (sC (.int 1))))
noncomputable def clT : FT := tPure (t2 dLt (sVar 3) (sBc bLen (aCons (sVar 2) (aNil))))
/-- what may stand in the two names of the loop -/
noncomputable def fre (s : Option Slt) : Prop := s = none ∨ (∃ d, s = some (.fz d)) ∨ ∃ d, s = some (.ow d)
theorem fre_io {s : Option Slt} (h : fre s) : isIo (some s) = false := by
  rcases h with rfl | ⟨d, rfl⟩ | ⟨d, rfl⟩ <;> rfl
theorem clF_one {h : List Nat} (o : Ord h) (d : PyData) (i : Nat) (c : Bool) (l : List (List Nat)) (e : l[i]? = some h) (hl : l.length ≤ 1000000) (s4 s5 : Option Slt) (h4 : fre s4) (h5 : fre s5) :
    ∃ s5', fre s5' ∧ (bNm 4 (sgD c) [some (.fz d), some (.ow (kn l)), some (.tr (rwD l)), some (.fz (iD i)), s4, s5]).bind clF = some (.nx [some (.fz d), some (.ow (kn (add1 l (bh c h)))), some (.tr (rwD (add1 l (bh c h)))), some (.fz (iD i)), some (.fz (sgD c)), s5']) := by
  obtain ⟨h1, h2⟩ := List.getElem?_eq_some_iff.mp e
  have ix : dIxA (rwD l) (iD i) = some (.v (dn h)) := by rw [ix_rw h1, h2]
  have dn1 := sp_behind_deed o c
  have ni := notin_kn (bh c h) l
  have io4 := fre_io h4
  have io5 := fre_io h5
  have tp : bTuple [dn (bh c h)] = some (.v (.tuple (il (bh c h)))) := rfl
  by_cases hm : bh c h ∈ l
  · rw [decide_eq_true hm] at ni
    refine ⟨some (.ow (dn (bh c h))), .inr (.inr ⟨_, rfl⟩), ?_⟩
    rcases h4 with rfl | ⟨d4, rfl⟩ | ⟨d4, rfl⟩ <;> rcases h5 with rfl | ⟨d5, rfl⟩ | ⟨d5, rfl⟩ <;> simp [clF, frzE, ix, dn1, ni, tp, add1, hm]
  · rw [decide_eq_false hm] at ni
    refine ⟨none, .inl rfl, ?_⟩
    have pt := put_kn hm (by omega)
    have isl : isL (rwD l) = some (l.map dn) := rfl
    have ap : PyData.list (l.map dn ++ [dn (bh c h)]) = rwD (l ++ [bh c h]) := by simp [rwD]
    have hl2 : l.length < 16000000 := by omega
    rcases h4 with rfl | ⟨d4, rfl⟩ | ⟨d4, rfl⟩ <;> rcases h5 with rfl | ⟨d5, rfl⟩ | ⟨d5, rfl⟩ <;> simp [clF, frzE, ix, dn1, ni, tp, add1, hm, pt, isl, ap, hl2]
theorem ul_seq : seqD (.str (PySem.Str.ofString "ul")) = some [sgD true, sgD false] := by
  have : PySem.Str.ofString "ul" = wS [true, false] := by decide +kernel
  rw [this]; exact seqD_wS _
theorem clW_loop (p : List Nat) (o : Ord p) : ∀ (k W : Nat) (l : List (List Nat)) (i : Nat) (s4 s5 : Option Slt), fre s4 → fre s5 → Wk p l i → fct p.length < k + i → fct p.length ≤ 100000 → k ≤ W →
    ∃ i' s4' s5', whD clT clW W [some (.fz (dn p)), some (.ow (kn l)), some (.tr (rwD l)), some (.fz (iD i)), s4, s5] = some (.nx [some (.fz (dn p)), some (.ow (kn (bfs k l i))), some (.tr (rwD (bfs k l i))), some (.fz (iD i')), s4', s5'])
  | 0, W, l, i, s4, s5, h4, h5, Wl, hk, _, _ => by have := Wl.len o; have := Wl.le; omega
  | k + 1, 0, l, i, s4, s5, h4, h5, Wl, hk, _, hw => by omega
  | k + 1, W + 1, l, i, s4, s5, h4, h5, Wl, hk, hf, hw => by
    have ln := Wl.len o
    have bl : bLen [rwD l] = some (.v (iD l.length)) := by simp [bLen, rwD]; rfl
    have lt : dLt (iD i) (iD l.length) = some (decide (i < l.length)) := by
      show some (decide ((i : Int) < (l.length : Int))) = _
      congr 1
      exact decide_eq_decide.mpr (by omega)
    have tst : clT [some (.fz (dn p)), some (.ow (kn l)), some (.tr (rwD l)), some (.fz (iD i)), s4, s5] = some (decide (i < l.length), [some (.fz (dn p)), some (.ow (kn l)), some (.tr (rwD l)), some (.fz (iD i)), s4, s5]) := by
      rcases h4 with rfl | ⟨d4, rfl⟩ | ⟨d4, rfl⟩ <;> rcases h5 with rfl | ⟨d5, rfl⟩ | ⟨d5, rfl⟩ <;> simp [clT, frzE, bl, lt]
    cases hx : l[i]? with
    | none =>
      have hge : ¬ i < l.length := by have := List.getElem?_eq_none_iff.mp hx; omega
      rw [decide_eq_false hge] at tst
      simp only [bfs, hx]
      exact ⟨i, s4, s5, whD_end tst⟩
    | some h =>
      have hlt := (List.getElem?_eq_some_iff.mp hx).1
      rw [decide_eq_true hlt] at tst
      have hm : h ∈ l := List.mem_of_getElem? hx
      obtain ⟨w, hw2⟩ := Wl.rc h hm
      have oh : Ord h := by rw [hw2]; exact (o.fw w).1
      obtain ⟨s5a, g5a, e1⟩ := clF_one oh (dn p) i true l hx (by omega) s4 s5 h4 h5
      have len1 := add1_len l (bh true h)
      obtain ⟨s5b, g5b, e2⟩ := clF_one oh (dn p) i false (add1 l (bh true h)) (add1_get hx) (by omega) (some (.fz (sgD true))) s5a (.inr (.inl ⟨_, rfl⟩)) g5a
      obtain ⟨i', s4', s5', ih⟩ := clW_loop p o k W (stp2 l h) (i + 1) (some (.fz (sgD false))) s5b (.inr (.inl ⟨_, rfl⟩)) g5b (Wl.step hx) (by omega) hf (by omega)
      refine ⟨i', s4', s5', ?_⟩
      have ad : dAdd (iD i) (.int 1) = some (.v (iD (i + 1))) := rfl
      have lp : loopD (bNm 4) clF [sgD true, sgD false] [some (.fz (dn p)), some (.ow (kn l)), some (.tr (rwD l)), some (.fz (iD i)), s4, s5] = some (.nx [some (.fz (dn p)), some (.ow (kn (stp2 l h))), some (.tr (rwD (stp2 l h))), some (.fz (iD i)), some (.fz (sgD false)), s5b]) := by
        rw [loop_nx e1, loop_nx e2]; rfl
      have bd : clW [some (.fz (dn p)), some (.ow (kn l)), some (.tr (rwD l)), some (.fz (iD i)), s4, s5] = some (.nx [some (.fz (dn p)), some (.ow (kn (stp2 l h))), some (.tr (rwD (stp2 l h))), some (.fz (iD (i + 1))), some (.fz (sgD false)), s5b]) := by
        simp [clW, ul_seq, lp, ad]
      rw [whD_step tst bd]
      simp only [bfs, hx]
      exact ih
theorem cl_ne {p : List Nat} (o : Ord p) : cl p ≠ [] := fun e => by
  have := (cl_walk o).st
  rw [e] at this
  cases this
theorem sOk_rw (l : List (List Nat)) : sOk (l.map dn) = true := by
  have al : ∀ a b : List Nat, PySem.W.alike (dn a) (dn b) = true := fun a b => by
    have h2 : ∀ a b : List Nat, PySem.W.alikeAll (a.map iD) (b.map iD) = true := fun a => by
      induction a with
      | nil => intro b; cases b <;> rfl
      | cons y a ih =>
        intro b
        cases b with
        | nil => rfl
        | cons z b =>
          simp only [List.map_cons, PySem.W.alikeAll, ih b, Bool.and_true]
          rfl
    rw [dn_eq, dn_eq]
    simp only [PySem.W.alike]
    exact h2 a b
  unfold sOk
  rw [List.all_map, List.all_map, List.all_map, List.all_map]
  have a1 : l.all ((fun d => (l.map dn).all fun d' => PySem.W.alike d d') ∘ dn) = true := List.all_eq_true.mpr fun a _ => by
    show (l.map dn).all _ = true
    rw [List.all_map]
    exact List.all_eq_true.mpr fun b _ => al a b
  have a2 : l.all (notTup ∘ dn) = true := List.all_eq_true.mpr fun a _ => rfl
  have a3 : l.all ((fun d : PyData => d.canLay0 && decide (d.depth ≤ 60)) ∘ dn) = true := List.all_eq_true.mpr fun a _ => by
    have := elO_dn a
    simp only [elO, Bool.and_eq_true, decide_eq_true_eq] at this
    simp only [Function.comp_apply, Bool.and_eq_true, decide_eq_true_eq]
    exact ⟨this.1, by omega⟩
  rw [a1, a2, a3]; simp
theorem noInts_rw {l : List (List Nat)} (h : l ≠ []) : intsOf (l.map dn) = none := by
  cases l with
  | nil => exact absurd rfl h
  | cons x l => rfl
theorem sp_class_by {p : List Nat} (o : Ord p) (hf : fct p.length ≤ 100000) : m_class_by [some (.fz (dn p))] = some (.t (rwD (srw (cl p))), [some (.fz (dn p))]) := by
  obtain ⟨i', s4, s5, e⟩ := clW_loop p o (fct p.length + 1) W_class_by [p] 0 none none (.inl rfl) (.inl rfl) ⟨by simp, by simp, fun h hh => ⟨[], by simpa [fw] using hh⟩, fun j h hj => by omega, Nat.zero_le _⟩ (by omega) hf (by unfold W_class_by; omega)
  have e : whD clT clW W_class_by [some (.fz (dn p)), some (.ow (kn [p])), some (.tr (rwD [p])), some (.fz (iD 0)), none, none] = some (.nx [some (.fz (dn p)), some (.ow (kn (cl p))), some (.tr (rwD (cl p))), some (.fz (iD i')), s4, s5]) := e
  have i0 : PyData.int 0 = iD 0 := rfl
  have tp : bTuple [dn p] = some (.v (.tuple (il p))) := rfl
  have kk := keysOf_il p
  have so := sOk_rw (cl p)
  have si := noInts_rw (cl_ne o)
  have sd := sortD_rw (cl p)
  have il0 : isL (rwD (cl p)) = some ((cl p).map dn) := rfl
  have re : PyData.list ((srw (cl p)).map dn) = rwD (srw (cl p)) := rfl
  simp only [clT, clW, clF] at e
  simp only [m_class_by, b_class_by_body, i0]
  have l1 : PyData.list [dn p] = rwD [p] := rfl
  have l2 : PyData.dict [(.none, .none), (.tuple (il p), .bool true)] = kn [p] := rfl
  simp [tp, kk, l1, l2, e, so, si, sd, il0, re]
end K36

namespace K36
open PySem PySem.Spec PyProof.Rows L2 TL
/-! ### the law's deeds -/
theorem sl_mid (p : List Nat) (k : Nat) : dSl (dn p) (some (k : Int)) (some ((p.length - 1 : Nat) : Int)) = some (.n (dn (p.dropLast.drop k))) := by
  rw [dSl_dn]
  simp only [sIx_nat]
  congr 3
  rw [List.dropLast_eq_take, List.drop_take]
  by_cases h : k ≤ p.length
  · rw [Nat.min_eq_left h, Nat.min_eq_left (Nat.sub_le p.length 1)]
  · rw [Nat.min_eq_right (show p.length ≤ k by omega), List.drop_of_length_le (Nat.le_refl _), List.drop_of_length_le (by omega)]; simp
theorem sp_law_moved {p : List Nat} {a b : Nat} (hb : b ∈ p) (hl : p.length ≤ 1000) : m__law_moved [some (.fz (dn p)), some (.fz (iD a)), some (.fz (iD b))] =
    some (.n (dn (p.take (p.idxOf b + 1) ++ [a] ++ p.dropLast.drop (p.idxOf b + 1))), [some (.fz (dn p)), some (.fz (iD a)), some (.fz (iD b))]) := by
  have hi := List.idxOf_lt_length_of_mem hb
  have e1 := mIndex_dn hb (by omega)
  have e2 : dAdd (dn (p.take (p.idxOf b + 1))) (dn [a]) = some (.n (dn (p.take (p.idxOf b + 1) ++ [a]))) := add_dn _ _ (by simp; omega)
  have e3 : dAdd (dn (p.take (p.idxOf b + 1) ++ [a])) (dn (p.dropLast.drop (p.idxOf b + 1))) = some (.n (dn (p.take (p.idxOf b + 1) ++ [a] ++ p.dropLast.drop (p.idxOf b + 1)))) := add_dn _ _ (by simp; omega)
  have e4 := sl_mid p (p.idxOf b + 1)
  have e5 : (((p.length - 1 : Nat) : Int)) = (p.length : Int) - 1 := by omega
  rw [e5] at e4
  have e6 : (((p.idxOf b + 1 : Nat) : Int)) = (p.idxOf b : Int) + 1 := by omega
  rw [e6] at e4
  simp only [List.append_assoc] at e3 ⊢
  simp [m__law_moved, b__law_moved_body, e1, e2, e3, e4, list_iD]
theorem sp_law_done {p : List Nat} (o : Ord p) (c : Bool) : m__law_done [some (.fz (dn p)), some (.fz (sgD c))] = some (.n (dn (bh c p)), [some (.fz (dn p)), some (.fz (sgD c))]) := by
  have h2 := o.lo
  have h3 := o.hi
  have e1 := pred_iD (n := p.length) (by omega)
  have e2 := ix_last o.ne
  have hlt := o.last
  cases c with
  | true =>
    have e3 := sp_law_moved (p := p) (a := lst p) (b := p.length - 1) (o.mem (by omega)) (by omega)
    have e4 : upD p = p.take (p.idxOf (p.length - 1) + 1) ++ [lst p] ++ p.dropLast.drop (p.idxOf (p.length - 1) + 1) := rfl
    simp [m__law_done, b__law_done_body, e1, e2, isu, e3, bh, e4]
  | false =>
    have hr : lst p ∈ List.range p.length := List.mem_range.mpr (by omega)
    have e3 := sp_law_moved (p := List.range p.length) (a := p.length - 1) (b := lst p) hr (by simp; omega)
    rw [idx_range (by omega)] at e3
    have hb : lst p + 1 < p.length := by omega
    have N := loU_nm hb
    have hle : okR (p.length : Int) = true := okR_nat (by omega)
    have e5 : loU p.length (lst p) = (List.range p.length).take (lst p + 1) ++ [p.length - 1] ++ (List.range p.length).dropLast.drop (lst p + 1) := rfl
    rw [← e5] at e3
    have lc := lcD_of (own := [5]) (bd := bNm 5) (c := cYes) (elt := sMt "list" mIndex (sVar 4) (aCons (sVar 5) (aNil))) (r := [some (.fz (dn p)), some (.fz (sgD false)), some (.fz (iD (p.length - 1))), some (.fz (iD (lst p))), some (.ow (dn (loU p.length (lst p)))), none]) (enc := iD) (g := fun y => some (iD ((loU p.length (lst p)).idxOf y))) p [] (by simp; omega) (fun y hy => by
      have := mIndex_dn (p := loU p.length (lst p)) (k := y) (N.mem (o.lt hy)) (by rw [N.len]; omega)
      simp [lcStep, this])
    have lc : lcD [5] (bNm 5) cYes (sMt "list" mIndex (sVar 4) (aCons (sVar 5) (aNil))) (il p) [some (.fz (dn p)), some (.fz (sgD false)), some (.fz (iD (p.length - 1))), some (.fz (iD (lst p))), some (.ow (dn (loU p.length (lst p)))), none] [] = some (il (loD p), [some (.fz (dn p)), some (.fz (sgD false)), some (.fz (iD (p.length - 1))), some (.fz (iD (lst p))), some (.ow (dn (loU p.length (lst p)))), none]) := lc.trans (by simp [loD, il])
    generalize loU p.length (lst p) = U at *
    simp [m__law_done, b__law_done_body, e1, e2, isu, hle, rgD_dn, e3, bh, lc, list_il]
/-! ### what is shown tells the row -/
noncomputable def cds (x : Str) : List Nat := x.cps.toList
theorem cds_app (a b : Str) : cds (a ++ b) = cds a ++ cds b := by
  show (a.cps ++ b.cps).toList = _
  rw [Array.toList_append]; rfl
theorem cds_int : ∀ x, x < 10 → cds (PyData.shown (iD x)) = [48 + x] := by decide +kernel
noncomputable def tl3 (p : List Nat) : List Nat := p.flatMap fun x => [44, 32, 48 + x]
theorem cds_from : ∀ (p : List Nat) (k : Nat) (acc : Str), (∀ x ∈ p, x < 10) → cds (textFrom (k + 1) acc (PyData.shownAll (p.map iD))) = cds acc ++ tl3 p
  | [], k, acc, _ => by simp [PyData.shownAll, textFrom, tl3]
  | x :: p, k, acc, h => by
    have e : PyData.shownAll ((x :: p).map iD) = PyData.shown (iD x) :: PyData.shownAll (p.map iD) := by simp [PyData.shownAll]
    have c2 : cds (Str.ofString ", ") = [44, 32] := by decide +kernel
    rw [e, textFrom, cds_from p (k + 1) _ fun y hy => h y (List.mem_cons_of_mem _ hy), cds_app, cds_app, cds_int x (h x List.mem_cons_self), if_pos (by omega), c2]
    simp [tl3]
theorem cds_dn {p : List Nat} (h : ∀ x ∈ p, x < 10) (h0 : p ≠ []) : cds (PyData.shown (dn p)) = 91 :: (tl3 p).drop 2 ++ [93] := by
  cases p with
  | nil => exact absurd rfl h0
  | cons x p =>
    have e : PyData.shown (dn (x :: p)) = textFrom 0 (Str.ofString "[") (PyData.shown (iD x) :: PyData.shownAll (p.map iD)) ++ Str.ofString "]" := by
      simp [dn_eq, PyData.shown, PyData.shownAll, listText]
    have c1 : cds (Str.ofString "[") = [91] := by decide +kernel
    have c2 : cds (Str.ofString "]") = [93] := by decide +kernel
    have c3 : cds (Str.ofString "") = [] := by decide +kernel
    rw [e, cds_app, c2, textFrom, cds_from p 0 _ fun y hy => h y (List.mem_cons_of_mem _ hy), cds_app, cds_app, cds_int x (h x List.mem_cons_self), c1, if_neg (by omega), c3]
    simp [tl3]
theorem tl3_inj : ∀ p q : List Nat, tl3 p ++ [93] = tl3 q ++ [93] → p = q
  | [], [], _ => rfl
  | [], y :: q, h => by simp [tl3] at h
  | x :: p, [], h => by simp [tl3] at h
  | x :: p, y :: q, h => by
    simp only [tl3, List.flatMap_cons, List.cons_append, List.nil_append, List.cons.injEq, true_and] at h
    obtain ⟨h1, h2⟩ := h
    rw [tl3_inj p q h2, show x = y by omega]
theorem shown_inj {p q : List Nat} (hp : ∀ x ∈ p, x < 10) (hq : ∀ x ∈ q, x < 10) (p0 : p ≠ []) (q0 : q ≠ []) (h : (dn p).shown = (dn q).shown) : p = q := by
  have e := congrArg cds h
  rw [cds_dn hp p0, cds_dn hq q0] at e
  cases p with
  | nil => exact absurd rfl p0
  | cons x p =>
    cases q with
    | nil => exact absurd rfl q0
    | cons y q =>
      simp only [tl3, List.flatMap_cons, List.cons_append, List.nil_append, List.drop_succ_cons, List.drop_zero, List.cons.injEq, true_and] at e
      obtain ⟨h1, h2⟩ := e
      rw [tl3_inj p q h2, show x = y by omega]
end K36

namespace K36
open PySem PySem.Spec PyProof.Rows L2 TL
/-! ### what is known, by what is shown -/
noncomputable def kS (l : List (List Nat)) : KD := l.map fun q => (.str (dn q).shown, .bool true)
noncomputable def ks (l : List (List Nat)) : PyData := .dict (kS l)
/-- rows whose letters are single digits -/
noncomputable def Dg (q : List Nat) : Prop := (∀ x ∈ q, x < 10) ∧ q ≠ []
theorem Ord.dg {h : List Nat} (o : Ord h) (hl : h.length ≤ 10) : Dg h := ⟨fun x hx => by have := o.lt hx; omega, o.ne⟩
theorem keyEq_sh {p q : List Nat} (hp : Dg p) (hq : Dg q) : keyEq (.str (dn p).shown) (.str (dn q).shown) = decide (p = q) := by
  show ((dn p).shown == (dn q).shown) = _
  by_cases h : p = q
  · subst h; simp
  · rw [decide_eq_false h]
    refine beq_false_of_ne fun e => h (shown_inj hp.1 hq.1 hp.2 hq.2 e)
theorem isMk_kS (l : List (List Nat)) : isMk (kS l) = none := by cases l <;> rfl
theorem look_kS {q : List Nat} (hq : Dg q) {l : List (List Nat)} (hl : ∀ h ∈ l, Dg h) : lookK (kS l) (.str (dn q).shown) = if q ∈ l then some (.bool true) else none := by
  induction l with
  | nil => rfl
  | cons x l ih =>
    have ih := ih fun h hh => hl h (List.mem_cons_of_mem _ hh)
    unfold lookK kS at *
    rw [List.map_cons, List.find?_cons]
    simp only [keyEq_sh (hl x List.mem_cons_self) hq]
    by_cases h : x = q
    · subst h; simp
    · have h2 : ¬ q = x := fun e => h e.symm
      rw [decide_eq_false h]
      simp only [List.mem_cons, h2, false_or]
      exact ih
theorem any_kS {q : List Nat} (hq : Dg q) {l : List (List Nat)} (hl : ∀ h ∈ l, Dg h) : ((kS l).any fun p => keyEq p.1 (.str (dn q).shown)) = decide (q ∈ l) := by
  unfold kS
  rw [List.any_map]
  induction l with
  | nil => rfl
  | cons x l ih =>
    rw [List.any_cons, ih fun h hh => hl h (List.mem_cons_of_mem _ hh)]
    simp only [Function.comp_apply, keyEq_sh (hl x List.mem_cons_self) hq, List.mem_cons]
    by_cases h : x = q
    · subst h; simp
    · have h2 : ¬ q = x := fun e => h e.symm
      simp [h, h2]
theorem notin_ks {q : List Nat} (hq : Dg q) {l : List (List Nat)} (hl : ∀ h ∈ l, Dg h) : dNotInA (.str (dn q).shown) (ks l) = some (!decide (q ∈ l)) := by
  have e : dSel (kS l) (.str (dn q).shown) = some (false, kS l) := by
    unfold dSel
    rw [isMk_kS]; rfl
  show ((dSel (kS l) (.str (dn q).shown)).map fun p => (lookK p.2 (.str (dn q).shown)).isSome).map (!·) = _
  rw [e, Option.map_some, Option.map_some, look_kS hq hl]
  by_cases h : q ∈ l <;> simp [h]
theorem put_ks {q : List Nat} {l : List (List Nat)} (hq : Dg q) (hl : ∀ h ∈ l, Dg h) (h : q ∉ l) (hn : l.length < 16000000) : setItemD (ks l) (.str (dn q).shown) (.bool true) = some (ks (l ++ [q])) := by
  have e : dSel (kS l) (.str (dn q).shown) = some (false, kS l) := by
    unfold dSel
    rw [isMk_kS]; rfl
  show (dSel (kS l) (.str (dn q).shown)).bind (fun p => if p.2.length < 16000000 then some (PyData.dict (if p.1 = true then (.none, .none) :: putKD p.2 (.str (dn q).shown) (.bool true) else putKD p.2 (.str (dn q).shown) (.bool true))) else none) = _
  have hl2 : (kS l).length < 16000000 := by unfold kS; rw [List.length_map]; exact hn
  have pk : putKD (kS l) (.str (dn q).shown) (.bool true) = kS (l ++ [q]) := by
    unfold putKD
    rw [any_kS hq hl, decide_eq_false h, if_neg Bool.false_ne_true]
    simp [kS]
  rw [e, Option.bind_some, if_pos hl2, if_neg Bool.false_ne_true, pk]
  rfl
/-! ### the law's class -/
noncomputable def lwF : FS := fSeq (fAsg 5 (sPure (sCall m__law_done none (aCons (s2 dIxA (sVar 1) (sVar 3)) (aCons (sVar 4) (aNil)))))) (fIf (t2 dNotInA (sBc bReprA (aCons (sVar 5) (aNil))) (sVar 2)) (fSeq (fSetI 2 (sC (.bool true)) (sBc bReprA (aCons (sVar 5) (aNil)))) (fExp (sAppX 1 (sVar 5)))) (fSkip))
noncomputable def lwW : FS := fSeq (fFor (wSeq (sLst (aCons (sC (.str (PySem.Str.ofString "u"))) (aCons (sC (.str (PySem.Str.ofString "l"))) (aNil))))) (bNm 4) lwF) (fAsg 3 (s2 dAdd (sVar 3) (sC (.int 1))))
noncomputable def lwT : FT := tPure (t2 dLt (sVar 3) (sBc bLen (aCons (sVar 1) (aNil))))
theorem lwF_one {h : List Nat} (o : Ord h) (d : PyData) (i : Nat) (c : Bool) (l : List (List Nat)) (e : l[i]? = some h) (hl : l.length ≤ 1000000) (h9 : h.length ≤ 10) (hd : ∀ h ∈ l, Dg h) (s4 s5 : Option Slt) (h4 : fre s4) (h5 : fre s5) :
    ∃ s5', fre s5' ∧ (bNm 4 (sgD c) [some (.fz d), some (.tr (rwD l)), some (.ow (ks l)), some (.fz (iD i)), s4, s5]).bind lwF = some (.nx [some (.fz d), some (.tr (rwD (add1 l (bh c h)))), some (.ow (ks (add1 l (bh c h)))), some (.fz (iD i)), some (.fz (sgD c)), s5']) := by
  obtain ⟨h1, h2⟩ := List.getElem?_eq_some_iff.mp e
  have ix : dIxA (rwD l) (iD i) = some (.v (dn h)) := by rw [ix_rw h1, h2]
  have dn1 := sp_law_done o c
  have hq : Dg (bh c h) := (o.bh c).1.dg (by rw [(o.bh c).2.2]; exact h9)
  have ni := notin_ks hq hd
  have ok : shOk (dn (bh c h)) = true := (Sm.row (fun x hx => by have := hq.1 x hx; omega)).ok (by omega) (by rw [(o.bh c).2.2]; omega)
  have io4 := fre_io h4
  have io5 := fre_io h5
  have tp := repr_of ok (fun kv z => by cases z)
  by_cases hm : bh c h ∈ l
  · rw [decide_eq_true hm] at ni
    refine ⟨some (.ow (dn (bh c h))), .inr (.inr ⟨_, rfl⟩), ?_⟩
    rcases h4 with rfl | ⟨d4, rfl⟩ | ⟨d4, rfl⟩ <;> rcases h5 with rfl | ⟨d5, rfl⟩ | ⟨d5, rfl⟩ <;> simp [lwF, frzE, ix, dn1, ni, tp, add1, hm]
  · rw [decide_eq_false hm] at ni
    refine ⟨none, .inl rfl, ?_⟩
    have pt := put_ks hq hd hm (by omega)
    have isl : isL (rwD l) = some (l.map dn) := rfl
    have ap : PyData.list (l.map dn ++ [dn (bh c h)]) = rwD (l ++ [bh c h]) := by simp [rwD]
    have hl2 : l.length < 16000000 := by omega
    rcases h4 with rfl | ⟨d4, rfl⟩ | ⟨d4, rfl⟩ <;> rcases h5 with rfl | ⟨d5, rfl⟩ | ⟨d5, rfl⟩ <;> simp [lwF, frzE, ix, dn1, ni, tp, add1, hm, pt, isl, ap, hl2]
theorem lwW_loop (p : List Nat) (o : Ord p) (hp : p.length ≤ 10) : ∀ (k W : Nat) (l : List (List Nat)) (i : Nat) (s4 s5 : Option Slt), fre s4 → fre s5 → Wk p l i → fct p.length < k + i → fct p.length ≤ 100000 → k ≤ W →
    ∃ i' s4' s5', whD lwT lwW W [some (.fz (dn p)), some (.tr (rwD l)), some (.ow (ks l)), some (.fz (iD i)), s4, s5] = some (.nx [some (.fz (dn p)), some (.tr (rwD (bfs k l i))), some (.ow (ks (bfs k l i))), some (.fz (iD i')), s4', s5'])
  | 0, W, l, i, s4, s5, h4, h5, Wl, hk, _, _ => by have := Wl.len o; have := Wl.le; omega
  | k + 1, 0, l, i, s4, s5, h4, h5, Wl, hk, _, hw => by omega
  | k + 1, W + 1, l, i, s4, s5, h4, h5, Wl, hk, hf, hw => by
    have ln := Wl.len o
    have bl : bLen [rwD l] = some (.v (iD l.length)) := by simp [bLen, rwD]; rfl
    have lt : dLt (iD i) (iD l.length) = some (decide (i < l.length)) := by
      show some (decide ((i : Int) < (l.length : Int))) = _
      congr 1
      exact decide_eq_decide.mpr (by omega)
    have tst : lwT [some (.fz (dn p)), some (.tr (rwD l)), some (.ow (ks l)), some (.fz (iD i)), s4, s5] = some (decide (i < l.length), [some (.fz (dn p)), some (.tr (rwD l)), some (.ow (ks l)), some (.fz (iD i)), s4, s5]) := by
      rcases h4 with rfl | ⟨d4, rfl⟩ | ⟨d4, rfl⟩ <;> rcases h5 with rfl | ⟨d5, rfl⟩ | ⟨d5, rfl⟩ <;> simp [lwT, frzE, bl, lt]
    cases hx : l[i]? with
    | none =>
      have hge : ¬ i < l.length := by have := List.getElem?_eq_none_iff.mp hx; omega
      rw [decide_eq_false hge] at tst
      simp only [bfs, hx]
      exact ⟨i, s4, s5, whD_end tst⟩
    | some h =>
      have hlt := (List.getElem?_eq_some_iff.mp hx).1
      rw [decide_eq_true hlt] at tst
      have hm : h ∈ l := List.mem_of_getElem? hx
      obtain ⟨w, hw2⟩ := Wl.rc h hm
      have oh : Ord h := by rw [hw2]; exact (o.fw w).1
      have lh : h.length ≤ 10 := by rw [hw2, (o.fw w).2]; exact hp
      have hd : ∀ x ∈ l, Dg x := fun x hx => by
        obtain ⟨v, hv⟩ := Wl.rc x hx
        rw [hv]
        exact (o.fw v).1.dg (by rw [(o.fw v).2]; exact hp)
      obtain ⟨s5a, g5a, e1⟩ := lwF_one oh (dn p) i true l hx (by omega) lh hd s4 s5 h4 h5
      have len1 := add1_len l (bh true h)
      obtain ⟨s5b, g5b, e2⟩ := lwF_one oh (dn p) i false (add1 l (bh true h)) (add1_get hx) (by omega) lh (fun x hx => by
        rcases add1_mem hx with hx | rfl
        · exact hd x hx
        · exact (oh.bh true).1.dg (by rw [(oh.bh true).2.2]; exact lh)) (some (.fz (sgD true))) s5a (.inr (.inl ⟨_, rfl⟩)) g5a
      obtain ⟨i', s4', s5', ih⟩ := lwW_loop p o hp k W (stp2 l h) (i + 1) (some (.fz (sgD false))) s5b (.inr (.inl ⟨_, rfl⟩)) g5b (Wl.step hx) (by omega) hf (by omega)
      refine ⟨i', s4', s5', ?_⟩
      have ad : dAdd (iD i) (.int 1) = some (.v (iD (i + 1))) := rfl
      have lp : loopD (bNm 4) lwF [sgD true, sgD false] [some (.fz (dn p)), some (.tr (rwD l)), some (.ow (ks l)), some (.fz (iD i)), s4, s5] = some (.nx [some (.fz (dn p)), some (.tr (rwD (stp2 l h))), some (.ow (ks (stp2 l h))), some (.fz (iD i)), some (.fz (sgD false)), s5b]) := by
        rw [loop_nx e1, loop_nx e2]; rfl
      have u1 : PyData.str (Str.ofString "u") = sgD true := by rfl
      have l1 : PyData.str (Str.ofString "l") = sgD false := by rfl
      have bd : lwW [some (.fz (dn p)), some (.tr (rwD l)), some (.ow (ks l)), some (.fz (iD i)), s4, s5] = some (.nx [some (.fz (dn p)), some (.tr (rwD (stp2 l h))), some (.ow (ks (stp2 l h))), some (.fz (iD (i + 1))), some (.fz (sgD false)), s5b]) := by
        simp [lwW, u1, l1, lp, ad]
      rw [whD_step tst bd]
      simp only [bfs, hx]
      exact ih
theorem sp_law_class {p : List Nat} (o : Ord p) (hp : p.length ≤ 10) (hf : fct p.length ≤ 100000) : m__law_class [some (.fz (dn p))] = some (.t (rwD (srw (cl p))), [some (.fz (dn p))]) := by
  obtain ⟨i', s4, s5, e⟩ := lwW_loop p o hp (fct p.length + 1) W__law_class [p] 0 none none (.inl rfl) (.inl rfl) ⟨by simp, by simp, fun h hh => ⟨[], by simpa [fw] using hh⟩, fun j h hj => by omega, Nat.zero_le _⟩ (by omega) hf (by unfold W__law_class; omega)
  have e : whD lwT lwW W__law_class [some (.fz (dn p)), some (.tr (rwD [p])), some (.ow (ks [p])), some (.fz (iD 0)), none, none] = some (.nx [some (.fz (dn p)), some (.tr (rwD (cl p))), some (.ow (ks (cl p))), some (.fz (iD i')), s4, s5]) := e
  have i0 : PyData.int 0 = iD 0 := rfl
  have ok : shOk (dn p) = true := (Sm.row (fun x hx => by have := (o.dg hp).1 x hx; omega)).ok (by omega) (by omega)
  have tp := repr_of ok (fun kv z => by cases z)
  have so := sOk_rw (cl p)
  have si := noInts_rw (cl_ne o)
  have sd := sortD_rw (cl p)
  have il0 : isL (rwD (cl p)) = some ((cl p).map dn) := rfl
  have re : PyData.list ((srw (cl p)).map dn) = rwD (srw (cl p)) := rfl
  simp only [lwT, lwW, lwF] at e
  simp only [m__law_class, b__law_class_body, i0]
  have l1 : PyData.list [dn p] = rwD [p] := rfl
  have l2 : PyData.dict [(.str (dn p).shown, .bool true)] = ks [p] := rfl
  simp [tp, l1, l2, e, so, si, sd, il0, re]
end K36

namespace K36
open PySem PySem.Spec PyProof.Rows L2 TL
/-! ### sizes and lists of classes -/
theorem srw_len (l : List (List Nat)) : (srw l).length = l.length := List.length_mergeSort ..
theorem bl_rw (l : List (List Nat)) : bLen [rwD l] = some (.v (.int (l.length : Int))) := by simp [bLen, rwD]
theorem flat_int (i : Int) : flat (.v (.int i)) = true := rfl
end K36

namespace K36
open PySem PySem.Spec PyProof.Rows L2 TL
/-! ### a class told by a list -/
noncomputable def code (p : List Nat) : Nat := p.foldl (fun a x => 8 * a + x) 1
noncomputable def chk (p : List Nat) (L : List (List Nat)) (U V : List Nat) (P : List (Nat × Bool × Nat)) (i : Nat) : Bool :=
  Nat.blt (U.getD i 0) L.length && (bh true (L.getD i []) == L.getD (U.getD i 0) []) && Nat.blt (V.getD i 0) L.length && (bh false (L.getD i []) == L.getD (V.getD i 0) []) &&
  (Nat.ble L.length (i + 1) || Nat.blt (code (L.getD i [])) (code (L.getD (i + 1) []))) &&
  ((L.getD i [] == p) || (Nat.blt (P.getD i (0, true, 0)).1 L.length && Nat.blt (P.getD (P.getD i (0, true, 0)).1 (0, true, 0)).2.2 (P.getD i (0, true, 0)).2.2 && (L.getD i [] == bh (P.getD i (0, true, 0)).2.1 (L.getD (P.getD i (0, true, 0)).1 []))))
structure Cert (p : List Nat) (L : List (List Nat)) (U V : List Nat) (P : List (Nat × Bool × Nat)) : Prop where
  all : (List.range L.length).all (chk p L U V P) = true
  st : p ∈ L
theorem getD_mem {L : List (List Nat)} {i : Nat} (h : i < L.length) : L.getD i [] ∈ L := by
  rw [List.getD_eq_getElem?_getD, List.getElem?_eq_getElem h]
  exact List.getElem_mem h
theorem of_mem {L : List (List Nat)} {h : List Nat} (hm : h ∈ L) : ∃ i, i < L.length ∧ L.getD i [] = h := by
  obtain ⟨i, hi, e⟩ := List.getElem_of_mem hm
  exact ⟨i, hi, by rw [List.getD_eq_getElem?_getD, List.getElem?_eq_getElem hi]; exact e⟩
section
variable {p : List Nat} {L : List (List Nat)} {U V : List Nat} {P : List (Nat × Bool × Nat)}
theorem Cert.at_ (C : Cert p L U V P) {i : Nat} (h : i < L.length) : bh true (L.getD i []) ∈ L ∧ bh false (L.getD i []) ∈ L ∧ (i + 1 < L.length → code (L.getD i []) < code (L.getD (i + 1) [])) ∧
    (L.getD i [] = p ∨ ∃ j c, j < L.length ∧ (P.getD j (0, true, 0)).2.2 < (P.getD i (0, true, 0)).2.2 ∧ L.getD i [] = bh c (L.getD j [])) := by
  have z := List.all_eq_true.mp C.all i (List.mem_range.mpr h)
  unfold chk at z
  simp only [Bool.and_eq_true, Bool.or_eq_true, beq_iff_eq, Nat.blt_eq] at z
  obtain ⟨⟨⟨⟨⟨z1, z2⟩, z3⟩, z4⟩, z5⟩, z6⟩ := z
  refine ⟨by rw [z2]; exact getD_mem z1, by rw [z4]; exact getD_mem z3, fun hi => ?_, ?_⟩
  · rcases z5 with z5 | z5
    · have := Nat.le_of_ble_eq_true z5; omega
    · exact z5
  · rcases z6 with z6 | ⟨⟨z6, z7⟩, z8⟩
    · exact .inl z6
    · exact .inr ⟨_, _, z6, z7, z8⟩
theorem Cert.lt (C : Cert p L U V P) : ∀ (k i : Nat), i + k + 1 < L.length → code (L.getD i []) < code (L.getD (i + k + 1) [])
  | 0, i, h => (C.at_ (by omega)).2.2.1 h
  | k + 1, i, h => by
    have h1 := C.lt k i (by omega)
    have h2 := (C.at_ (i := i + k + 1) (by omega)).2.2.1 (by omega)
    have e : i + (k + 1) + 1 = i + k + 1 + 1 := by omega
    rw [e]
    omega
theorem Cert.nd (C : Cert p L U V P) : L.Nodup := by
  refine List.pairwise_iff_getElem.mpr fun i j hi hj hij e => ?_
  have := C.lt (j - i - 1) i (by omega)
  rw [show i + (j - i - 1) + 1 = j by omega] at this
  simp only [List.getD_eq_getElem?_getD, List.getElem?_eq_getElem hi, List.getElem?_eq_getElem hj, Option.getD_some, e] at this
  omega
theorem Cert.reach (C : Cert p L U V P) : ∀ (k i : Nat), i < L.length → (P.getD i (0, true, 0)).2.2 ≤ k → ∃ w, L.getD i [] = fw w p
  | k, i, h, hk => by
    rcases (C.at_ h).2.2.2 with e | ⟨j, c, hj, hd, e⟩
    · exact ⟨[], e⟩
    · match k, hk with
      | 0, hk => omega
      | k + 1, hk =>
        obtain ⟨w, hw⟩ := C.reach k j hj (by omega)
        exact ⟨w ++ [c], by rw [e, hw, fw_snoc]⟩
theorem Cert.closed (C : Cert p L U V P) (c : Bool) {h : List Nat} (hm : h ∈ L) : bh c h ∈ L := by
  obtain ⟨i, hi, rfl⟩ := of_mem hm
  cases c
  · exact (C.at_ hi).2.1
  · exact (C.at_ hi).1
theorem Cert.fw (C : Cert p L U V P) : ∀ (w : List Bool) {h : List Nat}, h ∈ L → K36.fw w h ∈ L
  | [], h, hm => hm
  | c :: w, h, hm => C.fw w (C.closed c hm)
theorem Cert.perm (C : Cert p L U V P) (o : Ord p) : (cl p).Perm L := by
  refine (List.perm_ext_iff_of_nodup (cl_walk o).nd C.nd).mpr fun x => ⟨fun hx => ?_, fun hx => ?_⟩
  · obtain ⟨w, rfl⟩ := (cl_mem o).mp hx
    exact C.fw w C.st
  · obtain ⟨i, hi, rfl⟩ := of_mem hx
    obtain ⟨w, hw⟩ := C.reach _ i hi (Nat.le_refl _)
    exact (cl_mem o).mpr ⟨w, hw⟩
theorem Cert.len (C : Cert p L U V P) (o : Ord p) : (cl p).length = L.length := (C.perm o).length_eq
end
theorem srw_sorted {L : List (List Nat)} (h : L.Pairwise fun a b => zs a ≤ zs b) : srw L = L := List.mergeSort_of_pairwise (h.imp fun {a b} z => by simpa using z)
end K36

namespace K36
open PySem PySem.Spec PyProof.Rows L2 TL
/-! ### orders drawn -/
noncomputable def flL (k : Nat) (q : List Nat) : List Nat := ((List.range (k - 1)).map (1 + ·)).filter fun j => decide (srt (q.take j) = List.range j)
theorem flL_mem {k j : Nat} {q : List Nat} (h : j ∈ flL k q) : 1 ≤ j ∧ j < k := by
  obtain ⟨h1, _⟩ := List.mem_filter.mp h
  obtain ⟨i, hi, rfl⟩ := List.mem_map.mp h1
  have := List.mem_range.mp hi
  omega
theorem flL_nil {k : Nat} {q : List Nat} (hq : q.Perm (List.range k)) (h2 : 2 ≤ k) (h40 : k ≤ 40) (h : flL k q = []) : Ord q ∧ q.length = k := by
  have hl : q.length = k := by rw [hq.length_eq, List.length_range]
  refine ⟨Ord.mk' (hq.nodup_iff.mpr List.nodup_range) (fun y hy => by rw [hl]; exact List.mem_range.mp (hq.subset hy)) (by omega) (by omega) (irr_srt (hq.nodup_iff.mpr List.nodup_range) fun j h1 h2 hz => ?_), hl⟩
  have : j ∈ flL k q := by
    unfold flL
    rw [List.mem_filter]
    refine ⟨List.mem_map.mpr ⟨j - 1, List.mem_range.mpr (by omega), by omega⟩, by simpa using hz⟩
  rw [h] at this
  cases this
theorem sp_falls {q : List Nat} {k : Nat} (hk : q.length = k) (h1 : k ≤ 100) : m__law_falls [some (.fz (dn q))] = some (.v (.bool (decide (flL k q ≠ []))), [some (.fz (dn q))]) := by
  have li : inLim 1 = true := rfl
  have li2 : inLim (k : Int) = true := inLim_nat (by omega)
  have e : rgD 1 (k : Int) = il ((List.range (k - 1)).map (1 + ·)) := rgD_map 1 k
  have lc : lcD [1] (bNm 1) (t2 dEq (sBc bSorted (aCons (sSl (sVar 0) (oNo) (oSo (sVar 1))) (aNil))) (sRg1 (sVar 1))) (sVar 1) (il ((List.range (k - 1)).map (1 + ·))) [some (.fz (dn q)), none] [] = some (il (flL k q), [some (.fz (dn q)), none]) := by
    refine lcD_sub _ (by simp; omega) fun j hj => ?_
    have hj2 : j ≤ 16000000 := by
      obtain ⟨i, hi, rfl⟩ := List.mem_map.mp hj
      rw [List.mem_range] at hi
      omega
    have hle : okR (j : Int) = true := okR_nat (by omega)
    by_cases h : srt (q.take j) = List.range j <;> simp [lcStep, sorted_srt, hle, rgD_dn, h]
  generalize flL k q = L at *
  by_cases h : L = [] <;> simp [m__law_falls, b__law_falls_body, hk, li, li2, e, lc, list_il, list_nil, h]
noncomputable def dqL : FS := fExp (sApp 3 (sPopAt 2 (sCall m__law_random (some 0) (aCons (sVar 0) (aCons (sBc bLen (aCons (sVar 2) (aNil))) (aNil))))))
theorem dqL_loop (e : PyData) : ∀ (l : List Nat) (n : Nat) (d : PyData) (left found : List Nat) (s4 : Option Slt), (s4 = none ∨ ∃ v, s4 = some (.fz v)) → Gn n d → n + l.length ≤ 2 ^ 59 → left.length = l.length → found.length + left.length ≤ 1000 →
    ∃ fnd d' s4', (s4' = none ∨ ∃ v, s4' = some (.fz v)) ∧ fnd.Perm (found ++ left) ∧ Gn (n + l.length) d' ∧ loopD (bNm 4) dqL (il l) [some (.io d), some (.fz e), some (.ow (dn left)), some (.ow (dn found)), s4, none, none] = some (.nx [some (.io d'), some (.fz e), some (.ow (dn [])), some (.ow (dn fnd)), s4', none, none])
  | [], n, d, left, found, s4, h4, g, _, hl, _ => by
    have : left = [] := List.eq_nil_of_length_eq_zero hl
    subst this
    exact ⟨found, d, s4, h4, by simp, g, rfl⟩
  | k :: l, n, d, left, found, s4, h4, g, hn, hl, hb => by
    simp only [List.length_cons] at hn hl
    obtain ⟨v, d1, hv, g1, e1⟩ := sp_random (k := left.length) g (by omega) (by omega) (by omega)
    have hlen : (left.eraseIdx v).length = l.length := by rw [List.length_eraseIdx_of_lt hv]; omega
    obtain ⟨fnd, d', s4', h4', hp, g', e2⟩ := dqL_loop e l (n + 1) d1 (left.eraseIdx v) (found ++ [left[v]]) (some (.fz (iD k))) (.inr ⟨_, rfl⟩) g1 (by omega) hlen (by simp at hlen ⊢; omega)
    refine ⟨fnd, d', s4', h4', hp.trans ?_, by rw [show n + (k :: l).length = n + 1 + l.length by simp; omega]; exact g', ?_⟩
    · rw [List.append_assoc]
      exact (List.Perm.append_left found (eraseIdx_perm hv))
    · rw [il_cons]
      refine (loop_nx (r2 := [some (.io d1), some (.fz e), some (.ow (dn (left.eraseIdx v))), some (.ow (dn (found ++ [left[v]]))), some (.fz (iD k)), none, none]) ?_).trans e2
      have e1 : m__law_random [some (.io d), some (.fz (.int (left.length : Int)))] = some (.v (iD v), [some (.io d1), some (.fz (.int (left.length : Int)))]) := e1
      have ea : PyData.list (il found ++ [iD left[v]]) = dn (found ++ [left[v]]) := by show PyData.list (il found ++ il [left[v]]) = _; rw [il_app]; rfl
      have hf : found.length < 16000000 := by omega
      have hc' : (v : Int) < 16000000 := by omega
      have hv0 : okR (v : Int) = true := okR_nat (by omega)
      have ev2 : ∀ h, (il left)[v]'h = iD left[v] := fun h => by simp [il]
      have h4 : isIo (some s4) = false := by rcases h4 with rfl | ⟨v, rfl⟩ <;> rfl
      simp [dqL, h4, e1, hf, il_erase, hc', hv, hv0, list_il, ev2, ea]
/-- two letters exchanged -/
noncomputable def xch (k a : Nat) (q : List Nat) : List Nat := q.take (a - 1) ++ [q.getD (k - 1) 0] ++ q.dropLast.drop a ++ [q.getD (a - 1) 0]
theorem take_last {q : List Nat} {k : Nat} (hk : q.length = k) (h : 1 ≤ k) : q = q.take (k - 1) ++ [q.getD (k - 1) 0] := by
  have h1 : k - 1 < q.length := by omega
  have e : q.take (k - 1 + 1) = q.take (k - 1) ++ [q.getD (k - 1) 0] := by
    rw [List.take_succ, List.getD_eq_getElem?_getD, List.getElem?_eq_getElem h1]; rfl
  rw [← e, List.take_of_length_le (by omega)]
theorem xch_perm {k a : Nat} {q : List Nat} (hk : q.length = k) (h1 : 1 ≤ a) (h2 : a < k) : (xch k a q).Perm q := by
  have e : q = q.take (a - 1) ++ [q.getD (a - 1) 0] ++ q.dropLast.drop a ++ [q.getD (k - 1) 0] := by
    have e1 := take_last hk (by omega)
    have hd : q.dropLast = q.take (k - 1) := by rw [List.dropLast_eq_take, hk]
    have e2 : q.take (k - 1) = (q.take (k - 1)).take a ++ (q.take (k - 1)).drop a := (List.take_append_drop a _).symm
    have e3 : (q.take (k - 1)).take a = q.take a := by rw [List.take_take, Nat.min_eq_left (by omega)]
    have e4 : q.take (a - 1 + 1) = q.take (a - 1) ++ [q.getD (a - 1) 0] := by
      rw [List.take_succ, List.getD_eq_getElem?_getD, List.getElem?_eq_getElem (show a - 1 < q.length by omega)]; rfl
    rw [show a - 1 + 1 = a by omega] at e4
    rw [hd, ← e4, ← e3, ← e2]
    exact e1
  have c : (xch k a q).Perm (q.take (a - 1) ++ [q.getD (a - 1) 0] ++ q.dropLast.drop a ++ [q.getD (k - 1) 0]) := by
    unfold xch
    refine List.perm_iff_count.mpr fun x => ?_
    simp only [List.count_append]
    omega
  rw [← e] at c
  exact c
noncomputable def orI : FS := fIf (tV (sCall m__law_falls none (aCons (sVar 3) (aNil)))) (fSeq (fAsg 6 (s2 dIxA (sLc [4] (wRg2 (sC (.int 1)) (sVar 1)) (bNm 4) (t2 dEq (sBc bSorted (aCons (sSl (sVar 3) (oNo) (oSo (sVar 4))) (aNil))) (sRg1 (sVar 4))) (sVar 4)) (sC (.int 0)))) (fAsg 3 (s2 dAdd (s2 dAdd (s2 dAdd (sSl (sVar 3) (oNo) (oSo (s2 dSub (sVar 6) (sC (.int 1))))) (sLst (aCons (s2 dIxA (sVar 3) (s2 dSub (sVar 1) (sC (.int 1)))) (aNil)))) (sSl (sVar 3) (oSo (sVar 6)) (oSo (s2 dSub (sVar 1) (sC (.int 1)))))) (sLst (aCons (s2 dIxA (sVar 3) (s2 dSub (sVar 6) (sC (.int 1)))) (aNil)))))) (fSkip)
noncomputable def fz0 (s : Option Slt) : Prop := s = none ∨ ∃ d, s = some (.fz d)
theorem fz0_io {s : Option Slt} (h : fz0 s) : isIo (some s) = false := by rcases h with rfl | ⟨d, rfl⟩ <;> rfl
theorem orI_one {k : Nat} (h2 : 2 ≤ k) (h40 : k ≤ 40) {q : List Nat} (hq : q.Perm (List.range k)) (d e : PyData) (s4 s5 s6 : Option Slt) (h4 : fz0 s4) (h5 : fz0 s5) (h6 : fz0 s6) :
    ∃ q' s4' s6', q'.Perm (List.range k) ∧ fz0 s4' ∧ fz0 s6' ∧ orI [some (.io d), some (.fz (iD k)), some (.ow e), some (.ow (dn q)), s4, s5, s6] = some (.nx [some (.io d), some (.fz (iD k)), some (.ow e), some (.ow (dn q')), s4', s5, s6']) := by
  have hl : q.length = k := by rw [hq.length_eq, List.length_range]
  have f := sp_falls hl (by omega)
  have io6 := fz0_io h6
  have io4 := fz0_io h4
  by_cases hz : flL k q = []
  · rw [hz] at f
    exact ⟨q, s4, s6, hq, h4, h6, by simp [orI, f]⟩
  · have li : inLim 1 = true := rfl
    have li2 : inLim (k : Int) = true := inLim_nat (by omega)
    have er : rgD 1 (k : Int) = il ((List.range (k - 1)).map (1 + ·)) := rgD_map 1 k
    have lc : lcD [4] (bNm 4) (t2 dEq (sBc bSorted (aCons (sSl (sVar 3) (oNo) (oSo (sVar 4))) (aNil))) (sRg1 (sVar 4))) (sVar 4) (il ((List.range (k - 1)).map (1 + ·))) [some (.io d), some (.fz (iD k)), some (.ow e), some (.ow (dn q)), none, s5, s6] [] = some (il (flL k q), [some (.io d), some (.fz (iD k)), some (.ow e), some (.ow (dn q)), none, s5, s6]) := by
      refine lcD_sub _ (by simp; omega) fun j hj => ?_
      have hj2 : j ≤ 16000000 := by
        obtain ⟨i, hi, rfl⟩ := List.mem_map.mp hj
        rw [List.mem_range] at hi
        omega
      have hle : okR (j : Int) = true := okR_nat (by omega)
      by_cases h : srt (q.take j) = List.range j <;> simp [lcStep, sorted_srt, hle, rgD_dn, h]
    obtain ⟨a, L, hL⟩ : ∃ a L, flL k q = a :: L := by
      cases hx : flL k q with
      | nil => exact absurd hx hz
      | cons a L => exact ⟨a, L, rfl⟩
    obtain ⟨a1, a2⟩ := flL_mem (show a ∈ flL k q by rw [hL]; exact List.mem_cons_self)
    rw [decide_eq_true hz] at f
    rw [hL] at lc
    have i0 : dIxA (.list (iD a :: il L)) (.int 0) = some (.v (iD a)) := by
      have := ixA_iD (a :: L) 0
      exact this
    have sa : dSub (iD a) (.int 1) = some (.v (iD (a - 1))) := by
      show some (Hd.v (.int ((a : Int) - 1))) = _
      unfold iD; congr 3; omega
    have sk : dSub (iD k) (.int 1) = some (.v (iD (k - 1))) := by
      show some (Hd.v (.int ((k : Int) - 1))) = _
      unfold iD; congr 3; omega
    have gt : ∀ j, j < k → dIxA (dn q) (iD j) = some (.v (iD (q.getD j 0))) := fun j hj => by
      rw [ixA_iD, List.getD_eq_getElem?_getD, List.getElem?_eq_getElem (by omega)]; rfl
    have g1 := gt (k - 1) (by omega)
    have g2 := gt (a - 1) (by omega)
    have sm := sl_mid q a
    rw [hl] at sm
    have ld : q.dropLast.length = k - 1 := by rw [List.length_dropLast, hl]
    have st : dSl (dn q) none (some ((a - 1 : Nat) : Int)) = some (.n (dn (q.take (a - 1)))) := sl_to q (a - 1)
    have d1 : dAdd (dn (q.take (a - 1))) (.list [iD (q.getD (k - 1) 0)]) = some (.n (dn (q.take (a - 1) ++ [q.getD (k - 1) 0]))) := add_dn _ [_] (by simp; omega)
    have d2 : dAdd (dn (q.take (a - 1) ++ [q.getD (k - 1) 0])) (dn (q.dropLast.drop a)) = some (.n (dn (q.take (a - 1) ++ [q.getD (k - 1) 0] ++ q.dropLast.drop a))) := add_dn _ _ (by simp; omega)
    have d3 : dAdd (dn (q.take (a - 1) ++ [q.getD (k - 1) 0] ++ q.dropLast.drop a)) (.list [iD (q.getD (a - 1) 0)]) = some (.n (dn (xch k a q))) := add_dn _ [_] (by simp; omega)
    refine ⟨xch k a q, if s4 = none then none else s4, some (.fz (iD a)), (xch_perm hl a1 a2).trans hq, by split; exact .inl rfl; exact h4, .inr ⟨_, rfl⟩, ?_⟩
    generalize q.getD (k - 1) 0 = x at *
    generalize q.getD (a - 1) 0 = y at *
    generalize xch k a q = Z at *
    simp only [List.append_assoc, List.cons_append, List.nil_append] at d3
    rcases h4 with rfl | ⟨v4, rfl⟩ <;> simp [orI, f, li, li2, er, lc, i0, io6, sa, sk, st, g1, g2, sm, d1, d2, d3, list_il]
theorem orI_loop {k : Nat} (h2 : 2 ≤ k) (h40 : k ≤ 40) (d e : PyData) : ∀ (l : List Nat) (q : List Nat) (s4 s5 s6 : Option Slt), q.Perm (List.range k) → fz0 s4 → fz0 s5 → fz0 s6 →
    ∃ q' s4' s5' s6', q'.Perm (List.range k) ∧ loopD (bNm 5) orI (il l) [some (.io d), some (.fz (iD k)), some (.ow e), some (.ow (dn q)), s4, s5, s6] = some (.nx [some (.io d), some (.fz (iD k)), some (.ow e), some (.ow (dn q')), s4', s5', s6'])
  | [], q, s4, s5, s6, hq, _, _, _ => ⟨q, s4, s5, s6, hq, rfl⟩
  | x :: l, q, s4, s5, s6, hq, h4, h5, h6 => by
    obtain ⟨q1, s4a, s6a, hq1, h4a, h6a, e1⟩ := orI_one h2 h40 hq d e s4 (some (.fz (iD x))) s6 h4 (.inr ⟨_, rfl⟩) h6
    obtain ⟨q2, s4b, s5b, s6b, hq2, e2⟩ := orI_loop h2 h40 d e l q1 s4a (some (.fz (iD x))) s6a hq1 h4a (.inr ⟨_, rfl⟩) h6a
    refine ⟨q2, s4b, s5b, s6b, hq2, ?_⟩
    have io5 := fz0_io h5
    rw [il_cons]
    refine (loop_nx (r2 := [some (.io d), some (.fz (iD k)), some (.ow e), some (.ow (dn q1)), s4a, some (.fz (iD x)), s6a]) ?_).trans e2
    simp [io5, e1]
theorem sp_law_order {n k : Nat} {d : PyData} (g : Gn n d) (hn : n ≤ 2 ^ 57) (hk : 2 ≤ k) (hk2 : k ≤ 40) : ∃ p d' h, Ord p ∧ p.length = k ∧ Gn (n + k) d' ∧ (h = .n (dn p) ∨ h = .v (dn p)) ∧ m__law_order [some (.io d), some (.fz (iD k))] = some (h, [some (.io d'), some (.fz (iD k))]) := by
  obtain ⟨q, d1, s4, h4, hp, g1, e1⟩ := dqL_loop (iD k) (List.range k) n d (List.range k) [] none (.inl rfl) g (by simp; omega) (by simp) (by simp; omega)
  rw [List.length_range] at g1
  have hp : q.Perm (List.range k) := by simpa using hp
  have h4 : fz0 s4 := h4
  obtain ⟨q2, s4b, s5b, s6b, hq2, e2⟩ := orI_loop hk hk2 d1 (dn []) (List.range k) q s4 none none hp h4 (.inl rfl) (.inl rfl)
  have hl : q2.length = k := by rw [hq2.length_eq, List.length_range]
  have f := sp_falls hl (by omega)
  have hle : okR (k : Int) = true := okR_nat (by omega)
  have lim : inLim (k : Int) = true := inLim_nat (by omega)
  simp only [orI] at e2
  simp only [dqL] at e1
  by_cases hz : flL k q2 = []
  · obtain ⟨o, lo⟩ := flL_nil hq2 hk hk2 hz
    rw [hz] at f
    refine ⟨q2, d1, _, o, lo, g1, .inl rfl, ?_⟩
    simp [m__law_order, b__law_order_body, hle, lim, rgD_dn, rgD_iD, list_nil, list_il, e1, e2, f]
  · rw [decide_eq_true hz] at f
    refine ⟨_, d1, _, ord_rev hk hk2, by simp, g1, .inl rfl, ?_⟩
    simp [m__law_order, b__law_order_body, hle, lim, rgD_dn, rgD_iD, list_nil, list_il, e1, e2, f]
end K36

namespace K36
open PySem PySem.Spec PyProof.Rows L2 TL
/-! ### numbers in classes -/
theorem fct_le : ∀ n, n ≤ 7 → fct n ≤ 100000 := fun n h => by
  match n, h with
  | 0, _ => decide
  | 1, _ => decide
  | 2, _ => decide
  | 3, _ => decide
  | 4, _ => decide
  | 5, _ => decide
  | 6, _ => decide
  | 7, _ => decide
theorem cl_le {p : List Nat} (o : Ord p) (h : p.length ≤ 7) : (cl p).length ≤ 5040 := by
  have := (cl_walk o).len o
  have : ∀ n, n ≤ 7 → fct n ≤ 5040 := fun n h => by
    match n, h with
    | 0, _ => decide
    | 1, _ => decide
    | 2, _ => decide
    | 3, _ => decide
    | 4, _ => decide
    | 5, _ => decide
    | 6, _ => decide
    | 7, _ => decide
  have := this p.length h
  omega
theorem index_rw' {l : List (List Nat)} {x : List Nat} (h : x ∈ l) (hl : l.length ≤ 10000) : mIndex (rwD l) [dn x] = some (.v (iD (l.idxOf x))) := by
  show (if SeqAt.shaped (dn x) = true ∧ SeqAt.shaped (rwD l) = true ∧ (l.map dn).length ≤ 16000000 then (firstAt (l.map dn) (dn x)).map fun j => Hd.v (.int (j : Nat)) else none) = _
  rw [if_pos ⟨shaped_dn x, shaped_rw l, by rw [List.length_map]; omega⟩]
  have : firstAt (l.map dn) (dn x) = some (l.idxOf x) := by
    unfold firstAt
    rw [List.findIdx?_map]
    have e : ((fun z => PyData.eqv z (dn x)) ∘ dn) = fun y => y == x := by
      funext y
      simp only [Function.comp_apply, eqv_dn]
      by_cases h : y = x <;> simp [h]
    rw [e]
    have hlt := List.idxOf_lt_length_of_mem h
    rw [List.findIdx?_eq_some_iff_getElem]
    refine ⟨hlt, by simp, fun j hj => ?_⟩
    simpa using List.not_of_lt_findIdx (p := fun y => y == x) hj
  rw [this]; rfl
section
variable {p q : List Nat} {R : List (List Nat)}
/-- q of the class whose sorted list is R -/
structure In (q : List Nat) (R : List (List Nat)) : Prop where
  o : Ord q
  s : q.length ≤ 7
  r : srw (cl q) = R
theorem In.mem (I : In q R) : q ∈ R := by
  rw [← I.r]
  exact (List.mergeSort_perm ..).mem_iff.mpr (cl_walk I.o).st
theorem In.len (I : In q R) : R.length ≤ 5040 := by
  rw [← I.r, srw_len]
  exact cl_le I.o I.s
theorem In.of (I : In q R) {x : List Nat} (h : x ∈ R) : In x R := by
  have hx : x ∈ cl q := by
    rw [← I.r] at h
    exact (List.mergeSort_perm ..).mem_iff.mp h
  obtain ⟨ox, lx⟩ := cl_ord I.o hx
  exact ⟨ox, by rw [lx]; exact I.s, by rw [srw_cl I.o hx]; exact I.r⟩
theorem In.nd (I : In q R) : R.Nodup := by
  rw [← I.r]
  exact (List.mergeSort_perm ..).nodup_iff.mpr (cl_walk I.o).nd
theorem In.by (I : In q R) : m_class_by [some (.fz (dn q))] = some (.t (rwD R), [some (.fz (dn q))]) := by
  rw [← I.r]
  exact sp_class_by I.o (fct_le _ I.s)
theorem In.law (I : In q R) : m__law_class [some (.fz (dn q))] = some (.t (rwD R), [some (.fz (dn q))]) := by
  rw [← I.r]
  exact sp_law_class I.o (by have := I.s; omega) (fct_le _ I.s)
theorem In.number (I : In q R) : m_class_number [some (.fz (dn q))] = some (.v (iD (R.idxOf q)), [some (.fz (dn q))]) := by
  have e1 := sp_check_order I.o
  have e2 := I.by
  have e3 := index_rw' I.mem (by have := I.len; omega)
  have ty : tyName (rwD R) = "list" := rfl
  simp [m_class_number, b_class_number_body, e1, e2, e3, ty]
theorem sp_check_num {i m : Nat} (h : i < m) : m_check_number [some (.fz (iD i)), some (.fz (.int 0)), some (.fz (.int ((m : Int) - 1)))] = some (.v .none, [some (.fz (iD i)), some (.fz (.int 0)), some (.fz (.int ((m : Int) - 1)))]) := by
  have b := sp_is_between (i : Int) 0 ((m : Int) - 1)
  rw [decide_eq_true (by omega), decide_eq_true (by omega)] at b
  have b : m_is_between [some (.fz (iD i)), some (.fz (.int 0)), some (.fz (.int ((m : Int) - 1)))] = some (.v (.bool true), [some (.fz (iD i)), some (.fz (.int 0)), some (.fz (.int ((m : Int) - 1)))]) := b
  simp [m_check_number, b_check_number_body, b]
theorem In.numbered (I : In q R) {i : Nat} (h : i < R.length) : m_class_numbered [some (.fz (dn q)), some (.fz (iD i))] = some (.t (dn R[i]), [some (.fz (dn q)), some (.fz (iD i))]) := by
  have e1 := sp_check_order I.o
  have e2 := I.by
  have bl := bl_rw R
  have e4 := sp_check_num h
  have sb : dSub (.int (R.length : Int)) (.int 1) = some (.v (.int ((R.length : Int) - 1))) := rfl
  have il0 : isL (rwD R) = some (R.map dn) := rfl
  have gt : R[i]? = some R[i] := List.getElem?_eq_getElem h
  have sc : scal2 (dn R[i]) = false := rfl
  simp [m_class_numbered, b_class_numbered_body, e1, e2, bl, sb, e4, frzE, il0, gt, sc]
noncomputable def nxD (R : List (List Nat)) (j : Nat) : Hd := if h : j < R.length then .t (dn R[j]) else .v .none
theorem In.next (I : In q R) : m_next_in_class [some (.fz (dn q))] = some (nxD R (R.idxOf q + 1), [some (.fz (dn q))]) := by
  have e1 := sp_check_order I.o
  have e2 := I.by
  have e3 := index_rw' I.mem (by have := I.len; omega)
  have ty : tyName (rwD R) = "list" := rfl
  have bl := bl_rw R
  have ad : dAdd (iD (R.idxOf q)) (.int 1) = some (.v (iD (R.idxOf q + 1))) := rfl
  have lt : dLt (iD (R.idxOf q + 1)) (.int (R.length : Int)) = some (decide (R.idxOf q + 1 < R.length)) := by
    show some (decide (((R.idxOf q + 1 : Nat) : Int) < (R.length : Int))) = _
    congr 1
    exact decide_eq_decide.mpr (by omega)
  have il0 : isL (rwD R) = some (R.map dn) := rfl
  unfold nxD
  by_cases h : R.idxOf q + 1 < R.length
  · have gt : (R.map dn)[R.idxOf q + 1]? = some (dn R[R.idxOf q + 1]) := by rw [List.getElem?_map, List.getElem?_eq_getElem h]; rfl
    have sc : scal2 (dn R[R.idxOf q + 1]) = false := rfl
    rw [decide_eq_true h] at lt
    rw [dif_pos h]
    obtain ⟨x, gt, hx⟩ : ∃ x, R[R.idxOf q + 1]? = some x ∧ R[R.idxOf q + 1] = x := ⟨_, List.getElem?_eq_getElem h, rfl⟩
    rw [hx]
    have sc : scal2 (dn x) = false := rfl
    clear hx
    revert gt lt ad
    generalize R.idxOf q + 1 = j
    intro gt lt ad
    simp [m_next_in_class, b_next_in_class_body, e1, e2, e3, ty, ad, lt, bl, frzE, il0, gt, sc]
  · rw [decide_eq_false h] at lt
    rw [dif_neg h]
    generalize R.idxOf q + 1 = j at *
    simp [m_next_in_class, b_next_in_class_body, e1, e2, e3, ty, ad, lt, bl, frzE]
theorem sp_no_raise (o : Ord p) (d : PyData) : mr_class_numbered_1 [some (.fz (dn p)), some (.fz d)] = none := by
  have e1 := sp_is_order_list o
  simp [mr_class_numbered_1, rb_class_numbered_1, mr_check_order_1, rb_check_order_1, fOnly, fIfT, fRet, e1]
theorem sp_num_raise {i m : Nat} (h : m ≤ i) : mr_check_number_1 [some (.fz (iD i)), some (.fz (.int 0)), some (.fz (.int ((m : Int) - 1)))] = some (.v (iD i), [some (.fz (iD i)), some (.fz (.int 0)), some (.fz (.int ((m : Int) - 1)))]) := by
  have b := sp_is_between (i : Int) 0 ((m : Int) - 1)
  rw [decide_eq_false (show ¬ (i : Int) ≤ (m : Int) - 1 by omega), Bool.and_false] at b
  have b : m_is_between [some (.fz (iD i)), some (.fz (.int 0)), some (.fz (.int ((m : Int) - 1)))] = some (.v (.bool false), [some (.fz (iD i)), some (.fz (.int 0)), some (.fz (.int ((m : Int) - 1)))]) := b
  simp [mr_check_number_1, rb_check_number_1, fOnly, fIfT, fRet, b]
theorem In.caught (I : In q R) {i : Nat} (h : R.length ≤ i) : m__law_caught [some (.fz (dn q)), some (.fz (iD i))] = some (.v (iD i), [some (.fz (dn q)), some (.fz (iD i))]) := by
  have e0 := sp_check_order I.o
  have e1 := sp_no_raise I.o (iD i)
  have e2 := I.by
  have bl := bl_rw R
  have sb : dSub (.int (R.length : Int)) (.int 1) = some (.v (.int ((R.length : Int) - 1))) := rfl
  have e3 := sp_num_raise h
  have e4 : mr_class_numbered_2 [some (.fz (dn q)), some (.fz (iD i))] = some (.v (iD i), [some (.fz (dn q)), some (.fz (iD i))]) := by
    simp [mr_class_numbered_2, rb_class_numbered_2, fOnly, fSeqN, fRet, e0, e2, frzE, bl, sb, e3]
  have c1 : Str.ofString "InvalidNumber" ∈ T_own := by simp [T_own]
  have c2 : B_InvalidNumber.lookup (Str.ofString "InvalidNumber") = some true := by decide
  simp [m__law_caught, b__law_caught_body, fTryR, sIsX, sXv, xcD, e1, e4, c1, c2]
end
end K36

namespace K36
open PySem PySem.Spec PyProof.Rows L2 TL
theorem idx_nd {α : Type} [BEq α] [LawfulBEq α] : ∀ {l : List α} {i : Nat} (h : i < l.length), l.Nodup → l.idxOf l[i] = i
  | x :: l, 0, _, _ => by simp
  | x :: l, i + 1, h, nd => by
    have nd' := List.nodup_cons.mp nd
    have hi : i < l.length := by simpa using h
    have ne : ¬ x = l[i] := fun e => nd'.1 (e ▸ List.getElem_mem hi)
    have ih := idx_nd hi nd'.2
    rw [List.getElem_cons_succ, List.idxOf_cons]
    have : (x == l[i]) = false := by simpa using ne
    rw [this, ih]; rfl
/-- what stands in a name of the loop -/
theorem step36 {q : List Nat} {R : List (List Nat)} (I : In q R) {i : Nat} (hi : i < R.length) (d k : PyData) (s5 s6 s7 s8 s9 : Option Slt) (h5 : isIo (some s5) = false) (h6 : isIo (some s6) = false) (h7 : isIo (some s7) = false) (h8 : isIo (some s8) = false) (h9 : isIo (some s9) = false) :
    ∃ s6' s7' s8' s9', isIo (some s6') = false ∧ isIo (some s7') = false ∧ isIo (some s8') = false ∧ isIo (some s9') = false ∧
    (bNm 5 (iD i) [some (.io d), some (.fz (dn q)), some (.fz (rwD R)), some (.ow k), some (.fz (.int (R.length : Int))), s5, s6, s7, s8, s9]).bind l_order_right_1 = some (.nx [some (.io d), some (.fz (dn q)), some (.fz (rwD R)), some (.ow k), some (.fz (.int (R.length : Int))), some (.fz (iD i)), s6', s7', s8', s9']) := by
  have ix := ix_rw hi
  have J : In R[i] R := I.of (List.getElem_mem hi)
  have e1 := J.number
  rw [idx_nd hi I.nd] at e1
  have e2 := I.numbered hi
  have e3 := J.next
  rw [idx_nd hi I.nd] at e3
  have lb : isiT "bool" (iD i) = some (.v (.bool false)) := rfl
  have ni : dNe (iD i) (iD i) = some false := by
    show dNe (.int _) (.int _) = _
    rw [dNe_int]; simp
  have ad : dAdd (iD i) (.int 1) = some (.v (iD (i + 1))) := rfl
  have lt : dLt (iD (i + 1)) (.int (R.length : Int)) = some (decide (i + 1 < R.length)) := by
    show some (decide (((i + 1 : Nat) : Int) < (R.length : Int))) = _
    congr 1
    exact decide_eq_decide.mpr (by omega)
  have il1 : ∀ x : List Nat, isL (dn x) = some (il x) := fun _ => rfl
  have lx : R[i].length < 16000000 := by have := J.s; omega
  have nn : dNe .none .none = some false := by decide +kernel
  have t0 : dNotN .none .none = some false := by decide +kernel
  have t1 : ∀ x : List Nat, dNotN (dn x) .none = some true := fun x => rfl
  by_cases hj : i + 1 < R.length
  · have ix2 := ix_rw hj
    have ly : R[i + 1].length < 16000000 := by
      have := (I.of (List.getElem_mem hj)).s
      omega
    unfold nxD at e3
    rw [dif_pos hj] at e3
    rw [decide_eq_true hj] at lt
    generalize R[i + 1] = y at *
    generalize R[i] = x at *
    refine ⟨some (.ow (dn x)), some (.fz (iD i)), some (.tr (.list (il x ++ [.none]))), some (.tr (.list (il y ++ [.none]))), rfl, rfl, rfl, rfl, ?_⟩
    simp [l_order_right_1, c_order_right_1, c_order_right_2, c_order_right_3, c_order_right_4, h5, h6, h7, h8, h9, frzE, ix, ix2, e1, e2, e3, lb, ni, ad, lt, il1, lx, ly, t1]
  · unfold nxD at e3
    rw [dif_neg hj] at e3
    rw [decide_eq_false hj] at lt
    generalize R[i] = x at *
    refine ⟨some (.ow (dn x)), some (.fz (iD i)), some (.tr (.list (il x ++ [.none]))), some (.fz .none), rfl, rfl, rfl, rfl, ?_⟩
    simp [l_order_right_1, c_order_right_1, c_order_right_2, c_order_right_3, c_order_right_4, h5, h6, h7, h8, h9, frzE, ix, e1, e2, e3, lb, ni, ad, lt, il1, lx, nn, t0]
end K36

namespace K36
open PySem PySem.Spec PyProof.Rows L2 TL
theorem sp_order_right {n : Nat} {d : PyData} (g : Gn n d) (hn : n ≤ 2 ^ 50) {p : List Nat} (o : Ord p) (h7 : p.length ≤ 7) : ∃ d', Gn (n + 2) d' ∧ m__law_order_right [some (.io d), some (.fz (dn p))] = some (.v (.bool true), [some (.io d'), some (.fz (dn p))]) := by
  obtain ⟨R, hR⟩ : ∃ R, srw (cl p) = R := ⟨_, rfl⟩
  have I : In p R := ⟨o, h7, hR⟩
  have hpos : 0 < R.length := List.length_pos_of_mem I.mem
  have hle := I.len
  obtain ⟨v1, d1, hv1, g1, e1⟩ := sp_random (k := R.length) g (by omega) hpos (by omega)
  obtain ⟨v2, d2, hv2, g2, e2⟩ := sp_random (k := R.length) g1 (by omega) hpos (by omega)
  have e1 : m__law_random [some (.io d), some (.fz (.int (R.length : Int)))] = some (.v (iD v1), [some (.io d1), some (.fz (.int (R.length : Int)))]) := e1
  have e2 : m__law_random [some (.io d1), some (.fz (.int (R.length : Int)))] = some (.v (iD v2), [some (.io d2), some (.fz (.int (R.length : Int)))]) := e2
  have c := I.law
  have bl := bl_rw R
  have sb : dSub (.int (R.length : Int)) (.int 1) = some (.v (iD (R.length - 1))) := by
    show some (Hd.v (.int ((R.length : Int) - 1))) = _
    unfold iD; congr 3; omega
  obtain ⟨a6, a7, a8, a9, b6, b7, b8, b9, s1⟩ := step36 I (i := 0) hpos d2 (dn p) none none none none none rfl rfl rfl rfl rfl
  obtain ⟨f6, f7, f8, f9, h6, h7', h8, h9, s2⟩ := step36 I (i := R.length - 1) (by omega) d2 (dn p) (some (.fz (iD 0))) a6 a7 a8 a9 rfl b6 b7 b8 b9
  obtain ⟨j6, j7, j8, j9, k6, k7, k8, k9, s3⟩ := step36 I (i := v1) hv1 d2 (dn p) (some (.fz (iD (R.length - 1)))) f6 f7 f8 f9 rfl h6 h7' h8 h9
  obtain ⟨l6, l7, l8, l9, _, _, _, _, s4⟩ := step36 I (i := v2) hv2 d2 (dn p) (some (.fz (iD v1))) j6 j7 j8 j9 rfl k6 k7 k8 k9
  have lp : loopD (bNm 5) l_order_right_1 [.int 0, iD (R.length - 1), iD v1, iD v2] [some (.io d2), some (.fz (dn p)), some (.fz (rwD R)), some (.ow (dn p)), some (.fz (.int (R.length : Int))), none, none, none, none, none] = some (.nx [some (.io d2), some (.fz (dn p)), some (.fz (rwD R)), some (.ow (dn p)), some (.fz (.int (R.length : Int))), some (.fz (iD v2)), l6, l7, l8, l9]) := by
    have s1 : (bNm 5 (.int 0) [some (.io d2), some (.fz (dn p)), some (.fz (rwD R)), some (.ow (dn p)), some (.fz (.int (R.length : Int))), none, none, none, none, none]).bind l_order_right_1 = _ := s1
    rw [loop_nx s1, loop_nx s2, loop_nx s3, loop_nx s4]; rfl
  have q1 := I.numbered (i := R.length - 1) (by omega)
  have ix := ix_rw (l := R) (i := R.length - 1) (by omega)
  have c1 := I.caught (i := R.length) (Nat.le_refl _)
  have c1 : m__law_caught [some (.fz (dn p)), some (.fz (.int (R.length : Int)))] = some (.v (.int (R.length : Int)), [some (.fz (dn p)), some (.fz (.int (R.length : Int)))]) := c1
  have c2 := I.caught (i := 10 ^ 29) (by
    have : (5040 : Nat) ≤ 10 ^ 29 := by decide
    omega)
  have pw : dPow (.int 10) (.int 29) = some (.v (iD (10 ^ 29))) := by
    rw [pow_ok (by decide +kernel)]
    rfl
  have w1 : dEq (.int (R.length : Int)) (.int (R.length : Int)) = some true := by rw [dEq_int]; simp
  have w2 : dEq (iD (10 ^ 29)) (iD (10 ^ 29)) = some true := by
    show dEq (.int _) (.int _) = _
    rw [dEq_int]; simp
  generalize iD (10 ^ 29) = big at *
  generalize R[R.length - 1] = x at *
  refine ⟨d2, g2, ?_⟩
  simp [m__law_order_right, b__law_order_right_body, e_order_right_1, c, bl, sb, e1, e2, lp, q1, ix, c1, c2, pw, w1, w2]
end K36

namespace K36
open PySem PySem.Spec PyProof.Rows L2 TL
/-! ### written classes -/
noncomputable def kfL : List (List Nat) := [[1, 3, 0, 5, 4, 6, 2], [1, 3, 5, 0, 2, 6, 4], [1, 3, 5, 0, 4, 6, 2], [1, 3, 5, 2, 0, 6, 4], [1, 3, 5, 4, 0, 6, 2], [1, 3, 6, 0, 2, 5, 4], [1, 3, 6, 0, 5, 4, 2], [1, 3, 6, 2, 0, 5, 4], [1, 3, 6, 2, 5, 4, 0], [1, 3, 6, 4, 0, 2, 5], [1, 3, 6, 4, 2, 0, 5], [1, 3, 6, 5, 4, 0, 2],
  [1, 3, 6, 5, 4, 2, 0], [1, 4, 0, 2, 6, 3, 5], [1, 4, 0, 2, 6, 5, 3], [1, 4, 0, 6, 2, 5, 3], [1, 4, 0, 6, 3, 2, 5], [1, 4, 0, 6, 5, 3, 2], [1, 4, 2, 6, 0, 5, 3], [1, 4, 2, 6, 3, 0, 5], [1, 4, 2, 6, 5, 3, 0], [1, 4, 3, 0, 6, 2, 5], [1, 4, 3, 0, 6, 5, 2], [1, 4, 3, 2, 6, 0, 5],
  [1, 4, 3, 2, 6, 5, 0], [1, 4, 3, 6, 0, 2, 5], [1, 4, 3, 6, 2, 5, 0], [1, 4, 3, 6, 5, 0, 2], [1, 4, 6, 0, 3, 2, 5], [1, 4, 6, 0, 5, 3, 2], [1, 4, 6, 2, 0, 5, 3], [1, 4, 6, 2, 5, 0, 3], [1, 4, 6, 3, 2, 0, 5], [1, 4, 6, 3, 2, 5, 0], [1, 4, 6, 5, 0, 3, 2], [1, 4, 6, 5, 3, 2, 0],
  [1, 5, 0, 2, 4, 6, 3], [1, 5, 0, 3, 6, 2, 4], [1, 5, 0, 3, 6, 4, 2], [1, 5, 0, 4, 2, 6, 3], [1, 5, 2, 4, 0, 6, 3], [1, 5, 3, 0, 2, 6, 4], [1, 5, 3, 0, 6, 2, 4], [1, 5, 3, 0, 6, 4, 2], [1, 5, 3, 2, 6, 0, 4], [1, 5, 3, 2, 6, 4, 0], [1, 5, 3, 6, 0, 4, 2], [1, 5, 3, 6, 2, 0, 4],
  [1, 5, 3, 6, 4, 2, 0], [1, 5, 4, 0, 3, 6, 2], [1, 5, 4, 2, 0, 6, 3], [1, 5, 4, 2, 6, 0, 3], [1, 5, 4, 2, 6, 3, 0], [1, 5, 4, 3, 6, 0, 2], [1, 5, 4, 3, 6, 2, 0], [1, 6, 0, 2, 5, 4, 3], [1, 6, 0, 3, 5, 2, 4], [1, 6, 0, 4, 3, 2, 5], [1, 6, 0, 4, 3, 5, 2], [1, 6, 0, 5, 2, 4, 3],
  [1, 6, 2, 0, 4, 3, 5], [1, 6, 2, 4, 0, 3, 5], [1, 6, 2, 4, 3, 0, 5], [1, 6, 2, 5, 0, 4, 3], [1, 6, 2, 5, 4, 3, 0], [1, 6, 3, 0, 2, 5, 4], [1, 6, 3, 0, 5, 2, 4], [1, 6, 3, 2, 5, 0, 4], [1, 6, 3, 5, 2, 0, 4], [1, 6, 3, 5, 2, 4, 0], [1, 6, 4, 0, 3, 5, 2], [1, 6, 4, 3, 0, 2, 5],
  [1, 6, 4, 3, 0, 5, 2], [1, 6, 4, 3, 2, 5, 0], [1, 6, 4, 3, 5, 2, 0], [1, 6, 5, 0, 4, 3, 2], [1, 6, 5, 2, 0, 4, 3], [1, 6, 5, 2, 4, 0, 3], [1, 6, 5, 2, 4, 3, 0], [1, 6, 5, 4, 3, 0, 2], [2, 0, 3, 5, 1, 6, 4], [2, 0, 3, 6, 1, 5, 4], [2, 0, 3, 6, 4, 1, 5], [2, 0, 3, 6, 5, 4, 1],
  [2, 0, 4, 6, 1, 5, 3], [2, 0, 4, 6, 3, 1, 5], [2, 0, 4, 6, 5, 3, 1], [2, 0, 5, 3, 6, 1, 4], [2, 0, 5, 3, 6, 4, 1], [2, 0, 5, 4, 1, 6, 3], [2, 0, 5, 4, 3, 6, 1], [2, 0, 6, 1, 4, 3, 5], [2, 0, 6, 3, 5, 1, 4], [2, 0, 6, 4, 3, 5, 1], [2, 0, 6, 5, 1, 4, 3], [2, 1, 3, 5, 0, 6, 4],
  [2, 1, 3, 6, 0, 5, 4], [2, 1, 3, 6, 4, 0, 5], [2, 1, 3, 6, 5, 4, 0], [2, 1, 4, 6, 0, 3, 5], [2, 1, 4, 6, 3, 5, 0], [2, 1, 4, 6, 5, 0, 3], [2, 1, 5, 0, 3, 6, 4], [2, 1, 5, 4, 3, 6, 0], [2, 1, 5, 4, 6, 0, 3], [2, 1, 5, 4, 6, 3, 0], [2, 1, 6, 0, 3, 5, 4], [2, 1, 6, 3, 5, 4, 0],
  [2, 1, 6, 4, 0, 3, 5], [2, 1, 6, 5, 4, 0, 3], [2, 4, 0, 5, 1, 6, 3], [2, 4, 0, 6, 1, 3, 5], [2, 4, 0, 6, 3, 5, 1], [2, 4, 0, 6, 5, 1, 3], [2, 4, 1, 3, 6, 0, 5], [2, 4, 1, 3, 6, 5, 0], [2, 4, 1, 5, 0, 6, 3], [2, 4, 1, 6, 0, 5, 3], [2, 4, 1, 6, 3, 0, 5], [2, 4, 1, 6, 5, 3, 0],
  [2, 4, 3, 0, 6, 1, 5], [2, 4, 3, 0, 6, 5, 1], [2, 5, 0, 4, 3, 6, 1], [2, 5, 0, 4, 6, 1, 3], [2, 5, 0, 4, 6, 3, 1], [2, 5, 0, 6, 1, 4, 3], [2, 5, 0, 6, 3, 1, 4], [2, 5, 0, 6, 4, 3, 1], [2, 5, 1, 3, 0, 6, 4], [2, 5, 1, 4, 0, 6, 3], [2, 5, 1, 4, 3, 6, 0], [2, 5, 1, 6, 0, 4, 3],
  [2, 5, 1, 6, 3, 0, 4], [2, 5, 1, 6, 4, 3, 0], [2, 5, 3, 1, 6, 0, 4], [2, 5, 3, 1, 6, 4, 0], [2, 5, 4, 0, 3, 6, 1], [2, 5, 4, 1, 3, 6, 0], [2, 5, 4, 3, 0, 6, 1], [2, 5, 4, 3, 1, 6, 0], [2, 6, 0, 4, 1, 5, 3], [2, 6, 0, 4, 3, 1, 5], [2, 6, 0, 5, 3, 1, 4], [2, 6, 0, 5, 4, 1, 3],
  [2, 6, 1, 3, 0, 5, 4], [2, 6, 1, 4, 0, 5, 3], [2, 6, 1, 5, 0, 4, 3], [2, 6, 1, 5, 3, 0, 4], [2, 6, 3, 0, 4, 1, 5], [2, 6, 3, 0, 5, 4, 1], [2, 6, 3, 1, 4, 0, 5], [2, 6, 3, 1, 5, 0, 4], [2, 6, 4, 0, 5, 3, 1], [2, 6, 4, 1, 3, 0, 5], [2, 6, 4, 1, 5, 3, 0], [2, 6, 4, 3, 1, 5, 0],
  [2, 6, 5, 0, 4, 3, 1], [2, 6, 5, 3, 0, 4, 1], [2, 6, 5, 3, 1, 4, 0], [2, 6, 5, 4, 1, 3, 0], [3, 0, 2, 5, 4, 6, 1], [3, 0, 4, 1, 6, 2, 5], [3, 0, 4, 1, 6, 5, 2], [3, 0, 4, 2, 6, 1, 5], [3, 0, 4, 2, 6, 5, 1], [3, 0, 5, 2, 1, 6, 4], [3, 0, 5, 2, 6, 1, 4], [3, 0, 5, 2, 6, 4, 1],
  [3, 0, 5, 4, 1, 6, 2], [3, 0, 6, 1, 4, 2, 5], [3, 0, 6, 1, 5, 4, 2], [3, 0, 6, 2, 1, 5, 4], [3, 0, 6, 2, 5, 1, 4], [3, 0, 6, 4, 2, 1, 5], [3, 0, 6, 4, 2, 5, 1], [3, 0, 6, 5, 1, 4, 2], [3, 0, 6, 5, 4, 2, 1], [3, 1, 0, 4, 6, 2, 5], [3, 1, 0, 4, 6, 5, 2], [3, 1, 5, 0, 4, 6, 2],
  [3, 1, 5, 0, 6, 2, 4], [3, 1, 5, 0, 6, 4, 2], [3, 1, 5, 2, 6, 0, 4], [3, 1, 5, 2, 6, 4, 0], [3, 1, 5, 4, 2, 6, 0], [3, 1, 6, 0, 4, 2, 5], [3, 1, 6, 0, 5, 2, 4], [3, 1, 6, 2, 4, 0, 5], [3, 1, 6, 2, 5, 0, 4], [3, 1, 6, 4, 0, 5, 2], [3, 1, 6, 4, 2, 5, 0], [3, 1, 6, 5, 0, 4, 2],
  [3, 1, 6, 5, 2, 4, 0], [3, 2, 1, 4, 6, 0, 5], [3, 2, 1, 4, 6, 5, 0], [3, 2, 4, 0, 6, 1, 5], [3, 2, 4, 0, 6, 5, 1], [3, 2, 4, 1, 6, 0, 5], [3, 2, 4, 1, 6, 5, 0], [3, 2, 5, 0, 6, 1, 4], [3, 2, 5, 0, 6, 4, 1], [3, 2, 5, 1, 0, 6, 4], [3, 2, 5, 1, 4, 6, 0], [3, 2, 6, 0, 5, 1, 4],
  [3, 2, 6, 0, 5, 4, 1], [3, 2, 6, 1, 0, 5, 4], [3, 2, 6, 1, 4, 0, 5], [3, 2, 6, 4, 0, 5, 1], [3, 2, 6, 4, 1, 0, 5], [3, 2, 6, 5, 1, 4, 0], [3, 2, 6, 5, 4, 1, 0], [3, 5, 0, 2, 1, 6, 4], [3, 5, 0, 2, 4, 6, 1], [3, 5, 1, 0, 2, 6, 4], [3, 5, 1, 0, 6, 2, 4], [3, 5, 1, 0, 6, 4, 2],
  [3, 5, 1, 4, 0, 6, 2], [3, 5, 2, 1, 0, 6, 4], [3, 5, 2, 1, 6, 0, 4], [3, 5, 2, 1, 6, 4, 0], [3, 5, 2, 4, 1, 6, 0], [3, 5, 4, 0, 2, 6, 1], [3, 6, 0, 2, 1, 5, 4], [3, 6, 0, 2, 5, 4, 1], [3, 6, 0, 4, 2, 1, 5], [3, 6, 0, 5, 2, 4, 1], [3, 6, 0, 5, 4, 2, 1], [3, 6, 1, 0, 2, 5, 4],
  [3, 6, 1, 0, 5, 2, 4], [3, 6, 1, 0, 5, 4, 2], [3, 6, 1, 5, 0, 4, 2], [3, 6, 1, 5, 4, 0, 2], [3, 6, 2, 1, 0, 5, 4], [3, 6, 2, 1, 5, 0, 4], [3, 6, 2, 1, 5, 4, 0], [3, 6, 2, 4, 1, 0, 5], [3, 6, 2, 5, 4, 1, 0], [3, 6, 4, 0, 2, 1, 5], [3, 6, 4, 1, 0, 2, 5], [3, 6, 4, 1, 0, 5, 2],
  [3, 6, 4, 2, 1, 0, 5], [3, 6, 4, 2, 1, 5, 0], [3, 6, 5, 0, 4, 2, 1], [3, 6, 5, 2, 4, 1, 0], [3, 6, 5, 4, 0, 2, 1], [3, 6, 5, 4, 1, 0, 2], [3, 6, 5, 4, 2, 1, 0], [4, 0, 2, 5, 3, 6, 1], [4, 0, 2, 6, 1, 5, 3], [4, 0, 2, 6, 3, 1, 5], [4, 0, 2, 6, 5, 3, 1], [4, 0, 3, 1, 6, 2, 5],
  [4, 0, 3, 1, 6, 5, 2], [4, 0, 3, 6, 1, 5, 2], [4, 0, 3, 6, 2, 1, 5], [4, 0, 3, 6, 5, 2, 1], [4, 0, 5, 1, 3, 6, 2], [4, 0, 5, 2, 1, 6, 3], [4, 0, 5, 3, 2, 6, 1], [4, 0, 6, 1, 3, 2, 5], [4, 0, 6, 2, 5, 1, 3], [4, 0, 6, 3, 2, 5, 1], [4, 0, 6, 5, 1, 3, 2], [4, 1, 0, 2, 6, 3, 5],
  [4, 1, 0, 2, 6, 5, 3], [4, 1, 0, 5, 2, 6, 3], [4, 1, 0, 5, 3, 6, 2], [4, 1, 3, 2, 6, 0, 5], [4, 1, 3, 2, 6, 5, 0], [4, 1, 3, 5, 0, 6, 2], [4, 1, 3, 6, 0, 5, 2], [4, 1, 3, 6, 2, 0, 5], [4, 1, 3, 6, 5, 2, 0], [4, 1, 5, 3, 2, 6, 0], [4, 1, 6, 0, 3, 5, 2], [4, 1, 6, 0, 5, 3, 2],
  [4, 1, 6, 2, 0, 3, 5], [4, 1, 6, 2, 0, 5, 3], [4, 1, 6, 3, 2, 0, 5], [4, 1, 6, 3, 5, 2, 0], [4, 1, 6, 5, 2, 0, 3], [4, 1, 6, 5, 3, 2, 0], [4, 2, 0, 3, 6, 1, 5], [4, 2, 0, 3, 6, 5, 1], [4, 2, 0, 6, 1, 3, 5], [4, 2, 0, 6, 1, 5, 3], [4, 2, 0, 6, 3, 1, 5], [4, 2, 0, 6, 3, 5, 1],
  [4, 2, 0, 6, 5, 1, 3], [4, 2, 0, 6, 5, 3, 1], [4, 2, 1, 5, 0, 6, 3], [4, 2, 1, 5, 3, 6, 0], [4, 2, 1, 6, 0, 3, 5], [4, 2, 1, 6, 3, 5, 0], [4, 2, 1, 6, 5, 0, 3], [4, 2, 5, 1, 0, 6, 3], [4, 2, 6, 0, 3, 1, 5], [4, 2, 6, 0, 5, 3, 1], [4, 2, 6, 1, 0, 5, 3], [4, 2, 6, 1, 5, 0, 3],
  [4, 2, 6, 3, 1, 0, 5], [4, 2, 6, 3, 1, 5, 0], [4, 2, 6, 5, 0, 3, 1], [4, 2, 6, 5, 3, 1, 0], [4, 3, 1, 0, 6, 2, 5], [4, 3, 1, 0, 6, 5, 2], [4, 3, 1, 6, 0, 2, 5], [4, 3, 1, 6, 0, 5, 2], [4, 3, 1, 6, 2, 0, 5], [4, 3, 1, 6, 2, 5, 0], [4, 3, 1, 6, 5, 0, 2], [4, 3, 1, 6, 5, 2, 0],
  [4, 3, 2, 0, 6, 1, 5], [4, 3, 2, 0, 6, 5, 1], [4, 3, 2, 5, 0, 6, 1], [4, 3, 2, 5, 1, 6, 0], [4, 3, 5, 0, 2, 6, 1], [4, 3, 5, 1, 0, 6, 2], [4, 3, 5, 2, 1, 6, 0], [4, 3, 6, 0, 2, 5, 1], [4, 3, 6, 1, 0, 2, 5], [4, 3, 6, 2, 5, 1, 0], [4, 3, 6, 5, 1, 0, 2], [4, 6, 0, 3, 2, 1, 5],
  [4, 6, 0, 3, 5, 2, 1], [4, 6, 1, 0, 3, 5, 2], [4, 6, 1, 5, 0, 3, 2], [4, 6, 2, 1, 0, 3, 5], [4, 6, 2, 1, 5, 0, 3], [4, 6, 3, 2, 1, 5, 0], [4, 6, 3, 5, 2, 1, 0], [4, 6, 5, 0, 3, 2, 1], [4, 6, 5, 2, 1, 0, 3], [5, 0, 2, 4, 1, 6, 3], [5, 0, 2, 4, 3, 6, 1], [5, 0, 3, 2, 1, 6, 4],
  [5, 0, 3, 2, 6, 1, 4], [5, 0, 3, 2, 6, 4, 1], [5, 0, 3, 6, 1, 4, 2], [5, 0, 3, 6, 2, 1, 4], [5, 0, 3, 6, 4, 2, 1], [5, 0, 4, 1, 3, 6, 2], [5, 0, 4, 2, 6, 1, 3], [5, 0, 4, 2, 6, 3, 1], [5, 0, 4, 3, 1, 6, 2], [5, 0, 6, 1, 4, 3, 2], [5, 0, 6, 2, 1, 4, 3], [5, 0, 6, 3, 2, 1, 4],
  [5, 0, 6, 4, 3, 2, 1], [5, 1, 0, 2, 4, 6, 3], [5, 1, 0, 6, 2, 4, 3], [5, 1, 0, 6, 3, 2, 4], [5, 1, 0, 6, 4, 3, 2], [5, 1, 3, 0, 4, 6, 2], [5, 1, 3, 0, 6, 2, 4], [5, 1, 3, 0, 6, 4, 2], [5, 1, 3, 2, 0, 6, 4], [5, 1, 4, 2, 0, 6, 3], [5, 1, 4, 3, 0, 6, 2], [5, 1, 4, 3, 2, 6, 0],
  [5, 1, 4, 6, 0, 3, 2], [5, 1, 4, 6, 2, 0, 3], [5, 1, 4, 6, 3, 2, 0], [5, 2, 0, 3, 1, 6, 4], [5, 2, 0, 4, 1, 6, 3], [5, 2, 0, 4, 6, 1, 3], [5, 2, 0, 4, 6, 3, 1], [5, 2, 1, 0, 3, 6, 4], [5, 2, 1, 4, 6, 0, 3], [5, 2, 1, 4, 6, 3, 0], [5, 2, 1, 6, 0, 4, 3], [5, 2, 1, 6, 3, 0, 4],
  [5, 2, 1, 6, 4, 3, 0], [5, 2, 4, 1, 0, 6, 3], [5, 2, 4, 1, 6, 0, 3], [5, 2, 4, 1, 6, 3, 0], [5, 2, 4, 3, 1, 6, 0], [5, 2, 6, 0, 4, 3, 1], [5, 2, 6, 1, 0, 4, 3], [5, 2, 6, 3, 1, 0, 4], [5, 2, 6, 4, 3, 1, 0], [5, 3, 0, 2, 4, 6, 1], [5, 3, 0, 2, 6, 1, 4], [5, 3, 0, 2, 6, 4, 1],
  [5, 3, 0, 4, 2, 6, 1], [5, 3, 1, 0, 2, 6, 4], [5, 3, 1, 0, 4, 6, 2], [5, 3, 1, 4, 2, 6, 0], [5, 3, 1, 6, 0, 4, 2], [5, 3, 1, 6, 2, 0, 4], [5, 3, 1, 6, 4, 2, 0], [5, 3, 2, 0, 6, 1, 4], [5, 3, 2, 0, 6, 4, 1], [5, 3, 2, 1, 4, 6, 0], [5, 3, 2, 6, 0, 4, 1], [5, 3, 2, 6, 1, 0, 4],
  [5, 3, 2, 6, 4, 1, 0], [5, 4, 1, 0, 3, 6, 2], [5, 4, 1, 3, 0, 6, 2], [5, 4, 1, 3, 6, 0, 2], [5, 4, 1, 3, 6, 2, 0], [5, 4, 2, 0, 3, 6, 1], [5, 4, 2, 1, 3, 6, 0], [5, 4, 2, 1, 6, 0, 3], [5, 4, 2, 1, 6, 3, 0], [5, 4, 3, 0, 2, 6, 1], [5, 4, 3, 6, 0, 2, 1], [5, 4, 3, 6, 1, 0, 2],
  [5, 4, 3, 6, 2, 1, 0], [5, 4, 6, 0, 3, 2, 1], [5, 4, 6, 1, 0, 3, 2], [5, 4, 6, 2, 1, 0, 3], [5, 4, 6, 3, 2, 1, 0], [6, 0, 2, 5, 1, 4, 3], [6, 0, 2, 5, 4, 3, 1], [6, 0, 3, 1, 5, 4, 2], [6, 0, 3, 2, 1, 5, 4], [6, 0, 3, 2, 5, 1, 4], [6, 0, 3, 5, 2, 1, 4], [6, 0, 3, 5, 4, 2, 1],
  [6, 0, 4, 2, 1, 5, 3], [6, 0, 4, 2, 5, 3, 1], [6, 0, 4, 3, 1, 5, 2], [6, 0, 4, 3, 2, 5, 1], [6, 0, 5, 1, 4, 3, 2], [6, 0, 5, 2, 4, 1, 3], [6, 0, 5, 3, 2, 1, 4], [6, 0, 5, 3, 2, 4, 1], [6, 0, 5, 4, 1, 3, 2], [6, 1, 0, 2, 5, 4, 3], [6, 1, 0, 3, 5, 4, 2], [6, 1, 0, 4, 2, 5, 3],
  [6, 1, 0, 4, 3, 2, 5], [6, 1, 0, 5, 3, 2, 4], [6, 1, 3, 0, 5, 2, 4], [6, 1, 3, 2, 0, 5, 4], [6, 1, 4, 0, 3, 2, 5], [6, 1, 4, 0, 3, 5, 2], [6, 1, 4, 0, 5, 3, 2], [6, 1, 4, 3, 0, 2, 5], [6, 1, 4, 3, 2, 0, 5], [6, 1, 5, 2, 0, 4, 3], [6, 1, 5, 3, 0, 4, 2], [6, 1, 5, 4, 0, 3, 2],
  [6, 1, 5, 4, 2, 0, 3], [6, 2, 0, 3, 1, 5, 4], [6, 2, 0, 4, 3, 1, 5], [6, 2, 0, 5, 1, 4, 3], [6, 2, 0, 5, 4, 1, 3], [6, 2, 1, 0, 3, 5, 4], [6, 2, 1, 4, 0, 3, 5], [6, 2, 1, 4, 0, 5, 3], [6, 2, 1, 5, 3, 0, 4], [6, 2, 1, 5, 4, 0, 3], [6, 2, 4, 1, 0, 5, 3], [6, 2, 4, 1, 3, 0, 5],
  [6, 2, 5, 1, 0, 4, 3], [6, 2, 5, 1, 4, 0, 3], [6, 2, 5, 1, 4, 3, 0], [6, 2, 5, 3, 1, 0, 4], [6, 2, 5, 4, 3, 1, 0], [6, 3, 0, 2, 5, 1, 4], [6, 3, 0, 4, 2, 1, 5], [6, 3, 0, 5, 2, 4, 1], [6, 3, 1, 0, 2, 5, 4], [6, 3, 1, 0, 4, 2, 5], [6, 3, 1, 5, 2, 0, 4], [6, 3, 1, 5, 4, 2, 0],
  [6, 3, 2, 0, 5, 1, 4], [6, 3, 2, 0, 5, 4, 1], [6, 3, 2, 1, 4, 0, 5], [6, 3, 2, 1, 5, 4, 0], [6, 3, 2, 4, 1, 0, 5], [6, 3, 2, 5, 1, 0, 4], [6, 3, 2, 5, 1, 4, 0], [6, 3, 5, 2, 1, 4, 0], [6, 3, 5, 4, 2, 1, 0], [6, 4, 0, 3, 2, 1, 5], [6, 4, 0, 3, 2, 5, 1], [6, 4, 0, 3, 5, 2, 1],
  [6, 4, 0, 5, 3, 2, 1], [6, 4, 1, 0, 5, 3, 2], [6, 4, 1, 3, 0, 5, 2], [6, 4, 1, 3, 2, 0, 5], [6, 4, 2, 0, 3, 1, 5], [6, 4, 2, 1, 0, 3, 5], [6, 4, 2, 1, 5, 3, 0], [6, 4, 2, 5, 3, 1, 0], [6, 4, 3, 0, 2, 5, 1], [6, 4, 3, 1, 0, 2, 5], [6, 4, 3, 1, 5, 2, 0], [6, 4, 3, 2, 0, 5, 1],
  [6, 4, 3, 2, 5, 1, 0], [6, 5, 1, 0, 4, 3, 2], [6, 5, 1, 4, 0, 3, 2], [6, 5, 1, 4, 3, 0, 2], [6, 5, 1, 4, 3, 2, 0], [6, 5, 2, 0, 4, 3, 1], [6, 5, 2, 1, 4, 0, 3], [6, 5, 2, 4, 1, 3, 0], [6, 5, 3, 0, 4, 2, 1], [6, 5, 3, 1, 0, 4, 2], [6, 5, 3, 2, 1, 4, 0], [6, 5, 3, 2, 4, 1, 0],
  [6, 5, 4, 0, 3, 2, 1], [6, 5, 4, 1, 3, 2, 0], [6, 5, 4, 2, 0, 3, 1], [6, 5, 4, 2, 1, 0, 3], [6, 5, 4, 3, 1, 0, 2]]
noncomputable def kfU : List Nat := [0, 1, 2, 3, 4, 9, 7, 10, 5, 11, 12, 8,
  6, 14, 13, 16, 17, 15, 19, 20, 18, 22, 21, 24,
  23, 27, 25, 26, 34, 30, 32, 33, 35, 28, 31, 29,
  36, 38, 37, 39, 40, 41, 43, 42, 45, 44, 47, 48,
  46, 49, 50, 52, 51, 54, 53, 65, 70, 75, 60, 66,
  76, 77, 78, 67, 55, 71, 72, 73, 74, 56, 61, 79,
  62, 57, 58, 63, 68, 69, 59, 64, 80, 82, 83, 81,
  85, 86, 84, 88, 87, 89, 90, 94, 93, 91, 92, 95,
  97, 98, 96, 101, 99, 100, 102, 103, 105, 104, 108, 106,
  109, 107, 110, 113, 111, 112, 115, 114, 116, 118, 119, 117,
  121, 120, 122, 124, 123, 126, 127, 125, 128, 129, 130, 132,
  133, 131, 135, 134, 136, 137, 138, 139, 148, 156, 152, 149,
  153, 150, 151, 154, 157, 144, 158, 155, 145, 159, 140, 141,
  146, 147, 142, 143, 160, 162, 161, 164, 163, 165, 167, 166,
  168, 175, 171, 173, 174, 176, 169, 172, 170, 178, 177, 179,
  181, 180, 183, 182, 184, 191, 189, 192, 190, 187, 185, 188,
  186, 194, 193, 196, 195, 198, 197, 200, 199, 201, 202, 207,
  205, 208, 209, 206, 210, 203, 204, 211, 212, 213, 215, 214,
  216, 217, 219, 218, 220, 221, 237, 227, 242, 228, 229, 238,
  239, 232, 233, 234, 240, 241, 222, 243, 223, 244, 245, 235,
  246, 224, 230, 225, 231, 236, 226, 247, 249, 250, 248, 252,
  251, 254, 255, 253, 256, 257, 258, 262, 261, 259, 260, 264,
  263, 265, 266, 268, 267, 269, 271, 272, 270, 273, 276, 277,
  280, 278, 281, 274, 279, 275, 283, 282, 288, 286, 289, 284,
  287, 285, 290, 291, 294, 292, 293, 295, 302, 298, 300, 301,
  303, 296, 299, 297, 305, 304, 310, 308, 311, 306, 309, 307,
  313, 312, 314, 315, 316, 317, 318, 320, 322, 319, 321, 331,
  325, 327, 328, 332, 329, 323, 324, 326, 330, 333, 334, 335,
  337, 336, 339, 340, 338, 341, 343, 342, 344, 346, 347, 348,
  345, 349, 351, 352, 350, 353, 355, 354, 356, 357, 358, 359,
  361, 362, 360, 363, 364, 366, 365, 367, 369, 368, 371, 372,
  370, 373, 375, 374, 376, 378, 379, 380, 377, 381, 383, 382,
  384, 385, 386, 387, 389, 390, 388, 392, 391, 393, 395, 396,
  394, 397, 398, 400, 399, 401, 402, 404, 403, 405, 407, 408,
  406, 410, 411, 412, 409, 461, 429, 445, 477, 478, 479, 430,
  462, 431, 446, 432, 447, 463, 480, 433, 448, 464, 449, 465,
  493, 481, 482, 483, 494, 450, 451, 495, 496, 466, 452, 453,
  467, 484, 497, 468, 469, 485, 498, 470, 486, 471, 472, 499,
  473, 474, 413, 487, 414, 488, 500, 434, 489, 501, 490, 415,
  491, 435, 502, 416, 503, 492, 417, 418, 419, 504, 436, 437,
  438, 454, 455, 505, 506, 507, 420, 421, 439, 508, 422, 440,
  423, 456, 457, 458, 424, 441, 475, 425, 442, 459, 426, 427,
  443, 428, 444, 476, 460]
noncomputable def kfV : List Nat := [17, 5, 29, 7, 34, 1, 22, 3, 115, 9, 10, 27,
  119, 13, 36, 39, 16, 38, 40, 19, 135, 21, 49, 23,
  139, 25, 137, 53, 28, 43, 50, 51, 32, 130, 46, 133,
  55, 56, 58, 59, 63, 65, 66, 70, 67, 155, 72, 68,
  154, 75, 76, 77, 158, 79, 159, 14, 37, 57, 0, 15,
  60, 61, 62, 18, 98, 41, 42, 44, 47, 100, 2, 71,
  4, 103, 105, 6, 30, 31, 107, 11, 81, 80, 82, 164,
  89, 85, 167, 92, 174, 94, 176, 91, 87, 160, 84, 96,
  95, 97, 198, 99, 202, 104, 106, 210, 109, 209, 102, 194,
  108, 101, 125, 111, 212, 123, 114, 220, 131, 129, 118, 219,
  120, 221, 226, 143, 225, 140, 142, 223, 144, 146, 236, 145,
  147, 234, 151, 241, 242, 243, 244, 246, 110, 141, 126, 113,
  128, 116, 117, 132, 148, 196, 150, 134, 200, 153, 183, 184,
  204, 207, 190, 192, 255, 161, 256, 163, 258, 171, 172, 261,
  262, 169, 252, 165, 166, 173, 247, 253, 250, 177, 266, 275,
  186, 274, 188, 301, 303, 185, 180, 187, 182, 269, 291, 270,
  293, 193, 315, 195, 316, 197, 318, 203, 319, 205, 321, 199,
  313, 201, 206, 314, 208, 309, 311, 222, 324, 227, 228, 325,
  326, 232, 233, 329, 330, 331, 211, 283, 224, 287, 289, 213,
  214, 305, 307, 310, 217, 218, 268, 235, 272, 237, 238, 317,
  240, 273, 297, 279, 302, 322, 281, 340, 333, 249, 337, 251,
  341, 344, 254, 343, 345, 346, 348, 259, 342, 334, 338, 263,
  349, 350, 352, 267, 376, 360, 358, 271, 375, 380, 353, 355,
  276, 357, 278, 369, 361, 372, 282, 384, 284, 364, 286, 381,
  365, 383, 370, 396, 292, 393, 368, 378, 296, 392, 373, 374,
  300, 387, 394, 390, 304, 397, 306, 398, 308, 402, 399, 404,
  312, 405, 406, 408, 409, 410, 412, 401, 320, 400, 407, 323,
  366, 386, 388, 327, 403, 359, 362, 377, 411, 413, 419, 416,
  417, 423, 422, 418, 421, 424, 425, 427, 428, 415, 420, 426,
  414, 429, 431, 433, 430, 438, 434, 437, 435, 441, 443, 460,
  442, 444, 458, 445, 447, 448, 463, 449, 453, 474, 451, 452,
  471, 456, 457, 475, 476, 469, 454, 459, 467, 479, 461, 478,
  480, 464, 481, 487, 482, 466, 486, 468, 488, 492, 491, 473,
  490, 493, 494, 495, 499, 500, 503, 498, 502, 504, 506, 508,
  505, 497, 501, 507, 496, 248, 83, 162, 335, 336, 339, 86,
  257, 88, 168, 90, 170, 260, 347, 93, 175, 264, 178, 265,
  432, 351, 354, 356, 436, 179, 181, 439, 440, 277, 189, 191,
  280, 363, 446, 285, 288, 367, 450, 290, 371, 294, 295, 455,
  298, 299, 8, 379, 12, 382, 462, 112, 385, 465, 389, 20,
  391, 121, 470, 24, 472, 395, 26, 33, 35, 477, 122, 124,
  127, 215, 216, 483, 484, 485, 45, 48, 136, 489, 52, 138,
  54, 229, 230, 231, 64, 149, 328, 69, 152, 239, 73, 74,
  156, 78, 157, 332, 245]
noncomputable def kfP : List (Nat × Bool × Nat) := [(0, true, 0), (5, false, 18), (70, false, 6), (7, false, 20), (72, false, 7), (8, true, 17), (12, true, 18), (6, true, 19), (458, false, 16), (5, true, 18), (7, true, 20), (9, true, 19),
  (460, false, 17), (14, true, 21), (55, false, 20), (17, true, 2), (15, true, 3), (0, false, 1), (20, true, 18), (18, true, 19), (467, false, 17), (22, true, 20), (6, false, 19), (24, true, 19),
  (471, false, 18), (26, true, 18), (474, false, 17), (25, true, 19), (33, true, 10), (2, false, 7), (76, false, 6), (77, false, 8), (30, true, 7), (31, true, 9), (4, false, 8), (32, true, 8),
  (14, false, 21), (38, true, 3), (17, false, 2), (15, false, 3), (18, false, 19), (65, false, 21), (66, false, 6), (42, true, 7), (45, true, 19), (486, false, 18), (34, false, 9), (68, false, 7),
  (47, true, 8), (22, false, 20), (30, false, 7), (31, false, 9), (51, true, 10), (54, true, 19), (492, false, 18), (64, true, 19), (37, false, 4), (73, true, 21), (38, false, 3), (39, false, 4),
  (58, true, 4), (70, true, 6), (72, true, 7), (40, false, 20), (496, false, 18), (55, true, 20), (59, true, 5), (44, false, 20), (76, true, 6), (77, true, 8), (56, true, 5), (65, true, 21),
  (66, true, 6), (502, false, 20), (68, true, 7), (49, false, 21), (60, true, 5), (61, true, 7), (62, true, 8), (53, false, 20), (81, false, 20), (83, true, 19), (81, true, 20), (414, false, 18),
  (86, true, 16), (84, true, 17), (419, false, 15), (88, true, 16), (421, false, 15), (84, false, 17), (423, false, 19), (93, true, 15), (94, true, 17), (427, false, 14), (91, true, 16), (96, false, 21),
  (98, true, 20), (96, true, 21), (64, false, 19), (100, true, 10), (69, false, 9), (99, true, 11), (106, false, 11), (73, false, 21), (105, true, 9), (74, false, 8), (107, true, 10), (78, false, 9),
  (106, true, 11), (104, false, 10), (140, false, 11), (112, true, 17), (463, false, 16), (111, true, 18), (115, true, 18), (8, false, 17), (145, false, 12), (119, true, 19), (117, true, 20), (12, false, 18),
  (121, true, 18), (469, false, 17), (478, false, 19), (124, true, 18), (479, false, 17), (110, false, 12), (142, false, 13), (126, true, 14), (144, false, 21), (117, false, 20), (33, false, 10), (133, true, 10),
  (131, true, 11), (35, false, 9), (135, true, 19), (20, false, 18), (488, false, 19), (26, false, 18), (491, false, 16), (24, false, 19), (154, true, 10), (155, true, 20), (158, true, 12), (123, false, 19),
  (149, true, 20), (131, false, 11), (129, false, 21), (132, false, 12), (140, true, 11), (497, false, 19), (145, true, 12), (134, false, 20), (142, true, 13), (144, true, 21), (48, false, 9), (45, false, 19),
  (141, true, 21), (148, true, 12), (52, false, 11), (54, false, 19), (93, false, 15), (162, true, 19), (415, false, 18), (164, true, 20), (83, false, 19), (171, false, 21), (172, false, 17), (86, false, 16),
  (422, false, 17), (174, true, 17), (424, false, 19), (170, true, 20), (175, true, 16), (171, true, 21), (88, false, 16), (428, false, 15), (90, false, 20), (178, true, 17), (430, false, 16), (437, false, 18),
  (181, true, 18), (438, false, 17), (183, true, 11), (154, false, 10), (155, false, 20), (190, true, 13), (192, true, 19), (189, true, 17), (182, false, 12), (442, false, 16), (158, false, 12), (185, true, 14),
  (187, true, 18), (194, true, 11), (107, false, 10), (196, true, 21), (149, false, 20), (198, true, 21), (98, false, 20), (203, false, 11), (199, true, 12), (205, false, 24), (100, false, 10), (209, true, 10),
  (156, false, 22), (204, true, 23), (207, true, 12), (203, true, 11), (205, true, 24), (105, false, 9), (103, false, 22), (222, false, 12), (112, false, 17), (227, false, 14), (215, true, 17), (481, false, 16),
  (482, false, 18), (232, false, 23), (219, true, 20), (119, false, 19), (115, false, 18), (121, false, 18), (234, true, 11), (236, true, 12), (241, true, 20), (124, false, 18), (122, false, 20), (223, true, 13),
  (214, false, 18), (226, true, 21), (242, true, 21), (244, true, 14), (229, true, 22), (218, false, 21), (133, false, 10), (239, true, 19), (130, false, 11), (222, true, 12), (227, true, 14), (501, false, 18),
  (232, true, 23), (135, false, 19), (136, false, 20), (137, false, 19), (237, true, 13), (238, true, 15), (139, false, 20), (174, false, 17), (413, false, 17), (248, true, 18), (249, true, 19), (252, true, 21),
  (170, false, 20), (175, false, 16), (253, true, 17), (160, false, 16), (162, false, 19), (420, false, 19), (164, false, 20), (261, true, 17), (425, false, 15), (260, true, 16), (259, true, 18), (264, true, 20),
  (429, false, 19), (431, false, 16), (178, false, 17), (268, true, 12), (234, false, 11), (189, false, 17), (272, true, 13), (270, true, 14), (236, false, 12), (241, false, 20), (279, true, 18), (179, false, 19),
  (274, true, 19), (275, true, 20), (277, true, 21), (280, true, 17), (444, false, 16), (246, false, 21), (283, true, 14), (223, false, 13), (287, true, 18), (447, false, 20), (285, true, 21), (288, true, 17),
  (448, false, 16), (226, false, 21), (451, false, 18), (190, false, 13), (293, true, 19), (294, true, 18), (453, false, 17), (454, false, 17), (301, true, 12), (242, false, 21), (297, true, 22), (302, true, 14),
  (298, true, 23), (183, false, 11), (296, true, 13), (184, false, 21), (305, true, 23), (229, false, 22), (309, true, 11), (230, false, 22), (307, true, 23), (209, false, 10), (306, true, 12), (210, false, 23),
  (313, true, 24), (204, false, 23), (207, false, 12), (194, false, 11), (196, false, 21), (239, false, 19), (198, false, 21), (321, true, 12), (319, true, 13), (202, false, 11), (320, true, 14), (329, true, 21),
  (212, false, 18), (215, false, 17), (216, false, 19), (325, true, 18), (326, true, 20), (219, false, 20), (220, false, 19), (221, false, 19), (327, true, 19), (248, false, 18), (261, false, 17), (416, false, 19),
  (417, false, 18), (336, true, 19), (340, true, 18), (418, false, 16), (339, true, 17), (252, false, 21), (260, false, 16), (342, true, 17), (253, false, 17), (256, false, 20), (257, false, 20), (346, true, 21),
  (258, false, 21), (264, false, 20), (352, true, 17), (433, false, 15), (351, true, 16), (274, false, 19), (434, false, 17), (354, true, 18), (435, false, 18), (277, false, 21), (270, false, 14), (329, false, 21),
  (269, false, 18), (280, false, 17), (361, true, 18), (445, false, 19), (285, false, 21), (288, false, 17), (365, true, 18), (449, false, 17), (294, false, 18), (279, false, 18), (372, true, 19), (452, false, 17),
  (371, true, 18), (298, false, 23), (375, true, 14), (272, false, 13), (268, false, 12), (331, false, 20), (295, false, 18), (378, true, 19), (379, true, 20), (287, false, 18), (461, false, 18), (382, true, 19),
  (283, false, 14), (464, false, 20), (325, false, 18), (301, false, 12), (326, false, 20), (388, true, 21), (303, false, 22), (468, false, 21), (297, false, 22), (293, false, 19), (302, false, 14), (394, true, 15),
  (291, false, 14), (305, false, 23), (307, false, 23), (400, true, 13), (321, false, 12), (319, false, 13), (309, false, 11), (328, false, 21), (403, true, 22), (313, false, 24), (408, true, 13), (406, true, 14),
  (315, false, 12), (316, false, 22), (317, false, 20), (332, false, 20), (411, true, 21), (458, true, 16), (460, true, 17), (467, true, 17), (471, true, 18), (474, true, 17), (475, true, 15), (476, true, 14),
  (486, true, 18), (487, true, 14), (490, true, 16), (492, true, 18), (496, true, 18), (499, true, 14), (502, true, 20), (503, true, 13), (505, true, 14), (414, true, 18), (419, true, 15), (421, true, 15),
  (423, true, 19), (427, true, 14), (463, true, 16), (469, true, 17), (478, true, 19), (479, true, 17), (480, true, 16), (488, true, 19), (491, true, 16), (497, true, 19), (500, true, 15), (358, false, 15),
  (506, true, 15), (415, true, 18), (422, true, 17), (424, true, 19), (428, true, 15), (430, true, 16), (437, true, 18), (438, true, 17), (442, true, 16), (443, true, 16), (481, true, 16), (482, true, 18),
  (493, true, 21), (374, false, 15), (495, true, 15), (501, true, 18), (508, true, 16), (413, true, 17), (420, true, 19), (425, true, 15), (429, true, 19), (431, true, 16), (441, true, 20), (444, true, 16),
  (447, true, 20), (448, true, 16), (451, true, 18), (453, true, 17), (454, true, 17), (395, false, 16), (457, true, 16), (375, false, 14), (376, false, 13), (416, true, 19), (417, true, 18), (418, true, 16),
  (384, false, 15), (433, true, 15), (434, true, 17), (435, true, 18), (445, true, 19), (449, true, 17), (452, true, 17), (387, false, 13), (461, true, 18), (464, true, 20), (396, false, 15), (394, false, 15),
  (473, true, 17), (432, true, 20), (436, true, 20), (399, false, 14), (440, true, 17), (446, true, 18), (450, true, 19), (400, false, 13), (401, false, 14), (465, true, 17), (470, true, 19), (402, false, 12),
  (477, true, 20), (408, false, 13), (406, false, 14), (485, true, 18), (407, false, 15)]
theorem kfC : Cert [1, 3, 0, 5, 4, 6, 2] kfL kfU kfV kfP := ⟨by decide +kernel, by decide +kernel⟩
noncomputable def kgL : List (List Nat) := [[1, 3, 0, 2], [1, 3, 2, 0], [2, 0, 3, 1], [2, 1, 3, 0], [3, 0, 2, 1], [3, 1, 0, 2], [3, 2, 1, 0]]
noncomputable def kgU : List Nat := [1, 0, 2, 3, 5, 6, 4]
noncomputable def kgV : List Nat := [0, 3, 4, 6, 2, 5, 1]
noncomputable def kgP : List (Nat × Bool × Nat) := [(1, true, 2), (6, false, 1), (4, false, 2), (1, false, 2), (6, true, 1), (4, true, 2), (0, true, 0)]
theorem kgC : Cert [3, 2, 1, 0] kgL kgU kgV kgP := ⟨by decide +kernel, by decide +kernel⟩
noncomputable def khL : List (List Nat) := [[1, 0]]
noncomputable def khU : List Nat := [0]
noncomputable def khV : List Nat := [0]
noncomputable def khP : List (Nat × Bool × Nat) := [(0, true, 0)]
theorem khC : Cert [1, 0] khL khU khV khP := ⟨by decide +kernel, by decide +kernel⟩
noncomputable def adjB : List (List Nat) → Bool
  | a :: b :: l => decide (zs a ≤ zs b) && adjB (b :: l)
  | _ => true
theorem adj_pw : ∀ l : List (List Nat), adjB l = true → l.Pairwise fun a b => zs a ≤ zs b
  | [], _ => .nil
  | [a], _ => by simp
  | a :: b :: l, h => by
    simp only [adjB, Bool.and_eq_true, decide_eq_true_eq] at h
    have ih := adj_pw (b :: l) h.2
    refine List.pairwise_cons.mpr ⟨fun x hx => ?_, ih⟩
    rcases List.mem_cons.mp hx with rfl | hx
    · exact h.1
    · exact List.le_trans h.1 ((List.pairwise_cons.mp ih).1 x hx)
theorem kfS : adjB kfL = true := by decide +kernel
theorem kgS : adjB kgL = true := by decide +kernel
theorem khS : adjB khL = true := by decide +kernel
theorem in_of {p : List Nat} {L : List (List Nat)} {U V : List Nat} {P : List (Nat × Bool × Nat)} (C : Cert p L U V P) (o : Ord p) (h : p.length ≤ 7) (s : adjB L = true) : In p L :=
  ⟨o, h, by rw [srw_perm (C.perm o)]; exact srw_sorted (adj_pw L s)⟩
end K36

namespace K36
open PySem PySem.Spec PyProof.Rows L2 TL
theorem lw36_one (ns : List Int) (i : Nat) (hi : i ≤ 10) (s1 s2 : Option Slt) (h1 : isIo (some s1) = false) (h2 : isIo (some s2) = false) : ∃ d, (bNm 1 (iD i) [some (.sc ns), s1, s2, none, none, none]).bind l_law_1 = some (.nx [some (.sc ns), some (.fz (iD i)), some (.ow d), none, none, none]) := by
  obtain ⟨d0, g0, e0⟩ := sp_law_generator_at ns i (by omega)
  obtain ⟨v, d1, hv, g1, e1⟩ := sp_random (k := 5) g0 (by omega) (by omega) (by omega)
  obtain ⟨p, d2, h, o, lp, g2, hh, e2⟩ := sp_law_order (k := 2 + v) g1 (by omega) (by omega) (by omega)
  obtain ⟨d3, g3, e3⟩ := sp_order_right g2 (by omega) o (by omega)
  have e1 : m__law_random [some (.io d0), some (.fz (.int 5))] = some (.v (iD v), [some (.io d1), some (.fz (.int 5))]) := e1
  have i2 : dAdd (.int 2) (iD v) = some (.v (iD (2 + v))) := by
    show some (Hd.v (.int (2 + (v : Int)))) = _
    unfold iD; congr 3
  refine ⟨d3, ?_⟩
  rcases hh with rfl | rfl <;> simp [l_law_1, c_law_1, h1, h2, e0, e1, i2, e2, e3, dB]
theorem get_of {L : List (List Nat)} {i : Nat} {x : List Nat} (h : L[i]? = some x) : ∃ hi : i < L.length, L[i] = x := List.getElem?_eq_some_iff.mp h
theorem In.num_at {q : List Nat} {R : List (List Nat)} (I : In q R) {i : Nat} {x : List Nat} (h : R[i]? = some x) : m_class_numbered [some (.fz (dn q)), some (.fz (iD i))] = some (.t (dn x), [some (.fz (dn q)), some (.fz (iD i))]) := by
  obtain ⟨hi, e⟩ := get_of h
  have := I.numbered hi
  rwa [e] at this
theorem In.number_at {q : List Nat} {R : List (List Nat)} (I : In q R) {i : Nat} {x : List Nat} (h : R[i]? = some x) : m_class_number [some (.fz (dn x))] = some (.v (iD i), [some (.fz (dn x))]) := by
  obtain ⟨hi, e⟩ := get_of h
  have := (I.of (List.getElem_mem hi)).number
  rw [idx_nd hi I.nd, e] at this
  exact this
theorem In.next_at {q : List Nat} {R : List (List Nat)} (I : In q R) {i : Nat} {x y : List Nat} (h : R[i]? = some x) (h2 : R[i + 1]? = some y) : m_next_in_class [some (.fz (dn x))] = some (.t (dn y), [some (.fz (dn x))]) := by
  obtain ⟨hi, e⟩ := get_of h
  obtain ⟨hj, e2⟩ := get_of h2
  have := (I.of (List.getElem_mem hi)).next
  rw [idx_nd hi I.nd, e] at this
  unfold nxD at this
  rw [dif_pos hj, e2] at this
  exact this
theorem In.next_end {q : List Nat} {R : List (List Nat)} (I : In q R) {i : Nat} {x : List Nat} (h : R[i]? = some x) (h2 : R.length ≤ i + 1) : m_next_in_class [some (.fz (dn x))] = some (.v .none, [some (.fz (dn x))]) := by
  obtain ⟨hi, e⟩ := get_of h
  have := (I.of (List.getElem_mem hi)).next
  rw [idx_nd hi I.nd, e] at this
  unfold nxD at this
  rw [dif_neg (by omega)] at this
  exact this
theorem law_true (ns : List Int) : ∃ r, m_law [some (.sc ns)] = some (.v (.bool true), r) := by
  obtain ⟨da, ea⟩ := lw36_one ns 0 (by omega) none none rfl rfl
  obtain ⟨db, eb⟩ := lw36_one ns 1 (by omega) (some (.fz (iD 0))) (some (.ow da)) rfl rfl
  have lp : loopD (bNm 1) l_law_1 [iD 0, iD 1] [some (.sc ns), none, none, none, none, none] = some (.nx [some (.sc ns), some (.fz (iD 1)), some (.ow db), none, none, none]) := by
    rw [loop_nx ea, loop_nx eb]; rfl
  have r2 : rgD 0 2 = [iD 0, iD 1] := rgD_iD 2
  have li : inLim 2 = true := rfl
  have of_ : Ord [1, 3, 0, 5, 4, 6, 2] := ⟨by decide, by decide, by decide, by decide⟩
  have og : Ord [3, 2, 1, 0] := ⟨by decide, by decide, by decide, by decide⟩
  have oh : Ord [1, 0] := ⟨by decide, by decide, by decide, by decide⟩
  have If := in_of kfC of_ (by decide) kfS
  have Ig := in_of kgC og (by decide) kgS
  have Ih := in_of khC oh (by decide) khS
  have a0 : kfL[0]? = some [1, 3, 0, 5, 4, 6, 2] := by decide +kernel
  have a1 : kfL[0 + 1]? = some [1, 3, 5, 0, 2, 6, 4] := by decide +kernel
  have a254 : kfL[254]? = some [4, 0, 3, 6, 2, 1, 5] := by decide +kernel
  have a508 : kfL[508]? = some [6, 5, 4, 3, 1, 0, 2] := by decide +kernel
  have lf : kfL.length = 509 := by decide +kernel
  have b0 : kgL[0]? = some [1, 3, 0, 2] := by decide
  have b2 : kgL[2]? = some [2, 0, 3, 1] := by decide
  have b3 : kgL[2 + 1]? = some [2, 1, 3, 0] := by decide
  have b6 : kgL[6]? = some [3, 2, 1, 0] := by decide
  have c0 : khL[0]? = some [1, 0] := by decide
  have f1 := If.number_at a0
  have f2 := If.next_at a0 a1
  have f3 := If.num_at a254
  have f4 := If.num_at a508
  have f5 := If.number_at a508
  have f6 := If.next_end a508 (by rw [lf]; decide)
  have f7 := If.caught (i := 509) (by rw [lf]; decide)
  have g0 := Ig.num_at b0
  have g2 := Ig.num_at b2
  have g6 := Ig.num_at b6
  have g3 := Ig.next_at b2 b3
  have g7 := Ig.next_end b6 (by decide)
  have h0 := Ih.number_at c0
  have i0 : iD 0 = .int 0 := rfl
  have i2 : iD 2 = .int 2 := rfl
  have i6 : iD 6 = .int 6 := rfl
  have i254 : iD 254 = .int 254 := rfl
  have i508 : iD 508 = .int 508 := rfl
  have i509 : iD 509 = .int 509 := rfl
  rw [i0] at f1 g0 h0
  rw [i254] at f3
  rw [i508] at f4 f5
  rw [i509] at f7
  rw [i2] at g2
  rw [i6] at g6
  have y1 : (PyData.list [.int 1, .int 3, .int 0, .int 5, .int 4, .int 6, .int 2]) = dn [1, 3, 0, 5, 4, 6, 2] := rfl
  have y2 : (PyData.list [.int 6, .int 5, .int 4, .int 3, .int 1, .int 0, .int 2]) = dn [6, 5, 4, 3, 1, 0, 2] := rfl
  have y3 : (PyData.list [.int 1, .int 3, .int 5, .int 0, .int 2, .int 6, .int 4]) = dn [1, 3, 5, 0, 2, 6, 4] := rfl
  have y4 : (PyData.list [.int 4, .int 0, .int 3, .int 6, .int 2, .int 1, .int 5]) = dn [4, 0, 3, 6, 2, 1, 5] := rfl
  have y5 : (PyData.list [.int 3, .int 2, .int 1, .int 0]) = dn [3, 2, 1, 0] := rfl
  have y6 : (PyData.list [.int 1, .int 3, .int 0, .int 2]) = dn [1, 3, 0, 2] := rfl
  have y7 : (PyData.list [.int 2, .int 0, .int 3, .int 1]) = dn [2, 0, 3, 1] := rfl
  have y8 : (PyData.list [.int 2, .int 1, .int 3, .int 0]) = dn [2, 1, 3, 0] := rfl
  have y9 : (PyData.list [.int 1, .int 0]) = dn [1, 0] := rfl
  have yr : (PyData.list [dn [1, 3, 0, 2], dn [2, 0, 3, 1], dn [3, 2, 1, 0]]) = rwD [[1, 3, 0, 2], [2, 0, 3, 1], [3, 2, 1, 0]] := rfl
  have nr := ne_rw [[1, 3, 0, 2], [2, 0, 3, 1], [3, 2, 1, 0]]
  have nn : dNotN .none .none = some false := by decide +kernel
  have lcm : lcD [5] (bNm 5) cYes (sFz (sCall m_class_numbered none (aCons (sLst (aCons (sC (.int 3)) (aCons (sC (.int 2)) (aCons (sC (.int 1)) (aCons (sC (.int 0)) (aNil)))))) (aCons (sVar 5) (aNil))))) [.int 0, .int 2, .int 6] [some (.sc ns), some (.fz (iD 1)), some (.ow db), some (.ow (dn [1, 3, 0, 5, 4, 6, 2])), some (.ow (dn [6, 5, 4, 3, 1, 0, 2])), none] [] = some ([dn [1, 3, 0, 2], dn [2, 0, 3, 1], dn [3, 2, 1, 0]], [some (.sc ns), some (.fz (iD 1)), some (.ow db), some (.ow (dn [1, 3, 0, 5, 4, 6, 2])), some (.ow (dn [6, 5, 4, 3, 1, 0, 2])), none]) := by
    rw [lcD_cons (o := some (dn [1, 3, 0, 2])) (r' := [some (.sc ns), some (.fz (iD 1)), some (.ow db), some (.ow (dn [1, 3, 0, 5, 4, 6, 2])), some (.ow (dn [6, 5, 4, 3, 1, 0, 2])), none]) (by simp [lcStep, y5, g0]) (by simp),
      lcD_cons (o := some (dn [2, 0, 3, 1])) (r' := [some (.sc ns), some (.fz (iD 1)), some (.ow db), some (.ow (dn [1, 3, 0, 5, 4, 6, 2])), some (.ow (dn [6, 5, 4, 3, 1, 0, 2])), none]) (by simp [lcStep, y5, g2]) (by simp),
      lcD_cons (o := some (dn [3, 2, 1, 0])) (r' := [some (.sc ns), some (.fz (iD 1)), some (.ow db), some (.ow (dn [1, 3, 0, 5, 4, 6, 2])), some (.ow (dn [6, 5, 4, 3, 1, 0, 2])), none]) (by simp [lcStep, y5, g6]) (by simp)]
    rfl
  refine ex_of ?_
  simp [m_law, b_law_body, c_law_2, c_law_3, c_law_4, e_law_1, r2, li, lp, f1, f2, f3, f4, f5, f6, f7, g0, g2, g6, g3, g7, h0, y1, y2, y3, y4, y5, y6, y7, y8, y9, yr, nr, nn, lcm, dIsN, isNone, dB]
end K36

theorem PySem.Challenge.cw_turnlines_k36_orders_numbered_in_classes_holds : PySem.Challenge.rw_turnlines_k36_orders_numbered_in_classes.Holds :=
  K36.fin fun ns _ => K36.law_true ns
