import PyProof.Rows.All
import Wide.All
import OpenK.AllK
import Wide.FinOn
import HandS.Base
import HandS.Call
import HandS.List
import HandS.Comp
import HandS.Ends
import HandS.Dict
import HandS.Iter
import HandS.Conv
import HandS.Words
import HandS.Defaults
import HandS.TupAny
import HandS.Zip
import HandS.Lambda
import HandS.IsInst
import HandS.Deep
import HandS.Wide
import KE.SortKeyHeap
import KE.SortData
import HandS.SortKw
import HandS.Set
import HandS.TupSets
import HandS.DictTup
import KE.KDictZip
import KE.GoesZip
import KE.GoesMore
import KE.KDictCopyH
import HandS.DictComp
import HandS.Star
import KE.KTupSum
import HandS.More
import HandS.WordsExc
import HandS.Head0
import HandS.Head1
import HandS.Head2
import HandS.HeadEnd
import HandS.HeadHook1
import HandS.HeadHook2
import HandS.HeadHook4
import HandS.EndTab
import HandS.HeadWalk
import KE.KStateDown
import PySem.Challenge.RW_hollowwithin_k15_whole_sums_over_all_lot
set_option Elab.async false
set_option linter.all false
section
set_option Elab.async false
set_option linter.all false
set_option maxRecDepth 100000
/-! Pd: what a def computes, said of plain data; the heap kept out of sight. -/
namespace Pd
open PySem PySem.Spec L2

abbrev D := PyData
/-- a tuple of ints -/
abbrev tI (ns : List Int) : D := .tuple (ns.map .int)

abbrev kI (k : List Int) : List Key := k.map .inl
/-- a dict's items, as data -/
def dD (l : List (List Int × PyData)) : List (PyData × PyData) := l.map fun p => (tI p.1, p.2)
mutual
inductive Is (G : Hp) : V → PyData → Prop
  | non : Is G .non .none
  | bl (b : Bool) : Is G (.bl b) (.bool b)
  | int (i : Int) : Is G (.int i) (.int i)
  | str (x : Str) : Is G (.str x) (.str x)
  | lst {a : Addr} {vs : List V} {ds : List PyData} : G a = some (.lst vs) → IsA G vs ds → Is G (.ref a) (.list ds)
  | tup {a : Addr} {vs : List V} {ds : List PyData} : G a = some (.tup vs) → IsA G vs ds → Is G (.ref a) (.tuple ds)
  /-- a dict that is locked -/
  | dct {a : Addr} {o : Obj} {kv : List (List Key × V)} {l : List (List Int × PyData)} : G a = some (.frz o (.dT kv)) → KvA G kv l → Is G (.ref a) (.dict (dD l))
inductive IsA (G : Hp) : List V → List PyData → Prop
  | nil : IsA G [] []
  | cons {v : V} {vs : List V} {d : PyData} {ds : List PyData} : Is G v d → IsA G vs ds → IsA G (v :: vs) (d :: ds)
inductive KvA (G : Hp) : List (List Key × V) → List (List Int × PyData) → Prop
  | nil : KvA G [] []
  | cons {k : List Int} {v : V} {d : PyData} {r : List (List Key × V)} {s : List (List Int × PyData)} : Is G v d → KvA G r s → KvA G ((kI k, v) :: r) ((k, d) :: s)
end

mutual
theorem Is.mono {G G' : Hp} (e : Same G G') : ∀ {v : V} {d : PyData}, Is G v d → Is G' v d
  | _, _, .non => .non
  | _, _, .bl b => .bl b
  | _, _, .int i => .int i
  | _, _, .str x => .str x
  | _, _, .lst h r => .lst (e _ _ h) (IsA.mono e r)
  | _, _, .tup h r => .tup (e _ _ h) (IsA.mono e r)
  | _, _, .dct h r => .dct (e _ _ h) (KvA.mono e r)
theorem IsA.mono {G G' : Hp} (e : Same G G') : ∀ {vs : List V} {ds : List PyData}, IsA G vs ds → IsA G' vs ds
  | _, _, .nil => .nil
  | _, _, .cons h r => .cons (Is.mono e h) (IsA.mono e r)
theorem KvA.mono {G G' : Hp} (e : Same G G') : ∀ {r : List (List Key × V)} {s : List (List Int × PyData)}, KvA G r s → KvA G' r s
  | _, _, .nil => .nil
  | _, _, .cons h t => .cons (Is.mono e h) (KvA.mono e t)
end
mutual
theorem Is.dp {K : PySem.W.Frag} {G : Hp} : ∀ {v : V} {d : PyData}, d.canLay0 = true → Is G v d → Dp K G v d
  | _, _, _, .non => .non
  | _, _, _, .bl b => .bl b
  | _, _, _, .int i => .int i
  | _, _, _, .str x => .str x
  | _, _, c, .lst h r => .lst (SqL.of h) (IsA.dp (by simpa only [PyData.canLay0] using c) r)
  | _, _, c, .tup h r => .tup (SqT.of h) (IsA.dp (by simpa only [PyData.canLay0] using c) r)
  | _, _, c, .dct h r => by simp [PyData.canLay0] at c
theorem IsA.dp {K : PySem.W.Frag} {G : Hp} : ∀ {vs : List V} {ds : List PyData}, PyData.canLayAll0 ds = true → IsA G vs ds → DpAll K G vs ds
  | _, _, _, .nil => .nil
  | _, _, c, .cons h r => by
    simp only [PyData.canLayAll0, Bool.and_eq_true] at c
    exact .cons (Is.dp c.1 h) (IsA.dp c.2 r)
end

section
variable {G : Hp}
theorem IsA.length : ∀ {vs : List V} {ds : List PyData}, IsA G vs ds → vs.length = ds.length
  | _, _, .nil => rfl
  | _, _, .cons _ r => by rw [List.length_cons, List.length_cons, r.length]
theorem IsA.get : ∀ {vs : List V} {ds : List PyData} {i : Nat} {d : PyData}, IsA G vs ds → ds[i]? = some d → ∃ v, vs[i]? = some v ∧ Is G v d
  | _, _, _, _, .nil, e => by simp at e
  | _, _, 0, _, .cons h _, e => by simp at e; subst e; exact ⟨_, rfl, h⟩
  | _, _, i + 1, d, .cons _ r, e => by
    obtain ⟨v, h1, h2⟩ := IsA.get (i := i) (d := d) r (by simpa using e)
    exact ⟨v, by simpa using h1, h2⟩
theorem IsA.getV : ∀ {vs : List V} {ds : List PyData} {i : Nat} {v : V}, IsA G vs ds → vs[i]? = some v → ∃ d, ds[i]? = some d ∧ Is G v d
  | _, _, _, _, .nil, e => by simp at e
  | _, _, 0, _, .cons h _, e => by simp at e; subst e; exact ⟨_, rfl, h⟩
  | _, _, i + 1, v, .cons _ r, e => by
    obtain ⟨d, h1, h2⟩ := IsA.getV (i := i) (v := v) r (by simpa using e)
    exact ⟨d, by simpa using h1, h2⟩
theorem IsA.append : ∀ {vs ws : List V} {ds es : List PyData}, IsA G vs ds → IsA G ws es → IsA G (vs ++ ws) (ds ++ es)
  | _, _, _, _, .nil, s => s
  | _, _, _, _, .cons h r, s => .cons h (IsA.append r s)
theorem IsA.take : ∀ {vs : List V} {ds : List PyData} (n : Nat), IsA G vs ds → IsA G (vs.take n) (ds.take n)
  | _, _, 0, _ => .nil
  | _, _, _ + 1, .nil => .nil
  | _, _, n + 1, .cons h r => .cons h (IsA.take n r)
theorem IsA.drop : ∀ {vs : List V} {ds : List PyData} (n : Nat), IsA G vs ds → IsA G (vs.drop n) (ds.drop n)
  | _, _, 0, r => r
  | _, _, _ + 1, .nil => .nil
  | _, _, n + 1, .cons _ r => IsA.drop n r
theorem IsA.dropLast : ∀ {vs : List V} {ds : List PyData}, IsA G vs ds → IsA G vs.dropLast ds.dropLast
  | _, _, .nil => .nil
  | _, _, .cons h .nil => .nil
  | _, _, .cons h (.cons h2 r) => .cons h (IsA.dropLast (.cons h2 r))
theorem IsA.eraseIdx : ∀ {vs : List V} {ds : List PyData} (n : Nat), IsA G vs ds → IsA G (vs.eraseIdx n) (ds.eraseIdx n)
  | _, _, _, .nil => .nil
  | _, _, 0, .cons _ r => r
  | _, _, n + 1, .cons h r => .cons h (IsA.eraseIdx n r)
theorem IsA.ints : ∀ {vs : List V} {ns : List Int}, IsA G vs (ns.map .int) → vs = ns.map V.int
  | _, [], .nil => rfl
  | _, n :: ns, .cons h r => by
    cases h
    rw [List.map_cons, IsA.ints r]
theorem IsA.of_ints : ∀ (ns : List Int), IsA G (ns.map V.int) (ns.map .int)
  | [] => .nil
  | n :: ns => .cons (.int n) (IsA.of_ints ns)
theorem IsA.bools : ∀ {vs : List V} {ns : List Bool}, IsA G vs (ns.map .bool) → vs = ns.map V.bl
  | _, [], .nil => rfl
  | _, n :: ns, .cons h r => by
    cases h
    rw [List.map_cons, IsA.bools r]
theorem IsA.snoc {vs : List V} {ds : List PyData} {v : V} {d : PyData} (h : IsA G vs ds) (r : Is G v d) : IsA G (vs ++ [v]) (ds ++ [d]) := h.append (.cons r .nil)
theorem IsA.reverse : ∀ {vs : List V} {ds : List PyData}, IsA G vs ds → IsA G vs.reverse ds.reverse
  | _, _, .nil => .nil
  | _, _, .cons h r => by
    rw [List.reverse_cons, List.reverse_cons]
    exact (IsA.reverse r).snoc h
theorem IsA.mem : ∀ {vs : List V} {ds : List PyData}, IsA G vs ds → ∀ v ∈ vs, ∃ d ∈ ds, Is G v d
  | _, _, .nil, v, h => nomatch h
  | _, _, .cons h r, v, m => by
    rcases List.mem_cons.mp m with e | m
    · subst e; exact ⟨_, List.mem_cons_self, h⟩
    · obtain ⟨d, h1, h2⟩ := IsA.mem r v m
      exact ⟨d, List.mem_cons_of_mem _ h1, h2⟩
end

/-! ### dicts whose keys are tuples of ints -/
theorem KvA.length {G : Hp} : ∀ {r s}, KvA G r s → r.length = s.length
  | _, _, .nil => rfl
  | _, _, .cons _ t => by rw [List.length_cons, List.length_cons, t.length]
theorem kI_inj : ∀ {a b : List Int}, kI a = kI b → a = b
  | [], [], _ => rfl
  | [], _ :: _, h => by simp at h
  | _ :: _, [], h => by simp at h
  | x :: a, y :: b, h => by
    have h' : (Sum.inl x : Key) :: kI a = Sum.inl y :: kI b := h
    injection h' with h1 h2
    rw [Sum.inl.inj h1, kI_inj h2]
theorem kI_eq {a b : List Int} : kI a = kI b ↔ a = b := ⟨kI_inj, fun e => by rw [e]⟩
/-- what stands at a key, what a store leaves -/
def kGet (l : List (List Int × D)) (k : List Int) : Option D := (l.find? fun p => decide (p.1 = k)).map (·.2)
def kPut (l : List (List Int × D)) (k : List Int) (d : D) : List (List Int × D) :=
  if (l.any fun p => decide (p.1 = k)) = true then l.map (fun p => if p.1 = k then (p.1, d) else p) else l ++ [(k, d)]
theorem KvA.get {G : Hp} (k : List Int) : ∀ {r s}, KvA G r s → match kGet s k with | some d => ∃ v, valV r (kI k) = some v ∧ Is G v d | none => valV r (kI k) = none
  | _, _, .nil => rfl
  | _, _, .cons (k := j) (v := v) (d := d) (r := r) (s := s) h t => by
    have ih := KvA.get k t
    by_cases e : j = k
    · subst e
      have e1 : kGet ((j, d) :: s) j = some d := by simp [kGet]
      rw [e1]
      exact ⟨v, valV_pos rfl, h⟩
    · have e1 : kGet ((j, d) :: s) k = kGet s k := by simp [kGet, List.find?_cons, e]
      have e2 : valV ((kI j, v) :: r) (kI k) = valV r (kI k) := valV_neg fun q => e (kI_inj q)
      rw [e1, e2]
      exact ih
theorem KvA.any {G : Hp} (k : List Int) : ∀ {r s}, KvA G r s → (r.any fun p => decide (p.1 = kI k)) = s.any fun p => decide (p.1 = k)
  | _, _, .nil => rfl
  | _, _, .cons (k := j) (v := v) (d := d) (r := r) (s := s) h t => by
    rw [List.any_cons, List.any_cons, KvA.any k t]
    congr 1
    simp only [kI_eq]
theorem KvA.repl {G : Hp} (k : List Int) {y : V} {e : D} (hy : Is G y e) : ∀ {r s}, KvA G r s → KvA G (r.map fun p => if p.1 = kI k then (p.1, y) else p) (s.map fun p => if p.1 = k then (p.1, e) else p)
  | _, _, .nil => .nil
  | _, _, .cons (k := j) (v := v) (d := d) (r := r) (s := s) h t => by
    rw [List.map_cons, List.map_cons]
    by_cases c : j = k
    · subst c
      rw [if_pos rfl, if_pos rfl]
      exact .cons hy (KvA.repl j hy t)
    · rw [if_neg (fun q => c (kI_inj q)), if_neg c]
      exact .cons h (KvA.repl k hy t)
theorem KvA.snoc {G : Hp} {k : List Int} {y : V} {e : D} (hy : Is G y e) : ∀ {r s}, KvA G r s → KvA G (r ++ [(kI k, y)]) (s ++ [(k, e)])
  | _, _, .nil => .cons hy .nil
  | _, _, .cons h t => .cons h (KvA.snoc hy t)
theorem KvA.put {G : Hp} (k : List Int) {y : V} {e : D} (hy : Is G y e) {r s} (h : KvA G r s) : KvA G (putK r (kI k) y) (kPut s k e) := by
  unfold putK kPut
  rw [h.any k]
  split
  · exact h.repl k hy
  · exact h.snoc hy

/-! ### the heap's two parts: G, what is never changed any more, within H, all; M: the pot, the code objects' tables -/
class TB where
  T : List (Addr × Str)
structure Mu where
  p : Option Addr
  st : Bool
/-- nothing at all is changed -/
abbrev mu0 : Mu := ⟨none, true⟩
/-- no pot -/
abbrev muT : Mu := ⟨none, false⟩
abbrev muP (p : Addr) : Mu := ⟨some p, false⟩
abbrev NTb (o : HO) : Prop := ∀ ps, o ≠ .tbl ps
def Mu.fix (M : Mu) (b : Addr) (o : HO) : Prop := M.p ≠ some b ∧ (M.st = true ∨ NTb o)
/-- nothing of ours stands there -/
def Nw (H : Hp) (b : Addr) : Prop := ∀ o, H b = some o → ¬ NTb o
theorem Nw.of {H : Hp} {b : Addr} (h : H b = none) : Nw H b := fun o e => by rw [h] at e; cases e
theorem Nw.no {H : Hp} {b : Addr} {o : HO} (h : Nw H b) (e : H b = some o) (k : NTb o := by intro _ z; cases z) : False := h o e k
/-- a list, a dict with tuple keys -/
def Pl : HO → Prop
  | .lst _ => True
  | .dT _ => True
  | _ => False
theorem Pl.nt {o : HO} (p : Pl o) : NTb o := fun ps z => by rw [z] at p; exact p
/-- nothing that can be changed stands there -/
def Nf (H : Hp) (b : Addr) : Prop := ∀ o, H b = some o → ¬ Pl o
theorem Nw.nf {H : Hp} {b : Addr} (h : Nw H b) : Nf H b := fun o e p => h o e p.nt
/-- no table within -/
def NT (G : Hp) : Prop := ∀ b o, G b = some o → NTb o
variable [TB]
structure Ext (M : Mu) (G H G' H' : Hp) : Prop where
  g : Same G G'
  gh : Same G' H'
  h : ∀ b o, H b = some o → M.fix b o → H' b = some o
  f : ∀ b o, G' b = some o → G b = some o ∨ Nf H b
  pl : ∀ b o, H b = some o → Pl o → ∃ u, H' b = some u ∧ Pl u
  pn : ∀ b, Nw H' b → Nw H b
  nt : NT G → NT G'
  tb : LamX.Tabs TB.T H → LamX.Tabs TB.T H'
theorem Ext.hv {M : Mu} {G H G' H' : Hp} (x : Ext M G H G' H') (a : Addr) (o : HO) (e : H a = some o) (n : M.p ≠ some a) (k : NTb o := by intro _ z; cases z) : H' a = some o := x.h a o e ⟨n, .inr k⟩
theorem Ext.refl {pa : Mu} {G H : Hp} (s : Same G H) : Ext pa G H G H := ⟨Same.refl G, s, fun _ _ e _ => e, fun _ _ e => .inl e, fun _ o e p => ⟨o, e, p⟩, fun _ e => e, fun n => n, fun t => t⟩
theorem Ext.trans {pa : Mu} {G H G1 H1 G2 H2 : Hp} (a : Ext pa G H G1 H1) (b : Ext pa G1 H1 G2 H2) : Ext pa G H G2 H2 where
  g := a.g.trans b.g
  gh := b.gh
  h := fun c o e n => b.h c o (a.h c o e n) n
  f := fun c o e => by
    rcases b.f c o e with q | q
    · exact a.f c o q
    · exact .inr fun o e p => by
        obtain ⟨u, e', p'⟩ := a.pl c o e p
        exact q u e' p'
  pl := fun c o e p => by
    obtain ⟨u, e', p'⟩ := a.pl c o e p
    exact b.pl c u e' p'
  pn := fun c e => a.pn c (b.pn c e)
  nt := fun n => b.nt (a.nt n)
  tb := fun t => b.tb (a.tb t)
theorem Ext.any {pa : Mu} {G H G' H' : Hp} (x : Ext mu0 G H G' H') : Ext pa G H G' H' :=
  ⟨x.g, x.gh, fun b o e _ => x.h b o e ⟨by simp, .inl rfl⟩, x.f, x.pl, x.pn, x.nt, fun t => t.ext fun b o e => x.h b o e ⟨by simp, .inl rfl⟩⟩
theorem tabs_new {T : List (Addr × Str)} {H : Hp} {p : Addr} {o : HO} (h : H p = none) (t : LamX.Tabs T H) : LamX.Tabs T (upd H p o) := t.ext fun b u e => by rw [upd_ne (ne_of_none e h)]; exact e
/-- a new object, never to be changed -/
theorem Ext.new {pa : Mu} {G H : Hp} {p : Addr} {o : HO} (s : Same G H) (h : H p = none) (k : NTb o := by intro _ z; cases z) : Ext pa G H (upd G p o) (upd H p o) where
  g := fun b u e => by rw [upd_ne (ne_of_none (s b u e) h)]; exact e
  gh := fun b u e => by
    by_cases c : b = p
    · subst c; rw [upd_same] at e ⊢; exact e
    · rw [upd_ne c] at e ⊢; exact s b u e
  h := fun b u e _ => by rw [upd_ne (ne_of_none e h)]; exact e
  f := fun b u e => by
    by_cases c : b = p
    · subst c; exact .inr (Nw.of h).nf
    · rw [upd_ne c] at e; exact .inl e
  pl := fun b u e p => ⟨u, by rw [upd_ne (ne_of_none e h)]; exact e, p⟩
  pn := fun b e => by
    by_cases c : b = p
    · subst c; exact Nw.of h
    · intro u q; exact e u (by rw [upd_ne c]; exact q)
  nt := fun n b u e => by
    by_cases c : b = p
    · subst c; rw [upd_same] at e; cases e; exact k
    · rw [upd_ne c] at e; exact n b u e
  tb := fun t => tabs_new h t
/-- a new object that may be changed -/
theorem Ext.own {pa : Mu} {G H : Hp} {p : Addr} {o : HO} (s : Same G H) (h : H p = none) : Ext pa G H G (upd H p o) where
  g := Same.refl G
  gh := fun b u e => by rw [upd_ne (ne_of_none (s b u e) h)]; exact s b u e
  h := fun b u e _ => by rw [upd_ne (ne_of_none e h)]; exact e
  f := fun b u e => .inl e
  pl := fun b u e p => ⟨u, by rw [upd_ne (ne_of_none e h)]; exact e, p⟩
  pn := fun b e => by
    by_cases c : b = p
    · subst c; exact Nw.of h
    · intro u q; exact e u (by rw [upd_ne c]; exact q)
  nt := fun n => n
  tb := fun t => tabs_new h t
theorem free_G {G H : Hp} {p : Addr} (s : Same G H) (h : H p = none) : G p = none := s.free h

/-! ### what a call's state is in plain words -/
inductive Sl where
  | un
  | dat (d : D)
  | lst (xs : List D)
  | dic (l : List (List Int × D))
  | pot
inductive Rv where
  | dat (d : D)
  | lst (xs : List D)
  | dic (l : List (List Int × D))
  | vls (xs : List D)
  | vdc (l : List (List Int × D))
def Sl.own : Option Sl → Prop
  | some (.lst _) => True
  | some (.dic _) => True
  | _ => False
def PotAt (pa : Mu) (H : Hp) (pt : List Int) : Prop := ∀ p, pa.p = some p → H p = some (.lst (pt.map V.int))
def SlOk (H0 : Hp) (pa : Mu) (G H : Hp) (v : Option (Option V)) : Sl → Prop
  | .un => True
  | .dat d => ∃ x, v = some (some x) ∧ Is G x d
  | .lst xs => ∃ a vs, v = some (some (.ref a)) ∧ Nw H0 a ∧ G a = none ∧ H a = some (.lst vs) ∧ IsA G vs xs
  | .dic l => ∃ a kv, v = some (some (.ref a)) ∧ Nw H0 a ∧ G a = none ∧ H a = some (.dT kv) ∧ KvA G kv l
  | .pot => ∃ p, pa.p = some p ∧ v = some (some (.ref p))
structure Rep (G0 H0 : Hp) (pa : Mu) (G H : Hp) (σ : L2.St) (ρ : List Sl) (pt : List Int) : Prop where
  ex : Ext pa G0 H0 G H
  pot : PotAt pa H pt
  pg : ∀ p, pa.p = some p → G0 p = none ∧ ∃ o, H0 p = some o ∧ Pl o
  nt : NT G
  tb : LamX.Tabs TB.T H
  ns : pa.st = false
  len : σ.length = ρ.length
  slot : ∀ (i : Nat) (s : Sl), ρ[i]? = some s → SlOk H0 pa G H σ[i]? s
  inj : ∀ (i j : Nat) (a : Addr), Sl.own ρ[i]? → Sl.own ρ[j]? → σ[i]? = some (some (V.ref a)) → σ[j]? = some (some (V.ref a)) → i = j

/-- what an expression gave: data, or a new list, a new dict of its own, or one that a name holds. Hb: the heap ahead -/
def Res (H0 : Hp) (Hb : Hp) (G H : Hp) (v : V) : Rv → Prop
  | .dat d => Is G v d
  | .lst xs => ∃ a vs, v = .ref a ∧ Nw Hb a ∧ G a = none ∧ H a = some (.lst vs) ∧ IsA G vs xs
  | .dic l => ∃ a kv, v = .ref a ∧ Nw Hb a ∧ G a = none ∧ H a = some (.dT kv) ∧ KvA G kv l
  | .vls xs => ∃ a vs, v = .ref a ∧ Nw H0 a ∧ G a = none ∧ H a = some (.lst vs) ∧ IsA G vs xs
  | .vdc l => ∃ a kv, v = .ref a ∧ Nw H0 a ∧ G a = none ∧ H a = some (.dT kv) ∧ KvA G kv l

section
variable {G0 H0 G H G' H' : Hp} {pa : Mu} {σ : L2.St} {ρ : List Sl} {pt pt' : List Int}
theorem Rep.same (R : Rep G0 H0 pa G H σ ρ pt) : Same G H := R.ex.gh
theorem Rep.potG (R : Rep G0 H0 pa G H σ ρ pt) {p : Addr} (e : pa.p = some p) : G p = none := by
  cases q : G p with
  | none => rfl
  | some o =>
    obtain ⟨h1, u, h2, h3⟩ := R.pg p e
    rcases R.ex.f p o q with z | z
    · rw [h1] at z; cases z
    · exact absurd h3 (z u h2)
theorem Rep.potP (R : Rep G0 H0 pa G H σ ρ pt) {p : Addr} (e : pa.p = some p) : ∃ o, H p = some o ∧ Pl o := by
  obtain ⟨_, u, h2, h3⟩ := R.pg p e
  exact R.ex.pl p u h2 h3
theorem Rep.potH (R : Rep G0 H0 pa G H σ ρ pt) {p : Addr} (e : pa.p = some p) : ¬ Nw H p := fun z => by
  obtain ⟨o, h1, h2⟩ := R.potP e
  exact z o h1 h2.nt
theorem Rep.pne (R : Rep G0 H0 pa G H σ ρ pt) {a : Addr} (h : Nw H0 a) : pa.p ≠ some a := fun e => by
  obtain ⟨_, u, h2, h3⟩ := R.pg a e
  exact h u h2 h3.nt
theorem Rep.pne' (R : Rep G0 H0 pa G H σ ρ pt) {a : Addr} (h : Nw H a) : pa.p ≠ some a := fun e => R.potH e h
/-- a changeable object stays out of G -/
theorem Ext.out (x : Ext pa G H G' H') {a : Addr} {o : HO} (g : G a = none) (h : H a = some o) (hk : Pl o := by trivial) : G' a = none := by
  cases q : G' a with
  | none => rfl
  | some u =>
    rcases x.f a u q with z | z
    · rw [g] at z; cases z
    · exact (z _ h hk).elim
theorem SlOk.ext (x : Ext pa G H G' H') (np : ∀ a, Nw H0 a → pa.p ≠ some a) {v : Option (Option V)} {s : Sl} (k : SlOk H0 pa G H v s) : SlOk H0 pa G' H' v s := by
  cases s with
  | un => trivial
  | dat d => obtain ⟨y, e, i⟩ := k; exact ⟨y, e, i.mono x.g⟩
  | lst xs =>
    obtain ⟨a, vs, e, h0, g, h, i⟩ := k
    exact ⟨a, vs, e, h0, x.out g h, x.hv a _ h (np a h0), i.mono x.g⟩
  | dic l =>
    obtain ⟨a, vs, e, h0, g, h, i⟩ := k
    exact ⟨a, vs, e, h0, x.out g h, x.hv a _ h (np a h0), i.mono x.g⟩
  | pot => exact k
theorem Rep.ext (R : Rep G0 H0 pa G H σ ρ pt) (x : Ext pa G H G' H') (q : PotAt pa H' pt') : Rep G0 H0 pa G' H' σ ρ pt' :=
  ⟨R.ex.trans x, q, R.pg, x.nt R.nt, x.tb R.tb, R.ns, R.len, fun i s e => (R.slot i s e).ext x fun a h => R.pne h, R.inj⟩
theorem PotAt.ext (q : PotAt pa H pt) (x : Ext mu0 G H G' H') : PotAt pa H' pt := fun p e => x.hv p _ (q p e) (by simp)
/-- slots forgotten -/
def wipeR (ρ : List Sl) : List Nat → List Sl
  | [] => ρ
  | v :: vs => (wipeR ρ vs).set v .un
theorem Rep.unset (R : Rep G0 H0 pa G H σ ρ pt) (i : Nat) (o : Option V) : Rep G0 H0 pa G H (σ.set i o) (ρ.set i .un) pt := by
  refine ⟨R.ex, R.pot, R.pg, R.nt, R.tb, R.ns, by simp [R.len], fun j s e => ?_, fun j k a h1 h2 e1 e2 => ?_⟩
  · by_cases c : i = j
    · subst c
      rw [List.getElem?_set] at e
      split at e
      · split at e
        · cases e; trivial
        · cases e
      · exact absurd rfl (by assumption)
    · rw [List.getElem?_set_ne c] at e ⊢
      exact R.slot j s e
  · have nj : ∀ j, Sl.own (ρ.set i .un)[j]? → i ≠ j ∧ Sl.own ρ[j]? := fun j h => by
      by_cases c : i = j
      · subst c
        exfalso
        rw [List.getElem?_set] at h
        split at h
        · split at h <;> exact h
        · exact absurd rfl (by assumption)
      · rw [List.getElem?_set_ne c] at h
        exact ⟨c, h⟩
    obtain ⟨c1, h1⟩ := nj j h1
    obtain ⟨c2, h2⟩ := nj k h2
    rw [List.getElem?_set_ne c1] at e1
    rw [List.getElem?_set_ne c2] at e2
    exact R.inj j k a h1 h2 e1 e2
theorem Rep.wipe (R : Rep G0 H0 pa G H σ ρ pt) : ∀ vs : List Nat, Rep G0 H0 pa G H (L2.wipe σ vs) (wipeR ρ vs) pt
  | [] => R
  | v :: vs => (R.wipe vs).unset v none
/-- a slot is stored -/
def Rv.sl : Rv → Option Sl
  | .dat d => some (.dat d)
  | .lst xs => some (.lst xs)
  | .dic l => some (.dic l)
  | _ => none
theorem Rep.store {v : V} {r : Rv} {s : Sl} {i : Nat} (R : Rep G0 H0 pa G H σ ρ pt) (x : Ext pa G H G' H') (q : PotAt pa H' pt') (k : Res H0 H G' H' v r) (e : r.sl = some s) : Rep G0 H0 pa G' H' (σ.set i (some v)) (ρ.set i s) pt' := by
  have R' := R.ext x q
  by_cases hi : i < ρ.length
  · have hσ : i < σ.length := by rw [R.len]; exact hi
    have keep : ∀ j s', i ≠ j → (ρ.set i s)[j]? = some s' → SlOk H0 pa G' H' (σ.set i (some v))[j]? s' := fun j s' c e' => by
      rw [List.getElem?_set_ne c] at e' ⊢
      exact R'.slot j s' e'
    have ownr : ∀ j a, i ≠ j → Sl.own ρ[j]? → σ[j]? = some (some (.ref a)) → ¬ Nw H a := fun j a c ho es => by
      cases hs : ρ[j]? with
      | none => rw [hs] at ho; exact ho.elim
      | some s' =>
        have k' := R.slot j s' hs
        rw [hs] at ho
        cases s' with
        | lst xs => obtain ⟨b, vs, e1, _, _, h1, _⟩ := k'; rw [es] at e1; cases e1; exact fun z => z.no h1
        | dic l => obtain ⟨b, vs, e1, _, _, h1, _⟩ := k'; rw [es] at e1; cases e1; exact fun z => z.no h1
        | _ => exact ho.elim
    refine ⟨R'.ex, R'.pot, R'.pg, R'.nt, R'.tb, R'.ns, by simp [R.len], fun j s' e' => ?_, fun j l a h1 h2 e1 e2 => ?_⟩
    · by_cases c : i = j
      · subst c
        rw [List.getElem?_set_self hi] at e'
        cases e'
        rw [List.getElem?_set_self hσ]
        cases r with
        | dat d => cases e; exact ⟨v, rfl, k⟩
        | lst xs => cases e; obtain ⟨a, vs, rfl, hb, g, h, t⟩ := k; exact ⟨a, vs, rfl, R.ex.pn a hb, g, h, t⟩
        | dic l => cases e; obtain ⟨a, vs, rfl, hb, g, h, t⟩ := k; exact ⟨a, vs, rfl, R.ex.pn a hb, g, h, t⟩
        | vls xs => cases e
        | vdc l => cases e
      · exact keep j s' c e'
    · have newA : Sl.own (some s) → ∃ a, v = .ref a ∧ Nw H a := fun ho => by
        cases r with
        | dat d => cases e; exact ho.elim
        | lst xs => obtain ⟨a, vs, rfl, hb, _⟩ := k; exact ⟨a, rfl, hb⟩
        | dic l => obtain ⟨a, vs, rfl, hb, _⟩ := k; exact ⟨a, rfl, hb⟩
        | vls xs => cases e
        | vdc l => cases e
      by_cases c1 : i = j <;> by_cases c2 : i = l
      · rw [← c1, c2]
      · subst c1
        rw [List.getElem?_set_self hi] at h1
        rw [List.getElem?_set_self hσ] at e1
        rw [List.getElem?_set_ne c2] at h2 e2
        obtain ⟨b, rfl, hb⟩ := newA h1
        cases e1
        exact absurd hb (ownr l a c2 h2 e2)
      · subst c2
        rw [List.getElem?_set_self hi] at h2
        rw [List.getElem?_set_self hσ] at e2
        rw [List.getElem?_set_ne c1] at h1 e1
        obtain ⟨b, rfl, hb⟩ := newA h2
        cases e2
        exact absurd hb (ownr j a c1 h1 e1)
      · rw [List.getElem?_set_ne c1] at h1 e1
        rw [List.getElem?_set_ne c2] at h2 e2
        exact R.inj j l a h1 h2 e1 e2
  · have e1 : ρ.set i s = ρ := List.set_eq_of_length_le (by omega)
    have e2 : σ.set i (some v) = σ := List.set_eq_of_length_le (by rw [R.len]; omega)
    rw [e1, e2]
    exact R'
end
end Pd
end
section
set_option Elab.async false
set_option linter.all false
set_option maxRecDepth 100000
/-! Pd1: what readings give, in plain data: values, tests, arguments, statements. -/
namespace Pd
open PySem PySem.Spec L2
variable [TB]

abbrev MV := List Sl → List Int → Option (Rv × List Int)
abbrev MT := List Sl → List Int → Option (Bool × List Int)
abbrev MA := List Sl → List Int → Option (List D × List Int)
abbrev MW := List Sl → List Int → Option (List Rv × List Int)

/-! ### seeing a value -/
theorem bnd {α β : Type} {o : Option α} {f : α → Option β} {b : β} (h : o.bind f = some b) : ∃ a, o = some a ∧ f a = some b := Option.bind_eq_some_iff.mp h
theorem mpd {α β : Type} {o : Option α} {f : α → β} {b : β} (h : o.map f = some b) : ∃ a, o = some a ∧ f a = b := Option.map_eq_some_iff.mp h

def intsA? : List D → Option (List Int)
  | [] => some []
  | .int i :: r => (intsA? r).map fun l => i :: l
  | _ :: _ => none
theorem intsA_map : ∀ ns : List Int, intsA? (ns.map .int) = some ns
  | [] => rfl
  | n :: ns => by show (intsA? (ns.map .int)).map _ = _; rw [intsA_map ns]; rfl
theorem intsA_eq : ∀ {xs : List D} {ns : List Int}, intsA? xs = some ns → xs = ns.map .int
  | [], ns, h => by cases h; rfl
  | .int i :: r, ns, h => by
    obtain ⟨l, e, rfl⟩ := mpd (show (intsA? r).map (fun l => i :: l) = some ns from h)
    rw [intsA_eq e]; rfl
  | .none :: _, _, h | .bool _ :: _, _, h | .str _ :: _, _, h | .list _ :: _, _, h | .tuple _ :: _, _, h | .dict _ :: _, _, h => by cases h
def tupI? : D → Option (List Int)
  | .tuple l => intsA? l
  | _ => none
theorem tupI_eq {d : D} {k : List Int} (h : tupI? d = some k) : d = tI k := by
  cases d with
  | tuple l => rw [intsA_eq (show intsA? l = some k from h)]
  | _ => cases h
theorem tupI_tI (k : List Int) : tupI? (tI k) = some k := intsA_map k
/-- a dict's items back from data -/
def undD : List (D × D) → Option (List (List Int × D))
  | [] => some []
  | p :: r => (tupI? p.1).bind fun k => (undD r).map fun l => (k, p.2) :: l
theorem undD_dD : ∀ l : List (List Int × D), undD (dD l) = some l
  | [] => rfl
  | p :: l => by
    show (tupI? (tI p.1)).bind _ = _
    rw [tupI_tI]
    show (undD (dD l)).map _ = _
    rw [undD_dD l] <;> rfl

/-- a list's items -/
def Rv.ls? : Rv → Option (List D)
  | .dat (.list xs) => some xs
  | .lst xs => some xs
  | .vls xs => some xs
  | _ => none
def Rv.tp? : Rv → Option (List D)
  | .dat (.tuple xs) => some xs
  | _ => none
def Rv.dc? : Rv → Option (List (List Int × D))
  | .dic l => some l
  | .vdc l => some l
  | .dat (.dict m) => undD m
  | _ => none
def Rv.int? : Rv → Option Int
  | .dat (.int i) => some i
  | _ => none
def Rv.bool? : Rv → Option Bool
  | .dat (.bool i) => some i
  | _ => none
def Rv.dat? : Rv → Option D
  | .dat d => some d
  | _ => none
/-- as data that stays: a new list is locked -/
def Rv.fix? : Rv → Option D
  | .dat d => some d
  | .lst xs => some (.list xs)
  | _ => none
structure PG (pa : Mu) (G H : Hp) : Prop where
  gh : Same G H
  pot : ∀ p, pa.p = some p → G p = none ∧ ∃ o, H p = some o ∧ Pl o
  nt : NT G
  tb : LamX.Tabs TB.T H
def Vw (pa : Mu) (G H : Hp) (v : V) : Rv → Prop
  | .dat d => Is G v d
  | .lst xs => ∃ a vs, v = .ref a ∧ pa.p ≠ some a ∧ H a = some (.lst vs) ∧ IsA G vs xs
  | .dic l => ∃ a kv, v = .ref a ∧ pa.p ≠ some a ∧ G a = none ∧ H a = some (.dT kv) ∧ KvA G kv l
  | .vls xs => ∃ a vs, v = .ref a ∧ pa.p ≠ some a ∧ H a = some (.lst vs) ∧ IsA G vs xs
  | .vdc l => ∃ a kv, v = .ref a ∧ pa.p ≠ some a ∧ G a = none ∧ H a = some (.dT kv) ∧ KvA G kv l
inductive VwA (pa : Mu) (G H : Hp) : List V → List Rv → Prop
  | nil : VwA pa G H [] []
  | cons {v vs r rs} : Vw pa G H v r → VwA pa G H vs rs → VwA pa G H (v :: vs) (r :: rs)
section
variable {pa : Mu} {G H G' H' G0 H0 Hb : Hp} {σ : L2.St} {ρ : List Sl} {pt pt' : List Int} {v : V} {r : Rv}
theorem Rep.PG (R : Rep G0 H0 pa G H σ ρ pt) : PG pa G H := ⟨R.same, fun p e => ⟨R.potG e, R.potP e⟩, R.nt, R.tb⟩
theorem PG.ext (P : PG pa G H) (x : Ext pa G H G' H') : PG pa G' H' := ⟨x.gh, fun p e => by
  obtain ⟨h1, u, h2, h3⟩ := P.pot p e
  exact ⟨x.out h1 h2 h3, x.pl p u h2 h3⟩, x.nt P.nt, x.tb P.tb⟩
theorem PG.ne (P : PG pa G H) {a : Addr} {o : HO} (h : G a = some o) : pa.p ≠ some a := fun e => by
  rw [(P.pot a e).1] at h; cases h
theorem PG.ne' (P : PG pa G H) {a : Addr} (h : Nw H a) : pa.p ≠ some a := fun e => by
  obtain ⟨_, u, h2, h3⟩ := P.pot a e
  exact h u h2 h3.nt
theorem Vw.ext (x : Ext pa G H G' H') (k : Vw pa G H v r) : Vw pa G' H' v r := by
  cases r with
  | dat d => exact Is.mono x.g k
  | lst xs => obtain ⟨a, vs, e, n, h, i⟩ := k; exact ⟨a, vs, e, n, x.hv a _ h n, i.mono x.g⟩
  | dic l => obtain ⟨a, vs, e, n, g, h, i⟩ := k; exact ⟨a, vs, e, n, x.out g h, x.hv a _ h n, i.mono x.g⟩
  | vls xs => obtain ⟨a, vs, e, n, h, i⟩ := k; exact ⟨a, vs, e, n, x.hv a _ h n, i.mono x.g⟩
  | vdc l => obtain ⟨a, vs, e, n, g, h, i⟩ := k; exact ⟨a, vs, e, n, x.out g h, x.hv a _ h n, i.mono x.g⟩
theorem VwA.ext (x : Ext pa G H G' H') : ∀ {vs : List V} {rs : List Rv}, VwA pa G H vs rs → VwA pa G' H' vs rs
  | _, _, .nil => .nil
  | _, _, .cons h t => .cons (h.ext x) (VwA.ext x t)
theorem Res.vw (R : Rep G0 H0 pa G H σ ρ pt) (k : Res H0 H G' H' v r) : Vw pa G' H' v r := by
  cases r with
  | dat d => exact k
  | lst xs => obtain ⟨a, vs, e, n, g, h, i⟩ := k; exact ⟨a, vs, e, R.pne' n, h, i⟩
  | dic l => obtain ⟨a, vs, e, n, g, h, i⟩ := k; exact ⟨a, vs, e, R.pne' n, g, h, i⟩
  | vls xs => obtain ⟨a, vs, e, n, g, h, i⟩ := k; exact ⟨a, vs, e, R.pne n, h, i⟩
  | vdc l => obtain ⟨a, vs, e, n, g, h, i⟩ := k; exact ⟨a, vs, e, R.pne n, g, h, i⟩
theorem Res.ext (R : Rep G0 H0 pa G H σ ρ pt) (k : Res H0 H G H v r) {G1 H1 : Hp} (x : Ext pa G H G1 H1) : Res H0 H G1 H1 v r := by
  cases r with
  | dat d => exact Is.mono x.g k
  | lst xs => obtain ⟨a, vs, e, n, g, h, i⟩ := k; exact (n.no h).elim
  | dic l => obtain ⟨a, vs, e, n, g, h, i⟩ := k; exact (n.no h).elim
  | vls xs => obtain ⟨a, vs, e, n, g, h, i⟩ := k; exact ⟨a, vs, e, n, x.out g h, x.hv a _ h (R.pne n), i.mono x.g⟩
  | vdc l => obtain ⟨a, vs, e, n, g, h, i⟩ := k; exact ⟨a, vs, e, n, x.out g h, x.hv a _ h (R.pne n), i.mono x.g⟩
theorem Res.back (k : Res H0 Hb G H v r) {Hc : Hp} (n : ∀ a, Nw Hb a → Nw Hc a) : Res H0 Hc G H v r := by
  cases r with
  | dat d => exact k
  | lst xs => obtain ⟨a, vs, e, m, t⟩ := k; exact ⟨a, vs, e, n a m, t⟩
  | dic l => obtain ⟨a, vs, e, m, t⟩ := k; exact ⟨a, vs, e, n a m, t⟩
  | vls xs => exact k
  | vdc l => exact k
theorem Vw.ls (P : PG pa G H) (k : Vw pa G H v r) {xs : List D} (e : r.ls? = some xs) : ∃ a vs, v = .ref a ∧ pa.p ≠ some a ∧ H a = some (.lst vs) ∧ IsA G vs xs := by
  cases r with
  | dat d =>
    have k : Is G v d := k
    cases k with
    | lst h i => cases e; exact ⟨_, _, rfl, P.ne h, P.gh _ _ h, i⟩
    | _ => cases e
  | lst ys => cases e; exact k
  | vls ys => cases e; exact k
  | dic l => cases e
  | vdc l => cases e
theorem Vw.tp (k : Vw pa G H v r) {xs : List D} (e : r.tp? = some xs) : ∃ a vs, v = .ref a ∧ G a = some (.tup vs) ∧ IsA G vs xs := by
  cases r with
  | dat d =>
    have k : Is G v d := k
    cases k with
    | tup h i => cases e; exact ⟨_, _, rfl, h, i⟩
    | _ => cases e
  | lst ys => cases e
  | vls ys => cases e
  | dic l => cases e
  | vdc l => cases e
theorem Vw.dc (P : PG pa G H) (k : Vw pa G H v r) {l : List (List Int × D)} (e : r.dc? = some l) : ∃ a kv, v = .ref a ∧ pa.p ≠ some a ∧ Rd H a (.dT kv) ∧ KvA G kv l := by
  cases r with
  | dat d =>
    have k : Is G v d := k
    cases k with
    | dct h i =>
      have e' : undD (dD _) = some l := e
      rw [undD_dD] at e'
      cases e'
      exact ⟨_, _, rfl, P.ne h, .inr ⟨_, P.gh _ _ h⟩, i⟩
    | _ => cases e
  | lst ys => cases e
  | vls ys => cases e
  | dic l => cases e; obtain ⟨a, kv, e, n, g, h, i⟩ := k; exact ⟨a, kv, e, n, Rd.of h, i⟩
  | vdc l => cases e; obtain ⟨a, kv, e, n, g, h, i⟩ := k; exact ⟨a, kv, e, n, Rd.of h, i⟩
theorem Vw.int (k : Vw pa G H v r) {i : Int} (e : r.int? = some i) : v = .int i := by
  cases r with
  | dat d =>
    have k : Is G v d := k
    cases k with
    | int j => cases e; rfl
    | _ => cases e
  | _ => cases e
theorem Vw.bool (k : Vw pa G H v r) {b : Bool} (e : r.bool? = some b) : v = .bl b := by
  cases r with
  | dat d =>
    have k : Is G v d := k
    cases k with
    | bl j => cases e; rfl
    | _ => cases e
  | _ => cases e
theorem Vw.dat (k : Vw pa G H v r) {d : D} (e : r.dat? = some d) : Is G v d := by
  cases r with
  | dat d => cases e; exact k
  | _ => cases e
/-- a new list is locked: it is data from then on -/
theorem Ext.lock (x : Ext pa G H G' H') {a : Addr} {o : HO} (n : Nw H a) (h : H' a = some o) (g : G' a = none) (k : NTb o := by intro _ z; cases z) : Ext pa G H (upd G' a o) H' where
  g := fun b u e => by
    have ne : b ≠ a := fun z => by subst z; have := x.g b u e; rw [g] at this; cases this
    rw [upd_ne ne]
    exact x.g b u e
  gh := fun b u e => by
    by_cases c : b = a
    · subst c; rw [upd_same] at e; cases e; exact h
    · rw [upd_ne c] at e; exact x.gh b u e
  h := x.h
  pl := x.pl
  f := fun b u e => by
    by_cases c : b = a
    · subst c; exact .inr n.nf
    · rw [upd_ne c] at e; exact x.f b u e
  pn := x.pn
  nt := fun m b u e => by
    by_cases c : b = a
    · subst c; rw [upd_same] at e; cases e; exact k
    · rw [upd_ne c] at e; exact x.nt m b u e
  tb := x.tb
theorem same_upd {G : Hp} {a : Addr} {o : HO} (g : G a = none) : Same G (upd G a o) := fun b u e => by
  rw [upd_ne (ne_of_none e g)]; exact e
theorem Res.fix (k : Res H0 H G' H' v r) (x : Ext pa G H G' H') {d : D} (e : r.fix? = some d) : ∃ G2, Same G' G2 ∧ Ext pa G H G2 H' ∧ Is G2 v d := by
  cases r with
  | dat d => cases e; exact ⟨G', Same.refl _, x, k⟩
  | lst xs =>
    cases e
    obtain ⟨a, vs, rfl, n, g, h, i⟩ := k
    exact ⟨upd G' a (.lst vs), same_upd g, x.lock n h g, .lst upd_same (i.mono (same_upd g))⟩
  | dic l => cases e
  | vls xs => cases e
  | vdc l => cases e
end

/-! ### what a reading gives -/
def DE (te : TE) (m : MV) : Prop := ∀ {G0 H0 : Hp} {pa : Mu} {G H : Hp} {σ : L2.St} {ρ : List Sl} {pt : List Int} {r : Rv} {pt' : List Int} {Q : VK},
  Rep G0 H0 pa G H σ ρ pt → m ρ pt = some (r, pt') → (∀ v G' H', Ext pa G H G' H' → PotAt pa H' pt' → Res H0 H G' H' v r → Q v H') → te σ H Q
def DT (tt : TT) (m : MT) : Prop := ∀ {G0 H0 : Hp} {pa : Mu} {G H : Hp} {σ : L2.St} {ρ : List Sl} {pt : List Int} {b : Bool} {pt' : List Int} {Q : Bool → Hp → Prop},
  Rep G0 H0 pa G H σ ρ pt → m ρ pt = some (b, pt') → (∀ G' H', Ext pa G H G' H' → PotAt pa H' pt' → Q b H') → tt σ H Q
/-- arguments as data that stays; as they stand -/
def DA (ta : TA) (m : MA) : Prop := ∀ {G0 H0 : Hp} {pa : Mu} {G H : Hp} {σ : L2.St} {ρ : List Sl} {pt : List Int} {ds : List D} {pt' : List Int} {Q : List V → Hp → Prop},
  Rep G0 H0 pa G H σ ρ pt → m ρ pt = some (ds, pt') → (∀ vs G' H', Ext pa G H G' H' → PotAt pa H' pt' → IsA G' vs ds → Q vs H') → ta σ H Q
def DW (ta : TA) (m : MW) : Prop := ∀ {G0 H0 : Hp} {pa : Mu} {G H : Hp} {σ : L2.St} {ρ : List Sl} {pt : List Int} {rs : List Rv} {pt' : List Int} {Q : List V → Hp → Prop},
  Rep G0 H0 pa G H σ ρ pt → m ρ pt = some (rs, pt') → (∀ vs G' H', Ext pa G H G' H' → PotAt pa H' pt' → VwA pa G' H' vs rs → Q vs H') → ta σ H Q
/-- an operation on values: two, one, many; it leaves all as it was, what it gives is new or data -/
def OK0 (G H : Hp) (z : Rv) (Q : VK) : Prop := ∀ v G' H', Ext mu0 G H G' H' → (∀ H0, Res H0 H G' H' v z) → Q v H'
def DR (r : V → V → Hp → VK → Prop) (f : Rv → Rv → Option Rv) : Prop := ∀ {pa : Mu} {G H : Hp} {x y : V} {a b z : Rv} {Q : VK}, PG pa G H → Vw pa G H x a → Vw pa G H y b → f a b = some z → OK0 G H z Q → r x y H Q
def DU (r : V → Hp → VK → Prop) (f : Rv → Option Rv) : Prop := ∀ {pa : Mu} {G H : Hp} {x : V} {a z : Rv} {Q : VK}, PG pa G H → Vw pa G H x a → f a = some z → OK0 G H z Q → r x H Q
def DC (r : List V → Hp → VK → Prop) (f : List Rv → Option Rv) : Prop := ∀ {pa : Mu} {G H : Hp} {xs : List V} {as : List Rv} {z : Rv} {Q : VK}, PG pa G H → VwA pa G H xs as → f as = some z → OK0 G H z Q → r xs H Q

def mVar (i : Nat) : MV := fun ρ pt => match ρ[i]? with
  | some (.dat d) => some (.dat d, pt)
  | some (.lst xs) => some (.vls xs, pt)
  | some (.dic l) => some (.vdc l, pt)
  | _ => none
def mC (d : D) : MV := fun _ pt => some (.dat d, pt)
def mOp (f : Rv → Rv → Option Rv) (ma mb : MV) : MV := fun ρ pt => (ma ρ pt).bind fun x => (mb ρ x.2).bind fun y => (f x.1 y.1).map fun z => (z, y.2)
def mUn (f : Rv → Option Rv) (ma : MV) : MV := fun ρ pt => (ma ρ pt).bind fun x => (f x.1).map fun z => (z, x.2)
def mNil : MA := fun _ pt => some ([], pt)
def mCons (me : MV) (mr : MA) : MA := fun ρ pt => (me ρ pt).bind fun x => (x.1.fix?).bind fun d => (mr ρ x.2).map fun y => (d :: y.1, y.2)
def wNil : MW := fun _ pt => some ([], pt)
def wCons (me : MV) (mr : MW) : MW := fun ρ pt => (me ρ pt).bind fun x => (mr ρ x.2).map fun y => (x.1 :: y.1, y.2)
def mCB (f : List Rv → Option Rv) (ma : MW) : MV := fun ρ pt => (ma ρ pt).bind fun x => (f x.1).map fun z => (z, x.2)
def mVal (m : MV) : MT := fun ρ pt => (m ρ pt).bind fun x => (x.1.bool?).map fun b => (b, x.2)
def mAnd (t u : MT) : MT := fun ρ pt => (t ρ pt).bind fun x => if x.1 = true then u ρ x.2 else some (false, x.2)
def mOr (t u : MT) : MT := fun ρ pt => (t ρ pt).bind fun x => if x.1 = true then some (true, x.2) else u ρ x.2
def mNot (t : MT) : MT := fun ρ pt => (t ρ pt).map fun x => (!x.1, x.2)
def mAndV (a b : MV) : MV := fun ρ pt => (a ρ pt).bind fun x => (x.1.bool?).bind fun c => if c = true then b ρ x.2 else some (.dat (.bool false), x.2)
def mOrV (a b : MV) : MV := fun ρ pt => (a ρ pt).bind fun x => (x.1.bool?).bind fun c => if c = true then some (.dat (.bool true), x.2) else b ρ x.2
def mNotV (a : MV) : MV := fun ρ pt => (a ρ pt).bind fun x => (x.1.bool?).map fun c => (.dat (.bool (!c)), x.2)
def mIfE (t : MT) (a b : MV) : MV := fun ρ pt => (t ρ pt).bind fun x => if x.1 = true then a ρ x.2 else b ρ x.2
def mTup (ma : MA) : MV := fun ρ pt => (ma ρ pt).bind fun x => if x.1.length ≤ sizeLine then some (.dat (.tuple x.1), x.2) else none
def mLst (ma : MA) : MV := fun ρ pt => (ma ρ pt).bind fun x => if x.1.length ≤ sizeLine then some (.lst x.1, x.2) else none
def mDic : MV := fun _ pt => some (.dic [], pt)


section
variable {ta tb te : TE} {ma mb me : MV} {tt tu : TT} {mt mu : MT} {tl : TA} {ml : MA} {mw : MW}
theorem de_var {i : Nat} : DE (tVar i) (mVar i) := by
  intro G0 H0 pa G H σ ρ pt r pt' Q R e q
  unfold mVar at e
  cases hs : ρ[i]? with
  | none => rw [hs] at e; cases e
  | some s =>
    rw [hs] at e
    have k := R.slot i s hs
    cases s with
    | un => cases e
    | pot => cases e
    | dat d => cases e; obtain ⟨x, e1, t⟩ := k; exact ⟨x, e1, q x G H (Ext.refl R.same) R.pot t⟩
    | lst xs => cases e; obtain ⟨a, vs, e1, t⟩ := k; exact ⟨_, e1, q _ G H (Ext.refl R.same) R.pot ⟨a, vs, rfl, t⟩⟩
    | dic l => cases e; obtain ⟨a, vs, e1, t⟩ := k; exact ⟨_, e1, q _ G H (Ext.refl R.same) R.pot ⟨a, vs, rfl, t⟩⟩
theorem de_c {v : V} {d : D} (h : ∀ G : Hp, Is G v d) : DE (tC v) (mC d) := by
  intro G0 H0 pa G H σ ρ pt r pt' Q R e q
  cases e
  exact q v G H (Ext.refl R.same) R.pot (h G)
theorem de_int {i : Int} : DE (tC (.int i)) (mC (.int i)) := de_c fun _ => .int i
theorem de_bl {b : Bool} : DE (tC (.bl b)) (mC (.bool b)) := de_c fun _ => .bl b
theorem de_non : DE (tC .non) (mC .none) := de_c fun _ => .non
theorem de_str {x : Str} : DE (tC (.str x)) (mC (.str x)) := de_c fun _ => .str x
/-- behind two operands -/
theorem de_op {r : R2} {f : Rv → Rv → Option Rv} (hr : DR r f) (ha : DE ta ma) (hb : DE tb mb) : DE (tOp r ta tb) (mOp f ma mb) := by
  intro G0 H0 pa G H σ ρ pt z pt' Q R e q
  obtain ⟨⟨a, p1⟩, e1, e⟩ := bnd e
  obtain ⟨⟨b, p2⟩, e2, e⟩ := bnd e
  obtain ⟨c, e3, e⟩ := mpd e
  cases e
  refine ha R e1 fun v G1 H1 x1 q1 k1 => hb (R.ext x1 q1) e2 fun w G2 H2 x2 q2 k2 => ?_
  have P := (R.ext (x1.trans x2) q2).PG
  refine hr P ((Res.vw R k1).ext x2) (Res.vw (R.ext x1 q1) k2) e3 fun u G3 H3 x3 k3 => ?_
  exact q u G3 H3 ((x1.trans x2).trans x3.any) (q2.ext x3) ((k3 H0).back fun a h => (x1.trans x2).pn a h)
theorem de_un {r : V → Hp → VK → Prop} {f : Rv → Option Rv} (hr : DU r f) (ha : DE ta ma) : DE (tUn r ta) (mUn f ma) := by
  intro G0 H0 pa G H σ ρ pt z pt' Q R e q
  obtain ⟨⟨a, p1⟩, e1, e⟩ := bnd e
  obtain ⟨c, e3, e⟩ := mpd e
  cases e
  refine ha R e1 fun v G1 H1 x1 q1 k1 => hr (R.ext x1 q1).PG (Res.vw R k1) e3 fun u G3 H3 x3 k3 => ?_
  exact q u G3 H3 (x1.trans x3.any) (q1.ext x3) ((k3 H0).back fun a h => x1.pn a h)
theorem dw_nil : DW tNil wNil := by
  intro G0 H0 pa G H σ ρ pt z pt' Q R e q
  cases e
  exact q [] G H (Ext.refl R.same) R.pot .nil
theorem dw_cons (ha : DE te me) (hr : DW tl mw) : DW (tCons te tl) (wCons me mw) := by
  intro G0 H0 pa G H σ ρ pt z pt' Q R e q
  obtain ⟨⟨a, p1⟩, e1, e⟩ := bnd e
  obtain ⟨⟨b, p2⟩, e2, e⟩ := mpd e
  cases e
  refine ha R e1 fun v G1 H1 x1 q1 k1 => hr (R.ext x1 q1) e2 fun vs G2 H2 x2 q2 k2 => ?_
  exact q (v :: vs) G2 H2 (x1.trans x2) q2 (.cons ((Res.vw R k1).ext x2) k2)
theorem de_cb {r : List V → Hp → VK → Prop} {f : List Rv → Option Rv} (hr : DC r f) (ha : DW tl mw) : DE (tCB r tl) (mCB f mw) := by
  intro G0 H0 pa G H σ ρ pt z pt' Q R e q
  obtain ⟨⟨a, p1⟩, e1, e⟩ := bnd e
  obtain ⟨c, e3, e⟩ := mpd e
  cases e
  refine ha R e1 fun v G1 H1 x1 q1 k1 => hr (R.ext x1 q1).PG k1 e3 fun u G3 H3 x3 k3 => ?_
  exact q u G3 H3 (x1.trans x3.any) (q1.ext x3) ((k3 H0).back fun a h => x1.pn a h)
theorem da_nil : DA tNil mNil := by
  intro G0 H0 pa G H σ ρ pt z pt' Q R e q
  cases e
  exact q [] G H (Ext.refl R.same) R.pot .nil
theorem da_cons (ha : DE te me) (hr : DA tl ml) : DA (tCons te tl) (mCons me ml) := by
  intro G0 H0 pa G H σ ρ pt z pt' Q R e q
  obtain ⟨⟨a, p1⟩, e1, e⟩ := bnd e
  obtain ⟨d, e3, e⟩ := bnd e
  obtain ⟨⟨b, p2⟩, e2, e⟩ := mpd e
  cases e
  refine ha R e1 fun v G1 H1 x1 q1 k1 => ?_
  obtain ⟨G2, s2, x2, k2⟩ := k1.fix x1 e3
  refine hr (R.ext x2 q1) e2 fun vs G3 H3 x3 q3 k3 => ?_
  exact q (v :: vs) G3 H3 (x2.trans x3) q3 (.cons (k2.mono x3.g) k3)
theorem de_tup (ha : DA tl ml) : DE (tTup tl) (mTup ml) := by
  intro G0 H0 pa G H σ ρ pt z pt' Q R e q
  obtain ⟨⟨ds, p1⟩, e1, e⟩ := bnd e
  split at e
  · rename_i hz
    cases e
    refine ha R e1 fun vs G1 H1 x1 q1 k1 => ⟨by rw [k1.length]; exact hz, fun p hp => ?_⟩
    have x2 := Ext.new (pa := pa) (o := .tup vs) x1.gh hp
    exact q _ _ _ (x1.trans x2) (q1.ext (Ext.new x1.gh hp)) (.tup upd_same (k1.mono x2.g))
  · cases e
theorem de_lst (ha : DA tl ml) : DE (tLst tl) (mLst ml) := by
  intro G0 H0 pa G H σ ρ pt z pt' Q R e q
  obtain ⟨⟨ds, p1⟩, e1, e⟩ := bnd e
  split at e
  · rename_i hz
    cases e
    refine ha R e1 fun vs G1 H1 x1 q1 k1 => ⟨by rw [k1.length]; exact hz, fun p hp => ?_⟩
    exact q _ _ _ (x1.trans (Ext.own x1.gh hp)) (q1.ext (Ext.own x1.gh hp)) ⟨p, vs, rfl, x1.pn p (Nw.of hp), free_G x1.gh hp, upd_same, k1⟩
  · cases e
theorem de_dic : DE tDNewT mDic := by
  intro G0 H0 pa G H σ ρ pt z pt' Q R e q
  cases e
  intro p hp
  exact q _ _ _ (Ext.own R.same hp) (R.pot.ext (Ext.own R.same hp)) ⟨p, [], rfl, Nw.of hp, free_G R.same hp, upd_same, .nil⟩
/-! tests -/
theorem dt_val (h : DE te me) : DT (tTest te) (mVal me) := by
  intro G0 H0 pa G H σ ρ pt z pt' Q R e q
  obtain ⟨⟨a, p1⟩, e1, e⟩ := bnd e
  obtain ⟨b, e2, e⟩ := mpd e
  cases e
  exact h R e1 fun v G1 H1 x1 q1 k1 => ⟨_, (Res.vw R k1).bool e2, q _ _ x1 q1⟩
theorem dt_B (h : DE te me) : DT (tB te) (mVal me) := by
  intro G0 H0 pa G H σ ρ pt z pt' Q R e q
  obtain ⟨⟨a, p1⟩, e1, e⟩ := bnd e
  obtain ⟨b, e2, e⟩ := mpd e
  cases e
  exact h R e1 fun v G1 H1 x1 q1 k1 => ⟨_, (Res.vw R k1).bool e2, q _ _ x1 q1⟩
theorem dt_and (h : DT tt mt) (k : DT tu mu) : DT (tAnd tt tu) (mAnd mt mu) := by
  intro G0 H0 pa G H σ ρ pt z pt' Q R e q
  obtain ⟨⟨a, p1⟩, e1, e⟩ := bnd e
  refine h R e1 fun G1 H1 x1 q1 => ?_
  cases a with
  | true => exact iteT (k (R.ext x1 q1) e fun G2 H2 x2 q2 => q _ _ (x1.trans x2) q2)
  | false =>
    cases e
    exact iteF (q _ _ x1 q1)
theorem dt_or (h : DT tt mt) (k : DT tu mu) : DT (tOr tt tu) (mOr mt mu) := by
  intro G0 H0 pa G H σ ρ pt z pt' Q R e q
  obtain ⟨⟨a, p1⟩, e1, e⟩ := bnd e
  refine h R e1 fun G1 H1 x1 q1 => ?_
  cases a with
  | false => exact iteF (k (R.ext x1 q1) e fun G2 H2 x2 q2 => q _ _ (x1.trans x2) q2)
  | true =>
    cases e
    exact iteT (q _ _ x1 q1)
theorem dt_not (h : DT tt mt) : DT (tNot tt) (mNot mt) := by
  intro G0 H0 pa G H σ ρ pt z pt' Q R e q
  obtain ⟨⟨a, p1⟩, e1, e⟩ := mpd e
  cases e
  exact h R e1 fun G1 H1 x1 q1 => q _ _ x1 q1
theorem dt_yes : DT tYes fun _ pt => some (true, pt) := by
  intro G0 H0 pa G H σ ρ pt z pt' Q R e q
  cases e
  exact q _ _ (Ext.refl R.same) R.pot
/-! values by tests -/
theorem Res.pass {G0 H0 G H G1 H1 G2 H2 : Hp} {pa : Mu} {v : V} {r : Rv} (x : Ext pa G H G1 H1) (k : Res H0 H1 G2 H2 v r) : Res H0 H G2 H2 v r := k.back fun a h => x.pn a h
theorem de_and (h : DE ta ma) (k : DE tb mb) : DE (tAndV ta tb) (mAndV ma mb) := by
  intro G0 H0 pa G H σ ρ pt z pt' Q R e q
  obtain ⟨⟨a, p1⟩, e1, e⟩ := bnd e
  obtain ⟨c, e2, e⟩ := bnd e
  refine h R e1 fun v G1 H1 x1 q1 k1 => ⟨c, (Res.vw R k1).bool e2, ?_⟩
  cases c with
  | true => exact iteT (k (R.ext x1 q1) e fun w G2 H2 x2 q2 k2 => q _ _ _ (x1.trans x2) q2 (k2.back fun a h => x1.pn a h))
  | false =>
    cases e
    exact iteF (q _ _ _ x1 q1 (.bl false))
theorem de_or (h : DE ta ma) (k : DE tb mb) : DE (tOrV ta tb) (mOrV ma mb) := by
  intro G0 H0 pa G H σ ρ pt z pt' Q R e q
  obtain ⟨⟨a, p1⟩, e1, e⟩ := bnd e
  obtain ⟨c, e2, e⟩ := bnd e
  refine h R e1 fun v G1 H1 x1 q1 k1 => ⟨c, (Res.vw R k1).bool e2, ?_⟩
  cases c with
  | false => exact iteF (k (R.ext x1 q1) e fun w G2 H2 x2 q2 k2 => q _ _ _ (x1.trans x2) q2 (k2.back fun a h => x1.pn a h))
  | true =>
    cases e
    exact iteT (q _ _ _ x1 q1 (.bl true))
theorem de_not (h : DE ta ma) : DE (tNotV ta) (mNotV ma) := by
  intro G0 H0 pa G H σ ρ pt z pt' Q R e q
  obtain ⟨⟨a, p1⟩, e1, e⟩ := bnd e
  obtain ⟨c, e2, e⟩ := mpd e
  cases e
  exact h R e1 fun v G1 H1 x1 q1 k1 => ⟨c, (Res.vw R k1).bool e2, q _ _ _ x1 q1 (.bl _)⟩
theorem de_if (h : DT tt mt) (ha : DE ta ma) (hb : DE tb mb) : DE (tIf tt ta tb) (mIfE mt ma mb) := by
  intro G0 H0 pa G H σ ρ pt z pt' Q R e q
  obtain ⟨⟨a, p1⟩, e1, e⟩ := bnd e
  refine h R e1 fun G1 H1 x1 q1 => ?_
  cases a with
  | true => exact iteT (ha (R.ext x1 q1) e fun w G2 H2 x2 q2 k2 => q _ _ _ (x1.trans x2) q2 (k2.back fun a h => x1.pn a h))
  | false => exact iteF (hb (R.ext x1 q1) e fun w G2 H2 x2 q2 k2 => q _ _ _ (x1.trans x2) q2 (k2.back fun a h => x1.pn a h))
end

/-! ### calls of the text's defs -/
/-- a def that gives what g says of its arguments -/
structure GS (G H : Hp) : Prop where
  same : Same G H
  nt : NT G
  tb : LamX.Tabs TB.T H
theorem Rep.gs {G0 H0 G H : Hp} {pa : Mu} {σ : L2.St} {ρ : List Sl} {pt : List Int} (R : Rep G0 H0 pa G H σ ρ pt) : GS G H := ⟨R.same, R.nt, R.tb⟩
/-- from a def without the pot -/
theorem Ext.potless {G H G' H' : Hp} {pa : Mu} (e : pa.st = false) (x : Ext muT G H G' H') : Ext pa G H G' H' :=
  ⟨x.g, x.gh, fun b o h k => x.h b o h ⟨by simp, k.2.elim (fun z => by rw [e] at z; cases z) .inr⟩, x.f, x.pl, x.pn, x.nt, x.tb⟩
theorem PotAt.extT {G H G' H' : Hp} {pa : Mu} {pt : List Int} (q : PotAt pa H pt) (x : Ext muT G H G' H') : PotAt pa H' pt := fun p e => x.hv p _ (q p e) (by simp)
def spF (g : List D → Option Rv) : Sp := fun vs H Q _ => ∃ (G : Hp) (ds : List D) (r : Rv), g ds = some r ∧ GS G H ∧ IsA G vs ds ∧ ∀ v G' H', Ext muT G H G' H' → (∀ H0, Res H0 H G' H' v r) → Q v H'
/-- .. whose first argument is the pot -/
def spP (g : List D → List Int → Option (Rv × List Int)) : Sp := fun vs H Q _ => ∃ (G : Hp) (p : Addr) (ws : List V) (pt : List Int) (ds : List D) (r : Rv) (pt' : List Int), vs = .ref p :: ws ∧ g ds pt = some (r, pt') ∧ GS G H ∧ G p = none ∧
  H p = some (.lst (pt.map V.int)) ∧ IsA G ws ds ∧ ∀ v G' H', Ext (muP p) G H G' H' → H' p = some (.lst (pt'.map V.int)) → (∀ H0, Res H0 H G' H' v r) → Q v H'
def mCall (g : List D → Option Rv) (ma : MA) : MV := fun ρ pt => (ma ρ pt).bind fun x => (g x.1).map fun z => (z, x.2)
def mCallP (i : Nat) (g : List D → List Int → Option (Rv × List Int)) (ma : MA) : MV := fun ρ pt => match ρ[i]? with
  | some .pot => (ma ρ pt).bind fun x => g x.1 x.2
  | _ => none
theorem de_call {g : List D → Option Rv} {tl : TA} {ml : MA} {E : XK} (h : DA tl ml) : DE (tCall (spF g) [] E tl) (mCall g ml) := by
  intro G0 H0 pa G H σ ρ pt z pt' Q R e q
  obtain ⟨⟨ds, p1⟩, e1, e⟩ := bnd e
  obtain ⟨c, e2, e⟩ := mpd e
  cases e
  refine h R e1 fun vs G1 H1 x1 q1 k1 => ⟨G1, ds, _, e2, (R.ext x1 q1).gs, by rw [List.append_nil]; exact k1, fun v G2 H2 x2 k2 => ?_⟩
  exact q v G2 H2 (x1.trans (x2.potless R.ns)) (q1.extT x2) ((k2 H0).back fun a h => x1.pn a h)
theorem de_callP {i : Nat} {g : List D → List Int → Option (Rv × List Int)} {tl : TA} {ml : MA} {E : XK} (h : DA tl ml) : DE (tCall (spP g) [] E (tCons (tVar i) tl)) (mCallP i g ml) := by
  intro G0 H0 pa G H σ ρ pt z pt' Q R e q
  unfold mCallP at e
  cases hs : ρ[i]? with
  | none => rw [hs] at e; cases e
  | some s =>
    rw [hs] at e
    have k := R.slot i s hs
    cases s with
    | pot =>
      obtain ⟨p, ep, ev⟩ := k
      obtain ⟨⟨ds, p1⟩, e1, e⟩ := bnd e
      refine ⟨.ref p, ev, h R e1 fun vs G1 H1 x1 q1 k1 => ?_⟩
      have R1 := R.ext x1 q1
      refine ⟨G1, p, vs, p1, ds, z, pt', by rw [List.append_nil], e, R1.gs, R1.potG ep, q1 p ep, k1, fun v G2 H2 x2 q2 k2 => ?_⟩
      have x2' : Ext pa G1 H1 G2 H2 := by
        obtain ⟨p0, st0⟩ := pa
        have es : st0 = false := R.ns
        have ep : p0 = some p := ep
        subst es ep
        exact x2
      refine q v G2 H2 (x1.trans x2') (fun p' e' => ?_) ((k2 H0).back fun a h => x1.pn a h)
      rw [ep] at e'
      cases e'
      exact q2
    | _ => cases e
/-- the pot's i-th number -/
def mPotIx (i : Nat) (k : Nat) : MV := fun ρ pt => match ρ[i]? with
  | some .pot => (pt[k]?).map fun n => (.dat (.int n), pt)
  | _ => none
theorem de_potix {K : PySem.W.Frag} {i k : Nat} : DE (tOp (rIxL K) (tVar i) (tC (.int (k : Int)))) (mPotIx i k) := by
  intro G0 H0 pa G H σ ρ pt z pt' Q R e q
  unfold mPotIx at e
  cases hs : ρ[i]? with
  | none => rw [hs] at e; cases e
  | some s =>
    rw [hs] at e
    have kk := R.slot i s hs
    cases s with
    | pot =>
      obtain ⟨p, ep, ev⟩ := kk
      obtain ⟨n, e1, e⟩ := mpd e
      cases e
      exact ⟨.ref p, ev, p, pt.map V.int, (k : Int), .int n, rfl, rfl, SqL.of (R.pot p ep), atI_nat (by rw [List.getElem?_map, e1]; rfl), q _ G H (Ext.refl R.same) R.pot (.int n)⟩
    | _ => cases e
end Pd
end
section
set_option Elab.async false
set_option linter.all false
set_option maxRecDepth 100000
/-! Pd2: what is walked; comprehensions; statements; loops; defs. -/
namespace Pd
open PySem PySem.Spec L2 RZ
variable [TB]

abbrev ML := List Sl → List Int → Option (List D × List Int)
/-- what an iterator yields while nothing but new things come (WkC), while what is locked stays (WkF) -/
structure WkC (pa : Mu) (G1 H1 : Hp) (J : It) (ds : List D) : Prop where
  item : ∀ (i : Nat) (d : D) (G H : Hp), Ext pa G1 H1 G H → PG pa G H → ds[i]? = some d → J.go i H ∧ ∀ x H', J.yld i H x H' → ∃ G', Ext mu0 G H G' H' ∧ Is G' x d
  done : ∀ (i : Nat) (G H : Hp), Ext pa G1 H1 G H → PG pa G H → ds.length ≤ i → J.stop i H
structure WkF (pa : Mu) (G1 : Hp) (J : It) (ds : List D) : Prop where
  item : ∀ (i : Nat) (d : D) (G H : Hp), Same G1 G → PG pa G H → ds[i]? = some d → J.go i H ∧ ∀ x H', J.yld i H x H' → ∃ G', Ext mu0 G H G' H' ∧ Is G' x d
  done : ∀ (i : Nat) (G H : Hp), Same G1 G → PG pa G H → ds.length ≤ i → J.stop i H
theorem WkF.c {pa : Mu} {G1 H1 : Hp} {J : It} {ds : List D} (w : WkF pa G1 J ds) : WkC pa G1 H1 J ds :=
  ⟨fun i d G H x P e => w.item i d G H x.g P e, fun i G H x P e => w.done i G H x.g P e⟩
def DI (wi : TI) (m : ML) : Prop := ∀ {G0 H0 : Hp} {pa : Mu} {G H : Hp} {σ : L2.St} {ρ : List Sl} {pt : List Int} {ds : List D} {pt' : List Int} {R : It → Hp → Prop},
  Rep G0 H0 pa G H σ ρ pt → m ρ pt = some (ds, pt') → (∀ J G' H', Ext pa G H G' H' → PotAt pa H' pt' → WkC pa G' H' J ds → R J H') → wi σ H R
def DIF (wi : TI) (m : ML) : Prop := ∀ {G0 H0 : Hp} {pa : Mu} {G H : Hp} {σ : L2.St} {ρ : List Sl} {pt : List Int} {ds : List D} {pt' : List Int} {R : It → Hp → Prop},
  Rep G0 H0 pa G H σ ρ pt → m ρ pt = some (ds, pt') → (∀ J G' H', Ext pa G H G' H' → PotAt pa H' pt' → WkF pa G' J ds → R J H') → wi σ H R
theorem DIF.i {wi : TI} {m : ML} (h : DIF wi m) : DI wi m := fun R e q => h R e fun J G' H' x p w => q J G' H' x p w.c

def mIt (ml : MV) : ML := fun ρ pt => (ml ρ pt).bind fun x => (x.1.ls?).map fun l => (l, x.2)
def mItF (ml : MV) : ML := fun ρ pt => (ml ρ pt).bind fun x => (x.1.fix?).bind fun d => match d with | .list l => some (l, x.2) | _ => none
def mItT (ml : MV) : ML := fun ρ pt => (ml ρ pt).bind fun x => (x.1.tp?).map fun l => (l, x.2)
def rgD (lo hi : Int) : List D := (List.range (hi - lo).toNat).map fun i => .int (lo + (i : Nat))
def small62 (i : Int) : Bool := decide (-(2 ^ 62) ≤ i) && decide (i < 2 ^ 62)
def mRg1 (mw : MW) : ML := fun ρ pt => (mw ρ pt).bind fun x => match x.1 with
  | [a] => (a.int?).bind fun j => if small62 j = true then some (rgD 0 j, x.2) else none
  | _ => none
def mRg2 (mw : MW) : ML := fun ρ pt => (mw ρ pt).bind fun x => match x.1 with
  | [a, b] => (a.int?).bind fun i => (b.int?).bind fun j => if small62 i = true ∧ small62 j = true then some (rgD i j, x.2) else none
  | _ => none
def enD (l : List D) : List D := (List.range l.length).zipWith (fun i d => .tuple [.int (i : Nat), d]) l
def mEn (mw : MW) : ML := fun ρ pt => (mw ρ pt).bind fun x => match x.1 with
  | [a] => (a.ls?).map fun l => (enD l, x.2)
  | _ => none
def zipD (l m : List D) : List D := l.zipWith (fun a b => .tuple [a, b]) m
def mZip (mw : MW) : ML := fun ρ pt => (mw ρ pt).bind fun x => match x.1 with
  | [a, b] => (a.ls?).bind fun l => (b.ls?).map fun k => (zipD l k, x.2)
  | _ => none
def mZipT (mw : MW) : ML := fun ρ pt => (mw ρ pt).bind fun x => match x.1 with
  | [a, b] => (a.tp?).bind fun l => (b.tp?).map fun k => (zipD l k, x.2)
  | _ => none

section
variable {K : PySem.W.Frag} {te : TE} {me : MV} {ta : TA} {mw : MW}
theorem sql_inj {H : Hp} {a : Addr} {vs ws : List V} (h : H a = some (.lst vs)) (q : ∀ xs, SqL K H a xs → ∀ i : Nat, ∀ x : V, xs[i]? = some x → True) : True := trivial
theorem di_list (h : DE te me) : DI (iList K te) (mIt me) := by
  intro G0 H0 pa G H σ ρ pt ds pt' Q R e q
  obtain ⟨⟨r, p1⟩, e1, e⟩ := bnd e
  obtain ⟨l, e2, e⟩ := mpd e
  cases e
  refine h R e1 fun v G1 H1 x1 q1 k1 => ?_
  have P := (R.ext x1 q1).PG
  obtain ⟨a, vs, rfl, n, ha, i⟩ := (Res.vw R k1).ls P e2
  refine ⟨a, rfl, ⟨vs, SqL.of ha⟩, q _ G1 H1 x1 q1 ⟨fun j d G2 H2 x2 P2 e3 => ?_, fun j G2 H2 x2 P2 e3 => ?_⟩⟩
  · have ha2 := x2.hv a _ ha n
    obtain ⟨y, hy, iy⟩ := i.get e3
    refine ⟨⟨vs, y, SqL.of ha2, hy⟩, fun x H' hx => ?_⟩
    obtain ⟨rfl, hx⟩ := hx
    have e4 := hx vs (SqL.of ha2)
    rw [hy] at e4
    cases e4
    exact ⟨G2, Ext.refl P2.gh, iy.mono x2.g⟩
  · exact ⟨vs, SqL.of (x2.hv a _ ha n), by rw [i.length]; exact e3⟩
theorem dif_list (h : DE te me) : DIF (iList K te) (mItF me) := by
  intro G0 H0 pa G H σ ρ pt ds pt' Q R e q
  obtain ⟨⟨r, p1⟩, e1, e⟩ := bnd e
  obtain ⟨d, e2, e⟩ := bnd e
  refine h R e1 fun v G1 H1 x1 q1 k1 => ?_
  obtain ⟨G2, s2, x2, k2⟩ := k1.fix x1 e2
  cases k2 with
  | @lst a vs ds2 hg i =>
    cases e
    refine ⟨a, rfl, ⟨vs, SqL.of (x2.gh _ _ hg)⟩, q _ G2 H1 x2 q1 ⟨fun j d G3 H3 s3 P3 e3 => ?_, fun j G3 H3 s3 P3 e3 => ?_⟩⟩
    · have ha2 := P3.gh _ _ (s3 _ _ hg)
      obtain ⟨y, hy, iy⟩ := i.get e3
      refine ⟨⟨vs, y, SqL.of ha2, hy⟩, fun x H' hx => ?_⟩
      obtain ⟨rfl, hx⟩ := hx
      have e4 := hx vs (SqL.of ha2)
      rw [hy] at e4
      cases e4
      exact ⟨G3, Ext.refl P3.gh, iy.mono s3⟩
    · exact ⟨vs, SqL.of (P3.gh _ _ (s3 _ _ hg)), by rw [i.length]; exact e3⟩
  | _ => cases e
theorem dif_tup (h : DE te me) : DIF (iTup K te) (mItT me) := by
  intro G0 H0 pa G H σ ρ pt ds pt' Q R e q
  obtain ⟨⟨r, p1⟩, e1, e⟩ := bnd e
  obtain ⟨d, e2, e⟩ := mpd e
  cases e
  refine h R e1 fun v G1 H1 x1 q1 k1 => ?_
  obtain ⟨a, vs, rfl, hg, i⟩ := (Res.vw R k1).tp e2
  refine ⟨a, rfl, ⟨vs, SqT.of (x1.gh _ _ hg)⟩, q _ G1 H1 x1 q1 ⟨fun j d G3 H3 s3 P3 e3 => ?_, fun j G3 H3 s3 P3 e3 => ?_⟩⟩
  · have ha2 := P3.gh _ _ (s3 _ _ hg)
    obtain ⟨y, hy, iy⟩ := i.get e3
    refine ⟨⟨vs, y, SqT.of ha2, hy⟩, fun x H' hx => ?_⟩
    obtain ⟨rfl, hx⟩ := hx
    have e4 := hx vs (SqT.of ha2)
    rw [hy] at e4
    cases e4
    exact ⟨G3, Ext.refl P3.gh, iy.mono s3⟩
  · exact ⟨vs, SqT.of (P3.gh _ _ (s3 _ _ hg)), by rw [i.length]; exact e3⟩
theorem wk_rng {pa : Mu} {G1 : Hp} (lo : Int) (n : Nat) : WkF pa G1 (Itr lo n) ((List.range n).map fun i => .int (lo + (i : Nat))) := by
  refine ⟨fun i d G H s P e => ?_, fun i G H s P e => ?_⟩
  · rw [List.getElem?_map] at e
    obtain ⟨j, e1, rfl⟩ := Option.map_eq_some_iff.mp e
    obtain ⟨h1, h2⟩ := List.getElem?_eq_some_iff.mp e1
    rw [List.getElem_range] at h2
    subst h2
    rw [List.length_range] at h1
    refine ⟨h1, fun x H' hx => ?_⟩
    obtain ⟨rfl, rfl⟩ := hx
    exact ⟨G, Ext.refl P.gh, .int _⟩
  · rw [List.length_map, List.length_range] at e
    exact e
theorem small62_ok {i : Int} (h : small62 i = true) : -(2 ^ 62) ≤ i ∧ i < 2 ^ 62 := by
  unfold small62 at h
  simpa using h
theorem VwA.one {pa : Mu} {G H : Hp} {vs : List V} {r : Rv} (k : VwA pa G H vs [r]) : ∃ v, vs = [v] ∧ Vw pa G H v r := by
  cases k with
  | cons h t => cases t; exact ⟨_, rfl, h⟩
theorem VwA.two {pa : Mu} {G H : Hp} {vs : List V} {r s : Rv} (k : VwA pa G H vs [r, s]) : ∃ v u, vs = [v, u] ∧ Vw pa G H v r ∧ Vw pa G H u s := by
  cases k with
  | cons h t =>
    obtain ⟨u, rfl, hu⟩ := t.one
    exact ⟨_, u, rfl, h, hu⟩
theorem dif_rng1 (h : DW ta mw) : DIF (iRng1 ta) (mRg1 mw) := by
  intro G0 H0 pa G H σ ρ pt ds pt' Q R e q
  obtain ⟨⟨rs, p1⟩, e1, e⟩ := bnd e
  match rs, e with
  | [a], e =>
    obtain ⟨j, e2, e⟩ := bnd e
    split at e
    · rename_i hs
      cases e
      obtain ⟨s1, s2⟩ := small62_ok hs
      refine h R e1 fun vs G1 H1 x1 q1 k1 => ?_
      obtain ⟨v, rfl, kv⟩ := k1.one
      have hv := kv.int e2
      subst hv
      refine ⟨j, rfl, s1, s2, q _ G1 H1 x1 q1 ?_⟩
      have w := wk_rng (pa := pa) (G1 := G1) 0 j.toNat
      show WkF pa G1 (Itr 0 j.toNat) (rgD 0 j)
      unfold rgD
      rw [Int.sub_zero]
      exact w
    · cases e
theorem dif_rng2 (h : DW ta mw) : DIF (iRng2 ta) (mRg2 mw) := by
  intro G0 H0 pa G H σ ρ pt ds pt' Q R e q
  obtain ⟨⟨rs, p1⟩, e1, e⟩ := bnd e
  match rs, e with
  | [a, b], e =>
    obtain ⟨i, e2, e⟩ := bnd e
    obtain ⟨j, e3, e⟩ := bnd e
    split at e
    · rename_i hs
      cases e
      obtain ⟨s1, s2⟩ := small62_ok hs.1
      obtain ⟨s3, s4⟩ := small62_ok hs.2
      refine h R e1 fun vs G1 H1 x1 q1 k1 => ?_
      obtain ⟨v, u, rfl, kv, ku⟩ := k1.two
      have hv := kv.int e2
      have hu := ku.int e3
      subst hv hu
      exact ⟨i, j, rfl, ⟨s1, s2, s3, s4⟩, q _ G1 H1 x1 q1 (wk_rng i (j - i).toNat)⟩
    · cases e
theorem new_pair {G H : Hp} {T : Addr} {vs : List V} {ds : List D} (s : Same G H) (n : H T = none) (i : IsA G vs ds) : ∃ G', Ext mu0 G H G' (upd H T (.tup vs)) ∧ Is G' (.ref T) (.tuple ds) :=
  ⟨_, Ext.new s n, .tup upd_same (i.mono (Ext.new (pa := mu0) (o := .tup vs) s n).g)⟩
theorem di_enum (h : DW ta mw) : DI (iEnum K ta) (mEn mw) := by
  intro G0 H0 pa G H σ ρ pt ds pt' Q R e q
  obtain ⟨⟨rs, p1⟩, e1, e⟩ := bnd e
  match rs, e with
  | [r], e =>
    obtain ⟨l, e2, e⟩ := mpd e
    cases e
    refine h R e1 fun ws G1 H1 x1 q1 k1 => ?_
    have P := (R.ext x1 q1).PG
    obtain ⟨v, rfl, kv⟩ := k1.one
    obtain ⟨a, vs, rfl, n, ha, i⟩ := kv.ls P e2
    refine ⟨a, vs, rfl, SqL.of ha, q _ G1 H1 x1 q1 ⟨fun j d G2 H2 x2 P2 e3 => ?_, fun j G2 H2 x2 P2 e3 => ?_⟩⟩
    · have ha2 := x2.hv a _ ha n
      unfold enD at e3
      rw [List.getElem?_zipWith] at e3
      cases h1 : (List.range l.length)[j]? with
      | none => rw [h1] at e3; simp at e3
      | some j' =>
        cases h2 : l[j]? with
        | none => rw [h1, h2] at e3; simp at e3
        | some dj =>
          rw [h1, h2] at e3
          obtain ⟨g1, g2⟩ := List.getElem?_eq_some_iff.mp h1
          rw [List.getElem_range] at g2
          subst g2
          cases e3
          obtain ⟨y, hy, iy⟩ := i.get h2
          refine ⟨⟨vs, y, SqL.of ha2, hy⟩, fun x H' hx => ?_⟩
          obtain ⟨T, z, rfl, nT, rfl, hz⟩ := hx
          have e4 := hz vs (SqL.of ha2)
          rw [hy] at e4
          cases e4
          exact new_pair P2.gh nT (.cons (.int _) (.cons (iy.mono x2.g) .nil))
    · refine ⟨vs, SqL.of (x2.hv a _ ha n), ?_⟩
      unfold enD at e3
      rw [List.length_zipWith, List.length_range, Nat.min_self] at e3
      rw [i.length]
      exact e3
theorem zipD_get {l m : List D} {j : Nat} {d : D} (e : (zipD l m)[j]? = some d) : ∃ a b, l[j]? = some a ∧ m[j]? = some b ∧ d = .tuple [a, b] := by
  unfold zipD at e
  rw [List.getElem?_zipWith] at e
  cases h1 : l[j]? with
  | none => rw [h1] at e; simp at e
  | some a =>
    cases h2 : m[j]? with
    | none => rw [h1, h2] at e; simp at e
    | some b =>
      rw [h1, h2] at e
      cases e
      exact ⟨a, b, rfl, rfl, rfl⟩
theorem di_zip (h : DW ta mw) : DI (iZipA K ta) (mZip mw) := by
  intro G0 H0 pa G H σ ρ pt ds pt' Q R e q
  obtain ⟨⟨rs, p1⟩, e1, e⟩ := bnd e
  match rs, e with
  | [r, s], e =>
    obtain ⟨l, e2, e⟩ := bnd e
    obtain ⟨m, e2', e⟩ := mpd e
    cases e
    refine h R e1 fun ws G1 H1 x1 q1 k1 => ?_
    have P := (R.ext x1 q1).PG
    obtain ⟨v, u, rfl, kv, ku⟩ := k1.two
    obtain ⟨a, vs, rfl, n, ha, i⟩ := kv.ls P e2
    obtain ⟨b, us, rfl, n', hb, i'⟩ := ku.ls P e2'
    refine ⟨a, b, vs, us, rfl, .inl ⟨SqL.of ha, SqL.of hb, q _ G1 H1 x1 q1 ⟨fun j d G2 H2 x2 P2 e3 => ?_, fun j G2 H2 x2 P2 e3 => ?_⟩⟩⟩
    · have ha2 := x2.hv a _ ha n
      have hb2 := x2.hv b _ hb n'
      obtain ⟨da, db, h1, h2, rfl⟩ := zipD_get e3
      obtain ⟨y, hy, iy⟩ := i.get h1
      obtain ⟨z, hz, iz⟩ := i'.get h2
      refine ⟨⟨vs, us, y, z, SqL.of ha2, SqL.of hb2, hy, hz⟩, fun x H' hx => ?_⟩
      obtain ⟨T, y', z', rfl, nT, rfl, f1, f2⟩ := hx
      have e4 := f1 vs (SqL.of ha2)
      have e5 := f2 us (SqL.of hb2)
      rw [hy] at e4
      rw [hz] at e5
      cases e4
      cases e5
      exact new_pair P2.gh nT (.cons (iy.mono x2.g) (.cons (iz.mono x2.g) .nil))
    · refine ⟨vs, us, SqL.of (x2.hv a _ ha n), SqL.of (x2.hv b _ hb n'), ?_⟩
      unfold zipD at e3
      rw [List.length_zipWith] at e3
      rw [i.length, i'.length]
      omega
theorem di_zipT (h : DW ta mw) : DI (iZipA K ta) (mZipT mw) := by
  intro G0 H0 pa G H σ ρ pt ds pt' Q R e q
  obtain ⟨⟨rs, p1⟩, e1, e⟩ := bnd e
  match rs, e with
  | [r, s], e =>
    obtain ⟨l, e2, e⟩ := bnd e
    obtain ⟨m, e2', e⟩ := mpd e
    cases e
    refine h R e1 fun ws G1 H1 x1 q1 k1 => ?_
    obtain ⟨v, u, rfl, kv, ku⟩ := k1.two
    obtain ⟨a, vs, rfl, ha, i⟩ := kv.tp e2
    obtain ⟨b, us, rfl, hb, i'⟩ := ku.tp e2'
    refine ⟨a, b, vs, us, rfl, .inr ⟨SqT.of (x1.gh _ _ ha), SqT.of (x1.gh _ _ hb), q _ G1 H1 x1 q1 ⟨fun j d G2 H2 x2 P2 e3 => ?_, fun j G2 H2 x2 P2 e3 => ?_⟩⟩⟩
    · have ha2 := P2.gh a _ (x2.g a _ ha)
      have hb2 := P2.gh b _ (x2.g b _ hb)
      obtain ⟨da, db, h1, h2, rfl⟩ := zipD_get e3
      obtain ⟨y, hy, iy⟩ := i.get h1
      obtain ⟨z, hz, iz⟩ := i'.get h2
      refine ⟨⟨vs, us, y, z, SqT.of ha2, SqT.of hb2, hy, hz⟩, fun x H' hx => ?_⟩
      obtain ⟨T, y', z', rfl, nT, rfl, f1, f2⟩ := hx
      have e4 := f1 vs (SqT.of ha2)
      have e5 := f2 us (SqT.of hb2)
      rw [hy] at e4
      rw [hz] at e5
      cases e4
      cases e5
      exact new_pair P2.gh nT (.cons (iy.mono x2.g) (.cons (iz.mono x2.g) .nil))
    · refine ⟨vs, us, SqT.of (P2.gh a _ (x2.g a _ ha)), SqT.of (P2.gh b _ (x2.g b _ hb)), ?_⟩
      unfold zipD at e3
      rw [List.length_zipWith] at e3
      rw [i.length, i'.length]
      omega
end

/-! ### targets -/
abbrev MG := D → List Sl → Option (List Sl)
def DG (g : TG) (m : MG) : Prop := ∀ {G0 H0 : Hp} {pa : Mu} {G H : Hp} {σ : L2.St} {ρ : List Sl} {pt : List Int} {v : V} {d : D} {ρ' : List Sl} {Q : L2.St → Hp → Prop},
  Rep G0 H0 pa G H σ ρ pt → Is G v d → m d ρ = some ρ' → (∀ σ', Rep G0 H0 pa G H σ' ρ' pt → Q σ' H) → g v σ H Q
/-- .. that stores nothing but at vs -/
def DGv (g : TG) (vs : List Nat) (m : MG) : Prop := ∀ {G0 H0 : Hp} {pa : Mu} {G H : Hp} {σ : L2.St} {ρ : List Sl} {pt : List Int} {v : V} {d : D} {ρ' : List Sl} {Q : L2.St → Hp → Prop},
  Rep G0 H0 pa G H σ ρ pt → Is G v d → m d ρ = some ρ' → (∀ σ', Rep G0 H0 pa G H σ' ρ' pt → L2.wipe σ' vs = L2.wipe σ vs → Q σ' H) → g v σ H Q
theorem DGv.g {g : TG} {vs : List Nat} {m : MG} (h : DGv g vs m) : DG g m := fun R i e q => h R i e fun σ' R' _ => q σ' R'
def gN (i : Nat) : MG := fun d ρ => some (ρ.set i (.dat d))
def gN2 (i j : Nat) : MG := fun d ρ => match d with
  | .tuple [a, b] => some ((ρ.set i (.dat a)).set j (.dat b))
  | _ => none
def gN3 (i j k : Nat) : MG := fun d ρ => match d with
  | .tuple [a, b, c] => some (((ρ.set i (.dat a)).set j (.dat b)).set k (.dat c))
  | _ => none
theorem Rep.setD {G0 H0 : Hp} {pa : Mu} {G H : Hp} {σ : L2.St} {ρ : List Sl} {pt : List Int} {v : V} {d : D} (R : Rep G0 H0 pa G H σ ρ pt) (i : Nat) (h : Is G v d) : Rep G0 H0 pa G H (σ.set i (some v)) (ρ.set i (.dat d)) pt :=
  R.store (r := .dat d) (Ext.refl R.same) R.pot h rfl
theorem wipe_get (σ : L2.St) : ∀ (vs : List Nat) (i : Nat), (L2.wipe σ vs)[i]? = if i ∈ vs then (σ[i]?).map (fun _ => none) else σ[i]?
  | [], i => by simp [L2.wipe]
  | v :: vs, i => by
    unfold L2.wipe
    have ih := wipe_get σ vs i
    have hl : (L2.wipe σ vs).length = σ.length := wipe_length σ vs
    by_cases c : v = i
    · subst c
      rw [if_pos List.mem_cons_self, List.getElem?_set]
      rw [if_pos rfl, hl]
      by_cases h : v < σ.length
      · rw [if_pos h, List.getElem?_eq_getElem h]; rfl
      · rw [if_neg h, List.getElem?_eq_none (by omega)]; rfl
    · rw [List.getElem?_set_ne c, ih]
      by_cases h : i ∈ vs
      · rw [if_pos h, if_pos (List.mem_cons_of_mem _ h)]
      · rw [if_neg h, if_neg (by simp [h]; exact fun e => c e.symm)]
theorem wipe_set {σ : L2.St} {vs : List Nat} {i : Nat} (o : Option V) (h : i ∈ vs) : L2.wipe (σ.set i o) vs = L2.wipe σ vs := by
  apply List.ext_getElem?
  intro j
  rw [wipe_get, wipe_get]
  by_cases c : j ∈ vs
  · rw [if_pos c, if_pos c, List.getElem?_set]
    by_cases e : i = j
    · subst e
      rw [if_pos rfl]
      by_cases l : i < σ.length
      · rw [if_pos l, List.getElem?_eq_getElem l]; rfl
      · rw [if_neg l, List.getElem?_eq_none (by omega)]
    · rw [if_neg e]
  · rw [if_neg c, if_neg c, List.getElem?_set_ne (fun e => c (by rw [← e]; exact h))]
theorem wipe_wipe (σ : L2.St) (vs : List Nat) : L2.wipe (L2.wipe σ vs) vs = L2.wipe σ vs := by
  apply List.ext_getElem?
  intro j
  rw [wipe_get, wipe_get]
  by_cases c : j ∈ vs
  · rw [if_pos c, if_pos c]
    cases σ[j]? <;> rfl
  · rw [if_neg c, if_neg c]
section
variable {K : PySem.W.Frag}
theorem dg_name {i : Nat} : DGv (gName i) [i] (gN i) := by
  intro G0 H0 pa G H σ ρ pt v d ρ' Q R k e q
  cases e
  exact q _ (R.setD i k) (wipe_set _ List.mem_cons_self)
theorem dg_two {i j : Nat} : DGv (gTup K 2 (gCons (gName i) (gCons (gName j) gNil))) [i, j] (gN2 i j) := by
  intro G0 H0 pa G H σ ρ pt v d ρ' Q R k e q
  match d, e, k with
  | .tuple [a, b], e, .tup h (.cons h1 (.cons h2 .nil)) =>
    cases e
    refine ⟨_, _, rfl, SqT.of (R.same _ _ h), rfl, _, _, rfl, _, _, rfl, rfl, q _ ((R.setD i h1).setD j h2) ?_⟩
    rw [wipe_set _ (by simp), wipe_set _ (by simp)]
theorem dg_three {i j l : Nat} : DGv (gTup K 3 (gCons (gName i) (gCons (gName j) (gCons (gName l) gNil)))) [i, j, l] (gN3 i j l) := by
  intro G0 H0 pa G H σ ρ pt v d ρ' Q R k e q
  match d, e, k with
  | .tuple [a, b, c], e, .tup h (.cons h1 (.cons h2 (.cons h3 .nil))) =>
    cases e
    refine ⟨_, _, rfl, SqT.of (R.same _ _ h), rfl, _, _, rfl, _, _, rfl, _, _, rfl, rfl, q _ (((R.setD i h1).setD j h2).setD l h3) ?_⟩
    rw [wipe_set _ (by simp), wipe_set _ (by simp), wipe_set _ (by simp)]
end

/-! ### comprehensions -/
def lcGo (mg : MG) (mt : MT) (me : MV) (ρ : List Sl) : List D → List D → List Int → Option (List D × List Int)
  | [], acc, p => some (acc, p)
  | d :: r, acc, p => (mg d ρ).bind fun ρ2 => (mt ρ2 p).bind fun b => if b.1 = true then (me ρ2 b.2).bind fun y => (y.1.fix?).bind fun z => if acc.length < sizeLine then lcGo mg mt me ρ r (acc ++ [z]) y.2 else none
      else lcGo mg mt me ρ r acc b.2
def mLc (mi : ML) (mg : MG) (mt : MT) (me : MV) (vs : List Nat) : MV := fun ρ pt => (mi ρ pt).bind fun x => (lcGo mg mt me (wipeR ρ vs) x.1 [] x.2).map fun y => (.lst y.1, y.2)
theorem tabs_put {T : List (Addr × Str)} {H : Hp} {a : Addr} {o : HO} (m : ∀ u, H a = some u → Pl u) (t : LamX.Tabs T H) : LamX.Tabs T (upd H a o) := fun p hp => by
  obtain ⟨ps, h1, h2, h3⟩ := t p hp
  have n1 : p.1 ≠ a := fun z => by rw [z] at h1; exact m _ h1
  refine ⟨ps, by rw [upd_ne n1]; exact h1, h2, fun pos cv hc => ?_⟩
  obtain ⟨c, e1, e2⟩ := h3 pos cv hc
  have n2 : c ≠ a := fun z => by rw [z] at e2; exact m _ e2
  exact ⟨c, e1, by rw [upd_ne n2]; exact e2⟩
theorem Ext.put {pa : Mu} {G H G' H' : Hp} (x : Ext pa G H G' H') {a : Addr} {o : HO} (n : Nw H a) (g : G' a = none) (m : ∀ u, H' a = some u → Pl u) : Ext pa G H G' (upd H' a o) where
  g := x.g
  gh := fun b u e => by rw [upd_ne (ne_of_none e g)]; exact x.gh b u e
  h := fun b u e k => by
    have hb := x.h b u e k
    by_cases c : b = a
    · subst c
      exact (n _ e (m u hb).nt).elim
    · rw [upd_ne c]; exact hb
  f := x.f
  pl := fun b u e p => by
    obtain ⟨v, h1, h2⟩ := x.pl b u e p
    by_cases c : b = a
    · subst c; exact (n u e p.nt).elim
    · exact ⟨v, by rw [upd_ne c]; exact h1, h2⟩
  pn := fun b e => by
    by_cases c : b = a
    · subst c; exact n
    · exact x.pn b fun u q => e u (by rw [upd_ne c]; exact q)
  nt := x.nt
  tb := fun t => tabs_put m (x.tb t)
theorem PotAt.put {pa : Mu} {H : Hp} {pt : List Int} (q : PotAt pa H pt) {a : Addr} {o : HO} (n : pa.p ≠ some a) : PotAt pa (upd H a o) pt := fun p e => by
  rw [upd_ne (fun z => n (by rw [e, z]))]; exact q p e
theorem de_lc {wi : TI} {g : TG} {tt : TT} {te : TE} {vs : List Nat} {mi : ML} {mg : MG} {mt : MT} {me : MV} (hi : DI wi mi) (hg : DGv g vs mg) (ht : DT tt mt) (he : DE te me) : DE (tLc wi g tt te vs) (mLc mi mg mt me vs) := by
  intro G0 H0 pa G H σ ρ pt z pt' Q R e q
  obtain ⟨⟨ds, p0⟩, e1, e⟩ := bnd e
  obtain ⟨⟨fin, pf⟩, e2, e⟩ := mpd e
  cases e
  refine hi R e1 fun J G1 H1 x1 q1 w => ?_
  intro D nD
  have R1 := R.ext x1 q1
  have nP : pa.p ≠ some D := R1.pne' (Nw.of nD)
  have gD : G1 D = none := free_G x1.gh nD
  refine ⟨fun i m H' => m = ds.length - i ∧ i ≤ ds.length ∧ ∃ G' acc ws p, Ext pa G1 H1 G' H' ∧ G' D = none ∧ H' D = some (.lst ws) ∧ IsA G' ws acc ∧ PotAt pa H' p ∧ lcGo mg mt me (wipeR ρ vs) (ds.drop i) acc p = some (fin, pf), ⟨ds.length, rfl, Nat.zero_le _, G1, [], [], p0, (Ext.refl x1.gh).put (Nw.of nD) gD (fun u z => by rw [nD] at z; cases z), gD, upd_same, .nil, q1.put nP, e2⟩, ?_⟩
  rintro i m H2 ⟨rfl, hi, G2, acc, ws, p, x2, g2, h2, a2, q2, lp⟩
  have R2 := R1.ext x2 q2
  by_cases hlt : i < ds.length
  · refine .inr ?_
    obtain ⟨go, yl⟩ := w.item i ds[i] G2 H2 x2 R2.PG (List.getElem?_eq_getElem hlt)
    rw [List.drop_eq_getElem_cons hlt] at lp
    refine ⟨go, fun H' => ds.length - (i + 1) = ds.length - (i + 1) ∧ i + 1 ≤ ds.length ∧ ∃ G' acc ws p, Ext pa G1 H1 G' H' ∧ G' D = none ∧ H' D = some (.lst ws) ∧ IsA G' ws acc ∧ PotAt pa H' p ∧ lcGo mg mt me (wipeR ρ vs) (ds.drop (i + 1)) acc p = some (fin, pf),
      fun H' hN => ⟨ds.length - (i + 1), by omega, hN⟩, fun x H3 hx => ?_⟩
    obtain ⟨G3, x3, k3⟩ := yl x H3 hx
    unfold lcGo at lp
    obtain ⟨ρ2, lg, lp⟩ := bnd lp
    obtain ⟨⟨b, p1⟩, lt, lp⟩ := bnd lp
    have x3' := x2.trans x3.any
    have R3 := R1.ext x3' (q2.ext x3)
    refine hg (R3.wipe vs) k3 lg fun σ' R4 hw => ⟨by rw [hw, wipe_wipe], ht R4 lt fun G5 H5 x5 q5 => ?_⟩
    have hD5 : H5 D = some (.lst ws) := x5.hv D _ (x3.hv D _ h2 (by simp)) nP
    have gD5 : G5 D = none := (x3.any.trans x5).out g2 h2
    cases b with
    | false =>
      refine iteF ⟨rfl, hlt, G5, acc, ws, p1, x3'.trans x5, gD5, hD5, a2.mono (x3.g.trans x5.g), q5, ?_⟩
      exact lp
    | true =>
      obtain ⟨⟨y, p2⟩, le, lp⟩ := bnd lp
      obtain ⟨yd, lf, lp⟩ := bnd lp
      split at lp
      · rename_i hz
        have R5 := R4.ext x5 q5
        refine iteT (he R5 le fun v G6 H6 x6 q6 k6 => ?_)
        obtain ⟨G7, s7, x7, k7⟩ := k6.fix x6 lf
        have a7 : IsA G7 ws acc := a2.mono (x3.g.trans (x5.g.trans x7.g))
        have hD7 : H6 D = some (.lst ws) := x7.hv D _ hD5 nP
        have gD7 : G7 D = none := x7.out gD5 hD5
        refine ⟨ws, hD7, by rw [a7.length]; exact hz, rfl, hlt, G7, acc ++ [yd], ws ++ [v], p2, ((x3'.trans x5).trans x7).put (Nw.of nD) gD7 (fun u z => by rw [hD7] at z; cases z; trivial), gD7, upd_same, a7.snoc k7, q6.put nP, lp⟩
      · cases lp
  · have ei : i = ds.length := by omega
    subst ei
    refine .inl ⟨w.done _ G2 H2 x2 R2.PG (Nat.le_refl _), ?_⟩
    rw [List.drop_length] at lp
    cases lp
    exact q _ G2 H2 (x1.trans x2) q2 ⟨D, ws, rfl, x1.pn D (Nw.of nD), g2, h2, a2⟩

/-! ### statements -/
inductive Out where
  | nx (ρ : List Sl) (pt : List Int)
  | rt (r : Rv) (pt : List Int)
  | bk (ρ : List Sl) (pt : List Int)
  | ct (ρ : List Sl) (pt : List Int)
abbrev MB := List Sl → List Int → Option Out
def OutOk (G0 H0 : Hp) (pa : Mu) (G : Hp) (E : Ends) : Out → Prop
  | .nx ρ pt => ∀ σ' G' H', Rep G0 H0 pa G' H' σ' ρ pt → Same G G' → E.nx σ' H'
  | .rt r pt => ∀ v G' H', Ext pa G0 H0 G' H' → PotAt pa H' pt → (∀ H0', Res H0' H0 G' H' v r) → E.rt v H'
  | .bk ρ pt => ∀ σ' G' H', Rep G0 H0 pa G' H' σ' ρ pt → Same G G' → E.bk σ' H'
  | .ct ρ pt => ∀ σ' G' H', Rep G0 H0 pa G' H' σ' ρ pt → Same G G' → E.ct σ' H'
theorem OutOk.same {G0 H0 G G1 : Hp} {pa : Mu} {E : Ends} {o : Out} (s : Same G G1) (h : OutOk G0 H0 pa G E o) : OutOk G0 H0 pa G1 E o := by
  cases o with
  | nx ρ pt => exact fun σ' G' H' R k => h σ' G' H' R (s.trans k)
  | rt r pt => exact h
  | bk ρ pt => exact fun σ' G' H' R k => h σ' G' H' R (s.trans k)
  | ct ρ pt => exact fun σ' G' H' R k => h σ' G' H' R (s.trans k)
def DB (t : TS) (m : MB) : Prop := ∀ {G0 H0 : Hp} {pa : Mu} {G H : Hp} {σ : L2.St} {ρ : List Sl} {pt : List Int} {o : Out} {E : Ends},
  Rep G0 H0 pa G H σ ρ pt → m ρ pt = some o → OutOk G0 H0 pa G E o → t E σ H

def bNext : MB := fun ρ pt => some (.nx ρ pt)
def bSeq (m n : MB) : MB := fun ρ pt => (m ρ pt).bind fun o => match o with
  | .nx ρ' pt' => n ρ' pt'
  | o => some o
/-- what a def hands back -/
def Rv.out : Rv → Rv
  | .vls xs => .lst xs
  | .vdc l => .dic l
  | r => r
def bRet (m : MV) : MB := fun ρ pt => (m ρ pt).map fun x => .rt x.1.out x.2
def bIf (mt : MT) (m n : MB) : MB := fun ρ pt => (mt ρ pt).bind fun x => if x.1 = true then m ρ x.2 else n ρ x.2
def bSet (i : Nat) (m : MV) : MB := fun ρ pt => (m ρ pt).bind fun x => (x.1.sl).map fun s => .nx (ρ.set i s) x.2
def bAsg (mg : MG) (m : MV) : MB := fun ρ pt => (m ρ pt).bind fun x => (x.1.fix?).bind fun d => (mg d ρ).map fun ρ' => .nx ρ' x.2
def bNever : MB := fun _ _ => none
def bBreak : MB := fun ρ pt => some (.bk ρ pt)
def bCont : MB := fun ρ pt => some (.ct ρ pt)
section
variable {t u : TS} {m n : MB} {te : TE} {me : MV} {tt : TT} {mt : MT} {g : TG} {mg : MG}
theorem db_next : DB tNext bNext := by
  intro G0 H0 pa G H σ ρ pt o E R e q
  cases e
  exact q σ G H R (Same.refl G)
theorem db_break : DB tBreak bBreak := by
  intro G0 H0 pa G H σ ρ pt o E R e q
  cases e
  exact q σ G H R (Same.refl G)
theorem db_cont : DB tCont bCont := by
  intro G0 H0 pa G H σ ρ pt o E R e q
  cases e
  exact q σ G H R (Same.refl G)
theorem db_never : DB t bNever := by
  intro G0 H0 pa G H σ ρ pt o E R e q
  cases e
theorem db_seq (h : DB t m) (k : DB u n) : DB (tSeq t u) (bSeq m n) := by
  intro G0 H0 pa G H σ ρ pt o E R e q
  obtain ⟨o1, e1, e⟩ := bnd e
  refine h (E := { E with nx := u E }) R e1 ?_
  cases o1 with
  | nx ρ' pt' => exact fun σ' G' H' R' s => k R' e (q.same s)
  | rt r pt' => cases e; exact q
  | bk ρ' pt' => cases e; exact q
  | ct ρ' pt' => cases e; exact q
theorem Res.gone {G0 H0 : Hp} {pa : Mu} {G H : Hp} {σ : L2.St} {ρ : List Sl} {pt : List Int} {v : V} {r : Rv} {G' H' : Hp} (R : Rep G0 H0 pa G H σ ρ pt) (k : Res H0 H G' H' v r) (H0' : Hp) : Res H0' H0 G' H' v r.out := by
  cases r with
  | dat d => exact k
  | lst xs => obtain ⟨a, vs, e, n, t⟩ := k; exact ⟨a, vs, e, R.ex.pn a n, t⟩
  | dic l => obtain ⟨a, vs, e, n, t⟩ := k; exact ⟨a, vs, e, R.ex.pn a n, t⟩
  | vls xs => exact k
  | vdc l => exact k
theorem db_ret (h : DE te me) : DB (tRet te) (bRet me) := by
  intro G0 H0 pa G H σ ρ pt o E R e q
  obtain ⟨⟨r, p1⟩, e1, e⟩ := mpd e
  cases e
  exact h R e1 fun v G1 H1 x1 q1 k1 => q v G1 H1 (R.ex.trans x1) q1 fun H0' => k1.gone R H0'
theorem db_retN : DB tRetN (fun _ pt => some (.rt (.dat .none) pt)) := by
  intro G0 H0 pa G H σ ρ pt o E R e q
  cases e
  exact q .non G H R.ex R.pot fun _ => .non
theorem db_if (h : DT tt mt) (k : DB t m) (l : DB u n) : DB (tIfS tt t u) (bIf mt m n) := by
  intro G0 H0 pa G H σ ρ pt o E R e q
  obtain ⟨⟨b, p1⟩, e1, e⟩ := bnd e
  refine h R e1 fun G1 H1 x1 q1 => ?_
  cases b with
  | true => exact iteT (k (R.ext x1 q1) e (q.same x1.g))
  | false => exact iteF (l (R.ext x1 q1) e (q.same x1.g))
theorem db_set {i : Nat} (h : DE te me) : DB (tAsg te (gName i)) (bSet i me) := by
  intro G0 H0 pa G H σ ρ pt o E R e q
  obtain ⟨⟨r, p1⟩, e1, e⟩ := bnd e
  obtain ⟨s, e2, e⟩ := mpd e
  cases e
  exact h R e1 fun v G1 H1 x1 q1 k1 => q _ G1 H1 (R.store x1 q1 k1 e2) x1.g
theorem db_asg (h : DE te me) (k : DG g mg) : DB (tAsg te g) (bAsg mg me) := by
  intro G0 H0 pa G H σ ρ pt o E R e q
  obtain ⟨⟨r, p1⟩, e1, e⟩ := bnd e
  obtain ⟨d, e2, e⟩ := bnd e
  obtain ⟨ρ', e3, e⟩ := mpd e
  cases e
  refine h R e1 fun v G1 H1 x1 q1 k1 => ?_
  obtain ⟨G2, s2, x2, k2⟩ := k1.fix x1 e2
  exact k (R.ext x2 q1) k2 e3 fun σ' R' => q σ' G2 H1 R' x2.g
/-- two names at once -/
def bPar (i j : Nat) (ma mb : MV) : MB := fun ρ pt => (ma ρ pt).bind fun x => (mb ρ x.2).bind fun y => (x.1.sl).bind fun s => (y.1.sl).map fun u => .nx ((ρ.set i s).set j u) y.2
theorem db_par {i j : Nat} {ta tb : TE} {ma mb : MV} (ha : DE ta ma) (hb : DE tb mb) : DB (tPar i j (tCons ta (tCons tb tNil))) (bPar i j ma mb) := by
  intro G0 H0 pa G H σ ρ pt o E R e q
  obtain ⟨⟨r1, p1⟩, e1, e⟩ := bnd e
  obtain ⟨⟨r2, p2⟩, e2, e⟩ := bnd e
  obtain ⟨s1, e3, e⟩ := bnd e
  obtain ⟨s2, e4, e⟩ := mpd e
  cases e
  refine ha R e1 fun v G1 H1 x1 q1 k1 => ?_
  have R1 := R.ext x1 q1
  refine hb R1 e2 fun w G2 H2 x2 q2 k2 => ⟨v, w, rfl, ?_⟩
  have keep : Res H0 H G2 H2 v r1 := by
    cases r1 with
    | dat d => exact Is.mono x2.g k1
    | lst xs => obtain ⟨a, vs, e, n, g, h, i⟩ := k1; exact ⟨a, vs, e, n, x2.out g h, x2.hv a _ h (R.pne' n), i.mono x2.g⟩
    | dic l => obtain ⟨a, vs, e, n, g, h, i⟩ := k1; exact ⟨a, vs, e, n, x2.out g h, x2.hv a _ h (R.pne' n), i.mono x2.g⟩
    | vls xs => cases e3
    | vdc l => cases e3
  have R2 := R.store (i := i) (x1.trans x2) q2 keep e3
  -- the second: new with respect to the heap behind the first
  have hk2 : Res H0 H1 G2 H2 w r2 := k2
  have R3 : Rep G0 H0 pa G2 H2 ((σ.set i (some v)).set j (some w)) ((ρ.set i s1).set j s2) p2 := by
    -- store at the state of H1 first
    have keep1 : Res H0 H G1 H1 v r1 := k1
    have Ra := R.store (i := i) x1 q1 keep1 e3
    exact Ra.store (i := j) x2 q2 hk2 e4
  exact q _ G2 H2 R3 (x1.g.trans x2.g)
/-- a list is locked from here on -/
def frz (i : Nat) (ρ : List Sl) : List Sl := match ρ[i]? with
  | some (.lst xs) => ρ.set i (.dat (.list xs))
  | _ => ρ
theorem db_frz (i : Nat) (h : DB t m) : DB t (fun ρ pt => m (frz i ρ) pt) := by
  intro G0 H0 pa G H σ ρ pt o E R e q
  have e : m (frz i ρ) pt = some o := e
  unfold frz at e
  cases hs : ρ[i]? with
  | none => rw [hs] at e; exact h R e q
  | some s =>
    rw [hs] at e
    cases s with
    | lst xs =>
      obtain ⟨a, vs, ea, h0, g, ha, k⟩ := R.slot i _ hs
      have x : Ext pa G0 H0 (upd G a (.lst vs)) H := by
        refine ⟨R.ex.g.trans (same_upd g), fun b u eb => ?_, R.ex.h, fun b u eb => ?_, R.ex.pl, R.ex.pn, ?_, R.ex.tb⟩
        · by_cases c : b = a
          · subst c; rw [upd_same] at eb; cases eb; exact ha
          · rw [upd_ne c] at eb; exact R.same b u eb
        · by_cases c : b = a
          · subst c; exact .inr h0.nf
          · rw [upd_ne c] at eb; exact R.ex.f b u eb
        · intro m b u eb
          by_cases c : b = a
          · subst c; rw [upd_same] at eb; cases eb; exact fun _ z => by cases z
          · rw [upd_ne c] at eb; exact R.ex.nt m b u eb
      have R' : Rep G0 H0 pa (upd G a (.lst vs)) H σ (ρ.set i (.dat (.list xs))) pt := by
        have own_i : Sl.own ρ[i]? := by rw [hs]; trivial
        refine ⟨x, R.pot, R.pg, fun b u eb => by
            by_cases c : b = a
            · subst c; rw [upd_same] at eb; cases eb; exact fun _ z => by cases z
            · rw [upd_ne c] at eb; exact R.nt b u eb, R.tb, R.ns, by simp [R.len], fun j s e' => ?_, fun j l b h1 h2 e1 e2 => ?_⟩
        · by_cases c : i = j
          · subst c
            have hi : i < ρ.length := (List.getElem?_eq_some_iff.mp hs).1
            rw [List.getElem?_set_self hi] at e'
            cases e'
            exact ⟨_, ea, .lst upd_same (k.mono (same_upd g))⟩
          · rw [List.getElem?_set_ne c] at e'
            have kj := R.slot j s e'
            cases s with
            | un => trivial
            | dat d => obtain ⟨y, e2, i2⟩ := kj; exact ⟨y, e2, i2.mono (same_upd g)⟩
            | lst ys =>
              obtain ⟨b, ws, e2, b0, gb, hb, ib⟩ := kj
              have nb : b ≠ a := fun z => c (R.inj i j a own_i (by rw [e']; trivial) ea (by rw [e2, z]))
              exact ⟨b, ws, e2, b0, by rw [upd_ne nb]; exact gb, hb, ib.mono (same_upd g)⟩
            | dic ys =>
              obtain ⟨b, ws, e2, b0, gb, hb, ib⟩ := kj
              have nb : b ≠ a := fun z => c (R.inj i j a own_i (by rw [e']; trivial) ea (by rw [e2, z]))
              exact ⟨b, ws, e2, b0, by rw [upd_ne nb]; exact gb, hb, ib.mono (same_upd g)⟩
            | pot => exact kj
        · have nj : ∀ j, Sl.own (ρ.set i (.dat (.list xs)))[j]? → Sl.own ρ[j]? := fun j h => by
            by_cases c : i = j
            · subst c; exact own_i
            · rw [List.getElem?_set_ne c] at h; exact h
          exact R.inj j l b (nj j h1) (nj l h2) e1 e2
      exact h R' e (q.same (same_upd g))
    | _ => exact h R e q
end

/-! ### loops -/
def forGo (mg : MG) (mb : MB) : List D → List Sl → List Int → Option Out
  | [], ρ, p => some (.nx ρ p)
  | d :: r, ρ, p => (mg d ρ).bind fun ρ1 => (mb ρ1 p).bind fun o => match o with
    | .nx ρ2 p2 => forGo mg mb r ρ2 p2
    | .ct ρ2 p2 => forGo mg mb r ρ2 p2
    | .bk ρ2 p2 => some (.nx ρ2 p2)
    | .rt v p2 => some (.rt v p2)
def bFor (mi : ML) (mg : MG) (mb : MB) : MB := fun ρ pt => (mi ρ pt).bind fun x => forGo mg mb x.1 ρ x.2
theorem db_for {wi : TI} {g : TG} {tb : TS} {mi : ML} {mg : MG} {mb : MB} (hi : DIF wi mi) (hg : DG g mg) (hb : DB tb mb) : DB (tFor wi g tb) (bFor mi mg mb) := by
  intro G0 H0 pa G H σ ρ pt o E R e q
  obtain ⟨⟨ds, p0⟩, e1, e⟩ := bnd e
  refine hi R e1 fun J G1 H1 x1 q1 w => ?_
  refine ⟨fun i m σ' H' => m = ds.length - i ∧ i ≤ ds.length ∧ ∃ G' ρ' p, Rep G0 H0 pa G' H' σ' ρ' p ∧ Same G1 G' ∧ forGo mg mb (ds.drop i) ρ' p = some o, ⟨ds.length, rfl, Nat.zero_le _, G1, ρ, p0, R.ext x1 q1, Same.refl _, e⟩, ?_⟩
  rintro i m σ2 H2 ⟨rfl, hi, G2, ρ2, p, R2, s2, lp⟩
  by_cases hlt : i < ds.length
  · refine .inr ?_
    obtain ⟨go, yl⟩ := w.item i ds[i] G2 H2 s2 R2.PG (List.getElem?_eq_getElem hlt)
    rw [List.drop_eq_getElem_cons hlt] at lp
    refine ⟨go, fun σ' H' => ds.length - (i + 1) = ds.length - (i + 1) ∧ i + 1 ≤ ds.length ∧ ∃ G' ρ' p, Rep G0 H0 pa G' H' σ' ρ' p ∧ Same G1 G' ∧ forGo mg mb (ds.drop (i + 1)) ρ' p = some o,
      fun σ' H' hN => ⟨ds.length - (i + 1), by omega, hN⟩, fun x H3 hx => ?_⟩
    obtain ⟨G3, x3, k3⟩ := yl x H3 hx
    unfold forGo at lp
    obtain ⟨ρ3, lg, lp⟩ := bnd lp
    obtain ⟨o1, lb, lp⟩ := bnd lp
    have R3 := R2.ext x3.any (R2.pot.ext x3)
    refine hg R3 k3 lg fun σ' R4 => hb R4 lb ?_
    cases o1 with
    | nx ρ4 p4 => exact fun σ5 G5 H5 R5 s5 => ⟨rfl, hlt, G5, ρ4, p4, R5, s2.trans (x3.g.trans s5), lp⟩
    | ct ρ4 p4 => exact fun σ5 G5 H5 R5 s5 => ⟨rfl, hlt, G5, ρ4, p4, R5, s2.trans (x3.g.trans s5), lp⟩
    | bk ρ4 p4 =>
      cases lp
      exact fun σ5 G5 H5 R5 s5 => q σ5 G5 H5 R5 (x1.g.trans (s2.trans (x3.g.trans s5)))
    | rt v p4 => cases lp; exact q
  · have ei : i = ds.length := by omega
    subst ei
    rw [List.drop_length] at lp
    cases lp
    exact .inl ⟨w.done _ G2 H2 s2 R2.PG (Nat.le_refl _), q σ2 G2 H2 R2 (x1.g.trans s2)⟩
def whGo (mt : MT) (mb : MB) : Nat → List Sl → List Int → Option Out
  | 0, _, _ => none
  | n + 1, ρ, p => (mt ρ p).bind fun b => if b.1 = true then (mb ρ b.2).bind fun o => match o with
    | .nx ρ2 p2 => whGo mt mb n ρ2 p2
    | .ct ρ2 p2 => whGo mt mb n ρ2 p2
    | .bk ρ2 p2 => some (.nx ρ2 p2)
    | .rt v p2 => some (.rt v p2)
    else some (.nx ρ b.2)
def bWhile (N : List Sl → Nat) (mt : MT) (mb : MB) : MB := fun ρ p => whGo mt mb (N ρ) ρ p
theorem db_while (N : List Sl → Nat) {c : TT} {tb : TS} {mt : MT} {mb : MB} (hc : DT c mt) (hb : DB tb mb) : DB (tWhile c tb) (bWhile N mt mb) := by
  intro G0 H0 pa G H σ ρ pt o E R e q
  refine ⟨fun n σ' H' => ∃ G' ρ' p, Rep G0 H0 pa G' H' σ' ρ' p ∧ Same G G' ∧ whGo mt mb n ρ' p = some o, ⟨N ρ, G, ρ, pt, R, Same.refl _, e⟩, ?_⟩
  rintro n σ1 H1 ⟨G1, ρ1, p1, R1, s1, lp⟩
  cases n with
  | zero => cases lp
  | succ n =>
    unfold whGo at lp
    obtain ⟨⟨b, p2⟩, lt, lp⟩ := bnd lp
    refine hc R1 lt fun G2 H2 x2 q2 => ?_
    cases b with
    | true =>
      have lp : (mb ρ1 p2).bind _ = some o := lp
      obtain ⟨o1, lb, lp⟩ := bnd lp
      refine iteT ⟨fun σ' H' => ∃ G' ρ' p, Rep G0 H0 pa G' H' σ' ρ' p ∧ Same G G' ∧ whGo mt mb n ρ' p = some o, fun σ' H' hN => ⟨n, Nat.lt_succ_self n, hN⟩, hb (R1.ext x2 q2) lb ?_⟩
      cases o1 with
      | nx ρ4 p4 => exact fun σ5 G5 H5 R5 s5 => ⟨G5, ρ4, p4, R5, s1.trans (x2.g.trans s5), lp⟩
      | ct ρ4 p4 => exact fun σ5 G5 H5 R5 s5 => ⟨G5, ρ4, p4, R5, s1.trans (x2.g.trans s5), lp⟩
      | bk ρ4 p4 => cases lp; exact fun σ5 G5 H5 R5 s5 => q σ5 G5 H5 R5 (s1.trans (x2.g.trans s5))
      | rt v p4 => cases lp; exact q
    | false =>
      cases lp
      exact iteF (q σ1 G2 H2 (R1.ext x2 q2) (s1.trans x2.g))
end Pd
end
section
set_option Elab.async false
set_option linter.all false
set_option maxRecDepth 100000
/-! Pd3: operators, built-ins, changes of lists and dicts, defs, in plain data. -/
namespace Pd
open PySem PySem.Spec L2 RZ
variable [TB]

theorem OK0.mk {G H : Hp} {z : D} {Q : VK} {v : V} (s : Same G H) (k : OK0 G H (.dat z) Q) (i : Is G v z) : Q v H := k v G H (Ext.refl s) fun _ => i
/-! ### ints -/
def fI (g : Int → Int → Int) : Rv → Rv → Option Rv := fun a b => (a.int?).bind fun i => (b.int?).map fun j => .dat (.int (g i j))
def fB (g : Int → Int → Bool) : Rv → Rv → Option Rv := fun a b => (a.int?).bind fun i => (b.int?).map fun j => .dat (.bool (g i j))
def fIc (c : Int → Int → Bool) (g : Int → Int → Int) : Rv → Rv → Option Rv := fun a b => (a.int?).bind fun i => (b.int?).bind fun j => if c i j = true then some (.dat (.int (g i j))) else none
theorem dr_I {g : Int → Int → Int} : DR (rI0 fun i j => .int (g i j)) (fI g) := by
  intro pa G H x y a b z Q P ka kb e q
  obtain ⟨i, e1, e⟩ := bnd e
  obtain ⟨j, e2, e⟩ := mpd e
  cases e
  exact ⟨i, j, ka.int e1, kb.int e2, q.mk P.gh (.int _)⟩
theorem dr_B {g : Int → Int → Bool} : DR (rI0 fun i j => .bl (g i j)) (fB g) := by
  intro pa G H x y a b z Q P ka kb e q
  obtain ⟨i, e1, e⟩ := bnd e
  obtain ⟨j, e2, e⟩ := mpd e
  cases e
  exact ⟨i, j, ka.int e1, kb.int e2, q.mk P.gh (.bl _)⟩
theorem dr_Ic {C : Int → Int → Prop} {c : Int → Int → Bool} {g : Int → Int → Int} (h : ∀ i j, c i j = true → C i j) : DR (rI C fun i j => .int (g i j)) (fIc c g) := by
  intro pa G H x y a b z Q P ka kb e q
  obtain ⟨i, e1, e⟩ := bnd e
  obtain ⟨j, e2, e⟩ := bnd e
  split at e
  · rename_i hc
    cases e
    exact ⟨i, j, ka.int e1, kb.int e2, h i j hc, q.mk P.gh (.int _)⟩
  · cases e
def s64 (i : Int) : Bool := decide (-(2 ^ 64) < i) && decide (i < 2 ^ 64)
def cMul (i j : Int) : Bool := s64 i || s64 j
theorem cMul_ok {i j : Int} (h : cMul i j = true) : CMul i j := by
  unfold cMul s64 at h
  simp only [Bool.or_eq_true, Bool.and_eq_true, decide_eq_true_eq] at h
  exact h
def cDiv (i j : Int) : Bool := decide (0 < j) && decide (j < 1073741824)
theorem cDiv_ok {i j : Int} (h : cDiv i j = true) : CDiv i j := by
  unfold cDiv at h
  simp only [Bool.and_eq_true, decide_eq_true_eq] at h
  exact h
def cMod (i j : Int) : Bool := decide (0 < j)
def cPow (i j : Int) : Bool := decide (0 ≤ j) && decide (j ≤ 1000) && s64 i
theorem cPow_ok {i j : Int} (h : cPow i j = true) : CPow i j := by
  unfold cPow s64 at h
  simp only [Bool.and_eq_true, decide_eq_true_eq] at h
  refine ⟨h.1.1, by omega, by omega⟩
theorem dr_mul : DR (rI CMul fun i j => .int (i * j)) (fIc cMul fun i j => i * j) := dr_Ic fun _ _ => cMul_ok
theorem dr_fdiv : DR (rI CDiv fun i j => .int (i / j)) (fIc cDiv fun i j => i / j) := dr_Ic fun i j => cDiv_ok (i := i) (j := j)
theorem dr_mod : DR (rI (fun _ j => 0 < j) fun i j => .int (i % j)) (fIc cMod fun i j => i % j) := dr_Ic fun _ _ h => of_decide_eq_true h
theorem dr_pow : DR (rI CPow fun i j => .int (i ^ j.toNat)) (fIc cPow fun i j => i ^ j.toNat) := dr_Ic fun _ _ => cPow_ok
theorem dr_or {r r' : R2} {f f' : Rv → Rv → Option Rv} (h : DR r f) (h' : DR r' f') : DR (fun x y H Q => r x y H Q ∨ r' x y H Q) fun a b => match f a b with | some z => some z | none => f' a b := by
  intro pa G H x y a b z Q P ka kb e q
  cases e1 : f a b with
  | some z1 =>
    simp only [e1] at e
    cases e
    exact .inl (h P ka kb e1 q)
  | none =>
    simp only [e1] at e
    exact .inr (h' P ka kb e q)
def fNeg : Rv → Option Rv := fun a => (a.int?).map fun i => .dat (.int (-i))
theorem du_neg : DU (rU fun i => .int (-i)) fNeg := by
  intro pa G H x a z Q P ka e q
  obtain ⟨i, e1, e⟩ := mpd e
  cases e
  exact ⟨i, ka.int e1, q.mk P.gh (.int _)⟩

/-! ### equal -/
def Rv.pd? : Rv → Option D
  | .dat d => some d
  | .lst xs => some (.list xs)
  | .vls xs => some (.list xs)
  | _ => none
theorem Vw.dp {K : PySem.W.Frag} {pa : Mu} {G H : Hp} {v : V} {r : Rv} {d : D} (P : PG pa G H) (k : Vw pa G H v r) (e : r.pd? = some d) (c : SeqAt.shaped d = true) : Dp K H v d := by
  have c := SeqAt.canLay_of_shaped c
  cases r with
  | dat d => cases e; exact (Is.mono P.gh k).dp c
  | lst xs => cases e; obtain ⟨a, vs, rfl, _, h, i⟩ := k; exact .lst (SqL.of h) ((i.mono P.gh).dp (by simpa only [PyData.canLay0] using c))
  | vls xs => cases e; obtain ⟨a, vs, rfl, _, h, i⟩ := k; exact .lst (SqL.of h) ((i.mono P.gh).dp (by simpa only [PyData.canLay0] using c))
  | dic l => cases e
  | vdc l => cases e
def fEq (neg : Bool) : Rv → Rv → Option Rv := fun a b => (a.pd?).bind fun d => (b.pd?).bind fun e => if SeqAt.shaped d = true ∧ SeqAt.shaped e = true then some (.dat (.bool (if neg then !PyData.eqv d e else PyData.eqv d e))) else none
theorem dr_eq {K : PySem.W.Frag} : DR (rEqD K) (fEq false) := by
  intro pa G H x y a b z Q P ka kb e q
  obtain ⟨i, e1, e⟩ := bnd e
  obtain ⟨j, e2, e⟩ := bnd e
  split at e
  · rename_i hc
    cases e
    exact ⟨i, j, ka.dp P e1 hc.1, kb.dp P e2 hc.2, hc.1, hc.2, q.mk P.gh (.bl _)⟩
  · cases e
theorem dr_ne {K : PySem.W.Frag} : DR (rNeD K) (fEq true) := by
  intro pa G H x y a b z Q P ka kb e q
  obtain ⟨i, e1, e⟩ := bnd e
  obtain ⟨j, e2, e⟩ := bnd e
  split at e
  · rename_i hc
    cases e
    exact ⟨i, j, ka.dp P e1 hc.1, kb.dp P e2 hc.2, hc.1, hc.2, q.mk P.gh (.bl _)⟩
  · cases e
/-! ### tuples of ints: <; in -/
def Rv.ints? (r : Rv) : Option (List Int) := (r.tp?).bind intsA?
def fLtT : Rv → Rv → Option Rv := fun a b => (a.ints?).bind fun i => (b.ints?).map fun j => .dat (.bool (HT.lexLt i j))
theorem Vw.ints {pa : Mu} {G H : Hp} {v : V} {r : Rv} {ns : List Int} (k : Vw pa G H v r) (e : r.ints? = some ns) : ∃ a, v = .ref a ∧ G a = some (.tup (ns.map V.int)) := by
  obtain ⟨xs, e1, e2⟩ := bnd e
  obtain ⟨a, vs, rfl, h, i⟩ := k.tp e1
  have e3 := intsA_eq e2
  subst e3
  rw [i.ints] at h
  exact ⟨a, rfl, h⟩
theorem dr_ltT {K : PySem.W.Frag} : DR (rLtT K) fLtT := by
  intro pa G H x y a b z Q P ka kb e q
  obtain ⟨i, e1, e⟩ := bnd e
  obtain ⟨j, e2, e⟩ := mpd e
  cases e
  obtain ⟨p, rfl, h1⟩ := ka.ints e1
  obtain ⟨p', rfl, h2⟩ := kb.ints e2
  exact ⟨_, _, i, j, rfl, rfl, SqT.of (P.gh _ _ h1), SqT.of (P.gh _ _ h2), q.mk P.gh (.bl _)⟩
/-- an int in a list or tuple of ints -/
def fIn (neg : Bool) : Rv → Rv → Option Rv := fun a b => (a.int?).bind fun i => ((match b.ls? with | some l => some l | none => b.tp?).bind intsA?).map fun (ns : List Int) => .dat (.bool (if neg then !ns.contains i else ns.contains i))
theorem inV_ints (i : Int) : ∀ ns : List Int, inV (.int i) (ns.map V.int) = ns.contains i
  | [] => rfl
  | n :: ns => by
    unfold inV
    rw [List.map_cons, List.any_cons, List.contains_cons]
    have ih := inV_ints i ns
    unfold inV at ih
    rw [ih]
    congr 1
    show (n == i) = (i == n)
    exact BEq.comm
theorem flat_ints (ns : List Int) : (ns.map V.int).all flatV = true := by
  rw [List.all_map]
  exact List.all_eq_true.mpr fun _ _ => rfl
theorem dr_in {K : PySem.W.Frag} (neg : Bool) : DR (rIn K neg) (fIn neg) := by
  intro pa G H x y a b z Q P ka kb e q
  obtain ⟨i, e1, e⟩ := bnd e
  obtain ⟨ns, e2, e⟩ := mpd e
  obtain ⟨xs, e3, e4⟩ := bnd e2
  have e5 := intsA_eq e4
  subst e5
  cases e
  have hx := ka.int e1
  subst hx
  have fin : ∀ p, (SqL K H p (ns.map V.int) ∨ SqT K H p (ns.map V.int)) → rIn K neg (.int i) (.ref p) H Q := fun p hp =>
    ⟨p, ns.map V.int, rfl, hp, rfl, flat_ints ns, by rw [inV_ints]; exact q.mk P.gh (.bl _)⟩
  cases el : b.ls? with
  | some l =>
    rw [el] at e3
    cases e3
    obtain ⟨p, vs, rfl, _, h, k⟩ := kb.ls P el
    rw [k.ints] at h
    exact fin p (.inl (SqL.of h))
  | none =>
    rw [el] at e3
    obtain ⟨p, vs, rfl, h, k⟩ := kb.tp e3
    rw [k.ints] at h
    exact fin p (.inr (SqT.of (P.gh _ _ h)))

/-! ### lists and tuples put together -/
def fCatL : Rv → Rv → Option Rv := fun a b => (a.ls?).bind fun x => (b.ls?).bind fun y => if x.length + y.length ≤ sizeLine then some (.lst (x ++ y)) else none
theorem dr_catL : DR rCat fCatL := by
  intro pa G H x y a b z Q P ka kb e q
  obtain ⟨l, e1, e⟩ := bnd e
  obtain ⟨m, e2, e⟩ := bnd e
  split at e
  · rename_i hc
    cases e
    obtain ⟨p, vs, rfl, _, h1, k1⟩ := ka.ls P e1
    obtain ⟨p', us, rfl, _, h2, k2⟩ := kb.ls P e2
    exact ⟨p, p', vs, us, rfl, rfl, h1, h2, by rw [k1.length, k2.length]; exact hc, fun n hn => q _ _ _ (Ext.own P.gh hn) fun _ => ⟨n, _, rfl, Nw.of hn, free_G P.gh hn, upd_same, k1.append k2⟩⟩
  · cases e
def fCatT : Rv → Rv → Option Rv := fun a b => (a.tp?).bind fun x => (b.tp?).bind fun y => if x.length + y.length ≤ sizeLine then some (.dat (.tuple (x ++ y))) else none

theorem dr_catT {K : PySem.W.Frag} : DR (rCatA K) fCatT := by
  intro pa G H x y a b z Q P ka kb e q
  obtain ⟨l, e1, e⟩ := bnd e
  obtain ⟨m, e2, e⟩ := bnd e
  split at e
  · rename_i hc
    cases e
    obtain ⟨p, vs, rfl, h1, k1⟩ := ka.tp e1
    obtain ⟨p', us, rfl, h2, k2⟩ := kb.tp e2
    refine ⟨p, p', vs, us, rfl, rfl, SqT.of (P.gh _ _ h1), SqT.of (P.gh _ _ h2), by rw [k1.length, k2.length]; exact hc, fun e => ?_, fun n e => ?_, fun n n' r hr => ?_⟩
    · subst e
      cases k1
      exact q.mk P.gh (.tup h2 k2)
    · subst e
      cases k2
      rw [List.append_nil] at q
      exact q.mk P.gh (.tup h1 k1)
    · have x := Ext.new (pa := mu0) (o := .tup (vs ++ us)) P.gh hr
      exact q _ _ _ x fun _ => .tup upd_same ((k1.append k2).mono x.g)
  · cases e
/-- + of ints, lists, tuples -/
def rAdd3 (K : PySem.W.Frag) : R2 := fun x y H Q => rI0 (fun i j => .int (i + j)) x y H Q ∨ (rCat x y H Q ∨ rCatA K x y H Q)
def fAdd3 : Rv → Rv → Option Rv := fun a b => match fI (fun i j => i + j) a b with
  | some z => some z
  | none => match fCatL a b with
    | some z => some z
    | none => fCatT a b
theorem dr_add {K : PySem.W.Frag} : DR (rAdd3 K) fAdd3 := dr_or dr_I (dr_or dr_catL dr_catT)
section
variable {X : Cx}
theorem op_add3 : OpR X (binaryOp .Add) (rAdd3 X.K) := op_add.or (op_cat.or op_catA)
end

/-! ### items, slices -/
def atD (l : List D) (i : Int) : Option D := atI l i
def fIx : Rv → Rv → Option Rv := fun a b => (match a.ls? with | some l => some l | none => a.tp?).bind fun l => (b.int?).bind fun i => (atI l i).map .dat
theorem atI_is {G : Hp} {vs : List V} {ds : List D} (k : IsA G vs ds) {i : Int} {d : D} (e : atI ds i = some d) : ∃ v, atI vs i = some v ∧ Is G v d := by
  unfold atI at e ⊢
  rw [k.length]
  obtain ⟨j, e1, e2⟩ := bnd e
  obtain ⟨v, h1, h2⟩ := k.get e2
  exact ⟨v, by rw [e1]; exact h1, h2⟩
def rIx2 (K : PySem.W.Frag) : R2 := fun x y H Q => rIxL K x y H Q ∨ rIxT K x y H Q
theorem ix_two {X : Cx} : IxR X (rIx2 X.K) := ix_list.or ix_tup
theorem dr_ix {K : PySem.W.Frag} : DR (rIx2 K) fIx := by
  intro pa G H x y a b z Q P ka kb e q
  obtain ⟨l, e1, e⟩ := bnd e
  obtain ⟨i, e2, e⟩ := bnd e
  obtain ⟨d, e3, e⟩ := mpd e
  cases e
  have hy := kb.int e2
  subst hy
  cases el : a.ls? with
  | some l' =>
    rw [el] at e1
    cases e1
    obtain ⟨p, vs, rfl, _, h, k⟩ := ka.ls P el
    obtain ⟨v, h1, h2⟩ := atI_is k e3
    exact .inl ⟨p, vs, i, v, rfl, rfl, SqL.of h, h1, q.mk P.gh h2⟩
  | none =>
    rw [el] at e1
    obtain ⟨p, vs, rfl, h, k⟩ := ka.tp e1
    obtain ⟨v, h1, h2⟩ := atI_is k e3
    exact .inr ⟨p, vs, i, v, rfl, rfl, SqT.of (P.gh _ _ h), h1, q.mk P.gh h2⟩
theorem de_ix {r : R2} {f : Rv → Rv → Option Rv} {ta tb : TE} {ma mb : MV} (hr : DR r f) (ha : DE ta ma) (hb : DE tb mb) : DE (tOp r ta tb) (mOp f ma mb) := de_op hr ha hb
def cutD (xs : List D) (lo hi : Option Int) : List D := (xs.drop (HT.sIx xs.length 0 lo)).take (HT.sIx xs.length xs.length hi - HT.sIx xs.length 0 lo)
theorem cut_is {G : Hp} {vs : List V} {ds : List D} (k : IsA G vs ds) (lo hi : Option Int) : IsA G (cutV vs lo hi) (cutD ds lo hi) := by
  unfold cutV cutD
  rw [k.length]
  exact (k.drop _).take _
def DO (to : TO) (m : List Sl → List Int → Option (Option Int × List Int)) : Prop := ∀ {G0 H0 : Hp} {pa : Mu} {G H : Hp} {σ : L2.St} {ρ : List Sl} {pt : List Int} {o : Option Int} {pt' : List Int} {Q : Option Int → Hp → Prop},
  Rep G0 H0 pa G H σ ρ pt → m ρ pt = some (o, pt') → (∀ G' H', Ext pa G H G' H' → PotAt pa H' pt' → Q o H') → to σ H Q
abbrev MO := List Sl → List Int → Option (Option Int × List Int)
def mNoP : MO := fun _ pt => some (none, pt)
def mPart (m : MV) : MO := fun ρ pt => (m ρ pt).bind fun x => (x.1.int?).map fun i => (some i, x.2)
theorem do_none : DO tNoPart mNoP := by
  intro G0 H0 pa G H σ ρ pt o pt' Q R e q
  cases e
  exact q G H (Ext.refl R.same) R.pot
theorem do_some {te : TE} {me : MV} (h : DE te me) : DO (tPart te) (mPart me) := by
  intro G0 H0 pa G H σ ρ pt o pt' Q R e q
  obtain ⟨⟨r, p1⟩, e1, e⟩ := bnd e
  obtain ⟨i, e2, e⟩ := mpd e
  cases e
  exact h R e1 fun v G1 H1 x1 q1 k1 => ⟨i, (Res.vw R k1).int e2, q G1 H1 x1 q1⟩
def rSl2 (K : PySem.W.Frag) : V → Option Int → Option Int → Hp → VK → Prop := fun x lo hi H Q => rSlL K x lo hi H Q ∨ rSlA K x lo hi H Q
theorem sl_two {X : Cx} : SlR X (rSl2 X.K) := sl_list.or sl_tupA
def fSl : Rv → Option Int → Option Int → Option Rv := fun a lo hi => match a.ls? with
  | some l => some (.lst (cutD l lo hi))
  | none => (a.tp?).map fun l => .dat (.tuple (cutD l lo hi))
def mSl (me : MV) (ml mh : MO) : MV := fun ρ pt => (me ρ pt).bind fun x => (ml ρ x.2).bind fun y => (mh ρ y.2).bind fun z => (fSl x.1 y.1 z.1).map fun r => (r, z.2)
theorem cut_whole (xs : List V) (lo hi : Option Int) (h : HT.sIx xs.length 0 lo = 0 ∧ HT.sIx xs.length xs.length hi = xs.length) : cutV xs lo hi = xs := by
  unfold cutV
  rw [h.1, h.2, List.drop_zero, Nat.sub_zero, List.take_length]
theorem de_sl {K : PySem.W.Frag} {te : TE} {me : MV} {tl th : TO} {ml mh : MO} (he : DE te me) (hl : DO tl ml) (hh : DO th mh) : DE (tSl (rSl2 K) te tl th) (mSl me ml mh) := by
  intro G0 H0 pa G H σ ρ pt r pt' Q R e q
  obtain ⟨⟨a, p1⟩, e1, e⟩ := bnd e
  obtain ⟨⟨lo, p2⟩, e2, e⟩ := bnd e
  obtain ⟨⟨hi, p3⟩, e3, e⟩ := bnd e
  obtain ⟨z, e4, e⟩ := mpd e
  cases e
  refine he R e1 fun v G1 H1 x1 q1 k1 => hl (R.ext x1 q1) e2 fun G2 H2 x2 q2 => hh (R.ext (x1.trans x2) q2) e3 fun G3 H3 x3 q3 => ?_
  have x := (x1.trans x2).trans x3
  have P := (R.ext x q3).PG
  have k := (Res.vw R k1).ext (x2.trans x3)
  unfold fSl at e4
  cases el : a.ls? with
  | some l =>
    rw [el] at e4
    cases e4
    obtain ⟨p, vs, rfl, _, h, i⟩ := k.ls P el
    exact .inl ⟨p, vs, rfl, SqL.of h, fun n hn => q _ _ _ (x.trans (Ext.own P.gh hn)) (q3.ext (Ext.own P.gh hn)) ⟨n, _, rfl, x.pn n (Nw.of hn), free_G P.gh hn, upd_same, cut_is i lo hi⟩⟩
  | none =>
    rw [el] at e4
    obtain ⟨l, e5, e4⟩ := mpd e4
    cases e4
    obtain ⟨p, vs, rfl, h, i⟩ := k.tp e5
    refine .inr ⟨p, vs, rfl, SqT.of (P.gh _ _ h), fun c => ?_, fun c n hn => ?_⟩
    · refine q _ _ _ x q3 (.tup h ?_)
      have j := cut_is i lo hi
      rw [cut_whole vs lo hi c] at j
      exact j
    · have y := Ext.new (pa := pa) (o := .tup (cutV vs lo hi)) P.gh hn
      exact q _ _ _ (x.trans y) (q3.ext (Ext.new P.gh hn)) (.tup upd_same ((cut_is i lo hi).mono y.g))

/-! ### built-ins by name -/
def f1 (f : Rv → Option Rv) : List Rv → Option Rv
  | [a] => f a
  | _ => none
def f2 (f : Rv → Rv → Option Rv) : List Rv → Option Rv
  | [a, b] => f a b
  | _ => none
theorem f1_of {f : Rv → Option Rv} {as : List Rv} {z : Rv} (h : f1 f as = some z) : ∃ a, as = [a] ∧ f a = some z := by
  match as, h with
  | [a], h => exact ⟨a, rfl, h⟩
theorem f2_of {f : Rv → Rv → Option Rv} {as : List Rv} {z : Rv} (h : f2 f as = some z) : ∃ a b, as = [a, b] ∧ f a b = some z := by
  match as, h with
  | [a, b], h => exact ⟨a, b, rfl, h⟩
/-- a list's or a tuple's items -/
def Rv.sq? (r : Rv) : Option (List D) := match r.ls? with | some l => some l | none => r.tp?
theorem Vw.sq {K : PySem.W.Frag} {pa : Mu} {G H : Hp} {v : V} {r : Rv} {l : List D} (P : PG pa G H) (k : Vw pa G H v r) (e : r.sq? = some l) : ∃ a vs, v = .ref a ∧ (SqL K H a vs ∨ SqT K H a vs) ∧ IsA G vs l := by
  unfold Rv.sq? at e
  cases el : r.ls? with
  | some l' =>
    rw [el] at e
    cases e
    obtain ⟨p, vs, rfl, _, h, i⟩ := k.ls P el
    exact ⟨p, vs, rfl, .inl (SqL.of h), i⟩
  | none =>
    rw [el] at e
    obtain ⟨p, vs, rfl, h, i⟩ := k.tp e
    exact ⟨p, vs, rfl, .inr (SqT.of (P.gh _ _ h)), i⟩
def fLen : Rv → Option Rv := fun a => (a.sq?).map fun l => .dat (.int (l.length : Nat))
theorem dc_len {K : PySem.W.Frag} : DC (fun xs H Q => ∃ p ys, xs = [.ref p] ∧ (SqL K H p ys ∨ SqT K H p ys) ∧ Q (.int ys.length) H) (f1 fLen) := by
  intro pa G H xs as z Q P k e q
  obtain ⟨a, rfl, e⟩ := f1_of e
  obtain ⟨l, e1, e⟩ := mpd e
  cases e
  obtain ⟨v, rfl, kv⟩ := k.one
  obtain ⟨p, vs, rfl, h, i⟩ := kv.sq (K := K) P e1
  exact ⟨p, vs, rfl, h, by rw [i.length]; exact q.mk P.gh (.int _)⟩
def fSum : Rv → Option Rv := fun a => (a.ls?).bind fun l => (intsA? l).map fun ns => .dat (.int ns.sum)
theorem Vw.lsI {pa : Mu} {G H : Hp} {v : V} {r : Rv} {l : List D} {ns : List Int} (P : PG pa G H) (k : Vw pa G H v r) (e : r.ls? = some l) (e2 : intsA? l = some ns) : ∃ a, v = .ref a ∧ H a = some (.lst (ns.map V.int)) := by
  obtain ⟨a, vs, rfl, _, h, i⟩ := k.ls P e
  have := intsA_eq e2
  subst this
  rw [i.ints] at h
  exact ⟨a, rfl, h⟩
theorem dc_sum {K : PySem.W.Frag} : DC (rSum K) (f1 fSum) := by
  intro pa G H xs as z Q P k e q
  obtain ⟨a, rfl, e⟩ := f1_of e
  obtain ⟨l, e1, e⟩ := bnd e
  obtain ⟨ns, e2, e⟩ := mpd e
  cases e
  obtain ⟨v, rfl, kv⟩ := k.one
  obtain ⟨p, rfl, h⟩ := kv.lsI P e1 e2
  exact ⟨p, ns, rfl, SqL.of h, q.mk P.gh (.int _)⟩
def boolsA? : List D → Option (List Bool)
  | [] => some []
  | .bool i :: r => (boolsA? r).map fun l => i :: l
  | _ :: _ => none
theorem boolsA_map : ∀ ns : List Bool, boolsA? (ns.map .bool) = some ns
  | [] => rfl
  | n :: ns => by show (boolsA? (ns.map .bool)).map _ = _; rw [boolsA_map ns]; rfl
theorem boolsA_eq : ∀ {xs : List D} {ns : List Bool}, boolsA? xs = some ns → xs = ns.map .bool
  | [], ns, h => by cases h; rfl
  | .bool i :: r, ns, h => by
    obtain ⟨l, e, rfl⟩ := mpd (show (boolsA? r).map (fun l => i :: l) = some ns from h)
    rw [boolsA_eq e]; rfl
  | .none :: _, _, h | .int _ :: _, _, h | .str _ :: _, _, h | .list _ :: _, _, h | .tuple _ :: _, _, h | .dict _ :: _, _, h => by cases h
def fAll : Rv → Option Rv := fun a => (a.ls?).bind fun l => (boolsA? l).map fun ns => .dat (.bool (ns.all id))
def fAny : Rv → Option Rv := fun a => (a.ls?).bind fun l => (boolsA? l).map fun ns => .dat (.bool (ns.any id))
theorem dc_all {K : PySem.W.Frag} : DC (rAll K) (f1 fAll) := by
  intro pa G H xs as z Q P k e q
  obtain ⟨a, rfl, e⟩ := f1_of e
  obtain ⟨l, e1, e⟩ := bnd e
  obtain ⟨ns, e2, e⟩ := mpd e
  cases e
  obtain ⟨v, rfl, kv⟩ := k.one
  obtain ⟨p, vs, rfl, _, h, i⟩ := kv.ls P e1
  have := boolsA_eq e2
  subst this
  rw [i.bools] at h
  exact ⟨p, ns, rfl, SqL.of h, q.mk P.gh (.bl _)⟩
theorem dc_any {K : PySem.W.Frag} : DC (rAny K) (f1 fAny) := by
  intro pa G H xs as z Q P k e q
  obtain ⟨a, rfl, e⟩ := f1_of e
  obtain ⟨l, e1, e⟩ := bnd e
  obtain ⟨ns, e2, e⟩ := mpd e
  cases e
  obtain ⟨v, rfl, kv⟩ := k.one
  obtain ⟨p, vs, rfl, _, h, i⟩ := kv.ls P e1
  have := boolsA_eq e2
  subst this
  rw [i.bools] at h
  exact ⟨p, ns, rfl, SqL.of h, q.mk P.gh (.bl _)⟩
/-- the greatest of a list -/
def maxI : List Int → Int
  | [] => 0
  | [x] => x
  | x :: r => max x (maxI r)
def minI : List Int → Int
  | [] => 0
  | [x] => x
  | x :: r => min x (minI r)
theorem maxI_ge : ∀ {l : List Int} {y : Int}, y ∈ l → y ≤ maxI l
  | [x], y, h => by simp at h; subst h; exact Int.le_refl _
  | x :: z :: r, y, h => by
    show y ≤ max x (maxI (z :: r))
    rcases List.mem_cons.mp h with e | h
    · subst e; omega
    · have := maxI_ge h; omega
theorem minI_le : ∀ {l : List Int} {y : Int}, y ∈ l → minI l ≤ y
  | [x], y, h => by simp at h; subst h; exact Int.le_refl _
  | x :: z :: r, y, h => by
    show min x (minI (z :: r)) ≤ y
    rcases List.mem_cons.mp h with e | h
    · subst e; omega
    · have := minI_le h; omega
theorem maxI_mem : ∀ {l : List Int}, l ≠ [] → maxI l ∈ l
  | [x], _ => by simp [maxI]
  | x :: z :: r, _ => by
    have ih := maxI_mem (l := z :: r) (by simp)
    show max x (maxI (z :: r)) ∈ x :: z :: r
    by_cases h : x ≤ maxI (z :: r)
    · rw [Int.max_eq_right h]; exact List.mem_cons_of_mem _ ih
    · rw [Int.max_eq_left (by omega)]; exact List.mem_cons_self
theorem minI_mem : ∀ {l : List Int}, l ≠ [] → minI l ∈ l
  | [x], _ => by simp [minI]
  | x :: z :: r, _ => by
    have ih := minI_mem (l := z :: r) (by simp)
    show min x (minI (z :: r)) ∈ x :: z :: r
    by_cases h : x ≤ minI (z :: r)
    · rw [Int.min_eq_left h]; exact List.mem_cons_self
    · rw [Int.min_eq_right (by omega)]; exact List.mem_cons_of_mem _ ih
def fMaxL : Rv → Option Rv := fun a => (a.ls?).bind fun l => (intsA? l).bind fun ns => if ns = [] then none else some (.dat (.int (maxI ns)))
def fMinL : Rv → Option Rv := fun a => (a.ls?).bind fun l => (intsA? l).bind fun ns => if ns = [] then none else some (.dat (.int (minI ns)))
theorem dc_maxL {K : PySem.W.Frag} : DC (rMax K) (f1 fMaxL) := by
  intro pa G H xs as z Q P k e q
  obtain ⟨a, rfl, e⟩ := f1_of e
  obtain ⟨l, e1, e⟩ := bnd e
  obtain ⟨ns, e2, e⟩ := bnd e
  split at e
  · cases e
  · rename_i hn
    cases e
    obtain ⟨v, rfl, kv⟩ := k.one
    obtain ⟨p, rfl, h⟩ := kv.lsI P e1 e2
    refine ⟨p, ns, rfl, SqL.of h, List.length_pos_iff.mpr hn, fun m hm hle => ?_⟩
    have : m = maxI ns := by
      have h1 := hle _ (maxI_mem hn)
      have h2 := maxI_ge hm
      omega
    subst this
    exact q.mk P.gh (.int _)
theorem dc_minL {K : PySem.W.Frag} : DC (rMin K) (f1 fMinL) := by
  intro pa G H xs as z Q P k e q
  obtain ⟨a, rfl, e⟩ := f1_of e
  obtain ⟨l, e1, e⟩ := bnd e
  obtain ⟨ns, e2, e⟩ := bnd e
  split at e
  · cases e
  · rename_i hn
    cases e
    obtain ⟨v, rfl, kv⟩ := k.one
    obtain ⟨p, rfl, h⟩ := kv.lsI P e1 e2
    refine ⟨p, ns, rfl, SqL.of h, List.length_pos_iff.mpr hn, fun m hm hle => ?_⟩
    have : m = minI ns := by
      have h1 := hle _ (minI_mem hn)
      have h2 := minI_le hm
      omega
    subst this
    exact q.mk P.gh (.int _)
def rMx2 : List V → Hp → VK → Prop := fun xs H Q => ∃ i j : Int, xs = [.int i, .int j] ∧ Q (.int (if j > i then j else i)) H
def rMn2 : List V → Hp → VK → Prop := fun xs H Q => ∃ i j : Int, xs = [.int i, .int j] ∧ Q (.int (if j < i then j else i)) H
theorem dc_max2 : DC rMx2 (f2 (fI fun i j => if j > i then j else i)) := by
  intro pa G H xs as z Q P k e q
  obtain ⟨a, b, rfl, e⟩ := f2_of e
  obtain ⟨i, e1, e⟩ := bnd e
  obtain ⟨j, e2, e⟩ := mpd e
  cases e
  obtain ⟨v, u, rfl, kv, ku⟩ := k.two
  exact ⟨i, j, by rw [kv.int e1, ku.int e2], q.mk P.gh (.int _)⟩
theorem dc_min2 : DC rMn2 (f2 (fI fun i j => if j < i then j else i)) := by
  intro pa G H xs as z Q P k e q
  obtain ⟨a, b, rfl, e⟩ := f2_of e
  obtain ⟨i, e1, e⟩ := bnd e
  obtain ⟨j, e2, e⟩ := mpd e
  cases e
  obtain ⟨v, u, rfl, kv, ku⟩ := k.two
  exact ⟨i, j, by rw [kv.int e1, ku.int e2], q.mk P.gh (.int _)⟩
def fAbs : Rv → Option Rv := fun a => (a.int?).map fun i => .dat (.int (if i < 0 then -i else i))
theorem dc_abs : DC (fun xs H Q => ∃ i : Int, xs = [.int i] ∧ Q (.int (if i < 0 then -i else i)) H) (f1 fAbs) := by
  intro pa G H xs as z Q P k e q
  obtain ⟨a, rfl, e⟩ := f1_of e
  obtain ⟨i, e1, e⟩ := mpd e
  cases e
  obtain ⟨v, rfl, kv⟩ := k.one
  exact ⟨i, by rw [kv.int e1], q.mk P.gh (.int _)⟩
def fInt : Rv → Option Rv := fun a => match a.int? with
  | some i => some (.dat (.int i))
  | none => (a.bool?).map fun b => .dat (.int (if b then 1 else 0))
theorem dc_int : DC (fun xs H Q => (∃ i, xs = [.int i] ∧ Q (.int i) H) ∨ ∃ k, xs = [.bl k] ∧ Q (.int (if k then 1 else 0)) H) (f1 fInt) := by
  intro pa G H xs as z Q P k e q
  obtain ⟨a, rfl, e⟩ := f1_of e
  obtain ⟨v, rfl, kv⟩ := k.one
  have e : fInt a = some z := e
  unfold fInt at e
  cases e1 : a.int? with
  | some i => rw [e1] at e; cases e; exact .inl ⟨i, by rw [kv.int e1], q.mk P.gh (.int _)⟩
  | none =>
    rw [e1] at e
    obtain ⟨b, e2, e⟩ := mpd e
    cases e
    exact .inr ⟨b, by rw [kv.bool e2], q.mk P.gh (.int _)⟩
/-- list(x), tuple(x) of lists and tuples -/
def fList : Rv → Option Rv := fun a => (a.sq?).map .lst
def fTuple : Rv → Option Rv := fun a => (a.sq?).map fun l => .dat (.tuple l)
theorem dc_list {K : PySem.W.Frag} : DC (fun xs H Q => ∃ p ys, xs = [.ref p] ∧ (SqL K H p ys ∨ SqT K H p ys) ∧ ∀ l, H l = none → Q (.ref l) (upd H l (.lst ys))) (f1 fList) := by
  intro pa G H xs as z Q P k e q
  obtain ⟨a, rfl, e⟩ := f1_of e
  obtain ⟨l, e1, e⟩ := mpd e
  cases e
  obtain ⟨v, rfl, kv⟩ := k.one
  obtain ⟨p, vs, rfl, h, i⟩ := kv.sq (K := K) P e1
  exact ⟨p, vs, rfl, h, fun n hn => q _ _ _ (Ext.own P.gh hn) fun _ => ⟨n, _, rfl, Nw.of hn, free_G P.gh hn, upd_same, i⟩⟩
theorem dc_tuple {K : PySem.W.Frag} : DC (fun xs H Q => ∃ p ys, xs = [.ref p] ∧ ((SqL K H p ys ∧ ∀ l, H l = none → Q (.ref l) (upd H l (.tup ys))) ∨ (SqT K H p ys ∧ Q (.ref p) H))) (f1 fTuple) := by
  intro pa G H xs as z Q P k e q
  obtain ⟨a, rfl, e⟩ := f1_of e
  obtain ⟨l, e1, e⟩ := mpd e
  cases e
  obtain ⟨v, rfl, kv⟩ := k.one
  unfold Rv.sq? at e1
  cases el : a.ls? with
  | some l' =>
    rw [el] at e1
    cases e1
    obtain ⟨p, vs, rfl, _, h, i⟩ := kv.ls P el
    refine ⟨p, vs, rfl, .inl ⟨SqL.of h, fun n hn => ?_⟩⟩
    have x := Ext.new (pa := mu0) (o := .tup vs) P.gh hn
    exact q _ _ _ x fun _ => .tup upd_same (i.mono x.g)
  | none =>
    rw [el] at e1
    obtain ⟨p, vs, rfl, h, i⟩ := kv.tp e1
    exact ⟨p, vs, rfl, .inr ⟨SqT.of (P.gh _ _ h), q.mk P.gh (.tup h i)⟩⟩
/-- range(..) within list(..), tuple(..) -/
def DRg (t : L2.St → Hp → (Int → Int → Hp → Prop) → Prop) (m : List Sl → List Int → Option ((Int × Int) × List Int)) : Prop := ∀ {G0 H0 : Hp} {pa : Mu} {G H : Hp} {σ : L2.St} {ρ : List Sl} {pt : List Int} {o : Int × Int} {pt' : List Int} {Q : Int → Int → Hp → Prop},
  Rep G0 H0 pa G H σ ρ pt → m ρ pt = some (o, pt') → (∀ G' H', Ext pa G H G' H' → PotAt pa H' pt' → Q o.1 o.2 H') → t σ H Q
def mRr1 (m : MV) : List Sl → List Int → Option ((Int × Int) × List Int) := fun ρ pt => (m ρ pt).bind fun x => (x.1.int?).map fun i => ((0, i), x.2)
theorem drg_1 {te : TE} {me : MV} (h : DE te me) : DRg (tRg1 te) (mRr1 me) := by
  intro G0 H0 pa G H σ ρ pt o pt' Q R e q
  obtain ⟨⟨r, p1⟩, e1, e⟩ := bnd e
  obtain ⟨i, e2, e⟩ := mpd e
  cases e
  exact h R e1 fun v G1 H1 x1 q1 k1 => ⟨i, (Res.vw R k1).int e2, q G1 H1 x1 q1⟩
def rgOk (a b : Int) : Bool := decide (-(2 ^ 62) ≤ a) && decide (a < 2 ^ 62) && decide (-(2 ^ 62) ≤ b) && decide (b < 2 ^ 62) && decide ((b - a).toNat ≤ 2 ^ 24)
theorem rgOk_ok {a b : Int} (h : rgOk a b = true) : RgOk a b := by
  unfold rgOk at h
  simp only [Bool.and_eq_true, decide_eq_true_eq] at h
  exact ⟨h.1.1.1.1, h.1.1.1.2, h.1.1.2, h.1.2, h.2⟩
def mLstRg (mr : List Sl → List Int → Option ((Int × Int) × List Int)) : MV := fun ρ pt => (mr ρ pt).bind fun x => if rgOk x.1.1 x.1.2 = true then some (.lst (rgD x.1.1 x.1.2), x.2) else none
theorem rg_is (G : Hp) (a b : Int) : IsA G (rgV a b) (rgD a b) := by
  unfold rgV rgD
  generalize List.range (b - a).toNat = l
  induction l with
  | nil => exact .nil
  | cons x r ih => exact .cons (.int _) ih
theorem de_lstRg {t : L2.St → Hp → (Int → Int → Hp → Prop) → Prop} {mr : List Sl → List Int → Option ((Int × Int) × List Int)} (h : DRg t mr) : DE (tLstRg t) (mLstRg mr) := by
  intro G0 H0 pa G H σ ρ pt r pt' Q R e q
  obtain ⟨⟨o, p1⟩, e1, e⟩ := bnd e
  split at e
  · rename_i hr
    cases e
    refine h R e1 fun G1 H1 x1 q1 => ⟨rgOk_ok hr, fun n hn => ?_⟩
    exact q _ _ _ (x1.trans (Ext.own x1.gh hn)) (q1.ext (Ext.own x1.gh hn)) ⟨n, _, rfl, x1.pn n (Nw.of hn), free_G x1.gh hn, upd_same, rg_is G1 _ _⟩
  · cases e
/-! isinstance -/
def tyD : D → Option String
  | .none => some "NoneType"
  | .bool _ => some "bool"
  | .int _ => some "int"
  | .str _ => some "str"
  | .list _ => some "list"
  | .tuple _ => some "tuple"
  | .dict _ => none
def fIsi (n : String) : Rv → Option Rv := fun a => (a.pd?).bind fun d => (tyD d).bind fun m => (kitB m n).map fun b => .dat (.bool b)
theorem Vw.ty {K : PySem.W.Frag} {pa : Mu} {G H : Hp} {v : V} {r : Rv} {d : D} {m : String} (P : PG pa G H) (k : Vw pa G H v r) (e : r.pd? = some d) (e2 : tyD d = some m) : TyX K H v (.type m) := by
  cases r with
  | dat d' =>
    cases e
    have k : Is G v d := k
    cases k with
    | non => cases e2; exact .base .non
    | bl b => cases e2; exact .base (.bl b)
    | int i => cases e2; exact .base (.int i)
    | str x => cases e2; exact .base (.str x)
    | dct h i => cases e2
    | lst h i => cases e2; exact .base (.lst (P.gh _ _ h))
    | tup h i => cases e2; exact .base (.tup (P.gh _ _ h))
  | lst xs => cases e; cases e2; obtain ⟨a, vs, rfl, _, h, i⟩ := k; exact .base (.lst h)
  | vls xs => cases e; cases e2; obtain ⟨a, vs, rfl, _, h, i⟩ := k; exact .base (.lst h)
  | dic l => cases e
  | vdc l => cases e
theorem de_isi {K : PySem.W.Frag} {n : String} {te : TE} {me : MV} (h : DE te me) : DE (tCB (rIsi K) (tCons te (tCons (tC (.ty n)) tNil))) (mUn (fIsi n) me) := by
  intro G0 H0 pa G H σ ρ pt r pt' Q R e q
  obtain ⟨⟨r1, p1⟩, e1, e⟩ := bnd e
  obtain ⟨z, e2, e⟩ := mpd e
  obtain ⟨d, e3, e4⟩ := bnd e2
  obtain ⟨m, e5, e6⟩ := bnd e4
  obtain ⟨b, e7, e8⟩ := mpd e6
  cases e
  subst e8
  exact h R e1 fun v G1 H1 x1 q1 k1 => ⟨v, .ty n, .type m, .type n, b, rfl, .ty n, (Res.vw R k1).ty (R.ext x1 q1).PG e3 e5, kit_ty e7, q _ _ _ x1 q1 (.bl b)⟩

/-! ### lists changed -/
section
variable {G0 H0 G H G' H' : Hp} {pa : Mu} {σ : L2.St} {ρ : List Sl} {pt pt' : List Int}
/-- what a slot owns is changed -/
theorem Rep.mut {i : Nat} {s s' : Sl} {a : Addr} {o : HO} (R : Rep G0 H0 pa G H σ ρ pt) (hs : ρ[i]? = some s) (ho : Sl.own (some s)) (ea : σ[i]? = some (some (.ref a)))
    (h0 : Nw H0 a) (g : G a = none) (ok : SlOk H0 pa G (upd H a o) σ[i]? s') (own' : Sl.own (some s')) : Rep G0 H0 pa G (upd H a o) σ (ρ.set i s') pt := by
  have hi : i < ρ.length := (List.getElem?_eq_some_iff.mp hs).1
  have own_i : Sl.own ρ[i]? := by rw [hs]; exact ho
  have hm : ∀ u, H a = some u → Pl u := fun u hu => by
    have k := R.slot i s hs
    cases s with
    | lst ys => obtain ⟨b, ws, e2, _, _, hb, _⟩ := k; rw [ea] at e2; cases e2; rw [hu] at hb; cases hb; trivial
    | dic ys => obtain ⟨b, ws, e2, _, _, hb, _⟩ := k; rw [ea] at e2; cases e2; rw [hu] at hb; cases hb; trivial
    | _ => exact ho.elim
  refine ⟨R.ex.put h0 g hm, R.pot.put (R.pne h0), R.pg, R.nt, tabs_put hm R.tb, R.ns, by simp [R.len], fun j t e => ?_, fun j l b h1 h2 e1 e2 => ?_⟩
  · by_cases c : i = j
    · subst c
      rw [List.getElem?_set_self hi] at e
      cases e
      exact ok
    · rw [List.getElem?_set_ne c] at e
      have k := R.slot j t e
      cases t with
      | un => trivial
      | dat d => exact k
      | pot => exact k
      | lst ys =>
        obtain ⟨b, ws, e2, b0, gb, hb, ib⟩ := k
        have nb : b ≠ a := fun z => c (R.inj i j a own_i (by rw [e]; trivial) ea (by rw [e2, z]))
        exact ⟨b, ws, e2, b0, gb, by rw [upd_ne nb]; exact hb, ib⟩
      | dic ys =>
        obtain ⟨b, ws, e2, b0, gb, hb, ib⟩ := k
        have nb : b ≠ a := fun z => c (R.inj i j a own_i (by rw [e]; trivial) ea (by rw [e2, z]))
        exact ⟨b, ws, e2, b0, gb, by rw [upd_ne nb]; exact hb, ib⟩
  · have nj : ∀ j, Sl.own (ρ.set i s')[j]? → Sl.own ρ[j]? := fun j h => by
      by_cases c : i = j
      · subst c; exact own_i
      · rw [List.getElem?_set_ne c] at h; exact h
    exact R.inj j l b (nj j h1) (nj l h2) e1 e2
theorem Rep.mutL {i : Nat} {xs xs' : List D} {a : Addr} {vs' : List V} (R : Rep G0 H0 pa G H σ ρ pt) (hs : ρ[i]? = some (.lst xs)) (ea : σ[i]? = some (some (.ref a)))
    (h0 : Nw H0 a) (g : G a = none) (k : IsA G vs' xs') : Rep G0 H0 pa G (upd H a (.lst vs')) σ (ρ.set i (.lst xs')) pt :=
  R.mut hs trivial ea h0 g ⟨a, vs', ea, h0, g, upd_same, k⟩ trivial
theorem Rep.mutD {i : Nat} {l l' : List (List Int × D)} {a : Addr} {kv : List (List Key × V)} (R : Rep G0 H0 pa G H σ ρ pt) (hs : ρ[i]? = some (.dic l)) (ea : σ[i]? = some (some (.ref a)))
    (h0 : Nw H0 a) (g : G a = none) (k : KvA G kv l') : Rep G0 H0 pa G (upd H a (.dT kv)) σ (ρ.set i (.dic l')) pt :=
  R.mut hs trivial ea h0 g ⟨a, kv, ea, h0, g, upd_same, k⟩ trivial
end
def bApp (i : Nat) (me : MV) : MB := fun ρ pt => match ρ[i]? with
  | some (.lst xs) => (me ρ pt).bind fun x => (x.1.fix?).bind fun d => if xs.length < sizeLine then some (.nx (ρ.set i (.lst (xs ++ [d]))) x.2) else none
  | _ => none
theorem Rep.lstAt {G0 H0 G H : Hp} {pa : Mu} {σ : L2.St} {ρ : List Sl} {pt : List Int} {i : Nat} {xs : List D} (R : Rep G0 H0 pa G H σ ρ pt) (hs : ρ[i]? = some (.lst xs)) :
    ∃ a vs, σ[i]? = some (some (.ref a)) ∧ Nw H0 a ∧ G a = none ∧ H a = some (.lst vs) ∧ IsA G vs xs := R.slot i _ hs
theorem Rep.dicAt {G0 H0 G H : Hp} {pa : Mu} {σ : L2.St} {ρ : List Sl} {pt : List Int} {i : Nat} {xs : List (List Int × D)} (R : Rep G0 H0 pa G H σ ρ pt) (hs : ρ[i]? = some (.dic xs)) :
    ∃ a vs, σ[i]? = some (some (.ref a)) ∧ Nw H0 a ∧ G a = none ∧ H a = some (.dT vs) ∧ KvA G vs xs := R.slot i _ hs
theorem tyL {K : PySem.W.Frag} {H : Hp} {a : Addr} {vs : List V} (h : H a = some (.lst vs)) : tyV K "list" (.ref a) H := Or.inl ⟨rfl, _, SqL.of h⟩
theorem slot_same {σ : L2.St} {i : Nat} {a b : Addr} (h : σ[i]? = some (some (V.ref a))) (k : σ[i]? = some (some (V.ref b))) : b = a := by
  rw [h] at k; cases k; rfl
theorem db_app {K : PySem.W.Frag} {i : Nat} {te : TE} {me : MV} (h : DE te me) : DB (tDrop (tBM K "list" rAppend (tVar i) (tCons te tNil))) (bApp i me) := by
  intro G0 H0 pa G H σ ρ pt o E R e q
  unfold bApp at e
  cases hs : ρ[i]? with
  | none => rw [hs] at e; cases e
  | some s =>
    rw [hs] at e
    cases s with
    | lst xs =>
      obtain ⟨⟨r, p1⟩, e1, e⟩ := bnd e
      obtain ⟨d, e2, e⟩ := bnd e
      split at e
      · rename_i hz
        cases e
        obtain ⟨a, vs, ea, h0, g, ha, k⟩ := R.lstAt hs
        refine ⟨_, ea, tyL ha, h R e1 fun v G1 H1 x1 q1 k1 => ?_⟩
        obtain ⟨G2, s2, x2, k2⟩ := k1.fix x1 e2
        have R2 := R.ext x2 q1
        obtain ⟨b, ws, eb, b0, gb, hb, kb⟩ := R2.lstAt hs
        have := slot_same ea eb
        subst this
        refine ⟨b, ws, v, rfl, rfl, hb, by rw [kb.length]; exact hz, ?_⟩
        exact q σ G2 _ (R2.mutL hs ea b0 gb (kb.snoc k2)) x2.g
      · cases e
    | _ => cases e
def bExt (i : Nat) (me : MV) : MB := fun ρ pt => match ρ[i]? with
  | some (.lst xs) => (me ρ pt).bind fun x => (x.1.ls?).bind fun ys => if xs.length + ys.length ≤ sizeLine then some (.nx (ρ.set i (.lst (xs ++ ys))) x.2) else none
  | _ => none
theorem db_ext {K : PySem.W.Frag} {i : Nat} {te : TE} {me : MV} (h : DE te me) : DB (tDrop (tBM K "list" rExtend (tVar i) (tCons te tNil))) (bExt i me) := by
  intro G0 H0 pa G H σ ρ pt o E R e q
  unfold bExt at e
  cases hs : ρ[i]? with
  | none => rw [hs] at e; cases e
  | some s =>
    rw [hs] at e
    cases s with
    | lst xs =>
      obtain ⟨⟨r, p1⟩, e1, e⟩ := bnd e
      obtain ⟨ys, e2, e⟩ := bnd e
      split at e
      · rename_i hz
        cases e
        obtain ⟨a, vs, ea, h0, g, ha, k⟩ := R.lstAt hs
        refine ⟨_, ea, tyL ha, h R e1 fun v G1 H1 x1 q1 k1 => ?_⟩
        have R2 := R.ext x1 q1
        obtain ⟨b, ws, eb, b0, gb, hb, kb⟩ := R2.lstAt hs
        have := slot_same ea eb
        subst this
        obtain ⟨c, us, rfl, _, hc, kc⟩ := (Res.vw R k1).ls R2.PG e2
        refine ⟨b, c, ws, us, rfl, rfl, hb, hc, by rw [kb.length, kc.length]; exact hz, ?_⟩
        exact q σ G1 _ (R2.mutL hs ea b0 gb (kb.append kc)) x1.g
      · cases e
    | _ => cases e
/-- x = y.pop() -/
def bPop (i j : Nat) : MB := fun ρ pt => match ρ[j]? with
  | some (.lst xs) => (xs[xs.length - 1]?).map fun d => .nx ((ρ.set j (.lst xs.dropLast)).set i (.dat d)) pt
  | _ => none
theorem db_pop {K : PySem.W.Frag} {i j : Nat} : DB (tAsg (tBM0 K "list" rPop (tVar j)) (gName i)) (bPop i j) := by
  intro G0 H0 pa G H σ ρ pt o E R e q
  unfold bPop at e
  cases hs : ρ[j]? with
  | none => rw [hs] at e; cases e
  | some s =>
    rw [hs] at e
    cases s with
    | lst xs =>
      obtain ⟨d, e1, e⟩ := mpd e
      cases e
      obtain ⟨a, vs, ea, h0, g, ha, k⟩ := R.lstAt hs
      obtain ⟨v, hv, kv⟩ := k.get e1
      refine ⟨_, ea, tyL ha, a, vs, v, rfl, rfl, ha, by rw [k.length]; exact hv, ?_⟩
      exact q _ G _ ((R.mutL hs ea h0 g k.dropLast).setD i kv) (Same.refl G)
    | _ => cases e
/-- x.append(y.pop(e)) -/
def bAppPop (i j : Nat) (me : MV) : MB := fun ρ pt => if i = j then none else match ρ[i]?, ρ[j]? with
  | some (.lst xs), some (.lst ys) => (me ρ pt).bind fun x => (x.1.int?).bind fun n => if 0 ≤ n ∧ n < ys.length ∧ xs.length < sizeLine ∧ n < 4611686018427387904 then (ys[n.toNat]?).map fun d => .nx ((ρ.set j (.lst (ys.eraseIdx n.toNat))).set i (.lst (xs ++ [d]))) x.2 else none
  | _, _ => none
theorem db_appPop {K K' : PySem.W.Frag} {i j : Nat} {te : TE} {me : MV} (h : DE te me) :
    DB (tDrop (tBM K "list" rAppend (tVar i) (tCons (tBM K' "list" rPopAt (tVar j) (tCons te tNil)) tNil))) (bAppPop i j me) := by
  intro G0 H0 pa G H σ ρ pt o E R e q
  unfold bAppPop at e
  split at e
  · cases e
  · rename_i nij
    cases hs : ρ[i]? with
    | none => rw [hs] at e; cases e
    | some s =>
      cases ht : ρ[j]? with
      | none => rw [hs, ht] at e; cases s <;> cases e
      | some t =>
        rw [hs, ht] at e
        cases s with
        | lst xs =>
          cases t with
          | lst ys =>
            obtain ⟨⟨r, p1⟩, e1, e⟩ := bnd e
            obtain ⟨n, e2, e⟩ := bnd e
            split at e
            · rename_i hn
              obtain ⟨d, e3, e⟩ := mpd e
              cases e
              obtain ⟨a, vs, ea, h0, g, ha, k⟩ := R.lstAt hs
              obtain ⟨b, us, eb, b0, gb, hb, kb⟩ := R.lstAt ht
              refine ⟨_, ea, tyL ha, _, eb, tyL hb, h R e1 fun v G1 H1 x1 q1 k1 => ?_⟩
              have R1 := R.ext x1 q1
              have hv := (Res.vw R k1).int e2
              subst hv
              obtain ⟨b', us1, eb1, b1, gb1, hb1, kb1⟩ := R1.lstAt ht
              have := slot_same eb eb1
              subst this
              obtain ⟨y, hy, ky⟩ := kb1.get e3
              have hl : ys.length = us1.length := kb1.length.symm
              have hix : ixN us1.length n = some n.toNat := by
                unfold ixN
                rw [if_pos hn.1, if_pos (by omega)]
              refine ⟨b', us1, n, n.toNat, y, rfl, rfl, hb1, by omega, by omega, (ixN_seq hix).1, hy, ?_⟩
              have R2 := R1.mutL ht eb b1 gb1 (kb1.eraseIdx n.toNat)
              have hs2 : (ρ.set j (.lst (ys.eraseIdx n.toNat)))[i]? = some (.lst xs) := by rw [List.getElem?_set_ne (Ne.symm nij)]; exact hs
              obtain ⟨a', vs2, ea2, a2, ga2, ha2, ka2⟩ := R2.lstAt hs2
              have := slot_same ea ea2
              subst this
              refine ⟨a', vs2, y, rfl, rfl, ha2, by rw [ka2.length]; exact hn.2.2.1, ?_⟩
              exact q σ G1 _ (R2.mutL hs2 ea a2 ga2 (ka2.snoc ky)) x1.g
            · cases e
          | _ => cases e
        | _ => cases t <;> cases e
/-! ### dicts with tuple keys -/
def Rv.key? (r : Rv) : Option (List Int) := r.ints?
theorem Vw.key {pa : Mu} {G H : Hp} {v : V} {r : Rv} {k : List Int} (P : PG pa G H) (h : Vw pa G H v r) (e : r.key? = some k) : ∃ a, v = .ref a ∧ H a = some (.tup ((kI k).map kV)) := by
  obtain ⟨a, rfl, ha⟩ := h.ints e
  refine ⟨a, rfl, ?_⟩
  rw [P.gh _ _ ha]
  congr 2
  rw [List.map_map]
  rfl
def mDGet (md mk : MV) : MV := fun ρ pt => (md ρ pt).bind fun x => (mk ρ x.2).bind fun y => (x.1.dc?).bind fun l => (y.1.key?).bind fun k => (kGet l k).map fun d => (.dat d, y.2)
theorem de_dget {td tk : TE} {md mk : MV} (hd : DE td md) (hk : DE tk mk) : DE (tDGet td tk) (mDGet md mk) := by
  intro G0 H0 pa G H σ ρ pt r pt' Q R e q
  obtain ⟨⟨r1, p1⟩, e1, e⟩ := bnd e
  obtain ⟨⟨r2, p2⟩, e2, e⟩ := bnd e
  obtain ⟨l, e3, e⟩ := bnd e
  obtain ⟨k, e4, e⟩ := bnd e
  obtain ⟨d, e5, e⟩ := mpd e
  cases e
  refine hd R e1 fun v G1 H1 x1 q1 k1 => hk (R.ext x1 q1) e2 fun w G2 H2 x2 q2 k2 => ?_
  have P := (R.ext (x1.trans x2) q2).PG
  obtain ⟨a, kv, rfl, na, ha, ka⟩ := ((Res.vw R k1).ext x2).dc P e3
  obtain ⟨b, rfl, hb⟩ := (Res.vw (R.ext x1 q1) k2).key P e4
  have g := ka.get k
  rw [e5] at g
  obtain ⟨u, hu, iu⟩ := g
  exact ⟨a, u, rfl, by rw [← hu]; exact (.inr ⟨_, _, _, ha, rfl, hb, rfl⟩), q _ _ _ (x1.trans x2) q2 iu⟩
def mDIn (neg : Bool) (mk md : MV) : MV := fun ρ pt => (mk ρ pt).bind fun y => (md ρ y.2).bind fun x => (x.1.dc?).bind fun l => (y.1.key?).map fun k => (.dat (.bool (if neg then !(kGet l k).isSome else (kGet l k).isSome)), x.2)
theorem kget_some {G : Hp} {kv : List (List Key × V)} {l : List (List Int × D)} (h : KvA G kv l) (k : List Int) : (valV kv (kI k)).isSome = (kGet l k).isSome := by
  have g := h.get k
  cases e : kGet l k with
  | some d => rw [e] at g; obtain ⟨u, hu, _⟩ := g; rw [hu] <;> rfl
  | none => rw [e] at g; rw [g] <;> rfl
theorem de_din {td tk : TE} {md mk : MV} (hk : DE tk mk) (hd : DE td md) : DE (tDIn tk td) (mDIn false mk md) := by
  intro G0 H0 pa G H σ ρ pt r pt' Q R e q
  obtain ⟨⟨r1, p1⟩, e1, e⟩ := bnd e
  obtain ⟨⟨r2, p2⟩, e2, e⟩ := bnd e
  obtain ⟨l, e3, e⟩ := bnd e
  obtain ⟨k, e4, e⟩ := mpd e
  cases e
  refine hk R e1 fun v G1 H1 x1 q1 k1 => hd (R.ext x1 q1) e2 fun w G2 H2 x2 q2 k2 => ?_
  have P := (R.ext (x1.trans x2) q2).PG
  obtain ⟨a, kv, rfl, na, ha, ka⟩ := (Res.vw (R.ext x1 q1) k2).dc P e3
  obtain ⟨b, rfl, hb⟩ := ((Res.vw R k1).ext x2).key P e4
  exact ⟨a, _, rfl, (.inr ⟨_, _, _, ha, rfl, hb, rfl⟩), by rw [kget_some ka]; exact q _ _ _ (x1.trans x2) q2 (.bl _)⟩
theorem de_dnotin {td tk : TE} {md mk : MV} (hk : DE tk mk) (hd : DE td md) : DE (tDNotIn tk td) (mDIn true mk md) := by
  intro G0 H0 pa G H σ ρ pt r pt' Q R e q
  obtain ⟨⟨r1, p1⟩, e1, e⟩ := bnd e
  obtain ⟨⟨r2, p2⟩, e2, e⟩ := bnd e
  obtain ⟨l, e3, e⟩ := bnd e
  obtain ⟨k, e4, e⟩ := mpd e
  cases e
  refine hk R e1 fun v G1 H1 x1 q1 k1 => hd (R.ext x1 q1) e2 fun w G2 H2 x2 q2 k2 => ?_
  have P := (R.ext (x1.trans x2) q2).PG
  obtain ⟨a, kv, rfl, na, ha, ka⟩ := (Res.vw (R.ext x1 q1) k2).dc P e3
  obtain ⟨b, rfl, hb⟩ := ((Res.vw R k1).ext x2).key P e4
  exact ⟨a, _, rfl, (.inr ⟨_, _, _, ha, rfl, hb, rfl⟩), by rw [kget_some ka]; exact q _ _ _ (x1.trans x2) q2 (.bl _)⟩
/-- d[k] = v, d a name -/
def bDPut (i : Nat) (mk mv : MV) : MB := fun ρ pt => (mv ρ pt).bind fun x => (x.1.fix?).bind fun d => (mk ρ x.2).bind fun y => (y.1.key?).bind fun k => match ρ[i]? with
  | some (.dic l) => if l.length < sizeLine then some (.nx (ρ.set i (.dic (kPut l k d))) y.2) else none
  | _ => none
theorem db_dput {i : Nat} {tk tv : TE} {mk mv : MV} (hk : DE tk mk) (hv : DE tv mv) : DB (sDPut (tVar i) tk tv) (bDPut i mk mv) := by
  intro G0 H0 pa G H σ ρ pt o E R e q
  obtain ⟨⟨r1, p1⟩, e1, e⟩ := bnd e
  obtain ⟨d, e2, e⟩ := bnd e
  obtain ⟨⟨r2, p2⟩, e3, e⟩ := bnd e
  obtain ⟨k, e4, e⟩ := bnd e
  cases hs : ρ[i]? with
  | none => simp only [hs] at e; cases e
  | some s =>
    simp only [hs] at e
    cases s with
    | dic l =>
      simp only at e
      split at e
      · rename_i hz
        cases e
        refine hv R e1 fun v G1 H1 x1 q1 k1 => ?_
        obtain ⟨G2, s2, x2, k2⟩ := k1.fix x1 e2
        have R2 := R.ext x2 q1
        obtain ⟨a, kv, ea, h0, g, ha, ka⟩ := R2.dicAt hs
        refine ⟨_, ea, hk R2 e3 fun w G3 H3 x3 q3 k3 => ?_⟩
        have R3 := R2.ext x3 q3
        obtain ⟨b, rfl, hb⟩ := (Res.vw R2 k3).key R3.PG e4
        obtain ⟨a', kv3, ea3, a3, ga3, ha3, ka3⟩ := R3.dicAt hs
        have := slot_same ea ea3
        subst this
        refine ⟨a', _, rfl, DPut.t ha3 hb (by rw [ka3.length]; exact hz), ?_⟩
        exact q σ G3 _ (R3.mutD hs ea a3 ga3 (ka3.put k (k2.mono x3.g))) (x2.g.trans x3.g)
      · cases e
    | _ => cases e
/-! ### the pot -/
def bPotSet (i k : Nat) (me : MV) : MB := fun ρ pt => match ρ[i]? with
  | some .pot => (me ρ pt).bind fun x => (x.1.int?).bind fun n => if k < x.2.length then some (.nx ρ (x.2.set k n)) else none
  | _ => none
theorem db_potset {i k : Nat} {te : TE} {me : MV} (h : DE te me) : DB (tAsg te (gSub (tVar i) (tC (.int (k : Int))) rSetL)) (bPotSet i k me) := by
  intro G0 H0 pa G H σ ρ pt o E R e q
  unfold bPotSet at e
  cases hs : ρ[i]? with
  | none => rw [hs] at e; cases e
  | some s =>
    rw [hs] at e
    cases s with
    | pot =>
      obtain ⟨⟨r1, p1⟩, e1, e⟩ := bnd e
      obtain ⟨n, e2, e⟩ := bnd e
      split at e
      · rename_i hk
        cases e
        obtain ⟨p, ep, ev⟩ := R.slot i _ hs
        refine h R e1 fun v G1 H1 x1 q1 k1 => ?_
        have R1 := R.ext x1 q1
        have hv := (Res.vw R k1).int e2
        subst hv
        have hp := q1 p ep
        refine ⟨.ref p, ev, p, p1.map V.int, (k : Int), k, rfl, rfl, hp, ?_, ?_⟩
        · unfold ixN
          have hk' : k < p1.length := hk
          rw [List.length_map, if_pos (Int.natCast_nonneg k), if_pos (Int.ofNat_lt.mpr hk'), Int.toNat_natCast]
        · have gp : G1 p = none := R1.potG ep
          have hm : ∀ u, H1 p = some u → Pl u := fun u hu => by rw [hp] at hu; cases hu; trivial
          have x3 : Ext pa G1 H1 G1 (upd H1 p (.lst ((p1.set k n).map V.int))) := by
            refine ⟨Same.refl _, fun b u e => ?_, fun b u e n' => ?_, fun b u e => .inl e, fun b u e pu => ?_, fun b e => ?_, fun n => n, fun t => tabs_put hm t⟩
            · rw [upd_ne (ne_of_none e gp)]; exact x1.gh b u e
            · rw [upd_ne (fun z => n'.1 (by rw [ep, z]))]; exact e
            · by_cases c : b = p
              · subst c; exact ⟨_, upd_same, trivial⟩
              · exact ⟨u, by rw [upd_ne c]; exact e, pu⟩
            · by_cases c : b = p
              · subst c; exact (e.no upd_same).elim
              · exact fun u q => e u (by rw [upd_ne c]; exact q)
          have es : ((p1.map V.int).set k (V.int n)) = (p1.set k n).map V.int := by rw [List.map_set]
          rw [es]
          refine q σ G1 _ (R1.ext x3 fun p' e' => ?_) x1.g
          rw [ep] at e'
          cases e'
          exact upd_same
      · cases e
    | _ => cases e
/-! ### defs -/
def startR (N : List Str) (ds : List D) : List Sl := ds.map .dat ++ List.replicate (N.length - ds.length) .un
def startP (N : List Str) (ds : List D) : List Sl := .pot :: (ds.map .dat ++ List.replicate (N.length - (ds.length + 1)) .un)
theorem slots_dat {G : Hp} : ∀ {vs : List V} {ds : List D}, IsA G vs ds → ∀ (i : Nat) (d : D), ds[i]? = some d → ∃ x, vs[i]? = some x ∧ Is G x d := fun k i d e => k.get e
theorem Rep.start {G H : Hp} {vs : List V} {ds : List D} (N : List Str) (s : GS G H) (k : IsA G vs ds) : Rep G H muT G H (L2.start N vs) (startR N ds) [] := by
  have hl := k.length
  refine ⟨Ext.refl s.same, fun p e => by simp at e, fun p e => by simp at e, s.nt, s.tb, rfl, ?_, fun i t e => ?_, fun i j a h1 h2 e1 e2 => ?_⟩
  · unfold L2.start startR
    simp [hl]
  · unfold startR at e
    unfold L2.start
    by_cases hi : i < ds.length
    · rw [List.getElem?_append_left (by simpa using hi), List.getElem?_map] at e
      obtain ⟨d, e1, rfl⟩ := mpd e
      obtain ⟨x, hx, ix⟩ := k.get e1
      rw [List.getElem?_append_left (by simpa [hl] using hi), List.getElem?_map, hx]
      exact ⟨x, rfl, ix⟩
    · rw [List.getElem?_append_right (by simpa using hi), List.getElem?_replicate] at e
      split at e
      · cases e; trivial
      · cases e
  · exfalso
    unfold startR at h1
    by_cases hi : i < ds.length
    · rw [List.getElem?_append_left (by simpa using hi), List.getElem?_map] at h1
      cases hd : ds[i]? with
      | none => rw [hd] at h1; exact h1
      | some d => rw [hd] at h1; exact h1
    · rw [List.getElem?_append_right (by simpa using hi), List.getElem?_replicate] at h1
      split at h1 <;> exact h1
theorem Rep.startP {G H : Hp} {vs : List V} {ds : List D} {p : Addr} {pt : List Int} (N : List Str) (s : GS G H) (g : G p = none) (h : H p = some (.lst (pt.map V.int))) (k : IsA G vs ds) : Rep G H (muP p) G H (L2.start N (.ref p :: vs)) (Pd.startP N ds) pt := by
  have hl := k.length
  refine ⟨Ext.refl s.same, fun q e => by cases e; exact h, fun q e => by cases e; exact ⟨g, _, h, trivial⟩, s.nt, s.tb, rfl, ?_, fun i t e => ?_, fun i j a h1 h2 e1 e2 => ?_⟩
  · unfold L2.start Pd.startP
    simp [hl]
  · unfold Pd.startP at e
    unfold L2.start
    cases i with
    | zero => cases e; exact ⟨p, rfl, rfl⟩
    | succ i =>
      rw [List.getElem?_cons_succ] at e
      rw [List.map_cons, List.cons_append, List.getElem?_cons_succ]
      by_cases hi : i < ds.length
      · rw [List.getElem?_append_left (by simpa using hi), List.getElem?_map] at e
        obtain ⟨d, e1, rfl⟩ := mpd e
        obtain ⟨x, hx, ix⟩ := k.get e1
        rw [List.getElem?_append_left (by simpa [hl] using hi), List.getElem?_map, hx]
        exact ⟨x, rfl, ix⟩
      · rw [List.getElem?_append_right (by simpa using hi), List.getElem?_replicate] at e
        split at e
        · cases e; trivial
        · cases e
  · exfalso
    unfold Pd.startP at h1
    cases i with
    | zero => exact h1
    | succ i =>
      rw [List.getElem?_cons_succ] at h1
      by_cases hi : i < ds.length
      · rw [List.getElem?_append_left (by simpa using hi), List.getElem?_map] at h1
        cases hd : ds[i]? with
        | none => rw [hd] at h1; exact h1
        | some d => rw [hd] at h1; exact h1
      · rw [List.getElem?_append_right (by simpa using hi), List.getElem?_replicate] at h1
        split at h1 <;> exact h1
/-- what a body hands back -/
def Out.back : Out → Option (Rv × List Int)
  | .rt r pt => some (r, pt)
  | .nx _ pt => some (.dat .none, pt)
  | _ => none
/-- a def of the text that is known: where it stands, what it keeps -/
def Kn (P : Program) (w : World) (K : PySem.W.Frag) (mg : Str → Option Value) (base : Heap) (k : Nat) (x : Str) (ps : List Str) (sp : Sp) : Prop :=
  ∃ (f : Addr) (fd : FuncData), FnOk P w K mg base CX0 k f fd ps sp ∧ mg x = some (.ref f) ∧ PySem.W.keepIn K (.ref f) = true ∧ Binds K fd ps []
def Has (K : PySem.W.Frag) (mg : Str → Option Value) (x : Str) (st : Stmt) : Prop :=
  ∃ (f : Addr) (fd : FuncData), FunD K x x (defArgs st) (defBody st) (defScope st) [] [] f fd ∧ mg x = some (.ref f)
section
variable {P : Program} {w : World} {K : PySem.W.Frag} {mg : Str → Option Value} {base : Heap}
def BindH (x : Str) (st : Stmt) (ps : List Str) : Prop := ∀ (kV doc pm : Value) (an : Option Addr) (cdv ct : Value) (us : List Value), us.length = ps.length → bindArgs (PySem.W.fnOf x x (defArgs st) (defBody st) (defScope st) .none kV doc pm an cdv ct) ⟨us, []⟩ = pure (ps.zip us)
/-- a def by its body: g what it gives -/
theorem knF {x : Str} {st : Stmt} {N ps : List Str} {k : Nat} {g : List D → Option Rv} {mb : MB} (h : Has K mg x st) (S : FnScope N ps (defScope st)) (hb : BindH x st ps)
    (hbody : ∀ (f : Addr) (cdv : Value) (A : Around) (outer : List Env) (s : Shared) (H : Hp) (E : XK), Room k (A.deeper (PyProof.Rows.envOfC x (defScope st) s.heap.objs.size f cdv)) → ∃ t, PSs (cxOf CX0 P w K mg base N x (defScope st) f cdv A outer s H E).nox (defBody st) t ∧ DB t mb)
    (hg : ∀ ds r, g ds = some r → ds.length = ps.length ∧ ∃ o pt', mb (startR N ds) [] = some o ∧ o.back = some (r, pt')) : Kn P w K mg base (k + 1) x ps (spF g) := by
  obtain ⟨f, fd, F, hm⟩ := h
  refine ⟨f, fd, F.ok S (fun vs H Q E h => ?_) (fun cdv A outer s H vs Q E hr h => ?_), hm, F.kp, F.bindsN hb⟩
  · obtain ⟨G, ds, r, e, _, k, _⟩ := h
    rw [k.length]
    exact (hg ds r e).1
  · obtain ⟨G, ds, r, e, sG, k, q⟩ := h
    obtain ⟨t, ps', db⟩ := hbody f cdv A outer s H E hr
    obtain ⟨_, o, pt', e1, e2⟩ := hg ds r e
    refine ⟨t, ps'.nox, db (Rep.start N sG k) e1 ?_⟩
    cases o with
    | rt r' p => cases e2; exact fun v G' H' x _ k' => q v G' H' x k'
    | nx ρ p => cases e2; exact fun σ' G' H' R' _ => q .non G' H' R'.ex fun _ => .non
    | bk ρ p => cases e2
    | ct ρ p => cases e2
theorem knP {x : Str} {st : Stmt} {N ps : List Str} {k : Nat} {g : List D → List Int → Option (Rv × List Int)} {mb : MB} (h : Has K mg x st) (S : FnScope N ps (defScope st)) (hb : BindH x st ps)
    (hbody : ∀ (f : Addr) (cdv : Value) (A : Around) (outer : List Env) (s : Shared) (H : Hp) (E : XK), Room k (A.deeper (PyProof.Rows.envOfC x (defScope st) s.heap.objs.size f cdv)) → ∃ t, PSs (cxOf CX0 P w K mg base N x (defScope st) f cdv A outer s H E).nox (defBody st) t ∧ DB t mb)
    (hg : ∀ ds pt r pt', g ds pt = some (r, pt') → ds.length + 1 = ps.length ∧ ∃ o, mb (startP N ds) pt = some o ∧ o.back = some (r, pt')) : Kn P w K mg base (k + 1) x ps (spP g) := by
  obtain ⟨f, fd, F, hm⟩ := h
  refine ⟨f, fd, F.ok S (fun vs H Q E h => ?_) (fun cdv A outer s H vs Q E hr h => ?_), hm, F.kp, F.bindsN hb⟩
  · obtain ⟨G, p, ws, pt, ds, r, pt', rfl, e, _, _, _, k, _⟩ := h
    rw [List.length_cons, k.length]
    exact (hg ds pt r pt' e).1
  · obtain ⟨G, p, ws, pt, ds, r, pt', rfl, e, sG, gp, hp, k, q⟩ := h
    obtain ⟨t, ps', db⟩ := hbody f cdv A outer s H E hr
    obtain ⟨_, o, e1, e2⟩ := hg ds pt r pt' e
    refine ⟨t, ps'.nox, db (Rep.startP N sG gp hp k) e1 ?_⟩
    cases o with
    | rt r' p' => cases e2; exact fun v G' H' x qp k' => q v G' H' x (qp p rfl) k'
    | nx ρ p' => cases e2; exact fun σ' G' H' R' _ => q .non G' H' R'.ex (R'.pot p rfl) fun _ => .non
    | bk ρ p' => cases e2
    | ct ρ p' => cases e2
/-- a call of such a def -/
theorem Kn.call {X : Cx} {k j : Nat} {x : Str} {ps : List Str} {sp : Sp} {e : Expr} {es : List Expr} {t : TA} {p pos : Pos} (h : Kn X.prog X.w X.K X.mg X.base k x ps sp) (hr : Room j X.A) (hkj : k ≤ j) (hg : Gl X x) (ha : PA X (e :: es) t)
    (hdb : (x == ("__debug__" : Str)) = false := by decide) (he : starEach (e :: es) X.env = (false, eval e X.env) :: starEach es X.env := by rfl) (hpl : (backTo pos (starEach es X.env)).any (·.1) = false := by rfl) : PE X (.Call (.Name x p) (e :: es) [] pos) (tCall sp [] E0 t) := by
  obtain ⟨f, fd, F, hm, hk, hb⟩ := h
  exact pe_call F (hr.mono hkj) hg hm hk hb .nil pass0 ha hdb he hpl
end
end Pd
end
section
set_option Elab.async false
set_option linter.all false
set_option maxRecDepth 100000
/-! Pd4: walks over lists and tuples alike, chained comparisons. -/
namespace Pd
open PySem PySem.Spec L2 RZ
variable [TB]

/-- what is walked is a list or a tuple -/
def iSeq (K : PySem.W.Frag) (tl : TE) : TI := fun σ H R => tl σ H fun x H1 => ∃ a, x = .ref a ∧ (((∃ xs, SqL K H1 a xs) ∧ R (Itl K a) H1) ∨ ((∃ xs, SqT K H1 a xs) ∧ R (Itt K a) H1))
theorem pi_seq {X : Cx} {tg l : Expr} {tl : TE} (hl : PE X l tl) : PI X tg l (iSeq X.K tl) := by
  refine ⟨fun pins s σ H R I h => ?_⟩
  refine thn (hl.run pins s σ H _ I h) fun v s1 hv => ?_
  obtain ⟨x, H1, I1, r1, a, ex, q⟩ := hv
  subst ex
  cases r1
  have fresh : ∀ b ∈ [s1.heap.objs.size], FpOk X pins H1 b := fun b hb => by
    have e : b = s1.heap.objs.size := by simpa using hb
    subst e
    exact I1.fpOk (Nat.le_refl _) (I1.hok.fresh (Nat.le_refl _))
  rcases q with ⟨⟨xs, hq⟩, q⟩ | ⟨⟨xs, hq⟩, q⟩
  · obtain ⟨its, rv, p, hz⟩ := I1.list hq
    refine PySem.wpAny_pyIter_list p.isList ?_
    exact ⟨s1.heap.objs.size, [s1.heap.objs.size], _, _, H1, rfl, I1.kept (t' := s1.toks) fun b o e => Heap.get?_push_of_some _ e, turn_list a _, ⟨_, Heap.get?_push_size _ rfl, rfl, rfl⟩, fresh, q⟩
  · obtain ⟨its, rv, p, hz⟩ := I1.tuple hq
    refine PySem.wpAny_pyIter_tuple (show s1.heap.IsTuple a its.toArray from p) ?_
    exact ⟨s1.heap.objs.size, [s1.heap.objs.size], _, _, H1, rfl, I1.kept (t' := s1.toks) fun b o e => Heap.get?_push_of_some _ e, turn_tuple a _, ⟨_, Heap.get?_push_size _ rfl, rfl, rfl⟩, fresh, q⟩
def mSeq (ml : MV) : ML := fun ρ pt => (ml ρ pt).bind fun x => (x.1.sq?).map fun l => (l, x.2)
def seqD : D → Option (List D)
  | .list l => some l
  | .tuple l => some l
  | _ => none
def mSeqF (ml : MV) : ML := fun ρ pt => (ml ρ pt).bind fun x => (x.1.fix?).bind fun d => (seqD d).map fun l => (l, x.2)
section
variable {K : PySem.W.Frag} {te ta tb tc : TE} {me ma mb mc : MV}
theorem wk_list {pa : Mu} {G1 H1 : Hp} {a : Addr} {vs : List V} {ds : List D} (n : pa.p ≠ some a) (ha : H1 a = some (.lst vs)) (i : IsA G1 vs ds) : WkC pa G1 H1 (Itl K a) ds := by
  refine ⟨fun j d G2 H2 x2 P2 e3 => ?_, fun j G2 H2 x2 P2 e3 => ⟨vs, SqL.of (x2.hv a _ ha n), by rw [i.length]; exact e3⟩⟩
  have ha2 := x2.hv a _ ha n
  obtain ⟨y, hy, iy⟩ := i.get e3
  refine ⟨⟨vs, y, SqL.of ha2, hy⟩, fun x H' hx => ?_⟩
  obtain ⟨rfl, hx⟩ := hx
  have e4 := hx vs (SqL.of ha2)
  rw [hy] at e4
  cases e4
  exact ⟨G2, Ext.refl P2.gh, iy.mono x2.g⟩
theorem wk_listF {pa : Mu} {G1 : Hp} {a : Addr} {vs : List V} {ds : List D} (hg : G1 a = some (.lst vs)) (i : IsA G1 vs ds) : WkF pa G1 (Itl K a) ds := by
  refine ⟨fun j d G3 H3 s3 P3 e3 => ?_, fun j G3 H3 s3 P3 e3 => ⟨vs, SqL.of (P3.gh _ _ (s3 _ _ hg)), by rw [i.length]; exact e3⟩⟩
  have ha2 := P3.gh _ _ (s3 _ _ hg)
  obtain ⟨y, hy, iy⟩ := i.get e3
  refine ⟨⟨vs, y, SqL.of ha2, hy⟩, fun x H' hx => ?_⟩
  obtain ⟨rfl, hx⟩ := hx
  have e4 := hx vs (SqL.of ha2)
  rw [hy] at e4
  cases e4
  exact ⟨G3, Ext.refl P3.gh, iy.mono s3⟩
theorem wk_tupF {pa : Mu} {G1 : Hp} {a : Addr} {vs : List V} {ds : List D} (hg : G1 a = some (.tup vs)) (i : IsA G1 vs ds) : WkF pa G1 (Itt K a) ds := by
  refine ⟨fun j d G3 H3 s3 P3 e3 => ?_, fun j G3 H3 s3 P3 e3 => ⟨vs, SqT.of (P3.gh _ _ (s3 _ _ hg)), by rw [i.length]; exact e3⟩⟩
  have ha2 := P3.gh _ _ (s3 _ _ hg)
  obtain ⟨y, hy, iy⟩ := i.get e3
  refine ⟨⟨vs, y, SqT.of ha2, hy⟩, fun x H' hx => ?_⟩
  obtain ⟨rfl, hx⟩ := hx
  have e4 := hx vs (SqT.of ha2)
  rw [hy] at e4
  cases e4
  exact ⟨G3, Ext.refl P3.gh, iy.mono s3⟩
theorem di_seq (h : DE te me) : DI (iSeq K te) (mSeq me) := by
  intro G0 H0 pa G H σ ρ pt ds pt' Q R e q
  obtain ⟨⟨r, p1⟩, e1, e⟩ := bnd e
  obtain ⟨l, e2, e⟩ := mpd e
  cases e
  refine h R e1 fun v G1 H1 x1 q1 k1 => ?_
  have P := (R.ext x1 q1).PG
  have kv := Res.vw R k1
  unfold Rv.sq? at e2
  cases el : r.ls? with
  | some l' =>
    rw [el] at e2
    cases e2
    obtain ⟨a, vs, rfl, n, ha, i⟩ := kv.ls P el
    exact ⟨a, rfl, .inl ⟨⟨vs, SqL.of ha⟩, q _ G1 H1 x1 q1 (wk_list n ha i)⟩⟩
  | none =>
    rw [el] at e2
    obtain ⟨a, vs, rfl, hg, i⟩ := kv.tp e2
    exact ⟨a, rfl, .inr ⟨⟨vs, SqT.of (x1.gh _ _ hg)⟩, q _ G1 H1 x1 q1 (wk_tupF hg i).c⟩⟩
theorem dif_seq (h : DE te me) : DIF (iSeq K te) (mSeqF me) := by
  intro G0 H0 pa G H σ ρ pt ds pt' Q R e q
  obtain ⟨⟨r, p1⟩, e1, e⟩ := bnd e
  obtain ⟨d, e2, e⟩ := bnd e
  obtain ⟨l, e3, e⟩ := mpd e
  cases e
  refine h R e1 fun v G1 H1 x1 q1 k1 => ?_
  obtain ⟨G2, s2, x2, k2⟩ := k1.fix x1 e2
  cases k2 with
  | lst hg i => cases e3; exact ⟨_, rfl, .inl ⟨⟨_, SqL.of (x2.gh _ _ hg)⟩, q _ G2 H1 x2 q1 (wk_listF hg i)⟩⟩
  | tup hg i => cases e3; exact ⟨_, rfl, .inr ⟨⟨_, SqT.of (x2.gh _ _ hg)⟩, q _ G2 H1 x2 q1 (wk_tupF hg i)⟩⟩
  | _ => cases e3
/-- a < b < c -/
def mChain (f g : Rv → Rv → Option Rv) (ma mb mc : MV) : MV := fun ρ pt => (ma ρ pt).bind fun x => (mb ρ x.2).bind fun y => (f x.1 y.1).bind fun z => (z.bool?).bind fun k => if k = true then (mc ρ y.2).bind fun w => (g y.1 w.1).map fun u => (u, w.2) else some (.dat (.bool false), y.2)
theorem de_chain {r s : R2} {f g : Rv → Rv → Option Rv} (hr : DR r f) (hs : DR s g) (ha : DE ta ma) (hb : DE tb mb) (hc : DE tc mc) : DE (tChain r s ta tb tc) (mChain f g ma mb mc) := by
  intro G0 H0 pa G H σ ρ pt z pt' Q R e q
  obtain ⟨⟨a, p1⟩, e1, e⟩ := bnd e
  obtain ⟨⟨b, p2⟩, e2, e⟩ := bnd e
  obtain ⟨c, e3, e⟩ := bnd e
  obtain ⟨k, e4, e⟩ := bnd e
  refine ha R e1 fun v G1 H1 x1 q1 k1 => hb (R.ext x1 q1) e2 fun w G2 H2 x2 q2 k2 => ?_
  have R2 := R.ext (x1.trans x2) q2
  have kw := Res.vw (R.ext x1 q1) k2
  refine hr R2.PG ((Res.vw R k1).ext x2) kw e3 fun u G3 H3 x3 k3 => ?_
  have k3' := k3 H0
  refine ⟨k, (Res.vw R2 k3').bool e4, ?_⟩
  have R3 := R2.ext x3.any (q2.ext x3)
  have xx := (x1.trans x2).trans x3.any
  cases k with
  | false =>
    cases e
    exact iteF (q _ _ _ xx (q2.ext x3) (.bl false))
  | true =>
    have e : (mc ρ p2).bind _ = some (z, pt') := e
    obtain ⟨⟨d, p3⟩, e5, e⟩ := bnd e
    obtain ⟨y, e6, e⟩ := mpd e
    cases e
    refine iteT (hc R3 e5 fun w' G4 H4 x4 q4 k4 => ?_)
    have R4 := R3.ext x4 q4
    refine hs R4.PG (kw.ext (x3.any.trans x4)) (Res.vw R3 k4) e6 fun u' G5 H5 x5 k5 => ?_
    exact q _ _ _ ((xx.trans x4).trans x5.any) (q4.ext x5) ((k5 H0).back fun a h => (xx.trans x4).pn a h)
end
end Pd
end
section
set_option Elab.async false
set_option linter.all false
set_option maxRecDepth 100000
/-! Pd5: sorted, of data of any depth, the empty tuple too; by a key. -/
namespace Pd
open PySem PySem.Spec PySem.Calls PySem.SeqAt PySem.W PyProof.Rows L2

/-! ### sort's own test, on tuples -/
section
variable {prog : Program} {w : World} {A : Around} {E : Value → Shared → Prop} {s : Shared}
theorem call_tupLt {Q : Value → Shared → Prop} {l b : Addr} {items items2 : Array Value} {e r : Nat → Bool} (hl : s.heap.IsTuple l items) (hb : s.heap.IsTuple b items2)
    (he : ∀ j (h1 : j < items.size) (h2 : j < items2.size), EqAt A.in1 s items[j] items2[j] (e j)) (hr : ∀ j (h1 : j < items.size) (h2 : j < items2.size), e j = false → RcLt A.in1 s items[j] items2[j] (r j))
    (h : Q (.bool (firstLt e r (decide (items.size < items2.size)) (List.range (min items.size items2.size)))) s) : wpAny (model prog w) A (call (.builtin "tuple.__lt__") [.ref l, .ref b]) Q E s := by
  obtain ⟨⟨c1, d1, t1, z1⟩, g1, e1, n1, f1⟩ := id hl
  obtain ⟨⟨c2, d2, t2, z2⟩, g2, e2, n2, f2⟩ := id hb
  simp only at e1 f1 e2 f2
  subst e1 f1 e2 f2
  exact call_meets F.slot_tuple_lt ⟨_, g1, rfl⟩ F.entry_tuple_lt (F.args_tuple_lt_2 _ _) (tuple_ltAt l b items items2 n1 n2 d1 d2 z1 z2 e r) ⟨g1, g2, he, hr, h⟩
/-- sort's test of one type (f) or of any -/
theorem oneLt_any {f : Bool} {da db : PyData} {a b : Value} {as bs : List Addr} {Q : Bool → Shared → Prop} (ra : Reads s.heap a da as) (rb : Reads s.heap b db bs) (h : alike da db = true) (hn : da ≠ .none)
    (hu : A.units + min da.depth db.depth < cLine) (hq : Q (dataLt da db) s) : wpAny (model prog w) A (oneLt' f a b) Q E s := by
  by_cases ht : f = true ∧ ∃ xs, da = .tuple xs
  · obtain ⟨rfl, xs, rfl⟩ := ht
    cases db with
    | tuple ys =>
      have al : alikeAll xs ys = true := by simpa only [alike] using h
      cases ra with
      | @tuple l o vs n _ _ h1 h2 h3 h4 =>
        cases rb with
        | @tuple l' o' vs' n' _ _ k1 k2 k3 k4 =>
          have m1 : vs.size = xs.length := by simpa using SeqAt.ReadsAll.length _ _ _ h4
          have m2 : vs'.size = ys.length := by simpa using SeqAt.ReadsAll.length _ _ _ k4
          rw [dataLt_tuple, ← firstLt_toks xs ys al, ← m1, ← m2] at hq
          rw [oneLt'_eq]
          simp only [if_true]
          refine wpAny_bind (wpAny_cRoomFor (room_here hu) ?_)
          refine wpAny_bind (wpAny_callSpecialIfBound?_slot (T := "tuple") ⟨_, h1, h2⟩ F.slot_tuple_lt (call_tupLt (e := pairEq xs ys) (r := fun j => dataLt (xs.getD j .none) (ys.getD j .none)) ⟨_, h1, h2, _, h3⟩ ⟨_, k1, k2, _, k3⟩ (fun j j1 j2 => ?_) (fun j j1 j2 hj => ?_) ?_))
          · have q := eqAt_alikeAll xs ys A.in1 s vs.toList vs'.toList _ _ h4 k4 al (room_in hu) j (by simpa using j1) (by simpa using j2)
            simpa using q
          · have q := rcLt_alikeAll xs ys A.in1 s vs.toList vs'.toList _ _ h4 k4 al (room_in hu) j (by simpa using j1) (by simpa using j2) hj
            simpa using q
          · exact wpAny_truthy_bool hq
    | _ => exact absurd h (by simp [alike])
  · exact oneLt_alike (fun hf xs e => ht ⟨hf, xs, e⟩) ra rb h hn hu hq
/-- the firsts of tuples: where all are there, no tuple is empty -/
theorem firsts_each : ∀ {vs : List Value} {ds : List PyData}, EachIs (fun v d => ∃ as, Reads s.heap v d as) vs ds → (∀ d ∈ ds, ∃ xs, d = PyData.tuple xs) →
    ∃ fs : List (Option Value), (∀ (E : Value → Shared → Prop) (Q : List (Option Value) → Shared → Prop), Q fs s → wpAny (model prog w) A (vs.mapM firstOfTuple') Q E s) ∧ ((∀ o ∈ fs, o.isSome = true) → ∀ d ∈ ds, d ≠ .tuple [])
  | _, _, .nil, _ => ⟨[], fun E Q hq => by rw [List.mapM_nil]; exact wpAny_pure hq, fun _ d h => nomatch h⟩
  | _, _, .cons (b := d) ⟨as, r⟩ t, ht => by
    obtain ⟨fs, h3, h4⟩ := firsts_each t fun d hd => ht d (List.mem_cons_of_mem _ hd)
    obtain ⟨xs, rfl⟩ := ht d List.mem_cons_self
    cases r with
    | @tuple a o its n _ _ ho hc hd hr =>
      refine ⟨its[0]? :: fs, fun E Q hq => ?_, fun hall d' hm => ?_⟩
      · rw [List.mapM_cons]
        refine wpAny_bind ?_
        rw [kas_first_eq]
        refine wpAny_bind (Looks.here (show Looks _ s.heap (typeOf (.ref a)) o.cls from (Looks.ld ho).andThen .now) ?_)
        rw [hc, if_neg (by first | decide | simp)]
        exact wpAny_bind (listItems_at ho hd (wpAny_pure (wpAny_bind (h3 _ _ (wpAny_pure hq)))))
      · rcases List.mem_cons.mp hm with rfl | hm
        · intro z
          have q := hall _ List.mem_cons_self
          cases z
          have e : its.toList = [] := by
            have hl := SeqAt.ReadsAll.length _ _ _ hr
            exact List.eq_nil_of_length_eq_zero hl
          rw [← Array.getElem?_toList, e] at q
          exact absurd q (by simp)
        · exact h4 (fun o ho => hall o (List.mem_cons_of_mem _ ho)) d' hm
/-- tuples, some perhaps empty: can be sorted -/
theorem sortsAt_tups {vs : List Value} {ds : List PyData} (e : EachIs (fun v d => ∃ as, Reads s.heap v d as) vs ds) (hal : AllAlike ds) (ht : ∀ d ∈ ds, ∃ xs, d = .tuple xs) (hu : ∀ d, d ∈ ds → A.units + d.depth < cLine) : SortsAt prog w A s (dataKind s.heap ds) vs := by
  by_cases hne : ∀ d ∈ ds, ∃ x r, d = PyData.tuple (x :: r)
  · exact SortsAt.data e hal (.inl hne) hu
  have room : ∀ {d d' : PyData}, d ∈ ds → A.units + min d.depth d'.depth < cLine := fun {d d'} hd => Nat.lt_of_le_of_lt (Nat.add_le_add_left (Nat.min_le_left _ _) _) (hu d hd)
  have nn : ∀ d ∈ ds, d ≠ .none := fun d hd z => by
    obtain ⟨xs, e⟩ := ht d hd
    rw [e] at z; cases z
  have rd : ∀ v ∈ vs, ∃ xs as, Reads s.heap v (.tuple xs) as := fun v hv => by
    obtain ⟨d, hd, as, r⟩ := e.left v hv
    obtain ⟨xs, rfl⟩ := ht d hd
    exact ⟨xs, as, r⟩
  -- the test is the same, whichever of the two kinds is told
  have lt : ∀ (f : Bool) (kd : SortKind), (∀ x y, keyLt' kd x y = oneLt' f x y) → H.LtAt prog w A s (dataKind s.heap ds) kd := fun f kd hk E x y a b Q ha hb hq => by
    obtain ⟨d, as, hd, ra, rfl⟩ := dataKind_inv ha
    obtain ⟨d', as', hd', rb, rfl⟩ := dataKind_inv hb
    rw [hk]
    exact oneLt_any ra rb (hal d hd d' hd') (nn d hd) (room hd) hq
  have keys : ∀ v, v ∈ vs → ∃ a, (dataKind s.heap ds).keyOf v = some a := fun v hv => by
    obtain ⟨d, hd, as, r⟩ := e.left v hv
    exact ⟨_, dataKind_some hal hd r⟩
  obtain ⟨fs, run, nonempty⟩ := firsts_each (prog := prog) (w := w) (A := A) e ht
  have tell : ∀ (E : Value → Shared → Prop) (Q : SortKind → Shared → Prop), 2 ≤ vs.length →
      (if (fs.toArray.all (·.isSome)) = true then True else Q (if (fs.toArray[0]?.bind id).isSome = true then general' else oneType') s) → (fs.toArray.all (·.isSome)) = false → wpAny (model prog w) A (keyKind' vs.toArray) Q E s := fun E Q h2 hq hno => by
    rw [if_neg (by rw [hno]; exact Bool.false_ne_true)] at hq
    rw [keyKind'_eq, List.mapM_toArray, map_eq_pure_bind]
    refine wpAny_bind (wpAny_bind (run _ _ (wpAny_pure ?_)))
    rw [if_neg (by rw [hno]; exact Bool.false_ne_true)]
    by_cases h0 : (fs.toArray[0]?.bind id).isSome = true
    · rw [if_pos h0] at hq ⊢
      exact wpAny_pure hq
    · rw [if_neg h0] at hq ⊢
      rw [oneTypeOnly'_eq, List.mapM_toArray, map_eq_pure_bind]
      refine wpAny_bind (wpAny_bind (wpAny_bind (kas_mapM (r := Value.type "tuple") _ (fun v hv Q' hq' => ?_) (wpAny_pure ?_))))
      · obtain ⟨xs, as, r⟩ := rd v hv
        exact (show Looks _ s.heap (typeOf v) (Value.type "tuple") from looks_reads r).here hq'
      · have hall2 : ((List.map (fun _ => Value.type "tuple") vs).toArray.all fun x => x == Value.type "tuple") = true := by
          simp only [List.all_toArray, List.all_map, List.all_eq_true]
          intro _ _
          exact beq_self_eq_true _
        have h1 : (List.map (fun _ => Value.type "tuple") vs).toArray[0]? = some (Value.type "tuple") := by
          cases vs with
          | nil => simp at h2
          | cons v vs => simp
        rw [h1]
        simp only [hall2, if_true]
        exact wpAny_pure (wpAny_pure hq)
  cases hall : fs.toArray.all (·.isSome) with
  | true =>
    refine absurd (fun d hd => ?_) hne
    obtain ⟨xs, rfl⟩ := ht d hd
    cases xs with
    | cons x r => exact ⟨x, r, rfl⟩
    | nil =>
      refine absurd rfl (nonempty (fun o ho => ?_) _ hd)
      have q : fs.all (·.isSome) = true := by simpa using hall
      exact List.all_eq_true.mp q o ho
  | false =>
    by_cases h0 : (fs.toArray[0]?.bind id).isSome = true
    · exact ⟨keys, general', lt false general' (fun _ _ => rfl), fun h2 E Q hq => tell E Q h2 (by rw [hall, if_neg Bool.false_ne_true, if_pos h0]; exact hq) hall⟩
    · exact ⟨keys, oneType', lt true oneType' (fun _ _ => rfl), fun h2 E Q hq => tell E Q h2 (by rw [hall, if_neg Bool.false_ne_true, if_neg h0]; exact hq) hall⟩
end
end Pd
end
section
set_option Elab.async false
set_option linter.all false
set_option maxRecDepth 100000
namespace Pd
open PySem PySem.Spec PySem.Calls PySem.SeqAt PySem.W PyProof.Rows L2

/-- everything is kept -/
abbrev Kp (h h' : Heap) : Prop := ∀ b o, h.get? b = some o → h'.get? b = some o
section
variable {prog : Program} {w : World} {A : Around} {E : Value → Shared → Prop} {s : Shared}
/-- what is gathered of x: the values vs; all that was there is kept -/
def Gathers (prog : Program) (w : World) (A : Around) (s : Shared) (x : Value) (vs : List Value) : Prop :=
  ∀ (E : Value → Shared → Prop) (Q : List Value → Shared → Prop), (∀ s' : Shared, Kp s.heap s'.heap → s.heap.objs.size ≤ s'.heap.objs.size → s'.gens = s.gens → s'.os = s.os → Q vs s') → wpAny (model prog w) A (collect x) Q E s
theorem gathers_list {l : Addr} {vs : List Value} (hl : s.heap.IsList l vs.toArray) (hz : vs.length ≤ sizeLine) : Gathers prog w A s (.ref l) vs := fun E Q h => by
  have kp : Kp s.heap ((s.heap.push (seqObj "list" #[] 0)).update s.heap.objs.size (Obj.mapSeq (· ++ vs.toArray))) := fun b o e => by
    rw [Heap.get?_update_ne _ _ _ _ (Nat.ne_of_lt (Heap.lt_size e))]
    exact Heap.get?_push_of_some _ e
  refine collect_list hl (h _ kp ?_ rfl rfl) hz
  show _ ≤ ((s.heap.push (seqObj "list" #[] 0)).update s.heap.objs.size (Obj.mapSeq (· ++ vs.toArray))).objs.size
  rw [Heap.size_update, size_push']
  exact Nat.le_succ _
theorem gathers_src {T : String} {r d : Addr} {n : Nat} {P : Nat → Value → Prop} {OK : Heap → Prop} {vs : List Value} (K : KdlSrc prog w T r d n P OK) (hh : A.handled = none) (hok : OK s.heap) (hn : n ≤ sizeLine)
    (one : ∀ l : List Value, l.length = n → (∀ j v, l[j]? = some v → P j v) → l = vs) : Gathers prog w A s (.ref r) vs := fun E Q h => by
  unfold collect
  have hlt := K.there _ hok
  refine wpAny_bind (wpAny_runValue (codeAny_builtin F.entry_proto_collect ?_))
  rw [Around.under_plainId F.plain_proto_collect _]
  show wpAny _ A.in1 (newList [] >>= fun l => again (.builtin "list.__iadd__" ⟨[l, .ref r], []⟩)) _ _ s
  refine wpAny_bind (wpAny_newObj_type ?_)
  refine wpAny_pure ⟨plainId_quiet F.plain_list_iadd _, codeAny_builtin F.entry_list_iadd ?_⟩
  rw [Around.under_plainId F.plain_list_iadd _]
  have new : (s.heap.push { cls := .type "list", data := .seq ([] : List Value).toArray }).get? s.heap.objs.size = some { cls := .type "list", data := .seq #[] } := Heap.get?_push_size _ rfl
  show wpAny _ A.in1 (Builtin.List.listExtendWith (.ref s.heap.objs.size) (.ref r) (.ref s.heap.objs.size)) _ _ _
  let R0 : Result → Shared → Prop := fun r s' => r = .ok (.ret (.ref s.heap.objs.size)) ∧ ∃ h' tk c, s' = { s with heap := h', toks := tk } ∧ Kp s.heap h' ∧ h'.get? s.heap.objs.size = some { cls := .type "list", dict := none, data := .seq vs.toArray c, slots := #[] }
  have run := kdl_extend (R := R0) (A := A) (s := { s with heap := s.heap.push { cls := .type "list", data := .seq ([] : List Value).toArray } }) K hh (K.keep _ _ hok fun b _ o e => Heap.get?_push_of_some _ e) _ (Nat.ne_of_gt hlt.1) (Nat.ne_of_gt hlt.2) (.ref s.heap.objs.size) 0 new (fun h' tk acc c kp hS it => ?_) hn
  · have last : ∀ (r : Result) (s' : Shared), R0 r s' → r = .ok (.ret (.ref s.heap.objs.size)) ∧ wpAny (model prog w) A (do
        let o ← load s.heap.objs.size
        match o.data with
        | .seq xs _ => pure xs.toList
        | _ => unsupported "internal:collect") Q E s' := fun r s' hr => by
      obtain ⟨e, h', tk, c, rfl, kp, hS⟩ := hr
      refine ⟨e, wpAny_bind (wpAny_load hS ?_)⟩
      exact wpAny_pure (h _ kp (Nat.le_of_lt (Heap.lt_size hS)) rfl rfl)
    refine wpAny_mono run (fun fin s' hf => ?_) fun e s' hf => ?_
    · cases fin with
      | done f =>
        obtain ⟨e, q⟩ := last _ s' hf
        cases e
        exact q
      | again c' =>
        refine ⟨hf.1, codeAny_mono hf.2 fun r s2 hr => ?_⟩
        obtain ⟨e, q⟩ := last r s2 hr
        subst e
        exact q
    · exact absurd hf.1 (by simp)
  · have e : acc.toList = vs := one _ (by rw [Array.length_toList]; exact it.1) fun j v q => it.2 j v (by rw [← Array.getElem?_toList]; exact q)
    subst e
    exact ⟨rfl, h', tk, c, rfl, fun b o q => kp b o (Nat.ne_of_lt (Heap.lt_size q)) (Heap.get?_push_of_some _ q), by rw [Array.toArray_toList]; exact hS⟩
/-- sorted(x, ..): what is gathered, sorted by list.sort -/
theorem sorted_gen {x : Value} {vs : List Value} {kw : List (Str × Value)} {Q : Value → Shared → Prop} (g : Gathers prog w A.in1 s x vs) (hL : vs.length ≤ sizeLine) (ha1 : argsOk "sorted" ⟨[x], kw⟩) (ha2 : ∀ a, argsOk "list.sort" ⟨[.ref a], kw⟩)
    (body : ∀ (E' : Value → Shared → Prop) (s' : Shared) (a : Addr), Kp s.heap s'.heap → s'.gens = s.gens → s'.os = s.os → s.heap.objs.size ≤ a → s'.heap.get? a = some (seqObj "list" vs.toArray 0) →
      wpAny (model prog w) A.in1.in1 (Builtin.«list.sort» ⟨[.ref a], kw⟩) (fun f s'' => f = .done (.ret .none) ∧ Q (.ref a) s'') E' s') :
    wpAny (model prog w) A (call (.builtin "sorted") [x] kw) Q E s := by
  refine call_function_entry_kw kind_sorted plain_sorted entry_sorted ha1 ?_
  unfold Builtin.«sorted»
  refine wpAny_bind (m := checkCount "sorted" 1 1 _) (wpAny_pure ?_)
  refine wpAny_bind (g _ _ fun s1 k1 z1 g1 o1 => ?_)
  refine wpAny_bind (wpAny_newList ?_ hL)
  have at_ : (s1.heap.push (seqObj "list" vs.toArray 0)).get? s1.heap.objs.size = some (seqObj "list" vs.toArray 0) := Heap.get?_push_size _ rfl
  refine wpAny_bind (wpAny_holding (wpAny_call_entry_kw slot_list_sort ⟨_, at_, rfl⟩ entry_list_sort ?_ (ha2 _)))
  refine wpAny_mono (body _ { s1 with heap := s1.heap.push (seqObj "list" vs.toArray 0) } s1.heap.objs.size (fun b o q => Heap.get?_push_of_some _ (k1 b o q)) g1 o1 z1 at_) (fun f s2 hf => ?_) fun _ _ e => e
  obtain ⟨rfl, hq⟩ := hf
  exact ⟨_, rfl, wpAny_pure ⟨_, rfl, hq⟩⟩
end
end Pd
end
section
set_option Elab.async false
set_option linter.all false
set_option maxRecDepth 100000
namespace Pd
open PySem PySem.Spec PySem.Calls PySem.W PyProof.Rows L2

/-! ### sorted as a rule -/
def isTp : D → Bool
  | .tuple _ => true
  | _ => false
def isNo : D → Bool
  | .none => true
  | _ => false
/-- these can be sorted: alike, not deep, all tuples or none -/
def okSort (ds : List D) : Bool := PyData.canLayAll0 ds && (ds.all fun d => ds.all fun e => alike d e) && (ds.all fun d => decide (d.depth ≤ 60)) && ((ds.all isTp) || (ds.all fun d => !isTp d && !isNo d))
/-- values with what they are, sorted by that -/
def srtP (xs : List V) (ds : List D) : List (V × D) := (xs.zip ds).mergeSort (dataLe false (·.2))
def srtV (xs : List V) (ds : List D) : List V := (srtP xs ds).map (·.1)
theorem okSort_tell {ds : List D} (h : okSort ds = true) : AllAlike ds ∧ (∀ d ∈ ds, d.depth ≤ 60) ∧ ((∀ d ∈ ds, ∃ xs, d = PyData.tuple xs) ∨ ∀ d, d ∈ ds → d ≠ .none ∧ ∀ xs, d ≠ .tuple xs) := by
  unfold okSort at h
  simp only [Bool.and_eq_true, Bool.or_eq_true, List.all_eq_true, decide_eq_true_eq, Bool.not_eq_true'] at h
  obtain ⟨⟨⟨_, h1⟩, h2⟩, h3⟩ := h
  refine ⟨h1, h2, h3.imp (fun k d hd => ?_) fun k d hd => ?_⟩
  · have q := k d hd
    cases d with
    | tuple xs => exact ⟨xs, rfl⟩
    | _ => cases q
  · obtain ⟨a, b⟩ := k d hd
    refine ⟨fun z => ?_, fun xs z => ?_⟩
    · subst z; cases b
    · subst z; cases a
theorem okSort_lay {ds : List D} (h : okSort ds = true) : PyData.canLayAll0 ds = true := by
  unfold okSort at h
  simp only [Bool.and_eq_true] at h
  exact h.1.1.1
theorem sortsAt_ok {prog : Program} {w : World} {A : Around} {s : Shared} {vs : List Value} {ds : List PyData} (e : EachIs (fun v d => ∃ as, Reads s.heap v d as) vs ds) (h : okSort ds = true) (hu : A.units + 60 < cLine) : SortsAt prog w A s (dataKind s.heap ds) vs := by
  obtain ⟨h1, h2, h3⟩ := okSort_tell h
  have hu' : ∀ d, d ∈ ds → A.units + d.depth < cLine := fun d hd => by have := h2 d hd; omega
  rcases h3 with h3 | h3
  · exact sortsAt_tups e h1 h3 hu'
  · exact SortsAt.data e h1 (.inr h3) hu'
theorem each_reads {h : Heap} {vs : List Value} {ds : List PyData} {as : List Addr} (r : ReadsAll h vs ds as) : EachIs (fun v d => ∃ as, Reads h v d as) vs ds := by
  have r' : ReadsAll h vs (ds.map id) as := by rw [List.map_id]; exact r
  exact readsAll_each id r'
theorem each_zip : ∀ {xs : List V} {vs : List Value} {ds : List D}, Vals xs vs → xs.length = ds.length → EachIs (fun (u : Value) (p : V × D) => RelV p.1 u) vs (xs.zip ds)
  | _, _, _, .nil, _ => .nil
  | _, _, [], .cons _ _, h => by simp at h
  | _, _, d :: ds, .cons r t, h => .cons r (each_zip t (by simpa using h))
theorem each_zipR {h : Heap} : ∀ {xs : List V} {vs : List Value} {ds : List D}, EachIs (fun v d => ∃ as, Reads h v d as) vs ds → xs.length = ds.length → EachIs (fun (u : Value) (p : V × D) => ∃ as, Reads h u p.2 as) vs (xs.zip ds)
  | [], _, _, .nil, _ => .nil
  | _ :: _, _, _, .nil, h => by simp at h
  | [], _, _, .cons _ _, h => by simp at h
  | x :: xs, _, _, .cons r t, h => .cons r (each_zipR t (by simpa using h))
theorem zip_snd : ∀ {xs : List V} {ds : List D}, xs.length = ds.length → (xs.zip ds).map (·.2) = ds
  | [], [], _ => rfl
  | [], _ :: _, h => by simp at h
  | _ :: _, [], h => by simp at h
  | x :: xs, d :: ds, h => by
    rw [List.zip_cons_cons, List.map_cons, zip_snd (by simpa using h)]
theorem each_vals : ∀ {out : List Value} {ps : List (V × D)}, EachIs (fun (u : Value) (p : V × D) => RelV p.1 u) out ps → Vals (ps.map (·.1)) out
  | _, _, .nil => .nil
  | _, _, .cons r t => .cons r (each_vals t)
section
variable {X : Cx} {pins : List (Addr × Obj)} {σ : L2.St} {H : Hp} {s : Shared}
theorem inv_grow (I : Inv X pins σ H s) {s' : Shared} (kp : Kp s.heap s'.heap) (hg : s'.gens = s.gens) (ho : s'.os = s.os) : Inv X pins σ H s' :=
  I.call' (ch := []) ho (Un.kept kp) (I.hok.kept kp) (by rw [hg]; exact I.bare) fun b z => nomatch z
theorem inv_growL (I : Inv X pins σ H s) {s' : Shared} {a : Addr} {o : HO} (kp : Kp s.heap s'.heap) (hg : s'.gens = s.gens) (ho : s'.os = s.os) (ha : s.heap.objs.size ≤ a) (new : ObjOk X.prog X.w (upd H a o) s'.heap a o) : Inv X pins σ (upd H a o) s' :=
  I.call' (ch := []) ho (Un.laid kp ha (I.hok.fresh ha)) (I.hok.laid kp ha new) (by rw [hg]; exact I.bare) fun b z => nomatch z
theorem sort_core {xv : Value} {its : List Value} {xs : List V} {ds : List D} {Q : VK} (I : Inv X pins σ H s) (g : Gathers X.prog X.w X.A.in1 s xv its) (rv : Vals xs its) (rd : ∃ as, ReadsAll s.heap its ds as)
    (ok : okSort ds = true) (hz : xs.length ≤ sizeLine) (ha1 : argsOk "sorted" ⟨[xv], []⟩) (hu : X.A.units + 64 < cLine) (q : ∀ p, H p = none → Q (.ref p) (upd H p (.lst (srtV xs ds)))) :
    wpAny (model X.prog X.w) X.A (call (.builtin "sorted") [xv]) (EP X pins σ Q) X.xe s := by
  obtain ⟨as, rd⟩ := rd
  have hl : xs.length = ds.length := by rw [rv.length]; exact SeqAt.ReadsAll.length _ _ _ rd
  have hz' : its.length ≤ sizeLine := by rw [← rv.length]; exact hz
  refine sorted_gen (kw := []) g hz' ha1 (fun a => args_list_sort _) fun E' s' a kp hg ho ha hat => ?_
  have kq : Kp s.heap (sortingHeap s'.heap a its) := fun b o e => sortingHeap_old (Nat.ne_of_lt (Nat.lt_of_lt_of_le (Heap.lt_size e) ha)) (kp b o e)
  have er : EachIs (fun v d => ∃ as, Reads (sortingHeap s'.heap a its) v d as) its ds := (each_reads rd).mono fun v d ⟨bs, r⟩ => ⟨bs, PyProof.Rows.Reads.keeps kq r⟩
  have S : SortsAt X.prog X.w X.A.in1.in1 { s' with heap := sortingHeap s'.heap a its } (dataKind (sortingHeap s'.heap a its) ds) its :=
    sortsAt_ok (s := { s' with heap := sortingHeap s'.heap a its }) er ok (by show X.A.units + 1 + 1 + 60 < cLine; omega)
  refine list_sort_vals hat S hz' ⟨rfl, ?_⟩
  have hal : AllAlike ((xs.zip ds).map (·.2)) := by rw [zip_snd hl]; exact (okSort_tell ok).1
  have ev := sortVals_data (h' := sortingHeap s'.heap a its) (enc := fun p : V × D => p.2) false (each_zip rv hl) (each_zipR er hl) hal
  rw [zip_snd hl] at ev
  have ev2 := each_vals ev
  obtain ⟨n, hn⟩ := sortedHeap_at (vs := its) (out := (sortVals (dataKind (sortingHeap s'.heap a its) ds) false its its).toArray) hat
  have kf : Kp s.heap (sortedHeap s'.heap a its (sortVals (dataKind (sortingHeap s'.heap a its) ds) false its its).toArray) := fun b o e => by
    rw [sortedHeap_old (Nat.ne_of_lt (Nat.lt_of_lt_of_le (Heap.lt_size e) ha)) (Heap.lt_size (kp b o e))]
    exact kp b o e
  have hlen : (srtV xs ds).length ≤ sizeLine := by
    unfold srtV srtP
    rw [List.length_map, (List.mergeSort_perm _ _).length_eq, List.length_zip, ← hl, Nat.min_self]
    exact hz
  exact ⟨.ref a, upd H a (.lst (srtV xs ds)), inv_growL I kf hg ho ha ⟨hlen, _, n, ev2, hn⟩, rfl, q a (I.hok.fresh ha)⟩
def rSrt (K : PySem.W.Frag) : List V → Hp → VK → Prop := fun vs H Q => ∃ (a : Addr) (xs : List V) (ds : List D), vs = [V.ref a] ∧ SqL K H a xs ∧ DpAll K H xs ds ∧ okSort ds = true ∧ ∀ p, H p = none → Q (.ref p) (upd H p (.lst (srtV xs ds)))
theorem cr_srt (hu : X.A.units + 64 < cLine) : CallR X (.builtin "sorted") (rSrt X.K) := by
  intro pins s σ H vs us Q I r h
  obtain ⟨a, xs, ds, rfl, hs, hd, ok, q⟩ := h
  obtain rfl := Vals.ref1 r
  obtain ⟨its, rv, hl, hz⟩ := I.list hs
  exact sort_core I (gathers_list hl.isList (by rw [← rv.length]; exact hz)) rv (Dp.readsAll I ds xs its hd rv) ok hz (args_sorted1 _) hu q
/-- sorted(d), d a dict whose keys are tuples -/
def rSrtD : List V → Hp → VK → Prop := fun vs H Q => ∃ (a : Addr) (kvs : List (List Key × V)), vs = [V.ref a] ∧ Rd H a (.dT kvs) ∧
  ∀ bs, IsKeys H kvs bs → ∃ ds, okSort ds = true ∧ (∀ K, DpAll K H (bs.map V.ref) ds) ∧ ∀ p, H p = none → Q (.ref p) (upd H p (.lst (srtV (bs.map V.ref) ds)))
theorem gathers_dT {d : Addr} {kvs : List (List Key × V)} (I : Inv X pins σ H s) (hc : X.calm = true) (hd : Rd H d (.dT kvs)) : ∃ bs, IsKeys H kvs bs ∧ bs.length ≤ sizeLine ∧ Gathers X.prog X.w X.A.in1 s (.ref d) (bs.map Value.ref) := by
  obtain ⟨z, hs, ks, pr, o, es, ep, ho, hx, hdt, he, hn⟩ := (show ObjOk X.prog X.w H s.heap d (.dT kvs) from hd.ok I.hok)
  have l1 : es.size = ks.length := size_of_entries he
  have l2 : kvs.length = ks.length := Paired.length pr
  have l3 : (ks.map fun x => x.2.1).length = ks.length := List.length_map _
  refine ⟨ks.map fun x => x.2.1, isKeys_of pr, by rw [l3, ← l2]; exact z, gathers_src (kdl_raw hs hx hdt) (I.ok.hd hc) ho (by rw [l1, ← l2]; exact z) fun l hl hj => ?_⟩
  refine List.ext_getElem? fun j => ?_
  rw [List.getElem?_map, List.getElem?_map]
  cases e1 : l[j]? with
  | none =>
    have := List.getElem?_eq_none_iff.mp e1
    rw [List.getElem?_eq_none (by omega)] <;> rfl
  | some v =>
    obtain ⟨en, e2, rfl⟩ := hj j v e1
    have e3 := entry_at he j
    rw [e2] at e3
    cases e4 : ks[j]? with
    | none => rw [e4] at e3; cases e3
    | some b =>
      rw [e4] at e3
      have e5 : en = entryOfKey (tupleKind (mixKind X.prog X.w)) b := Option.some.inj e3
      rw [e5] <;> rfl
theorem cr_srtD (hc : X.calm = true) (hu : X.A.units + 64 < cLine) : CallR X (.builtin "sorted") rSrtD := by
  intro pins s σ H vs us Q I r h
  obtain ⟨a, kvs, rfl, hd, q⟩ := h
  obtain rfl := Vals.ref1 r
  obtain ⟨bs, hk, hz, g⟩ := gathers_dT I hc hd
  obtain ⟨ds, ok, dp, q⟩ := q bs hk
  have rv := vals_refs bs
  exact sort_core I g rv (Dp.readsAll I ds _ _ (dp X.K) rv) ok (by rw [List.length_map]; exact hz) (args_sorted1 _) hu q
end
end Pd
end
section
set_option Elab.async false
set_option linter.all false
set_option maxRecDepth 100000
/-! Pd6: sorted, in plain data. -/
namespace Pd
open PySem PySem.Spec PySem.W L2
variable [TB]
def srtD (ds : List D) : List D := ds.mergeSort (dataLe false id)
theorem isA_all {G : Hp} : ∀ {vs : List V} {ds : List D}, IsA G vs ds → ∀ p ∈ vs.zip ds, Is G p.1 p.2
  | _, _, .nil, p, h => nomatch h
  | _, _, .cons h t, p, m => by
    rcases List.mem_cons.mp m with rfl | m
    · exact h
    · exact isA_all t p m
theorem isA_pairs {G : Hp} : ∀ (ps : List (V × D)), (∀ p ∈ ps, Is G p.1 p.2) → IsA G (ps.map (·.1)) (ps.map (·.2))
  | [], _ => .nil
  | p :: ps, h => .cons (h p List.mem_cons_self) (isA_pairs ps fun q hq => h q (List.mem_cons_of_mem _ hq))
theorem srt_is {G : Hp} {vs : List V} {ds : List D} (k : IsA G vs ds) : IsA G (srtV vs ds) (srtD ds) := by
  have h := isA_pairs (srtP vs ds) fun p hp => isA_all k p ((List.mergeSort_perm _ _).mem_iff.mp hp)
  have e : (srtP vs ds).map (·.2) = srtD ds := by
    unfold srtP srtD
    rw [List.map_mergeSort (r := dataLe false (·.2)) (s := dataLe false id) (f := fun p : V × D => p.2) (l := vs.zip ds) fun a _ b _ => rfl, zip_snd k.length]
  rw [e] at h
  exact h
def fSorted : Rv → Option Rv := fun a => (a.ls?).bind fun l => if okSort l = true then some (.lst (srtD l)) else none
theorem dc_sorted {K : PySem.W.Frag} : DC (rSrt K) (f1 fSorted) := by
  intro pa G H xs as z Q P k e q
  match as, k, e with
  | [a], k, e =>
    obtain ⟨v, rfl, kv⟩ := k.one
    obtain ⟨l, e1, e⟩ := bnd (show (a.ls?).bind _ = some z from e)
    split at e
    · rename_i ok
      cases e
      obtain ⟨p, vs, rfl, _, h, i⟩ := kv.ls P e1
      exact ⟨p, vs, l, rfl, SqL.of h, (i.mono P.gh).dp (okSort_lay ok), ok, fun n hn => q _ _ _ (Ext.own P.gh hn) fun _ => ⟨n, _, rfl, Nw.of hn, free_G P.gh hn, upd_same, srt_is i⟩⟩
    · cases e
/-! ### a dict's keys -/
/-- the tuples at bs are taken into what stays -/
def addT (G H : Hp) : List Addr → Hp
  | [] => G
  | b :: r => fun c => match addT G H r c with
    | some o => some o
    | none => if c = b then H b else none
theorem addT_ext {G H : Hp} (s : Same G H) : ∀ (bs : List Addr), (∀ b ∈ bs, ∃ xs, H b = some (.tup xs)) → Ext mu0 G H (addT G H bs) H ∧ ∀ b ∈ bs, addT G H bs b = H b
  | [], _ => ⟨Ext.refl s, fun _ h => nomatch h⟩
  | b :: r, h => by
    obtain ⟨x, q⟩ := addT_ext s r fun c hc => h c (List.mem_cons_of_mem _ hc)
    obtain ⟨xs, hb⟩ := h b List.mem_cons_self
    have at_ : ∀ c o, addT G H (b :: r) c = some o → addT G H r c = some o ∨ (c = b ∧ H b = some o) := fun c o e => by
      show _
      have e' : (match addT G H r c with | some o => some o | none => if c = b then H b else none) = some o := e
      cases e1 : addT G H r c with
      | some u => rw [e1] at e'; exact .inl e'
      | none =>
        rw [e1] at e'
        by_cases c1 : c = b
        · rw [if_pos c1] at e'; exact .inr ⟨c1, e'⟩
        · rw [if_neg c1] at e'; cases e'
    have keep : ∀ c o, addT G H r c = some o → addT G H (b :: r) c = some o := fun c o e => by
      show (match addT G H r c with | some o => some o | none => if c = b then H b else none) = some o
      rw [e]
    have hb' : addT G H (b :: r) b = H b := by
      show (match addT G H r b with | some o => some o | none => if b = b then H b else none) = H b
      cases e1 : addT G H r b with
      | some u => exact (x.gh b u e1).symm
      | none => exact if_pos rfl
    refine ⟨⟨fun c o e => keep c o (x.g c o e), fun c o e => ?_, fun _ _ e _ => e, fun c o e => ?_, fun _ o e p => ⟨o, e, p⟩, fun _ e => e, fun n c o e => ?_, fun t => t⟩, fun c hc => ?_⟩
    · rcases at_ c o e with e | ⟨rfl, e⟩
      · exact x.gh c o e
      · exact e
    · rcases at_ c o e with e | ⟨rfl, e⟩
      · exact x.f c o e
      · refine .inr fun u eu pu => ?_
        rw [hb] at eu; cases eu; exact pu
    · rcases at_ c o e with e | ⟨rfl, e⟩
      · exact x.nt n c o e
      · rw [hb] at e; cases e; exact fun _ z => by cases z
    · rcases List.mem_cons.mp hc with rfl | hc
      · exact hb'
      · have e1 := q c hc
        obtain ⟨ys, hy⟩ := h c (List.mem_cons_of_mem _ hc)
        rw [hy] at e1 ⊢
        exact keep c _ e1
/-- the keys, as data -/
def keyD (l : List (List Int × D)) : List D := l.map fun p => tI p.1
theorem keys_is {G H : Hp} (s : Same G H) : ∀ {kv : List (List Key × V)} {l : List (List Int × D)} {bs : List Addr}, KvA G kv l → IsKeys H kv bs → ∀ b ∈ bs, ∃ xs, H b = some (.tup xs)
  | _, _, _, .nil, .nil, _, h => nomatch h
  | _, _, _, .cons _ t, .cons hb r, b, h => by
    rcases List.mem_cons.mp h with rfl | h
    · exact ⟨_, hb⟩
    · exact keys_is s t r b h
theorem keys_data {G G' H : Hp} : ∀ {kv : List (List Key × V)} {l : List (List Int × D)} {bs : List Addr}, KvA G kv l → IsKeys H kv bs → (∀ b ∈ bs, G' b = H b) → IsA G' (bs.map V.ref) (keyD l)
  | _, _, _, .nil, .nil, _ => .nil
  | _, _, _, .cons (k := k) _ t, .cons hb r, q => by
    refine .cons (.tup ((q _ List.mem_cons_self).trans hb) ?_) (keys_data t r fun b h => q b (List.mem_cons_of_mem _ h))
    rw [List.map_map]
    exact IsA.of_ints k
def fSortedD : Rv → Option Rv := fun a => (a.dc?).bind fun l => if okSort (keyD l) = true then some (.lst (srtD (keyD l))) else none
theorem dc_sortedD : DC rSrtD (f1 fSortedD) := by
  intro pa G H xs as z Q P k e q
  match as, k, e with
  | [a], k, e =>
    obtain ⟨v, rfl, kv⟩ := k.one
    obtain ⟨l, e1, e⟩ := bnd (show (a.dc?).bind _ = some z from e)
    split at e
    · rename_i ok
      cases e
      obtain ⟨p, vs, rfl, _, h, i⟩ := kv.dc P e1
      refine ⟨p, vs, rfl, h, fun bs hk => ?_⟩
      obtain ⟨x, xt⟩ := addT_ext P.gh bs (keys_is P.gh i hk)
      have ka := keys_data i hk xt
      exact ⟨keyD l, ok, fun K => (ka.mono x.gh).dp (okSort_lay ok), fun n hn => q _ _ _ (x.trans (Ext.own x.gh hn)) fun _ => ⟨n, _, rfl, Nw.of hn, free_G x.gh hn, upd_same, srt_is ka⟩⟩
    · cases e
/-- list(d) -/
def fListD : Rv → Option Rv := fun a => (a.dc?).map fun l => .lst (keyD l)
theorem dc_listD : DC (fun xs H Q => ∃ d kvs, xs = [V.ref d] ∧ Rd H d (.dT kvs) ∧ ∀ p bs, H p = none → IsKeys H kvs bs → Q (.ref p) (upd H p (.lst (bs.map V.ref)))) (f1 fListD) := by
  intro pa G H xs as z Q P k e q
  match as, k, e with
  | [a], k, e =>
    obtain ⟨v, rfl, kv⟩ := k.one
    obtain ⟨l, e1, e⟩ := mpd (show (a.dc?).map _ = some z from e)
    cases e
    obtain ⟨p, vs, rfl, _, h, i⟩ := kv.dc P e1
    refine ⟨p, vs, rfl, h, fun n bs hn hk => ?_⟩
    obtain ⟨x, xt⟩ := addT_ext P.gh bs (keys_is P.gh i hk)
    exact q _ _ _ (x.trans (Ext.own x.gh hn)) fun _ => ⟨n, _, rfl, Nw.of hn, free_G x.gh hn, upd_same, keys_data i hk xt⟩
end Pd
end
section
set_option Elab.async false
set_option linter.all false
set_option maxRecDepth 100000
/-! Pd7: sorted by a key: a def of the text, a lambda of one parameter. -/
namespace Pd
open PySem PySem.Spec PySem.Calls PySem.W PyProof.Rows L2
section
variable {X : Cx} {pins : List (Addr × Obj)} {σ : L2.St} {H : Hp} {s : Shared}
/-- a pin is put beside the others -/
theorem inv_pin {s0 : Shared} {H0 : Hp} {pins0 : List (Addr × Obj)} (I0 : Inv X pins0 σ H0 s0) (I : Inv X pins σ H s) {b : Addr} {o : Obj} (hb : s0.heap.objs.size ≤ b) (hn : H b = none) (ho : s.heap.get? b = some o) (hd : ∀ v, o.data ≠ .cell v) : Inv X (pins ++ [(b, o)]) σ H s :=
  I.pins_of fun p hp => by
    rcases List.mem_append.mp hp with hp | hp
    · exact I.pin p (List.mem_append_right _ hp)
    · rw [List.mem_singleton.mp hp]
      exact ⟨ho, hn, Nat.ne_of_gt (Nat.lt_of_lt_of_le I0.lt hb), I0.nofs hb, hd⟩
theorem inv_unpin {more : List (Addr × Obj)} (I : Inv X (pins ++ more) σ H s) : Inv X pins σ H s :=
  I.pins_of fun p hp => I.pin p (List.mem_append_right _ (List.mem_append_left _ hp))
theorem seq_nocell {c : String} {xs : Array Value} {n : Nat} : ∀ v, (seqObj c xs n).data ≠ .cell v := fun v z => by cases z
/-- what stands above the old heap is no cell of ours, no pin -/
theorem above_cells (I : Inv X pins σ H s) {b : Addr} (hb : s.heap.objs.size ≤ b) : (∀ x c, X.env.cells.lookup x = some c → c ≠ b) ∧ (∀ p ∈ X.pn ++ pins, p.1 ≠ b) ∧ X.s_0.heap.objs.size ≤ b ∧ b ≠ X.env.locals := by
  refine ⟨fun x c e z => ?_, fun p hp z => ?_, Nat.le_trans I.sz hb, Nat.ne_of_gt (Nat.lt_of_lt_of_le I.lt hb)⟩
  · obtain ⟨v, o, ho, _⟩ := I.cell x c e
    exact absurd (Nat.lt_of_lt_of_le (Heap.lt_size ho) hb) (by rw [z]; exact Nat.lt_irrefl _)
  · exact absurd (Nat.lt_of_lt_of_le (Heap.lt_size (I.pin p hp).1) hb) (by rw [z]; exact Nat.lt_irrefl _)
theorem sortk_core {xv : Value} {f : Addr} {its : List Value} {xs : List V} {Q : VK} (I : Inv X pins σ H s) (g : Gathers X.prog X.w X.A.in1 s xv its) (rv : Vals xs its) (hz : xs.length ≤ sizeLine) (hu : X.A.units + 64 < cLine)
    (N : Nat → List V → Hp → Prop) (N0 : N 0 [] H)
    (turn : ∀ (i : Nat) (x : V) (ks : List V) (H1 : Hp) (s1 : Shared) (pins1 : List (Addr × Obj)) (u : Value), xs[i]? = some x → N i ks H1 → Inv X (pins ++ pins1) σ H1 s1 → RelV x u →
      wpAny (model X.prog X.w) X.A.in1.in1 (call (.ref f) [u]) (EP X (pins ++ pins1) σ fun k H2 => N (i + 1) (ks ++ [k]) H2) (fun _ _ => False) s1)
    (fin : ∀ (ks : List V) (H1 : Hp), ks.length = xs.length → N xs.length ks H1 → ∃ ds, DpAll X.K H1 ks ds ∧ okSort ds = true ∧ ∀ p, H1 p = none → Q (.ref p) (upd H1 p (.lst (srtV xs ds)))) :
    wpAny (model X.prog X.w) X.A (call (.builtin "sorted") [xv] [(Str.ofString "key", .ref f)]) (EP X pins σ Q) X.xe s := by
  have hz' : its.length ≤ sizeLine := by rw [← rv.length]; exact hz
  refine sorted_gen g hz' (ksk_s1 _ _) (fun a => ksk_l1 _ _) fun E' s' a kp hg ho ha hat => ?_
  rw [ksk_t1]
  have hal : a < s'.heap.objs.size := Heap.lt_size hat
  obtain ⟨e1, ho1⟩ : ∃ e1, (s'.heap.update a (Obj.mapSeq fun _ => (#[] : Array Value))).get? a = some (seqObj "list" #[] e1) := ⟨_, get?_update_seq hat fun _ => #[]⟩
  unfold ksk_tree
  refine wpAny_bind (listItems_at hat rfl ?_)
  refine wpAny_bind (listUpdate_at hat rfl ?_ (by rw [List.size_toArray]; exact hz') (Nat.zero_le _))
  refine wpAny_bind (seqEpoch_at ho1 rfl ?_)
  refine wpAny_bind (wpAny_newTuple ?_ (by show its.length ≤ _; exact hz'))
  refine wpAny_bind (wpAny_newList ?_ (Nat.zero_le _))
  refine wpAny_holding ?_
  obtain ⟨kS, ekS⟩ : ∃ kS, kS = ((s'.heap.update a (Obj.mapSeq fun _ => (#[] : Array Value))).push (seqObj "tuple" its.toArray 0)).objs.size := ⟨_, rfl⟩
  have zkS : kS = s'.heap.objs.size + 1 := by rw [ekS, size_push', Heap.size_update]
  have hka : kS ≠ a := by rw [zkS]; exact Nat.ne_of_gt (Nat.lt_succ_of_lt hal)
  have kp6 : Kp s.heap (sortingHeap s'.heap a its) := fun b o e => sortingHeap_old (Nat.ne_of_lt (Nat.lt_of_lt_of_le (Heap.lt_size e) ha)) (kp b o e)
  have at6 : (sortingHeap s'.heap a its).get? a = some (seqObj "list" #[] e1) := Heap.get?_push_of_some _ (Heap.get?_push_of_some _ ho1)
  have ks6 : (sortingHeap s'.heap a its).get? kS = some (seqObj "list" #[] 0) := by
    rw [ekS]; exact Heap.get?_push_size _ rfl
  have szk : s.heap.objs.size ≤ kS := by
    rw [zkS]; exact Nat.le_succ_of_le (Nat.le_of_lt (Nat.lt_of_le_of_lt ha hal))
  have ab_a := above_cells I ha
  have ab_k := above_cells I szk
  have I6 : Inv X (pins ++ [(a, seqObj "list" #[] e1), (kS, seqObj "list" #[] 0)]) σ H { s' with heap := sortingHeap s'.heap a its } := by
    have J := inv_grow (s' := { s' with heap := sortingHeap s'.heap a its }) I kp6 hg ho
    have J1 := inv_pin I J ha (I.hok.fresh ha) at6 seq_nocell
    have J2 := inv_pin I J1 szk (I.hok.fresh szk) ks6 seq_nocell
    rw [List.append_assoc] at J2
    exact J2
  show wpAny _ _ (ksk_rest a (.ref f) false its.toArray e1 (.ref ((s'.heap.update a (Obj.mapSeq fun _ => (#[] : Array Value))).push (seqObj "tuple" its.toArray 0)).objs.size)) _ _ { s' with heap := sortingHeap s'.heap a its }
  rw [← ekS]
  unfold ksk_rest
  refine wpAny_bind (wpAny_rule ?_)
  first
    | rw [List.forIn_toArray]
    | (rw [← Array.forIn_toList]; simp only [List.toList_toArray])
    | rw [← Array.forIn_toList]
  refine wpAny_bind (ksk_fold (fun i s1 => ∃ H1 ks kA e, ks.length = i ∧ N i ks H1 ∧ Vals ks kA.toList ∧ Inv X (pins ++ [(a, seqObj "list" #[] e1), (kS, seqObj "list" kA e)]) σ H1 s1) its 0 _
    ⟨H, [], #[], 0, rfl, N0, .nil, I6⟩ ?step ?done)
  case step =>
    rintro j u s1 hu1 ⟨H1, ks, kA, e, hl, hN, vk, I1⟩
    simp only [Nat.zero_add] at hN hl ⊢
    have hj : j < its.length := (List.getElem?_eq_some_iff.mp hu1).1
    obtain ⟨x, hx⟩ : ∃ x, xs[j]? = some x := ⟨_, List.getElem?_eq_getElem (by rw [rv.length]; exact hj)⟩
    obtain ⟨u', hu', ru⟩ := rv.get hx
    rw [hu1] at hu'
    cases hu'
    have hkz : kA.size ≤ sizeLine := by
      have q : ks.length = kA.size := vk.length.trans Array.length_toList
      omega
    refine wpAny_bind (wpAny_attempt (wpAny_mono (turn j x ks H1 s1 _ u hx hN I1 ru) (fun v s2 hv => ?_) fun _ _ z => z.elim))
    obtain ⟨k, H2, I2, rk, hN2⟩ := hv
    try dsimp only
    have pk := I2.pin (kS, seqObj "list" kA e) (List.mem_append_right _ (List.mem_append_right _ (.tail _ (.head _))))
    have pa := I2.pin (a, seqObj "list" #[] e1) (List.mem_append_right _ (List.mem_append_right _ (.head _)))
    have sb := Heap.SameBut.update s2.heap kS (Obj.mapSeq (·.push v))
    obtain ⟨c2, hc2⟩ : ∃ c2, (s2.heap.update kS (Obj.mapSeq (·.push v))).get? kS = some (seqObj "list" (kA.push v) c2) := ⟨_, get?_update_seq pk.1 (·.push v)⟩
    refine wpAny_bind (listUpdate_at pk.1 rfl ?_ hkz (Nat.le_trans (Nat.le_of_eq (Array.size_push ..)) (Nat.succ_le_succ hkz)))
    refine wpAny_pure ⟨rfl, H2, ks ++ [k], kA.push v, c2, by rw [List.length_append, List.length_singleton, hl], hN2, ?_, ?_⟩
    · rw [Array.toList_push]
      exact vk.append (.cons rk .nil)
    · have J0 : Inv X (pins ++ [(a, seqObj "list" #[] e1)]) σ H2 s2 := by
        refine I2.pins_of fun p hp => ?_
        rcases List.mem_append.mp hp with hp | hp
        · exact I2.pin p (List.mem_append_right _ (List.mem_append_left _ hp))
        · rw [List.mem_singleton.mp hp]; exact pa
      have J1 : Inv X (pins ++ [(a, seqObj "list" #[] e1)]) σ H2 { s2 with heap := s2.heap.update kS (Obj.mapSeq (·.push v)) } := by
        refine J0.turned (t' := s2.toks) (fun b o hb q => (sb.2 b hb).trans q) pk.2.1 ab_k.2.2.2 (.inr ab_k.2.2.1) ab_k.1 fun p hp => ?_
        rcases List.mem_append.mp hp with hp | hp
        · exact ab_k.2.1 p (List.mem_append_left _ hp)
        · rcases List.mem_append.mp hp with hp | hp
          · exact ab_k.2.1 p (List.mem_append_right _ hp)
          · rw [List.mem_singleton.mp hp]; exact hka.symm
      have J2 := inv_pin I J1 szk pk.2.1 hc2 seq_nocell
      rw [List.append_assoc] at J2
      exact J2
  case done =>
    rintro s1 ⟨H1, ks, kA, e, hl, hN, vk, I1⟩
    simp only [Nat.zero_add] at hN hl
    rw [← rv.length] at hN hl
    obtain ⟨ds, dp, ok, q⟩ := fin ks H1 hl hN
    have pk := I1.pin (kS, seqObj "list" kA e) (List.mem_append_right _ (List.mem_append_right _ (.tail _ (.head _))))
    have pa := I1.pin (a, seqObj "list" #[] e1) (List.mem_append_right _ (List.mem_append_right _ (.head _)))
    obtain ⟨as, rd⟩ := Dp.readsAll I1 ds ks _ dp vk
    have er := each_reads rd
    have hds : ks.length = ds.length := by rw [vk.length]; exact SeqAt.ReadsAll.length _ _ _ rd
    have hlz : xs.length = ds.length := by rw [← hds, hl]
    try dsimp only
    refine wpAny_bind (listItems_at pk.1 rfl ?_)
    have S : SortsAt X.prog X.w X.A.in1.in1 s1 (dataKind s1.heap ds) kA.toList := sortsAt_ok er ok (by show X.A.units + 1 + 1 + 60 < cLine; omega)
    have hks : kA.size = its.length := by
      have q : ks.length = kA.size := vk.length.trans Array.length_toList
      rw [← q, hl, rv.length]
    refine keyH_end (h₁ := PySem.W.hideAll s1.heap [kS]) (fun b o _ q => of_hideAll _ q) (hideAll_none _ List.mem_cons_self) pk.1 pa.1 hka S hks hz' fun h' tk c kb hn => ⟨rfl, ?_⟩
    have kf : ∀ b o, b ∉ [a, kS] → s1.heap.get? b = some o → h'.get? b = some o := fun b o hb q => by
      have h1 : b ≠ a := fun z => hb (by rw [z]; exact .head _)
      have h2 : b ∉ [kS] := fun z => hb (.tail _ z)
      exact kb b o h1 (hideAll_get _ q h2)
    have ev := sortVals_each (κ := dataKind s1.heap ds) (rev := false) (k := fun p : V × D => keyToks p.2) (each_zip rv hlz)
      (show EachIs (fun v (p : V × D) => (dataKind s1.heap ds).keyOf v = some (keyToks p.2)) kA.toList (xs.zip ds) from by
        have h0 := each_keys (okSort_tell ok).1 er
        have h1 : EachIs (fun v d => (dataKind s1.heap ds).keyOf v = some (keyToks d)) kA.toList ((xs.zip ds).map (·.2)) := by rw [zip_snd hlz]; exact h0
        exact each_of_map (R := fun v d => (dataKind s1.heap ds).keyOf v = some (keyToks d)) (fun p : V × D => p.2) h1)
    have ev2 := each_vals ev
    have hlen : (srtV xs ds).length ≤ sizeLine := by
      unfold srtV srtP
      rw [List.length_map, (List.mergeSort_perm _ _).length_eq, List.length_zip, ← hlz, Nat.min_self]
      exact hz
    have na : H1 a = none := pa.2.1
    have nk : H1 kS = none := pk.2.1
    have trk_ : ∀ b u, H1 b = some u → b ∉ [a, kS] := fun b u e z => by
      rcases List.mem_cons.mp z with z | z
      · rw [z, na] at e; cases e
      · rw [List.mem_singleton.mp z, nk] at e; cases e
    refine ⟨.ref a, upd H1 a (.lst (srtV xs ds)), ?_, rfl, q a na⟩
    refine (inv_unpin I1).call' (ch := [a, kS]) rfl ⟨fun b o e _ _ hb => kf b o hb e, fun b o e _ _ hb => ⟨o.slots, kf b o hb e⟩, fun b o e n hb => ?_, fun b o e hb => ⟨o, kf b o hb e⟩, fun b ys e => ?_, fun b o ys e => ?_, fun b ps e => ⟨#[], ?_⟩⟩ (fun b u e => ?_) I1.bare fun b hb => ?_
    · rw [upd_ne fun z => hb (by rw [z]; exact .head _)]; exact n
    · rw [upd_ne (ne_of_none e na)]; exact e
    · rw [upd_ne (ne_of_none e na)]; exact e
    · rw [upd_ne (ne_of_none e na), e]; simp
    · by_cases hb : b = a
      · subst hb
        rw [upd_same] at e
        cases e
        exact ⟨hlen, _, c, ev2, hn⟩
      · rw [upd_ne hb] at e
        refine (I1.hok b u e).stay (fun d v hd q => kf d v ?_ q) (fun d q => by rw [upd_ne (ne_of_none q na)]; exact q) fun d ys q => by rw [upd_ne (ne_of_none q na)]; exact q
        rcases hd with rfl | hd
        · exact trk_ _ _ e
        · exact trk_ _ _ hd
    · rcases List.mem_cons.mp hb with rfl | hb
      · exact ⟨.inr ab_a.2.2.1, ab_a.2.2.2, ab_a.1, ab_a.2.1⟩
      · rw [List.mem_singleton.mp hb]
        exact ⟨.inr ab_k.2.2.1, ab_k.2.2.2, ab_k.1, ab_k.2.1⟩
end
end Pd
end
section
set_option Elab.async false
set_option linter.all false
set_option maxRecDepth 100000
/-! Pd8: a lambda without captured names as a value; sorted by such a key, or by a def. -/
namespace Pd
open PySem PySem.Spec PySem.Calls PySem.W PyProof.Rows L2
/-- the object at f is the lambda's function -/
def FunO (f : Addr) (q : Str) (params : Arguments) (body : Expr) (scope : Scope) (c' : Addr) : HO :=
  .ext fun h => ∃ pm ctv, h.get? f = some (kla_obj "<lambda>" q params body scope [] pm c' ctv)
theorem FunO.nt {f : Addr} {q : Str} {params : Arguments} {body : Expr} {scope : Scope} {c' : Addr} : NTb (FunO f q params body scope c') := fun ps z => by
  unfold FunO at z
  cases z
theorem cloFrom_nil {cells : List (Str × Addr)} : ∀ {names : List (Str × NameKind)} {acc : List (Str × Addr)}, (∀ y ∈ names, y.2 ≠ .free) → cloFrom cells names acc = acc
  | [], _, _ => rfl
  | (n, k) :: r, acc, h => by
    have hk : k ≠ .free := h (n, k) List.mem_cons_self
    have e : (k == NameKind.free) = false := by cases k <;> first | rfl | exact absurd rfl hk
    show (if (k == NameKind.free) = true then _ else cloFrom cells r acc) = acc
    rw [e, if_neg Bool.false_ne_true]
    exact cloFrom_nil fun y hy => h y (List.mem_cons_of_mem _ hy)
section
variable {X : Cx} {pins : List (Addr × Obj)} {σ : L2.St} {H : Hp} {s : Shared}
/-- an untracked object that is there, none of ours otherwise, is tracked -/
theorem inv_track (I : Inv X pins σ H s) {f : Addr} {o : HO} (hn : H f = none) (hs : X.s_0.heap.objs.size ≤ f) (hL : f ≠ X.env.locals) (hc : ∀ x c, X.env.cells.lookup x = some c → c ≠ f) (hp : ∀ p ∈ X.pn ++ pins, p.1 ≠ f)
    (new : ObjOk X.prog X.w (upd H f o) s.heap f o) : Inv X pins σ (upd H f o) s := by
  refine I.call' (ch := [f]) rfl ⟨fun b u e n _ _ => e, fun b u e _ _ _ => ⟨u.slots, e⟩, fun b u e n hb => ?_, fun b u e _ => ⟨u, e⟩, fun b ys e => ?_, fun b u ys e => ?_, fun b ps e => ⟨#[], ?_⟩⟩ (fun b u e => ?_) I.bare fun b hb => ?_
  · rw [upd_ne fun z => hb (by rw [z]; exact List.mem_singleton.mpr rfl)]; exact n
  · rw [upd_ne (ne_of_none e hn)]; exact e
  · rw [upd_ne (ne_of_none e hn)]; exact e
  · rw [upd_ne (ne_of_none e hn), e]; simp
  · by_cases hb : b = f
    · subst hb
      rw [upd_same] at e
      cases e
      exact new
    · rw [upd_ne hb] at e
      exact (I.hok b u e).stay (fun _ _ _ q => q) (fun d q => by rw [upd_ne (ne_of_none q hn)]; exact q) fun d ys q => by rw [upd_ne (ne_of_none q hn)]; exact q
  · rw [List.mem_singleton.mp hb]
    exact ⟨.inr hs, hL, hc, hp⟩
/-- a lambda's reading: its function is new -/
def tLamV (T : List (Addr × Str)) (q : Str) (params : Arguments) (body : Expr) (scope : Scope) : TE := fun σ H Q => LamX.Tabs T H ∧
  ∀ (f c' : Addr) (H1 : Hp), LamX.ExtN H H1 → LamX.Tabs T H1 → H1 f = some (FunO f q params body scope c') → H1 c' = some (LamX.CodeO c' q) → Q (.ref f) H1
theorem pe_lam {T : List (Addr × Str)} {c P : Addr} {params : Arguments} {body : Expr} {scope : Scope} {pos : Pos} (TB : LamX.TabB X.base X.mg c P) (hcode : X.env.code = .ref c) (hm : (P, X.env.qual ++ "<lambda>") ∈ T)
    (hu : ∀ p ∈ T, p.1 = P → p.2 = X.env.qual ++ "<lambda>") (hdef : defaultsOf params X.env = ([], [])) (hfree : ∀ y ∈ scope.names, y.2 ≠ .free) : PE X (.Lambda params body scope pos) (tLamV T (X.env.qual ++ "<lambda>") params body scope) := by
  refine ⟨fun pins s σ H Q I h => ?_⟩
  obtain ⟨hT, h⟩ := h
  obtain ⟨ps, hP, ht, ha⟩ := hT _ hm
  have hcl : closureFor scope X.env = pure [] := by
    have q := closure_ok (env := X.env) (scope := scope) fun y hy e => absurd e (hfree y hy)
    rw [cloFrom_nil hfree] at q
    exact q
  have hPo : s.heap.get? P = some { cls := .none, data := .fields ps } := I.hok P _ hP
  have bP : s.heap.BuiltinsAt X.mg P := TB.bm.keeps I.bk
  -- the function is new: it is tracked
  have last : ∀ (h1 : Heap) (tk : Nat) (H1 : Hp) (c' : Addr) (pm ctv : Value) (h2 : Heap), Inv X pins σ H1 { s with heap := h2, toks := tk } → h1.objs.size = h1.objs.size → s.heap.objs.size ≤ h1.objs.size → H1 h1.objs.size = none →
      h2.get? h1.objs.size = some (kla_obj "<lambda>" (X.env.qual ++ "<lambda>") params body scope [] pm c' ctv) → LamX.ExtN H H1 → LamX.Tabs T H1 → H1 c' = some (LamX.CodeO c' (X.env.qual ++ "<lambda>")) → EP X pins σ Q (.ref h1.objs.size) { s with heap := h2, toks := tk } := fun h1 tk H1 c' pm ctv h2 J _ hz n e x t hc => by
    have ab := above_cells I hz
    have J2 := inv_track (o := FunO h1.objs.size (X.env.qual ++ "<lambda>") params body scope c') J n ab.2.2.1 ab.2.2.2 ab.1 ab.2.1 ⟨⟨pm, ctv, e⟩, ⟨_, e⟩, fun g1 g2 ⟨pm, ctv, q⟩ st => ⟨pm, ctv, st _ q⟩⟩
    have more : ∀ b u, H1 b = some u → upd H1 h1.objs.size (FunO h1.objs.size (X.env.qual ++ "<lambda>") params body scope c') b = some u := fun b u q => by rw [upd_ne (ne_of_none q n)]; exact q
    exact ⟨.ref _, _, J2, rfl, h _ c' _ (x.trans (LamX.ExtN.of more)) (t.ext more) upd_same (more _ _ hc)⟩
  refine kla_eval hdef ?_
  cases hc : codeAmong pos ps.toList with
  | some cv =>
    obtain ⟨c', rfl, hco⟩ := ha pos cv hc
    refine kla_makeFunctionHit (mg := X.mg) (c := c) (P := P) (ps := ps) hcl I.ok.glob (I.mod.glob.keeps I.bk) hcode (TB.code.keeps I.bk) hPo ht hc bP fun ctv h' tk hx hsz => ?_
    refine last h' tk H c' ((X.mg "__name__").getD .none) ctv _ (I.kept (t' := tk) fun b o e => Heap.get?_push_of_some _ (hx b o e)) rfl hsz (I.hok.fresh hsz) (Heap.get?_push_size _ rfl) (LamX.ExtN.refl H) hT hco
  | none =>
    refine kla_makeFunction (mg := X.mg) (c := c) (P := P) (ps := ps) hcl I.ok.glob (I.mod.glob.keeps I.bk) hcode (TB.code.keeps I.bk) hPo ht hc TB.gP bP fun c' ctv h' tk hx hge hlt hrec htb => ?_
    obtain ⟨c2, oc, vs, t, e2, hoc, hd, hv⟩ := hrec
    cases e2
    have hsz : s.heap.objs.size ≤ h'.objs.size := Nat.le_trans hge (Nat.le_of_lt hlt)
    have nC : H c' = none := I.hok.fresh hge
    have eL : (ps ++ #[rawInt pos.line, rawInt pos.col, .ref c']).toList = ps.toList ++ [rawInt pos.line, rawInt pos.col, .ref c'] := by simp
    have J := LamX.inv_table (q := X.env.qual ++ "<lambda>") (t' := tk) (more := #[rawInt pos.line, rawInt pos.col, .ref c']) (h' := h'.push (kla_obj "<lambda>" (X.env.qual ++ "<lambda>") params body scope [] ((X.mg "__name__").getD .none) c' ctv)) I hP
      (fun b o hb e => Heap.get?_push_of_some _ (hx b o hb e)) (Heap.get?_push_of_some _ htb) hge ⟨oc, vs, t, Heap.get?_push_of_some _ hoc, hd, hv⟩
    have atc : ∀ b u, H b = some u → b ≠ P → upd (upd H P (.tbl (ps ++ #[rawInt pos.line, rawInt pos.col, .ref c']))) c' (LamX.CodeO c' (X.env.qual ++ "<lambda>")) b = some u := fun b u e k => by
      rw [upd_ne (ne_of_none e nC), upd_ne k]; exact e
    have xN : LamX.ExtN H (upd (upd H P (.tbl (ps ++ #[rawInt pos.line, rawInt pos.col, .ref c']))) c' (LamX.CodeO c' (X.env.qual ++ "<lambda>"))) := fun b u e k => atc b u e fun z => k ps (by rw [z, hP] at e; exact (Option.some.inj e).symm)
    refine last h' tk _ c' _ ctv _ J rfl hsz ?_ (Heap.get?_push_size _ rfl) xN (fun p hp => ?_) upd_same
    · have k1 : h'.objs.size ≠ c' := Nat.ne_of_gt hlt
      have k2 : h'.objs.size ≠ P := Nat.ne_of_gt (Nat.lt_of_lt_of_le (Heap.lt_size hPo) hsz)
      rw [upd_ne k1, upd_ne k2]
      exact I.hok.fresh hsz
    · by_cases hb : p.1 = P
      · rw [hu p hp hb, hb]
        refine ⟨_, by rw [upd_ne (ne_of_none hP nC), upd_same], by rw [eL]; exact TriplesOk_snoc _ _ _ _ ht, fun p' cv hcv => ?_⟩
        rw [eL] at hcv
        rcases LamX.among_app _ ht hcv with z | z
        · obtain ⟨c0, e1, e2⟩ := ha p' cv z
          exact ⟨c0, e1, xN _ _ e2 LamX.codeO_ne⟩
        · exact ⟨c', z, upd_same⟩
      · obtain ⟨qs, a1, a2, a3⟩ := hT p hp
        refine ⟨qs, atc _ _ a1 hb, a2, fun p' cv hcv => ?_⟩
        obtain ⟨c0, e1, e2⟩ := a3 p' cv hcv
        exact ⟨c0, e1, xN _ _ e2 LamX.codeO_ne⟩
/-- a lambda is called: its body runs at its parameters -/
theorem lam_run {N ps : List Str} {scope : Scope} {q : Str} {params : Arguments} {body : Expr} {f c' : Addr} {u : Value} {x : V} {k : Nat} {t : TE} {Q : VK} {A : Around} (S : FnScope N ps scope) (hA : A = X.A.in1.in1) (hr : Room (k + 3) X.A) (hp : ps.length = 1)
    (I : Inv X pins σ H s) (hf : H f = some (FunO f q params body scope c')) (hc : H c' = some (LamX.CodeO c' q)) (rx : RelV x u)
    (hb : ∀ (pm cdv ctv u : Value), bindArgs (kla_fn "<lambda>" q params body scope [] pm cdv ctv) ⟨[u], []⟩ = pure (ps.zip [u]))
    (hbody : ∀ (outer : List Env) (s : Shared) (H : Hp), Room k (A.deeper (envOfC q scope s.heap.objs.size f (.ref c'))) → PE (cxOf CX0 X.prog X.w X.K X.mg X.base N q scope f (.ref c') A outer s H E0) body t)
    (h : t (L2.start N [x]) H Q) : wpAny (model X.prog X.w) A (call (.ref f) [u]) (EP X pins σ Q) (fun _ _ => False) s := by
  subst hA
  have hr1 : Room (k + 1) X.A.in1.in1 := (show Room (k + 1 + 1) X.A.in1 from (show Room (k + 1 + 1 + 1) X.A from hr).in1).in1
  have e0 := I.env0.in1.in1
  obtain ⟨⟨pm, ctv, hof⟩, _, _⟩ := I.hok f _ hf
  obtain ⟨⟨oc, vs, tq, hoc, hdc, hvc⟩, _, _⟩ := I.hok c' _ hc
  have hkind : ∀ y ∈ ps.zip [u], scope.names.lookup y.1 = some .local ∨ (scope.names.lookup y.1 = some .cell ∧ ((cellsFrom (s.heap.objs.size + 1) scope.names []).lookup y.1).isSome = true) := fun ⟨n, v⟩ hy => by
    rcases S.par n (List.of_mem_zip hy).1 with q | q
    · exact .inl q
    · exact .inr ⟨q, PySem.W.cellsFrom_some _ _ _ (.inl q)⟩
  refine wpAny_call (codeAny_mono (R := CR CX0 X.stack X.prog X.w H s Q E0) ?_ fun r s' hq => ?_)
  · refine kla_callFunE hr1.depth hof rfl S.co S.gen rfl ⟨c', oc, vs, tq, rfl, hoc, hdc, hvc⟩ ?_
    rw [hb]
    refine wpAny_pure (wpAny_newFunctionEnv_cells S.kind hkind fun env he s1 x1 => ⟨I.nolimit.keeps x1.toInCall.keep, ?_⟩)
    subst he
    have J := inv_start (CX := CX0) (E := E0) (f := f) (cd := .ref c') S hr1.hd e0 (by rw [hp]; rfl) (.cons rx .nil) x1
    refine kla_codeExpr (wpAny_mono ((hbody X.stack s H (hr1.deeper _)).run [] s1 (L2.start N [x]) H Q J h) (fun v s' hq => ?_) fun e s' hq => hq)
    obtain ⟨w', H', J', rv, q⟩ := hq
    exact ⟨w', H', J'.os, J'.bare, J'.base, J'.hok, rv, q⟩
  · cases r with
    | error e => exact (show False from hq).elim
    | ok fl =>
      cases fl with
      | ret v => exact I.after hq
      | next => exact False.elim hq
      | brk => exact False.elim hq
      | cont => exact False.elim hq
/-- a def is called as a key -/
theorem def_run {f : Addr} {fd : FuncData} {p : Str} {sp : Sp} {k : Nat} {u : Value} {x : V} {Q : VK} (F : FnOk X.prog X.w X.K X.mg X.base CX0 k f fd [p] sp) (hr : Room (k + 2) X.A) (hb : Binds X.K fd [p] [])
    (I : Inv X pins σ H s) (rx : RelV x u) (h : sp [x] H Q E0) : wpAny (model X.prog X.w) X.A.in1.in1 (call (.ref f) [u]) (EP X pins σ Q) (fun _ _ => False) s := by
  have hr1 : Room k X.A.in1.in1 := (show Room (k + 1) X.A.in1 from (show Room (k + 1 + 1) X.A from hr).in1).in1
  refine wpAny_call (codeAny_mono (F.run X.A.in1.in1 X.stack s H ⟨[u], []⟩ [u] [x] Q E0 hr1 I.env0.in1.in1 ?_ (.cons rx .nil) h) fun r s' hq => ?_)
  · have q := hb s [u] I.kIn rfl
    rw [List.append_nil] at q
    exact q
  · cases r with
    | error e => exact (show False from hq).elim
    | ok fl =>
      cases fl with
      | ret v => exact I.after hq
      | next => exact False.elim hq
      | brk => exact False.elim hq
      | cont => exact False.elim hq
end
section
variable {X : Cx}
/-- a key's call: what it asks (step) -/
def KeyRun (X : Cx) (step : Addr → V → Hp → VK → Prop) : Prop := ∀ (f : Addr) (pins : List (Addr × Obj)) (s : Shared) (σ : L2.St) (H : Hp) (x : V) (u : Value) (Q : VK), Inv X pins σ H s → RelV x u → step f x H Q →
  wpAny (model X.prog X.w) X.A.in1.in1 (call (.ref f) [u]) (EP X pins σ Q) (fun _ _ => False) s
def KeyNs (K : PySem.W.Frag) (step : Addr → V → Hp → VK → Prop) (f : Addr) (xs : List V) (H : Hp) (Q : VK) : Prop := ∃ N : Nat → List V → Hp → Prop, N 0 [] H ∧ (∀ (i : Nat) (x : V) (ks : List V) (H1 : Hp), xs[i]? = some x → N i ks H1 → step f x H1 fun k H2 => N (i + 1) (ks ++ [k]) H2) ∧
  ∀ (ks : List V) (H1 : Hp), ks.length = xs.length → N xs.length ks H1 → ∃ ds, DpAll K H1 ks ds ∧ okSort ds = true ∧ ∀ p, H1 p = none → Q (.ref p) (upd H1 p (.lst (srtV xs ds)))
/-- sorted(l, key=f); sorted(d, key=f), d a dict whose keys are tuples -/
def rSrtK (K : PySem.W.Frag) (step : Addr → V → Hp → VK → Prop) : List V → List V → Hp → VK → Prop := fun vs zs H Q => ∃ (a f : Addr) (xs : List V), vs = [.ref a] ∧ zs = [.ref f] ∧ SqL K H a xs ∧ KeyNs K step f xs H Q
def rSrtKD (K : PySem.W.Frag) (step : Addr → V → Hp → VK → Prop) : List V → List V → Hp → VK → Prop := fun vs zs H Q => ∃ (a f : Addr) (kvs : List (List Key × V)), vs = [.ref a] ∧ zs = [.ref f] ∧ Rd H a (.dT kvs) ∧ ∀ bs, IsKeys H kvs bs → KeyNs K step f (bs.map V.ref) H Q
theorem cr_srtK {step : Addr → V → Hp → VK → Prop} (hs : KeyRun X step) (hu : X.A.units + 64 < cLine) : CallRK X (.builtin "sorted") [Str.ofString "key"] (rSrtK X.K step) := by
  intro pins s σ H vs zs us ws Q I r rz h
  obtain ⟨a, f, xs, rfl, rfl, ha, N, n0, n1, n2⟩ := h
  obtain rfl := Vals.ref1 r
  obtain rfl := Vals.ref1 rz
  obtain ⟨its, rv, hl, hz⟩ := I.list ha
  exact sortk_core I (gathers_list hl.isList (by rw [← rv.length]; exact hz)) rv hz hu N n0 (fun i x ks H1 s1 pins1 u hx hN J ru => hs f _ s1 σ H1 x u _ J ru (n1 i x ks H1 hx hN)) n2
theorem cr_srtKD {step : Addr → V → Hp → VK → Prop} (hs : KeyRun X step) (hc : X.calm = true) (hu : X.A.units + 64 < cLine) : CallRK X (.builtin "sorted") [Str.ofString "key"] (rSrtKD X.K step) := by
  intro pins s σ H vs zs us ws Q I r rz h
  obtain ⟨a, f, kvs, rfl, rfl, hd, q⟩ := h
  obtain rfl := Vals.ref1 r
  obtain rfl := Vals.ref1 rz
  obtain ⟨bs, hk, hz, g⟩ := gathers_dT I hc hd
  obtain ⟨N, n0, n1, n2⟩ := q bs hk
  exact sortk_core I g (vals_refs bs) (by rw [List.length_map]; exact hz) hu N n0 (fun i x ks H1 s1 pins1 u hx hN J ru => hs f _ s1 σ H1 x u _ J ru (n1 i x ks H1 hx hN)) n2
def lamStep (q : Str) (params : Arguments) (body : Expr) (scope : Scope) (N : List Str) (t : TE) : Addr → V → Hp → VK → Prop := fun f x H Q => (∃ c', H f = some (FunO f q params body scope c') ∧ H c' = some (LamX.CodeO c' q)) ∧ t (L2.start N [x]) H Q
theorem kr_lam {N ps : List Str} {scope : Scope} {q : Str} {params : Arguments} {body : Expr} {k : Nat} {t : TE} (S : FnScope N ps scope) (hr : Room (k + 3) X.A) (hp : ps.length = 1)
    (hb : ∀ (pm cdv ctv u : Value), bindArgs (kla_fn "<lambda>" q params body scope [] pm cdv ctv) ⟨[u], []⟩ = pure (ps.zip [u]))
    (hbody : ∀ (f c' : Addr) (outer : List Env) (s : Shared) (H : Hp), Room k (X.A.in1.in1.deeper (envOfC q scope s.heap.objs.size f (.ref c'))) → PE (cxOf CX0 X.prog X.w X.K X.mg X.base N q scope f (.ref c') X.A.in1.in1 outer s H E0) body t) : KeyRun X (lamStep q params body scope N t) :=
  fun f pins s σ H x u Q I ru h => by
    obtain ⟨⟨c', h1, h2⟩, h3⟩ := h
    exact lam_run S rfl hr hp I h1 h2 ru hb (fun outer s H hr' => hbody f c' outer s H hr') h3
def defStep (f0 : Addr) (sp : Sp) : Addr → V → Hp → VK → Prop := fun f x H Q => f = f0 ∧ sp [x] H Q E0
theorem kr_def {f : Addr} {fd : FuncData} {p : Str} {sp : Sp} {k : Nat} (F : FnOk X.prog X.w X.K X.mg X.base CX0 k f fd [p] sp) (hr : Room (k + 2) X.A) (hb : Binds X.K fd [p] []) : KeyRun X (defStep f sp) :=
  fun f' pins s σ H x u Q I ru h => by
    obtain ⟨rfl, h⟩ := h
    exact def_run F hr hb I ru h
end
/-! ### in plain data -/
section
variable [TB]
theorem ext_lam {G0 H0 G H H1 : Hp} {pa : Mu} {σ : L2.St} {ρ : List Sl} {pt : List Int} (R : Rep G0 H0 pa G H σ ρ pt) (e : LamX.ExtN H H1) (t : LamX.Tabs TB.T H1) : Ext pa G H G H1 where
  g := Same.refl G
  gh := fun b o q => e b o (R.same b o q) (R.nt b o q)
  h := fun b o q k => e b o q (k.2.elim (fun z => by rw [R.ns] at z; cases z) id)
  f := fun b o q => .inl q
  pl := fun b o q p => ⟨o, e b o q p.nt, p⟩
  pn := fun b n o q k => n o (e b o q k) k
  nt := fun n => n
  tb := fun _ => t
theorem pot_lam {H H1 : Hp} {pa : Mu} {pt : List Int} (q : PotAt pa H pt) (e : LamX.ExtN H H1) : PotAt pa H1 pt := fun p ep => e p _ (q p ep) fun _ z => by cases z
def mapO {α β : Type} (f : α → Option β) : List α → Option (List β)
  | [] => some []
  | a :: r => (f a).bind fun b => (mapO f r).map fun l => b :: l
theorem mapO_get {α β : Type} {f : α → Option β} : ∀ {l : List α} {m : List β}, mapO f l = some m → m.length = l.length ∧ ∀ (i : Nat) (a : α), l[i]? = some a → ∃ b, m[i]? = some b ∧ f a = some b
  | [], m, e => by cases e; exact ⟨rfl, fun i a h => by simp at h⟩
  | a :: r, m, e => by
    obtain ⟨b, e1, e⟩ := bnd e
    obtain ⟨m', e2, rfl⟩ := mpd e
    obtain ⟨h1, h2⟩ := mapO_get e2
    refine ⟨by simp [h1], fun i x h => ?_⟩
    cases i with
    | zero => simp at h; subst h; exact ⟨b, rfl, e1⟩
    | succ i => exact h2 i x (by simpa using h)
/-- sorted by keys -/
def srtKD (l ks : List D) : List D := ((l.zip ks).mergeSort (dataLe false (·.2))).map (·.1)
theorem srtK_is {G : Hp} {vs : List V} {ds ks : List D} (k : IsA G vs ds) (hl : ks.length = ds.length) : IsA G (srtV vs ks) (srtKD ds ks) := by
  have hv := k.length
  let T := (vs.zip (ds.zip ks)).mergeSort (dataLe false fun p : V × D × D => p.2.2)
  have e1 : srtV vs ks = T.map (·.1) := by
    unfold srtV srtP
    have z : vs.zip ks = (vs.zip (ds.zip ks)).map fun p => (p.1, p.2.2) := by
      apply List.ext_getElem
      · simp; omega
      · intro i h1 h2; simp
    rw [z, ← List.map_mergeSort (r := dataLe false fun p : V × D × D => p.2.2) (s := dataLe false fun p : V × D => p.2) (f := fun p : V × D × D => (p.1, p.2.2)) fun a _ b _ => rfl, List.map_map]
    rfl
  have e2 : srtKD ds ks = T.map (·.2.1) := by
    unfold srtKD
    have z : ds.zip ks = (vs.zip (ds.zip ks)).map fun p => p.2 := by
      apply List.ext_getElem
      · simp; omega
      · intro i h1 h2; simp
    rw [z, ← List.map_mergeSort (r := dataLe false fun p : V × D × D => p.2.2) (s := dataLe false fun p : D × D => p.2) (f := fun p : V × D × D => p.2) fun a _ b _ => rfl, List.map_map]
    rfl
  have e3 : ∀ p ∈ T, Is G p.1 p.2.1 := fun p hp => by
    have hp' : p ∈ vs.zip (ds.zip ks) := (List.mergeSort_perm _ _).mem_iff.mp hp
    obtain ⟨i, hi⟩ := List.getElem?_of_mem hp'
    rw [List.getElem?_zip_eq_some] at hi
    obtain ⟨h1, h2⟩ := hi
    have h3 := (List.getElem?_zip_eq_some.mp (show (ds.zip ks)[i]? = some (p.2.1, p.2.2) from h2)).1
    obtain ⟨v, h4, h5⟩ := k.get h3
    rw [h1] at h4
    cases h4
    exact h5
  have h := isA_pairs (T.map fun p => (p.1, p.2.1)) fun q hq => by
    obtain ⟨p, hp, rfl⟩ := List.mem_map.mp hq
    exact e3 p hp
  rw [List.map_map, List.map_map] at h
  rw [e1, e2]
  exact h
end
end Pd
end
section
set_option Elab.async false
set_option linter.all false
set_option maxRecDepth 100000
/-! Pd9: sorted by a key, in plain data. -/
namespace Pd
open PySem PySem.Spec PySem.W L2
variable [TB]
/-- what a key must do, in plain data: at any state of ours it gives g d, frozen -/
def KeyD (step : Addr → V → Hp → VK → Prop) (f : Addr) (Hf : Hp → Prop) (g : D → Option D) : Prop :=
  ∀ {pa : Mu} {G H : Hp} {x : V} {d k : D} {Q : VK}, pa.st = false → GS G H → Hf H → Is G x d → g d = some k → (∀ v G' H', Ext muT G H G' H' → Is G' v k → Q v H') → step f x H Q
theorem keys_run {K : PySem.W.Frag} {step : Addr → V → Hp → VK → Prop} {f : Addr} {Hf : Hp → Prop} {g : D → Option D} (hk : KeyD step f Hf g) (stay : ∀ {pa : Mu} {G H G' H' : Hp} {pt : List Int}, PotAt pa H pt → Hf H → Ext pa G H G' H' → Hf H')
    {G0 H0 : Hp} {pa : Mu} {G H : Hp} {σ : L2.St} {ρ : List Sl} {pt : List Int} {vs : List V} {l ks : List D} {Q : VK} (R : Rep G0 H0 pa G H σ ρ pt) (hf : Hf H) (i : IsA G vs l) (e : mapO g l = some ks) (ok : okSort ks = true)
    (q : ∀ v G' H', Ext pa G H G' H' → PotAt pa H' pt → Res H0 H G' H' v (.lst (srtKD l ks)) → Q v H') : KeyNs K step f vs H Q := by
  obtain ⟨hl, hg⟩ := mapO_get e
  refine ⟨fun j us Hn => ∃ Gn, Ext pa G H Gn Hn ∧ PotAt pa Hn pt ∧ IsA Gn us (ks.take j), ⟨G, Ext.refl R.same, R.pot, by rw [List.take_zero]; exact .nil⟩, fun j x us H1 hx ⟨G1, x1, q1, a1⟩ => ?_, fun us H1 hu ⟨G1, x1, q1, a1⟩ => ?_⟩
  · obtain ⟨d, hd, id⟩ := i.getV hx
    obtain ⟨k, hkj, hgd⟩ := hg j d hd
    have R1 := R.ext x1 q1
    refine hk (pa := pa) R.ns R1.gs (stay R.pot hf x1) (id.mono x1.g) hgd fun v G2 H2 x2 k2 => ⟨G2, x1.trans (x2.potless R.ns), q1.extT x2, ?_⟩
    have e3 : ks.take (j + 1) = ks.take j ++ [k] := by rw [List.take_add_one, hkj]; rfl
    rw [e3]
    exact (a1.mono x2.g).snoc k2
  · have R1 := R.ext x1 q1
    have e4 : ks.take vs.length = ks := List.take_of_length_le (by rw [hl, i.length]; exact Nat.le_refl _)
    rw [e4] at a1
    refine ⟨ks, (a1.mono x1.gh).dp (okSort_lay ok), ok, fun p hp => ?_⟩
    exact q _ _ _ (x1.trans (Ext.own x1.gh hp)) (q1.ext (Ext.own x1.gh hp)) ⟨p, _, rfl, x1.pn p (Nw.of hp), free_G x1.gh hp, upd_same, srtK_is (i.mono x1.g) hl⟩
/-- the key a lambda gives; a def -/
def lamKey (N : List Str) (mb : MV) : D → Option D := fun d => (mb (startR N [d]) []).bind fun x => x.1.fix?
def defKey (g : List D → Option Rv) : D → Option D := fun d => (g [d]).bind Rv.fix?
theorem fixT {G H G' H' : Hp} {v : V} {r : Rv} {d : D} (x : Ext muT G H G' H') (k : Res H H G' H' v r) (e : r.fix? = some d) : ∃ G2, Same G' G2 ∧ Ext muT G H G2 H' ∧ Is G2 v d := k.fix x e
def HfLam (f : Addr) (q : Str) (params : Arguments) (body : Expr) (scope : Scope) : Hp → Prop := fun H => ∃ c', H f = some (FunO f q params body scope c') ∧ H c' = some (LamX.CodeO c' q)
theorem codeO_nt {c : Addr} {q : Str} : NTb (LamX.CodeO c q) := fun ps => LamX.codeO_ne ps
theorem kd_lam {f : Addr} {q : Str} {params : Arguments} {body : Expr} {scope : Scope} {N : List Str} {t : TE} {mb : MV} (h : DE t mb) : KeyD (lamStep q params body scope N t) f (HfLam f q params body scope) (lamKey N mb) := by
  intro pa G H x d k Q hp s hf i e qk
  obtain ⟨⟨r, p1⟩, e1, e2⟩ := bnd e
  refine ⟨hf, h (Rep.start N s (.cons i .nil)) e1 fun v G1 H1 x1 q1 k1 => ?_⟩
  obtain ⟨G2, s2, x2, k2⟩ := fixT x1 k1 e2
  exact qk v G2 H1 x2 k2
theorem kd_def {f : Addr} {g : List D → Option Rv} : KeyD (defStep f (spF g)) f (fun _ => True) (defKey g) := by
  intro pa G H x d k Q hp s hf i e qk
  obtain ⟨r, e1, e2⟩ := bnd e
  refine ⟨rfl, G, [d], r, e1, s, .cons i .nil, fun v G1 H1 x1 k1 => ?_⟩
  obtain ⟨G2, s2, x2, k2⟩ := fixT x1 (k1 H) e2
  exact qk v G2 H1 x2 k2
theorem lam_stay {f : Addr} {q : Str} {params : Arguments} {body : Expr} {scope : Scope} {pa : Mu} {G H G' H' : Hp} {pt : List Int} (qp : PotAt pa H pt) (hf : HfLam f q params body scope H) (x : Ext pa G H G' H') : HfLam f q params body scope H' := by
  obtain ⟨c', h1, h2⟩ := hf
  have n1 : pa.p ≠ some f := fun e => by
    have := qp f e
    rw [h1] at this
    cases this
  have n2 : pa.p ≠ some c' := fun e => by
    have := qp c' e
    rw [h2] at this
    cases this
  exact ⟨c', x.hv f _ h1 n1 FunO.nt, x.hv c' _ h2 n2 codeO_nt⟩
/-- sorted(e, key=..): the list's keys by g -/
def mSrtK (g : D → Option D) (me : MV) : MV := fun ρ pt => (me ρ pt).bind fun x => (x.1.ls?).bind fun l => (mapO g l).bind fun ks => if okSort ks = true then some (.lst (srtKD l ks), x.2) else none
def mSrtKD (g : D → Option D) (me : MV) : MV := fun ρ pt => (me ρ pt).bind fun x => (x.1.dc?).bind fun l => (mapO g (keyD l)).bind fun ks => if okSort ks = true then some (.lst (srtKD (keyD l) ks), x.2) else none
section
variable {K : PySem.W.Frag} {te t : TE} {me mb : MV} {f : Addr} {q : Str} {params : Arguments} {body : Expr} {scope : Scope} {N : List Str} {g : List D → Option Rv}
theorem de_srtLam (h : DE te me) (hb : DE t mb) : DE (tCKw (rSrtK K (lamStep q params body scope N t)) (tCons te tNil) (tCons (tLamV TB.T q params body scope) tNil)) (mSrtK (lamKey N mb) me) := by
  intro G0 H0 pa G H σ ρ pt z pt' Q R e qf
  obtain ⟨⟨r, p1⟩, e1, e⟩ := bnd e
  obtain ⟨l, e2, e⟩ := bnd e
  obtain ⟨ks, e3, e⟩ := bnd e
  split at e
  · rename_i ok
    cases e
    refine h R e1 fun v G1 H1 x1 q1 k1 => ⟨(R.ext x1 q1).tb, fun f c' H2 xN t2 hf hc => ?_⟩
    have R1 := R.ext x1 q1
    have x2 := ext_lam R1 xN t2
    have q2 := pot_lam q1 xN
    have R2 := R1.ext x2 q2
    obtain ⟨a, vs, rfl, n, ha, i⟩ := ((Res.vw R k1).ext x2).ls R2.PG e2
    refine ⟨a, f, vs, rfl, rfl, SqL.of ha, ?_⟩
    exact keys_run (kd_lam hb) lam_stay R2 ⟨c', hf, hc⟩ i e3 ok fun v G3 H3 x3 q3 k3 => qf v G3 H3 ((x1.trans x2).trans x3) q3 (k3.back fun a h => (x1.trans x2).pn a h)
  · cases e
theorem de_srtLamD (h : DE te me) (hb : DE t mb) : DE (tCKw (rSrtKD K (lamStep q params body scope N t)) (tCons te tNil) (tCons (tLamV TB.T q params body scope) tNil)) (mSrtKD (lamKey N mb) me) := by
  intro G0 H0 pa G H σ ρ pt z pt' Q R e qf
  obtain ⟨⟨r, p1⟩, e1, e⟩ := bnd e
  obtain ⟨l, e2, e⟩ := bnd e
  obtain ⟨ks, e3, e⟩ := bnd e
  split at e
  · rename_i ok
    cases e
    refine h R e1 fun v G1 H1 x1 q1 k1 => ⟨(R.ext x1 q1).tb, fun f c' H2 xN t2 hf hc => ?_⟩
    have R1 := R.ext x1 q1
    have x2 := ext_lam R1 xN t2
    have q2 := pot_lam q1 xN
    have R2 := R1.ext x2 q2
    obtain ⟨a, kv, rfl, n, ha, i⟩ := ((Res.vw R k1).ext x2).dc R2.PG e2
    refine ⟨a, f, kv, rfl, rfl, ha, fun bs hbs => ?_⟩
    obtain ⟨x3, xt⟩ := addT_ext R2.same bs (keys_is R2.same i hbs)
    have R3 := R2.ext x3.any (q2.ext x3)
    have xx := (x1.trans x2).trans x3.any
    exact keys_run (kd_lam hb) lam_stay R3 ⟨c', hf, hc⟩ (keys_data i hbs xt) e3 ok fun v G4 H4 x4 q4 k4 => qf v G4 H4 (xx.trans x4) q4 (k4.back fun a h => xx.pn a h)
  · cases e
theorem de_srtDef (h : DE te me) : DE (tCKw (rSrtK K (defStep f (spF g))) (tCons te tNil) (tCons (tC (.ref f)) tNil)) (mSrtK (defKey g) me) := by
  intro G0 H0 pa G H σ ρ pt z pt' Q R e qf
  obtain ⟨⟨r, p1⟩, e1, e⟩ := bnd e
  obtain ⟨l, e2, e⟩ := bnd e
  obtain ⟨ks, e3, e⟩ := bnd e
  split at e
  · rename_i ok
    cases e
    refine h R e1 fun v G1 H1 x1 q1 k1 => ?_
    have R1 := R.ext x1 q1
    obtain ⟨a, vs, rfl, n, ha, i⟩ := (Res.vw R k1).ls R1.PG e2
    refine ⟨a, f, vs, rfl, rfl, SqL.of ha, ?_⟩
    exact keys_run kd_def (fun _ _ _ => trivial) R1 trivial i e3 ok fun v G3 H3 x3 q3 k3 => qf v G3 H3 (x1.trans x3) q3 (k3.back fun a h => x1.pn a h)
  · cases e
theorem de_srtDefD (h : DE te me) : DE (tCKw (rSrtKD K (defStep f (spF g))) (tCons te tNil) (tCons (tC (.ref f)) tNil)) (mSrtKD (defKey g) me) := by
  intro G0 H0 pa G H σ ρ pt z pt' Q R e qf
  obtain ⟨⟨r, p1⟩, e1, e⟩ := bnd e
  obtain ⟨l, e2, e⟩ := bnd e
  obtain ⟨ks, e3, e⟩ := bnd e
  split at e
  · rename_i ok
    cases e
    refine h R e1 fun v G1 H1 x1 q1 k1 => ?_
    have R1 := R.ext x1 q1
    obtain ⟨a, kv, rfl, n, ha, i⟩ := (Res.vw R k1).dc R1.PG e2
    refine ⟨a, f, kv, rfl, rfl, ha, fun bs hbs => ?_⟩
    obtain ⟨x3, xt⟩ := addT_ext R1.same bs (keys_is R1.same i hbs)
    have R3 := R1.ext x3.any (q1.ext x3)
    have xx := x1.trans x3.any
    exact keys_run kd_def (fun _ _ _ => trivial) R3 trivial (keys_data i hbs xt) e3 ok fun v G4 H4 x4 q4 k4 => qf v G4 H4 (xx.trans x4) q4 (k4.back fun a h => xx.pn a h)
  · cases e
end
end Pd
end
section
set_option Elab.async false
set_option linter.all false
set_option maxRecDepth 100000
/-! Pd10: sets of tuples of ints, up to 1200 members. -/
namespace Pd
open PySem PySem.Spec L2

/-! ### rounds of a table -/
def orb (m : Nat) : Nat → Nat → Nat → Nat
  | 0, _, acc => acc
  | k + 1, x, acc => if x = m + 5 then 0 else orb m k ((x * 5 + 1) % (m + 1)) (acc ||| 1 <<< x)
theorem lcgI_front (m i : Nat) : ∀ k, lcgI m ((i * 5 + 1) % (m + 1)) k = lcgI m i (k + 1)
  | 0 => rfl
  | k + 1 => by
    show (lcgI m ((i * 5 + 1) % (m + 1)) k * 5 + 1) % (m + 1) = _
    rw [lcgI_front m i k] <;> rfl
theorem lcgI_plus (m i a : Nat) : ∀ k, lcgI m (lcgI m i a) k = lcgI m i (a + k)
  | 0 => rfl
  | k + 1 => by
    show (lcgI m (lcgI m i a) k * 5 + 1) % (m + 1) = (lcgI m i (a + k) * 5 + 1) % (m + 1)
    rw [lcgI_plus m i a k]
theorem orb_bit (m : Nat) : ∀ (k x acc j : Nat), (orb m k x acc).testBit j = true → acc.testBit j = true ∨ ∃ i, i < k ∧ lcgI m x i = j
  | 0, x, acc, j, h => .inl h
  | k + 1, x, acc, j, h => by
    unfold orb at h
    split at h
    · simp at h
    · rcases orb_bit m k _ _ j h with z | ⟨i, hi, e⟩
      · rw [Nat.testBit_or, Bool.or_eq_true] at z
        rcases z with z | z
        · exact .inl z
        · refine .inr ⟨0, Nat.succ_pos _, ?_⟩
          rw [Nat.one_shiftLeft, Nat.testBit_two_pow] at z
          exact of_decide_eq_true z
      · exact .inr ⟨i + 1, Nat.succ_lt_succ hi, by rw [← lcgI_front]; exact e⟩
/-- a good mask: from each slot's run the way comes to each slot -/
structure Gm (m : Nat) : Prop where
  all : ∀ i j, i ≤ m → j ≤ m → ∃ k, k ≤ m ∧ lcgI m i k = j
  one : m = 7 ∨ m = 31 ∨ m = 127 ∨ m = 511 ∨ m = 2047
theorem gm_of {m : Nat} (h1 : orb m (m + 1) 0 0 = 2 ^ (m + 1) - 1) (h2 : lcgI m 0 (m + 1) = 0) (h3 : m = 7 ∨ m = 31 ∨ m = 127 ∨ m = 511 ∨ m = 2047) : Gm m := by
  have zero : ∀ j, j ≤ m → ∃ b, b ≤ m ∧ lcgI m 0 b = j := fun j hj => by
    have hb : (orb m (m + 1) 0 0).testBit j = true := by
      rw [h1, Nat.testBit_two_pow_sub_one]
      exact decide_eq_true (Nat.lt_succ_of_le hj)
    rcases orb_bit m (m + 1) 0 0 j hb with z | ⟨i, hi, e⟩
    · simp at z
    · exact ⟨i, Nat.le_of_lt_succ hi, e⟩
  have turn : ∀ k, lcgI m 0 (m + 1 + k) = lcgI m 0 k := fun k => by rw [← lcgI_plus, h2]
  refine ⟨fun i j hi hj => ?_, h3⟩
  obtain ⟨a, ha, rfl⟩ := zero i hi
  obtain ⟨b, hb, rfl⟩ := zero j hj
  by_cases c : a ≤ b
  · exact ⟨b - a, by omega, by rw [lcgI_plus, show a + (b - a) = b by omega]⟩
  · exact ⟨m + 1 + b - a, by omega, by rw [lcgI_plus, show a + (m + 1 + b - a) = m + 1 + b by omega, turn]⟩
theorem Gm.odd {m : Nat} (g : Gm m) : m % 2 = 1 := by rcases g.one with e | e | e | e | e <;> subst e <;> rfl
theorem Gm.top {m : Nat} (g : Gm m) : m ≤ 2047 := by rcases g.one with e | e | e | e | e <;> omega
theorem gm7 : Gm 7 := gm_of (by decide +kernel) (by decide +kernel) (by omega)
theorem gm31 : Gm 31 := gm_of (by decide +kernel) (by decide +kernel) (by omega)
theorem gm127 : Gm 127 := gm_of (by decide +kernel) (by decide +kernel) (by omega)
theorem gm511 : Gm 511 := gm_of (by decide +kernel) (by decide +kernel) (by omega)
theorem gm2047 : Gm 2047 := gm_of (by decide +kernel) (by decide +kernel) (by omega)

/-! ### the way through a table -/
section
variable {m : Nat}
theorem Gm.run (g : Gm m) (h : Int) {j : Nat} (hj : j ≤ m) : ∃ n, n ≤ m + 12 ∧ runI m (SetTable.bits h) n = j := by
  obtain ⟨k, h1, h2⟩ := g.all _ j (runI_le m (SetTable.bits h) 12) hj
  refine ⟨12 + k, by omega, ?_⟩
  rw [runI_tail (bits_lt h), h2]
theorem Gm.meets (g : Gm m) (h : Int) {j : Nat} (hj : j ≤ m) : ∃ k, k < 10 * SetTable.turns m ∧ way m h k = j := by
  obtain ⟨n, h1, h2⟩ := g.run h hj
  obtain ⟨k, h3, h4⟩ := run_nth m (SetTable.bits h) n
  refine ⟨k, by unfold SetTable.turns; omega, ?_⟩
  show (nth m _ k).j = j
  rw [h4]
  exact h2
theorem way_in (h : Int) (k : Nat) : way m h k ≤ m := by
  have hi : SetTable.bits h % (m + 1) ≤ m := Nat.le_of_lt_succ (Nat.mod_lt _ (Nat.succ_pos m))
  have st : (runAt m (SetTable.bits h % (m + 1)) (SetTable.bits h)).j + (runAt m (SetTable.bits h % (m + 1)) (SetTable.bits h)).more ≤ m := by
    obtain ⟨a, b, _⟩ := runEnd_bd hi
    show SetTable.bits h % (m + 1) + (SetTable.runEnd m (SetTable.bits h % (m + 1)) - SetTable.bits h % (m + 1)) ≤ m
    omega
  exact Nat.le_trans (Nat.le_add_right _ _) (nth_in k _ st)
end
/-- the table t holds the hashes hs: each stands on its own way, nothing free ahead of it -/
structure Tb (t : SetTable) (hs : List Int) : Prop where
  ris : Ris t.place.toList
  dm : t.dummies = #[]
  sz : t.place.size = hs.length
  gm : Gm t.mask
  bd : ∀ x ∈ t.place.toList, x ≤ t.mask
  on : ∀ (i : Nat) (h : Int) (j : Nat), hs[i]? = some h → t.place.toList[i]? = some j → ∃ k, way t.mask h k = j ∧ ∀ k', k' < k → way t.mask h k' ∈ t.place.toList
section
variable {t : SetTable} {hs : List Int}
theorem Tb.len (T : Tb t hs) : t.place.toList.length = hs.length := by rw [Array.length_toList]; exact T.sz
/-- where a search ends -/
theorem Tb.free (T : Tb t hs) (hl : hs.length ≤ t.mask) (h : Int) : ∃ K, K < 10 * SetTable.turns t.mask ∧ way t.mask h K ∉ t.place.toList ∧ ∀ k, k < K → way t.mask h k ∈ t.place.toList := by
  obtain ⟨j, hj, hn⟩ := st_missing t.place.toList (t.mask + 1) (by rw [T.len]; omega)
  obtain ⟨k, hk, rfl⟩ := T.gm.meets h (Nat.le_of_lt_succ hj)
  obtain ⟨K, h1, h2, h3⟩ := st_least (p := fun k => way t.mask h k ∉ t.place.toList) k hn
  exact ⟨K, by omega, h2, fun q hq => Classical.byContradiction fun c => h3 q hq c⟩
theorem Tb.ahead (T : Tb t hs) {h : Int} {K i j : Nat} (hK : way t.mask h K ∉ t.place.toList) (hi : hs[i]? = some h) (hj : t.place.toList[i]? = some j) : ∃ k, k < K ∧ way t.mask h k = j := by
  obtain ⟨k, e, hb⟩ := T.on i h j hi hj
  by_cases c : k < K
  · exact ⟨k, c, e⟩
  · exfalso
    by_cases d : k = K
    · subst d
      exact hK (by rw [e]; exact List.mem_of_getElem? hj)
    · exact hK (hb K (by omega))
theorem Tb.put (T : Tb t hs) {h : Int} {K p : Nat} (hK : way t.mask h K ∉ t.place.toList) (hb : ∀ k, k < K → way t.mask h k ∈ t.place.toList) (ep : SetTable.below t.place (way t.mask h K) = p) :
    p ≤ hs.length ∧ Tb (t.put (way t.mask h K)).1 (hs.take p ++ h :: hs.drop p) ∧ (t.put (way t.mask h K)).1.fill = hs.length + 1 := by
  obtain ⟨j, ej⟩ : ∃ j, j = way t.mask h K := ⟨_, rfl⟩
  have jm : j ≤ t.mask := by rw [ej]; exact way_in h K
  rw [← ej] at hK ep ⊢
  have pl : p ≤ t.place.toList.length := by
    obtain ⟨c, _⟩ := below_cut T.ris j
    rw [← ep, Array.length_toList]
    exact c
  have ph : p ≤ hs.length := by rw [← T.len]; exact pl
  have new : t.place[SetTable.below t.place j]? ≠ some j := fun e => hK (List.mem_of_getElem? (by rw [Array.getElem?_toList]; exact e))
  have pp := put_place t j
  rw [ep] at pp
  have sz : (t.put j).1.place.size = hs.length + 1 := by rw [← Array.length_toList, pp, len_ins _ pl, T.len]
  have old : ∀ {x : Nat}, x ∈ t.place.toList → x ∈ (t.put j).1.place.toList := fun hx => by rw [pp]; exact mem_ins.2 (.inr hx)
  have mk : (t.put j).1.mask = t.mask := rfl
  refine ⟨ph, { ris := ris_insert T.ris new, dm := put_dm T.dm j, sz := by rw [len_ins _ ph]; exact sz, gm := T.gm, bd := fun x hx => ?_, on := fun i g y e1 e2 => ?_ }, ?_⟩
  · rw [pp] at hx
    rcases mem_ins.1 hx with z | z
    · rw [z, mk]; exact jm
    · exact T.bd x z
  · rw [mk]
    rw [tins_get hs ph] at e1
    rw [pp, tins_get _ pl] at e2
    have keep : ∀ i', hs[i']? = some g → t.place.toList[i']? = some y → ∃ k, way t.mask g k = y ∧ ∀ k', k' < k → way t.mask g k' ∈ (t.put j).1.place.toList := fun i' a1 a2 => by
      obtain ⟨k, b1, b2⟩ := T.on i' g y a1 a2
      exact ⟨k, b1, fun q hq => old (b2 q hq)⟩
    by_cases c : i < p
    · rw [if_pos c] at e1 e2
      exact keep i e1 e2
    · rw [if_neg c] at e1 e2
      by_cases d : i = p
      · rw [if_pos d] at e1 e2
        obtain rfl := Option.some.inj e1
        obtain rfl := Option.some.inj e2
        exact ⟨K, ej.symm, fun q hq => old (hb q hq)⟩
      · rw [if_neg d] at e1 e2
        exact keep (i - 1) e1 e2
  · show (t.put j).1.place.size + (t.put j).1.dummies.size = hs.length + 1
    rw [sz, put_dm T.dm j] <;> rfl
end
/-! ### all laid anew -/
section
variable {m : Nat}
theorem free_at (g : Gm m) (owner : Array (Option Nat)) (h : Int) {j : Nat} (hj : j ≤ m) (hf : oAt owner j = none) :
    ∃ K, SetTable.layClean.free m owner (SetTable.turns m) (SetTable.bits h % (m + 1)) (SetTable.bits h) = some (way m h K) ∧ oAt owner (way m h K) = none ∧ ∀ k, k < K → oAt owner (way m h k) ≠ none := by
  obtain ⟨n, h1, h2⟩ := g.run h hj
  have w : way m h (off m (SetTable.bits h % (m + 1)) (SetTable.bits h) n) = j := by
    show (nth m (runAt m _ _) _).j = j
    rw [nth_off, itL_run, ← h2] <;> rfl
  obtain ⟨K, k1, k2, k3⟩ := st_least (p := fun k => oAt owner (way m h k) = none) _ (show oAt owner (way m h (off m (SetTable.bits h % (m + 1)) (SetTable.bits h) n)) = none by rw [w]; exact hf)
  refine ⟨K, free_spec m owner (SetTable.turns m) n _ _ K (by unfold SetTable.turns; omega) k1 (fun k hk => ?_) ?_, k2, k3⟩
  · show (oAt owner (way m h k)).isNone = false
    cases z : oAt owner (way m h k) with
    | none => exact absurd z (k3 k hk)
    | some _ => rfl
  · show (oAt owner (way m h K)).isNone = true
    rw [k2] <;> rfl
theorem own_more (g : Gm m) {done : List Int} {owner : Array (Option Nat)} (W : Own m done owner) (hl : done.length ≤ m) (h : Int) :
    ∃ j, SetTable.layClean.free m owner (SetTable.turns m) (SetTable.bits h % (m + 1)) (SetTable.bits h) = some j ∧ Own m (done ++ [h]) (owner.setIfInBounds j (some done.length)) := by
  obtain ⟨ps, hp, hin⟩ := W.ps
  obtain ⟨j0, h0, n0⟩ := st_missing ps (m + 1) (by omega)
  have f0 : oAt owner j0 = none := Classical.byContradiction fun c => n0 (hin j0 (Nat.le_of_lt_succ h0) c)
  obtain ⟨K, e1, e2, e3⟩ := free_at g owner h (Nat.le_of_lt_succ h0) f0
  obtain ⟨j, ej⟩ : ∃ j, j = way m h K := ⟨_, rfl⟩
  have jm : j ≤ m := by rw [ej]; exact way_in h K
  rw [← ej] at e1 e2
  have self := oAt_set_self (some done.length) (show j < owner.size by rw [W.sz]; exact Nat.lt_succ_of_le jm)
  have sat : ∀ i, oAt owner i ≠ none → oAt (owner.setIfInBounds j (some done.length)) i ≠ none := fun i hi => by
    by_cases c : i = j
    · subst c; rw [self]; exact fun z => by cases z
    · rw [oAt_set_ne _ c]; exact hi
  refine ⟨j, e1, { sz := by rw [Array.size_setIfInBounds]; exact W.sz, at_ := fun i k hi e => ?_, all := fun k hk => ?_, ps := ⟨j :: ps, by simp [hp], fun i hi e => ?_⟩ }⟩
  · by_cases c : i = j
    · subst c
      rw [self] at e
      cases e
      exact ⟨h, K, by simp, ej.symm, fun q hq => sat _ (e3 q hq)⟩
    · rw [oAt_set_ne _ c] at e
      obtain ⟨h', K', a1, a2, a3⟩ := W.at_ i k hi e
      exact ⟨h', K', by rw [List.getElem?_append_left (List.getElem?_eq_some_iff.mp a1).1]; exact a1, a2, fun q hq => sat _ (a3 q hq)⟩
  · by_cases c : k < done.length
    · obtain ⟨i, hi, e⟩ := W.all k c
      exact ⟨i, hi, by rw [oAt_set_ne _ (fun z => by rw [z, e2] at e; cases e)]; exact e⟩
    · rw [List.length_append, List.length_singleton] at hk
      rw [show k = done.length by omega]
      exact ⟨j, jm, self⟩
  · by_cases c : i = j
    · rw [c]; exact List.mem_cons_self
    · rw [oAt_set_ne _ c] at e
      exact List.mem_cons_of_mem _ (hin i hi e)
theorem own_fold (g : Gm m) : ∀ (rest done : List Int) (owner : Array (Option Nat)), Own m done owner → done.length + rest.length ≤ m → ∃ o2, rest.foldl (stepF m) (some (owner, done.length)) = some (o2, (done ++ rest).length) ∧ Own m (done ++ rest) o2
  | [], done, owner, W, _ => ⟨owner, by simp, by rw [List.append_nil]; exact W⟩
  | h :: rest, done, owner, W, hl => by
    have hl1 : done.length + (rest.length + 1) ≤ m := hl
    obtain ⟨j, e, W1⟩ := own_more g W (by omega) h
    have e2 : (done ++ [h]).length = done.length + 1 := by simp
    obtain ⟨o2, f, W2⟩ := own_fold g rest (done ++ [h]) _ W1 (by rw [e2]; omega)
    rw [e2, List.append_assoc] at f
    rw [List.append_assoc] at W2
    exact ⟨o2, by rw [List.foldl_cons, stepF_some e]; exact f, W2⟩
theorem relaid_at (t : SetTable) {hs : Array Int} {wanted M : Nat} (hw : SetTable.sizeAbove wanted - 1 = M) (g : Gm M) (hn : hs.size ≤ M) :
    ∃ t' order, t.relaid hs wanted = some (t', order) ∧ order.toList.Perm (List.range hs.size) ∧ Tb t' (order.toList.map fun i => hs.getD i 0) ∧ t'.mask = M ∧ t'.led = t.led ∧ t'.plain = t.plain := by
  have zl : hs.toList.length = hs.size := Array.length_toList
  obtain ⟨owner, f, W⟩ := own_fold g hs.toList [] _ (Own.init M) (by rw [zl]; show 0 + hs.size ≤ M; omega)
  rw [List.nil_append] at W
  have lc : SetTable.layClean M hs = some owner := by
    rw [layClean_eq]
    have f' : hs.toList.foldl (stepF M) (some (Array.replicate (M + 1) none, 0)) = _ := f
    rw [f'] <;> rfl
  have lv := liveOf M owner
  obtain ⟨q1, q2⟩ := ris_live (fun j => owner.getD j none) (List.range (M + 1)) List.pairwise_lt_range
  have q1 : Ris ((liveOf M owner).map (·.1)) := q1
  have q2 : ∀ x ∈ (liveOf M owner).map (·.1), x ∈ List.range (M + 1) := q2
  have hlen : (liveOf M owner).length = hs.size := by
    obtain ⟨ps, p1, p2⟩ := W.ps
    have nd : ((liveOf M owner).map (·.1)).Nodup := List.Pairwise.imp (fun h => Nat.ne_of_lt h) q1
    have up := nat_nodup_len ((liveOf M owner).map (·.1)) ps nd fun x hx => by
      obtain ⟨⟨y, k⟩, hq, rfl⟩ := List.mem_map.mp hx
      obtain ⟨b1, b2⟩ := (mem_live W.sz).1 hq
      exact p2 y b1 (by rw [b2]; exact fun z => by cases z)
    have dn := nat_nodup_len (List.range hs.size) ((liveOf M owner).map (·.2)) List.nodup_range fun k hk => by
      obtain ⟨j, b1, b2⟩ := W.all k (by rw [zl]; exact List.mem_range.mp hk)
      exact List.mem_map.mpr ⟨(j, k), (mem_live W.sz).2 ⟨b1, b2⟩, rfl⟩
    rw [List.length_map] at up dn
    rw [List.length_range] at dn
    omega
  refine ⟨tabOf t M owner, ((liveOf M owner).map (·.2)).toArray, by rw [relaid_eq, hw, lc] <;> rfl, perm_range hs.size _ ?_ fun k hk => ?_,
    { ris := q1, dm := rfl, sz := ?_, gm := g, bd := fun x hx => Nat.le_of_lt_succ (List.mem_range.mp (q2 x hx)), on := fun i h j h1 h2 => ?_ }, rfl, rfl, rfl⟩
  · show ((liveOf M owner).map (·.2)).length = hs.size
    rw [List.length_map, hlen]
  · obtain ⟨j, b1, b2⟩ := W.all k (by rw [zl]; exact hk)
    exact List.mem_map.mpr ⟨(j, k), (mem_live W.sz).2 ⟨b1, b2⟩, rfl⟩
  · show ((liveOf M owner).map (·.1)).toArray.size = (((liveOf M owner).map (·.2)).map _).length
    simp
  · have e1 : (((liveOf M owner).map (·.2)).map fun i => hs.getD i 0)[i]? = some h := h1
    have e2 : ((liveOf M owner).map (·.1))[i]? = some j := h2
    simp only [List.getElem?_map] at e1 e2
    cases hq : (liveOf M owner)[i]? with
    | none => rw [hq] at e2; cases e2
    | some q =>
      obtain ⟨y, k⟩ := q
      rw [hq] at e1 e2
      obtain rfl : y = j := Option.some.inj e2
      have eh : hs.getD k 0 = h := Option.some.inj e1
      obtain ⟨b1, b2⟩ := (mem_live W.sz).1 (List.mem_of_getElem? hq)
      obtain ⟨h0, K, a1, a2, a3⟩ := W.at_ y k b1 b2
      have e0 : hs.getD k 0 = h0 := by
        rw [Array.getD_eq_getD_getElem?, ← Array.getElem?_toList, a1] <;> rfl
      rw [e0] at eh
      subst eh
      refine ⟨K, a2, fun q hq' => ?_⟩
      show way M h0 q ∈ (liveOf M owner).map (·.1)
      cases z : oAt owner (way M h0 q) with
      | none => exact absurd z (a3 q hq')
      | some k2 => exact List.mem_map.mpr ⟨(way M h0 q, k2), (mem_live W.sz).2 ⟨way_in h0 q, z⟩, rfl⟩
end

/-! ### the set -/
section
variable {P : Program} {w : World} {A : Around} {E : Value → Shared → Prop} {s : Shared}
/-- the set at a holds the rows L (the tuple's address, its ints) -/
structure SetQ (P : Program) (w : World) (h : Heap) (a : Addr) (L : List (Addr × List Int)) (es : Array (Int × Value)) (ep : Nat) (t : SetTable) : Prop where
  ob : ∃ o, h.get? a = some o ∧ o.ExactSet ∧ o.data = .set es ep t
  rows : es.toList = rowsOf P w L
  tab : Tb t (L.map fun p => thash P w p.2)
  nd : (L.map (·.2)).Nodup
  plain : t.plain = true
  led : w.params.followText "set-order" = true ∨ t.led = true
  room : L.length * 5 < t.mask * 3
abbrev Tups (P : Program) (w : World) (h : Heap) (L : List (Addr × List Int)) : Prop := ∀ p ∈ L, IsT P w h p.2 p.1
variable {a : Addr} {L : List (Addr × List Int)} {es : Array (Int × Value)} {ep : Nat} {t : SetTable}
theorem rows_len {es : Array (Int × Value)} (h : es.toList = rowsOf P w L) : es.size = L.length := by
  rw [← Array.length_toList, h]
  exact List.length_map _
theorem rows_at {es : Array (Int × Value)} (h : es.toList = rowsOf P w L) {i : Nat} {p : Addr × List Int} (e : L[i]? = some p) : es[i]? = some (thash P w p.2, Value.ref p.1) := by
  rw [← Array.getElem?_toList, h]
  show (L.map _)[i]? = _
  rw [List.getElem?_map, e] <;> rfl
theorem tb_fits (T : Tb t (L.map fun p => thash P w p.2)) (hr : es.toList = rowsOf P w L) (hl : L.length ≤ t.mask) : t.fits es.size = true := by
  have h1 := T.sz
  rw [List.length_map] at h1
  have h2 := rows_len hr
  unfold SetTable.fits SetTable.fill
  rw [T.dm, Bool.and_eq_true, beq_iff_eq, decide_eq_true_eq]
  show t.place.size = es.size ∧ t.place.size + 0 ≤ t.mask
  omega
theorem SetQ.fits (R : SetQ P w s.heap a L es ep t) : t.fits es.size = true := tb_fits R.tab R.rows (by have := R.room; omega)
theorem tb_gw (T : Tb t (L.map fun p => thash P w p.2)) : ¬ t.gaveWay = true := by
  unfold SetTable.gaveWay
  rw [T.gm.odd]
  decide
/-- the search for the tuple at x from the c-th place of its way on -/
theorem seek (R : SetQ P w s.heap a L es ep t) (TU : Tups P w s.heap L) {x : Addr} {k : List Int} (hx : IsT P w s.heap k x) (hu : A.units < cLine) {K : Nat} (hKf : K < 10 * SetTable.turns t.mask) (hK : way t.mask (thash P w k) K ∉ t.place.toList)
    (hb : ∀ c, c < K → way t.mask (thash P w k) c ∈ t.place.toList) {Q : SetFound → Shared → Prop} (hin : k ∈ L.map (·.2) → Q (.there none) s) (hout : k ∉ L.map (·.2) → Q (.free (way t.mask (thash P w k) K) false) s) :
    ∀ (f c : Nat) (stand : Option SetTable.Probe), stand.getD (t.probeStart (thash P w k)) = nth t.mask (runAt t.mask (SetTable.bits (thash P w k) % (t.mask + 1)) (SetTable.bits (thash P w k))) c → c ≤ K → K - c < f →
      (∀ (i : Nat) p, L[i]? = some p → p.2 = k → ∃ c', c ≤ c' ∧ c' < K ∧ t.place.toList[i]? = some (way t.mask (thash P w k) c')) → wpAny (model P w) A (setSearchFrom a (.ref x) (thash P w k) true f stand) Q E s := by
  intro f
  induction f with
  | zero => intro c stand _ _ hf _; exact absurd hf (Nat.not_lt_zero _)
  | succ f ih =>
    intro c stand hst hc hf hre
    obtain ⟨o, ho, hex, hd⟩ := R.ob
    -- the way's c-th state
    obtain ⟨W, eW⟩ : ∃ W : Nat → SetTable.Probe, W = nth t.mask (runAt t.mask (SetTable.bits (thash P w k) % (t.mask + 1)) (SetTable.bits (thash P w k))) := ⟨_, rfl⟩
    have wj : ∀ q, (W q).j = way t.mask (thash P w k) q := fun q => by rw [eW]
    have wn : ∀ q n, nth t.mask (W q) n = W (q + n) := fun q n => by rw [eW]; exact (nth_add t.mask q _ n).symm
    have wd : ∀ q, (W q).dummy = none := fun q => by
      have go : ∀ (n : Nat) (p : SetTable.Probe), p.dummy = none → (nth t.mask p n).dummy = none := by
        intro n
        induction n with
        | zero => exact fun p h => h
        | succ n ihn =>
          intro p h
          refine ihn (adv t.mask p) ?_
          unfold adv
          split <;> exact h
      rw [eW]; exact go q _ rfl
    rw [← eW] at hst
    have hashAt : ∀ (i : Nat) p, L[i]? = some p → (es[i]?.map (·.1)).getD 0 = thash P w p.2 := fun i p hp => by rw [rows_at R.rows hp] <;> rfl
    have spec := go_spec t R.tab.ris R.tab.dm (fun i => (es[i]?.map (·.1)).getD 0) (thash P w k) (10 * SetTable.turns t.mask) (K - c) (W c) (wd c) (by omega)
      (fun q hq => by rw [wn, wj]; exact hb (c + q) (by omega)) (by rw [wn, wj, show c + (K - c) = K by omega]; exact hK)
    rw [setSearchFrom_succ]
    refine wpAny_bind (wpAny_setState_of ho hd R.fits ?_)
    dsimp only
    refine wp_if_neg (tb_gw R.tab) ?_
    try refine wpAny_bind (wpAny_pure ?_)
    -- what was passed hasn't our hash
    rcases spec with ⟨q, i, hq, hi, hh, hno, hpr⟩ | ⟨hno, hpr⟩
    · rw [wn, wj] at hi hpr
      rw [wn] at hpr
      have pr : t.probe (fun i => (es[i]?.map (·.1)).getD 0) (thash P w k) (stand.getD (t.probeStart (thash P w k))) = some (.candidate (way t.mask (thash P w k) (c + q)) i (W (c + (q + 1)))) := by rw [hst]; exact hpr
      rw [pr]
      dsimp only
      have hil : i < L.length := by
        have h1 := (List.getElem?_eq_some_iff.mp hi).1
        have h2 := R.tab.len
        rw [List.length_map] at h2
        omega
      obtain ⟨p, hp⟩ : ∃ p, L[i]? = some p := ⟨_, List.getElem?_eq_getElem hil⟩
      have hmem : p ∈ L := List.mem_of_getElem? hp
      have live := slot_live R.tab.ris hi
      have rest : wpAny (model P w) A (searchRest a (.ref x) (thash P w k) true f es t (way t.mask (thash P w k) (c + q)) i (W (c + (q + 1)))) Q E s := by
        unfold searchRest
        rw [rows_at R.rows hp]
        dsimp only
        refine wpAny_bind (wpAny_holding (wpAny_eqBool_tuple hu (TU p hmem) hx ?_))
        refine wpAny_bind (wpAny_setState_of ho hd R.fits ?_)
        dsimp only
        by_cases hkk : p.2 = k
        · refine wp_if_pos (by simp [hkk]) ?_
          exact wpAny_pure (hin (List.mem_map.mpr ⟨p, hmem, hkk⟩))
        · refine wp_if_neg (by simp [hkk]) ?_
          try refine wpAny_bind (wpAny_pure ?_)
          rw [sameMem]
          dsimp only
          simp only [if_true, live, rows_at R.rows hp]
          refine wpAny_bind (wpAny_isSame_ref_self (wpAny_bind (wpAny_pure ?_)))
          simp only [if_true]
          refine wp_if_neg (by simp [hkk]) ?_
          refine ih (c + (q + 1)) _ (by rw [← eW]; rfl) (by omega) (by omega) fun i0 p0 h0 hk0 => ?_
          obtain ⟨c', a1, a2, a3⟩ := hre i0 p0 h0 hk0
          refine ⟨c', ?_, a2, a3⟩
          by_cases z : c + q + 1 ≤ c'
          · exact z
          · exfalso
            by_cases y : c' = c + q
            · rw [y] at a3
              have l0 := slot_live R.tab.ris a3
              rw [live] at l0
              injection l0 with l0
              rw [← l0, hp] at h0
              cases h0
              exact hkk hk0
            · refine hno (c' - c) i0 (by omega) (by rw [wn, wj, show c + (c' - c) = c' by omega]; exact a3) ?_
              exact (hashAt i0 p0 h0).trans (congrArg (thash P w) hk0)
      by_cases hl : t.led = true
      · refine wp_if_neg (by simp [hl]) ?_
        try refine wpAny_bind (wpAny_pure ?_)
        exact rest
      · refine wp_if_pos (by simp [hl]) ?_
        refine wpAny_bind (seen_tup hx (fun y hy => ?_) ?_)
        · obtain ⟨e, he, ee⟩ := List.mem_map.mp hy
          have he1 : e ∈ es ∧ e.1 = thash P w k := by simpa using he
          have he2 : e ∈ es.toList := by simpa using he1.1
          rw [R.rows] at he2
          obtain ⟨p2, hp2, e2⟩ := List.mem_map.mp he2
          exact ⟨p2.2, p2.1, by rw [← ee, ← e2], TU p2 hp2⟩
        · refine wp_if_neg (by decide) ?_
          try refine wpAny_bind (wpAny_pure ?_)
          exact rest
    · rw [wn, wj, show c + (K - c) = K by omega] at hpr
      have pr : t.probe (fun i => (es[i]?.map (·.1)).getD 0) (thash P w k) (stand.getD (t.probeStart (thash P w k))) = some (.empty (way t.mask (thash P w k) K) none) := by rw [hst]; exact hpr
      rw [pr]
      dsimp only
      refine wpAny_pure (hout fun hm => ?_)
      obtain ⟨p0, h0, hk0⟩ := List.mem_map.mp hm
      obtain ⟨i0, h00⟩ := List.getElem?_of_mem h0
      obtain ⟨c', a1, a2, a3⟩ := hre i0 p0 h00 hk0
      refine hno (c' - c) i0 (by omega) (by rw [wn, wj, show c + (c' - c) = c' by omega]; exact a3) ?_
      exact (hashAt i0 p0 h00).trans (congrArg (thash P w) hk0)
theorem seek_all (R : SetQ P w s.heap a L es ep t) (TU : Tups P w s.heap L) {x : Addr} {k : List Int} (hx : IsT P w s.heap k x) (hu : A.units < cLine) {Q : SetFound → Shared → Prop} (hin : k ∈ L.map (·.2) → Q (.there none) s)
    (hout : ∀ K, k ∉ L.map (·.2) → way t.mask (thash P w k) K ∉ t.place.toList → (∀ c, c < K → way t.mask (thash P w k) c ∈ t.place.toList) → Q (.free (way t.mask (thash P w k) K) false) s) : wpAny (model P w) A (setSearch a (.ref x) (thash P w k) true) Q E s := by
  have hroom := R.room
  have top := R.tab.gm.top
  obtain ⟨K, hKf, hK, hb⟩ := R.tab.free (by rw [List.length_map]; omega) (thash P w k)
  have small : K < 100000 := by
    unfold SetTable.turns at hKf
    omega
  unfold setSearch
  refine seek R TU hx hu hKf hK hb hin (fun hn => hout K hn hK hb) 100000 0 none rfl (Nat.zero_le _) (by omega) fun i p hp hk => ?_
  have hi : (L.map fun p => thash P w p.2)[i]? = some (thash P w k) := by rw [List.getElem?_map, hp, ← hk] <;> rfl
  have hil : i < t.place.toList.length := by
    rw [R.tab.len]
    exact (List.getElem?_eq_some_iff.mp hi).1
  obtain ⟨c, hc, e⟩ := R.tab.ahead hK hi (List.getElem?_eq_getElem hil)
  exact ⟨c, Nat.zero_le _, hc, by rw [List.getElem?_eq_getElem hil, e]⟩
end
end Pd
end
section
set_option Elab.async false
set_option linter.all false
set_option maxRecDepth 100000
/-! Pd11: putting into a set of tuples; set(xs). -/
namespace Pd
open PySem PySem.Spec PyProof.Rows L2
section
variable {P : Program} {w : World} {A : Around} {E : Value → Shared → Prop} {s : Shared} {a : Addr} {L : List (Addr × List Int)} {es : Array (Int × Value)} {ep : Nat} {t : SetTable}
theorem tups_but {h h' : Heap} {o : Obj} (T : Tups P w h L) (ho : h.get? a = some o) (hd : o.data = .set es ep t) (hs : Heap.SameBut a h h') : Tups P w h' L := fun p hp => isT_same (T p hp) ho hd hs
/-- the table is laid anew, larger -/
theorem relay_q {o : Obj} (ho : s.heap.get? a = some o) (hex : o.ExactSet) (hd : o.data = .set es ep t) (hr : es.toList = rowsOf P w L) (T : Tb t (L.map fun p => thash P w p.2)) (hl : L.length ≤ t.mask) (nd : (L.map (·.2)).Nodup) (pl : t.plain = true)
    (ld : w.params.followText "set-order" = true ∨ t.led = true) {wanted M : Nat} (hw : SetTable.sizeAbove wanted = M + 1) (g : Gm M) (hn : L.length * 5 < M * 3) {Q : Unit → Shared → Prop}
    (hQ : ∀ h' L' es' ep' t', Heap.SameBut a s.heap h' → SetQ P w h' a L' es' ep' t' → L'.Perm L → Q () { s with heap := h' }) : wpAny (model P w) A (setRelay a wanted) Q E s := by
  have zl := rows_len hr
  have top := g.top
  have zh : (es.map (·.1)).size = L.length := by rw [Array.size_map, zl]
  obtain ⟨t', order, e, hp, T', em, el, epl⟩ := relaid_at t (hs := es.map (·.1)) (wanted := wanted) (M := M) (by rw [hw]; rfl) g (by rw [zh]; omega)
  rw [zh] at hp
  obtain ⟨L2, r1, r2, r3⟩ := order_rows L es order hr hp
  have z2 : (order.filterMap (es[·]?)).size = L.length := by rw [rows_len r1, r2.length_eq]
  rw [setRelay_eq]
  refine wpAny_bind (wpAny_setState_of ho hd (tb_fits T hr hl) ?_)
  dsimp only
  refine wp_if_neg (by rw [hw, sizeLine_eq]; omega) ?_
  try refine wpAny_bind (wpAny_pure ?_)
  rw [e]
  dsimp only
  refine wpAny_bind ?_
  refine wp_if_neg (by rw [z2, zl]; simp) ?_
  try refine wpAny_bind (wpAny_pure ?_)
  refine wpAny_pure ?_
  dsimp only
  refine wpAny_storeSet_of ho hd ?_ (by rw [z2, sizeLine_eq]; omega)
  refine hQ _ L2 (order.filterMap (es[·]?)) (ep + 1) t' (Heap.SameBut.update ..) ?_ r2
  exact { ob := ⟨_, store_at ho hd, ⟨hex.1, hex.2.1, hex.2.2⟩, rfl⟩, rows := r1, tab := by rw [r3]; exact T', nd := (r2.map (·.2)).nodup_iff.mpr nd, plain := by rw [epl]; exact pl, led := by rw [el]; exact ld, room := by rw [r2.length_eq, em]; exact hn }
theorem grown_5 : SetTable.sizeAbove (SetTable.grown 5) = 32 := by decide +kernel
theorem grown_19 : SetTable.sizeAbove (SetTable.grown 19) = 128 := by decide +kernel
theorem grown_77 : SetTable.sizeAbove (SetTable.grown 77) = 512 := by decide +kernel
theorem grown_307 : SetTable.sizeAbove (SetTable.grown 307) = 2048 := by decide +kernel
/-- one is put in -/
theorem put_q (R : SetQ P w s.heap a L es ep t) (TU : Tups P w s.heap L) {x : Addr} {k : List Int} (hx : IsT P w s.heap k x) (hu : A.units < cLine) (few : L.length < 1200) {Q : Bool → Shared → Prop}
    (hQ : ∀ b h' L' es' ep' t', Heap.SameBut a s.heap h' → SetQ P w h' a L' es' ep' t' → (k ∈ L.map (·.2) → L' = L) → (k ∉ L.map (·.2) → L'.Perm ((x, k) :: L)) → Q b { s with heap := h' }) :
    wpAny (model P w) A (setAddHashed a (.ref x) (thash P w k)) Q E s := by
  obtain ⟨o, ho, hex, hd⟩ := R.ob
  have hroom := R.room
  unfold setAddHashed
  refine wpAny_holding ?_
  rw [show (100000 : Nat) = 99999 + 1 from rfl, setAddHashedIn_succ]
  refine wpAny_bind (wpAny_setState_of ho hd R.fits ?_)
  dsimp only
  refine wp_if_neg (by simp [byScan, Value.scannable]) ?_
  try refine wpAny_bind (wpAny_pure ?_)
  refine wpAny_bind (seek_all R TU hx hu (fun hm => ?_) fun K hm hK hb => ?_)
  · dsimp only
    exact wpAny_pure (hQ false s.heap L es ep t (Heap.SameBut.refl a s.heap) R (fun _ => rfl) fun z => absurd hm z)
  · dsimp only
    refine wpAny_bind (wpAny_setState_of ho hd R.fits ?_)
    dsimp only
    obtain ⟨p, ep0⟩ : ∃ p, SetTable.below t.place (way t.mask (thash P w k) K) = p := ⟨_, rfl⟩
    obtain ⟨q2, q3, q9⟩ := R.tab.put hK hb ep0
    have q1 : (t.put (way t.mask (thash P w k) K)).2 = p := ep0
    have q4 : (t.put (way t.mask (thash P w k) K)).1.mask = t.mask := rfl
    have q5 : (t.put (way t.mask (thash P w k) K)).1.led = t.led := rfl
    have q6 : (t.put (way t.mask (thash P w k) K)).1.plain = true := R.plain
    generalize t.put (way t.mask (thash P w k) K) = pt at q1 q3 q4 q5 q6 q9 ⊢
    obtain ⟨t1, p1⟩ := pt
    dsimp only at q1 q3 q4 q5 q6 q9 ⊢
    subst q1
    first
      | (refine wpAny_bind ?_; refine wp_if_pos q6 ?_; refine hashBy_tup hx ?_)
      | refine wp_if_pos q6 (wpAny_bind (hashBy_tup hx ?_))
    simp only [if_true]
    have in1 : (SetTable.insertAt es p1 (thash P w k, Value.ref x)).toList = rowsOf P w (L.take p1 ++ (x, k) :: L.drop p1) := by
      rw [SetTable.toList_insertAt, rows_put, R.rows]
    have pm := put_perm L p1 (x, k)
    have T1 : Tb t1 ((L.take p1 ++ (x, k) :: L.drop p1).map fun p => thash P w p.2) := by
      rw [List.map_append, List.map_cons, List.map_take, List.map_drop]
      exact q3
    generalize SetTable.insertAt es p1 (thash P w k, Value.ref x) = es1 at in1 ⊢
    generalize L.take p1 ++ (x, k) :: L.drop p1 = L1 at pm T1 in1
    have z1 : L1.length = L.length + 1 := pm.length_eq
    have nd1 : (L1.map (·.2)).Nodup := (pm.map (·.2)).nodup_iff.mpr (List.nodup_cons.mpr ⟨hm, R.nd⟩)
    have ze := rows_len in1
    refine wpAny_bind (wpAny_storeSet_of ho hd ?_ (by rw [ze, z1, sizeLine_eq]; omega))
    have sb : Heap.SameBut a s.heap (s.heap.update a (Obj.putSet es1 t1)) := Heap.SameBut.update ..
    have ho1 := store_at (es' := es1) (t' := t1) ho hd
    generalize s.heap.update a (Obj.putSet es1 t1) = h1 at sb ho1 ⊢
    have ld1 : w.params.followText "set-order" = true ∨ t1.led = true := by rw [q5]; exact R.led
    have fl : t1.fill = L.length + 1 := by rw [q9, List.length_map]
    by_cases hf : t1.tooFull = true
    · first
        | (refine wpAny_bind ?_; refine wp_if_pos (by simp [hf]) ?_)
        | (refine wp_if_pos (by simp [hf]) ?_; refine wpAny_bind ?_)
      have full : (L.length + 1) * 5 ≥ t1.mask * 3 := by
        have h := hf
        unfold SetTable.tooFull at h
        rw [decide_eq_true_eq, fl] at h
        exact h
      have lm : L1.length ≤ t1.mask := by rw [z1, q4]; omega
      rw [rows_len R.rows]
      have go : ∀ M, SetTable.sizeAbove (SetTable.grown (L.length + 1)) = M + 1 → Gm M → (L.length + 1) * 5 < M * 3 →
          wpAny (model P w) A (setRelay a (SetTable.grown (L.length + 1))) (fun _ s' => wpAny (model P w) A (pure true) Q E s') E { s with heap := h1 } := fun M a1 a2 a3 => by
        refine relay_q (s := { s with heap := h1 }) ho1 ⟨hex.1, hex.2.1, hex.2.2⟩ rfl in1 T1 lm nd1 q6 ld1 a1 a2 (by rw [z1]; exact a3) ?_
        intro h2 L2 es2 ep2 t2 sb2 R2 pm2
        exact wpAny_pure (hQ true h2 L2 es2 ep2 t2 (sb.trans sb2) R2 (fun z => absurd z hm) fun _ => pm2.trans pm)
      have gm := R.tab.gm.one
      rw [q4] at full
      rcases gm with e | e | e | e | e
      · have e2 : L.length = 4 := by rw [e] at full hroom; omega
        exact go 31 (by rw [e2, grown_5]) gm31 (by omega)
      · have e2 : L.length = 18 := by rw [e] at full hroom; omega
        exact go 127 (by rw [e2, grown_19]) gm127 (by omega)
      · have e2 : L.length = 76 := by rw [e] at full hroom; omega
        exact go 511 (by rw [e2, grown_77]) gm511 (by omega)
      · have e2 : L.length = 306 := by rw [e] at full hroom; omega
        exact go 2047 (by rw [e2, grown_307]) gm2047 (by omega)
      · exfalso
        rw [e] at full
        omega
    · first
        | refine wp_if_neg (by simp [hf]) ?_
        | (refine wpAny_bind ?_; refine wp_if_neg (by simp [hf]) ?_; refine wpAny_pure ?_)
      refine wpAny_pure (hQ true h1 L1 es1 (ep + 1) t1 sb { ob := ⟨_, ho1, ⟨hex.1, hex.2.1, hex.2.2⟩, rfl⟩, rows := in1, tab := T1, nd := nd1, plain := q6, led := ld1, room := ?_ } (fun z => absurd z hm) fun _ => pm)
      have h := hf
      unfold SetTable.tooFull at h
      rw [decide_eq_true_eq, fl] at h
      rw [z1]
      omega
end
section
variable {P : Program} {w : World} {A : Around} {E : Value → Shared → Prop} {s : Shared}
theorem SetQ.same {h h' : Heap} {a : Addr} {L : List (Addr × List Int)} {es : Array (Int × Value)} {ep : Nat} {t : SetTable} (R : SetQ P w h a L es ep t) (ha : ∀ o, h.get? a = some o → h'.get? a = some o) : SetQ P w h' a L es ep t := by
  obtain ⟨o, ho, r⟩ := R.ob
  exact { R with ob := ⟨o, ha o ho, r⟩ }
theorem tups_keep {h h' : Heap} {L : List (Addr × List Int)} (T : Tups P w h L) (k : ∀ c o, h.get? c = some o → h'.get? c = some o) : Tups P w h' L := fun p hp => isT_keep (T p hp) k
/-- an empty one -/
abbrev newSet (w : World) : Obj := { cls := .type "set", dict := none, data := .set #[] 0 (.fresh 0 0 (!w.params.followText "set-order")) }
theorem setQ_new {h : Heap} {a : Addr} (ho : h.get? a = some (newSet w)) : SetQ P w h a [] #[] 0 (.fresh 0 0 (!w.params.followText "set-order")) where
  ob := ⟨_, ho, ⟨rfl, rfl, rfl⟩, rfl⟩
  rows := rfl
  tab := { ris := List.Pairwise.nil, dm := rfl, sz := rfl, gm := gm7, bd := fun x hx => (by cases hx), on := fun i h j hi => (by simp at hi) }
  nd := List.nodup_nil
  plain := rfl
  led := by
    show _ ∨ (!w.params.followText "set-order") = true
    cases w.params.followText "set-order" with
    | true => exact .inl rfl
    | false => exact .inr rfl
  room := by
    show 0 * 5 < 7 * 3
    decide
/-- what stands behind the loop of set.update -/
def Upd (P : Program) (w : World) (S : Addr) (wr : List Addr) (G : Array GenState → Array GenState → Prop) (ks : List (Addr × List Int)) (h0 : Heap) (s s' : Shared) : Prop :=
  ∃ L es ep t, Moved (S :: wr) G s s' ∧ SetQ P w s'.heap S L es ep t ∧ Got ks ks.length L ∧ ∀ b o, h0.get? b = some o → s'.heap.get? b = some o
theorem upd_loop {I : Addr} {fp wr : List Addr} {G : Array GenState → Array GenState → Prop} {n : Nat} {Pv : Nat → Value → Prop} {St : Nat → Shared → Prop} {R : Result → Shared → Prop} (W : WalksS P w A.in1 I fp wr G n Pv St) (S : Addr) (hSf : S ∉ fp)
    (ks : List (Addr × List Int)) (hn : n = ks.length) (few : ks.length ≤ 1200) (hval : ∀ i v, Pv i v → ∃ p, ks[i]? = some p ∧ v = .ref p.1) (h0 : Heap) (hk : Tups P w h0 ks) (hS0 : h0.get? S = none) (hw0 : ∀ b ∈ wr, h0.get? b = none) (hu : A.in1.units < cLine) :
    ∀ (k i : Nat) (s : Shared), n - i = k → i ≤ n → St i s → (∀ b o, h0.get? b = some o → s.heap.get? b = some o) → (∃ L es ep t, SetQ P w s.heap S L es ep t ∧ Got ks i L) → (∀ s', Upd P w S wr G ks h0 s s' → R (.ok (.ret .none)) s') →
      codeAny (model P w) A (.builtin "set.update.loop" ⟨[.ref S, .ref I], []⟩) R s := by
  have sw : S ∉ wr := fun h => hSf (W.sub _ h)
  have wider : ∀ b ∈ wr, b ∈ S :: wr := fun b hb => List.mem_cons_of_mem _ hb
  have old : ∀ {s s' : Shared}, Moved wr G s s' → (∀ b o, h0.get? b = some o → s.heap.get? b = some o) → ∀ b o, h0.get? b = some o → s'.heap.get? b = some o := fun hm kp b o e => hm.heap b o (fun hb => by rw [hw0 b hb] at e; cases e) (kp b o e)
  intro k
  induction k with
  | zero =>
    intro i s hi0 hi hst kp ⟨L, es, ep, t, hS, g⟩ hR
    obtain rfl : i = n := by omega
    refine codeAny_builtin F.entry_set_update_loop ?_
    rw [Around.under_plainId F.plain_set_update_loop _]
    show wpAny _ A.in1 (pyNext (.ref I) >>= _) _ _ s
    refine wpAny_bind (W.done s _ _ hst fun s' hm => ?_)
    rw [hn] at g
    exact wpAny_pure (hR s' ⟨L, es, ep, t, hm.mono wider, hS.same fun o e => hm.heap S o sw e, g, old hm kp⟩)
  | succ k ih =>
    intro i s hi0 hi hst kp ⟨L, es, ep, t, hS, g⟩ hR
    have lt : i < n := by omega
    refine codeAny_builtin F.entry_set_update_loop ?_
    rw [Around.under_plainId F.plain_set_update_loop _]
    show wpAny _ A.in1 (pyNext (.ref I) >>= _) _ _ s
    refine wpAny_bind (W.item i s _ _ lt hst fun v s' hP hst' hm => ?_)
    obtain ⟨p, hp, rfl⟩ := hval i v hP
    have kp' := old hm kp
    have TU : Tups P w s'.heap L := fun q hq => isT_keep (hk q (List.mem_of_mem_take (g.sub q hq))) kp'
    have hx : IsT P w s'.heap p.2 p.1 := isT_keep (hk p (List.mem_of_getElem? hp)) kp'
    show wpAny _ A.in1 (holding [Value.ref p.1] (setAdd S (.ref p.1)) >>= _) _ _ s'
    refine wpAny_bind (wpAny_holding ?_)
    unfold setAdd
    refine wpAny_holding ?_
    refine wpAny_bind (wpAny_pyHash_tuple hu hx ?_)
    refine put_q (s := { s' with toks := s'.toks + (p.2.length + 1) }) (hS.same fun o e => hm.heap S o sw e) TU hx hu (by have := g.len; omega) fun b h' L' es' ep' t' sb hS2 c1 c2 => ?_
    have g' : Got ks (i + 1) L' := by
      by_cases c : p.2 ∈ L.map (·.2)
      · rw [c1 c]; exact g.same hp c
      · exact g.more hp (c2 c)
    have ne : ∀ b o, h0.get? b = some o → b ≠ S := fun b o e z => by rw [z, hS0] at e; cases e
    refine wpAny_pure ⟨plainId_quiet F.plain_set_update_loop _, ih (i + 1) _ (by omega) lt (W.frame _ s' _ _ hst' (Nat.le_add_right _ _) fun b hb o e => ?_) (fun b o e => (sb.2 b (ne b o e)).trans (kp' b o e)) ⟨L', es', ep', t', hS2, g'⟩ fun s2 ⟨L2, es2, ep2, t2, m2, S2, g2, k2⟩ => ?_⟩
    · rw [sb.2 b fun z => hSf (by rw [← z]; exact hb)]; exact e
    · refine hR s2 ⟨L2, es2, ep2, t2, Moved.trans W.gtrans ((hm.mono wider).then_heap (Nat.le_add_right _ _) fun b o hb e => ?_) m2, S2, g2, k2⟩
      rw [sb.2 b fun z => hb (by rw [z]; exact List.mem_cons_self)]; exact e
end
/-! ### set(xs) -/
section
variable {P : Program} {w : World} {A : Around} {E : Value → Shared → Prop} {s : Shared}
/-- what can be walked into a set: a list, a tuple -/
structure Wlk (P : Program) (w : World) (s : Shared) (l : Addr) (T : String) (n : Nat) (Pv : Nat → Value → Prop) : Prop where
  ty : ∃ o, s.heap.get? l = some o ∧ o.cls = .type T
  ns : isSubtype (.type T) (.type "set") = pure false
  nf : isSubtype (.type T) (.type "frozenset") = pure false
  nd : (Value.type T == Value.type "dict") = false
  it : ∀ (A : Around) (h1 : Heap), A.handled = none → (∀ b o, s.heap.get? b = some o → h1.get? b = some o) → l < h1.objs.size → ∃ (oI : Obj) (St : Nat → Heap → Prop),
    (∀ (B : Around) (E : Value → Shared → Prop) (Q : Value → Shared → Prop), Q (.ref h1.objs.size) { s with heap := h1.push oI } → wpAny (model P w) B (pyIter (.ref l)) Q E { s with heap := h1 }) ∧
    Walks P w A h1.objs.size [h1.objs.size, l] [h1.objs.size] n Pv St ∧ St 0 (h1.push oI)
theorem wlk_list {l : Addr} {items : Array Value} (hl : s.heap.IsList l items) : Wlk P w s l "list" items.size fun i v => items[i]? = some v where
  ty := by obtain ⟨o, h1, h2, _⟩ := hl; exact ⟨o, h1, h2⟩
  ns := F.sub_list_set
  nf := F.sub_list_frozenset
  nd := by decide
  it := fun A h1 hh kp hlt => by
    obtain ⟨o, e1, e2, n, e3⟩ := hl
    have hl1 : h1.IsList l items := ⟨o, kp _ _ e1, e2, n, e3⟩
    exact ⟨_, _, fun B E Q q => wpAny_pyIter_list hl1 q, Walks.list hh _ l (Nat.ne_of_lt hlt) items, ⟨_, Heap.get?_push_size _ rfl, rfl, rfl⟩, hl1.push _⟩
theorem wlk_tup {l : Addr} {items : Array Value} (hl : s.heap.IsTuple l items) : Wlk P w s l "tuple" items.size fun i v => items[i]? = some v where
  ty := by obtain ⟨o, h1, h2, _⟩ := hl; exact ⟨o, h1, h2⟩
  ns := F.sub_tuple_set
  nf := F.sub_tuple_frozenset
  nd := by decide
  it := fun A h1 hh kp hlt => by
    obtain ⟨o, e1, e2, n, e3⟩ := hl
    have hl1 : h1.IsTuple l items := ⟨o, kp _ _ e1, e2, n, e3⟩
    exact ⟨_, _, fun B E Q q => wpAny_pyIter_tuple hl1 q, Walks.tuple hh _ l (Nat.ne_of_lt hlt) items, ⟨_, Heap.get?_push_size _ rfl, rfl, rfl⟩, hl1.push _⟩
set_option maxHeartbeats 3200000 in
theorem set_call {l : Addr} {T : String} {n : Nat} {Pv : Nat → Value → Prop} (ks : List (Addr × List Int)) {Q : Value → Shared → Prop} (hh : A.handled = none) (W : Wlk P w s l T n Pv) (hn : n = ks.length) (hval : ∀ i v, Pv i v → ∃ p, ks[i]? = some p ∧ v = .ref p.1)
    (hk : Tups P w s.heap ks) (few : ks.length ≤ 1200) (hu : A.units + 3 < cLine)
    (h : ∀ (h' : Heap) (tk : Nat) L es ep t, SetQ P w h' s.heap.objs.size L es ep t → Got ks ks.length L → (∀ b o, s.heap.get? b = some o → h'.get? b = some o) → Q (.ref s.heap.objs.size) { s with heap := h', toks := tk }) :
    wpAny (model P w) A (call (.type "set") [.ref l]) Q E s := by
  obtain ⟨S, eS⟩ : ∃ S, S = s.heap.objs.size := ⟨_, rfl⟩
  rw [← eS] at h
  obtain ⟨c, tl, hmro⟩ := F.called_set.mro
  have hmade := F.called_set.made
  have hsub := F.called_set.sub
  have g1 := F.called_set.notType
  have g2 := F.called_set.canCreate
  have g3 := F.typeCall_set_1 (.ref l)
  refine wpAny_call (codeAny_of_tree ?_)
  show wpAny _ _ (callAny (.type "set") _) _ _ _
  refine wpAny_pure ⟨Code.quiet_builtin _ (by decide +kernel), codeAny_builtin F.entry_type_call ?_⟩
  rw [Around.under_plain (weight_type_call_type "set" [.ref l] []) rfl]
  repeat (any_goals (first | assumption | wp_step))
  refine codeAny_mono (code_set_led1 (.ref l) (E := E) (Q₁ := fun obj s₁ => obj = .ref S ∧ s₁ = { s with heap := s.heap.push (newSet w) }) ⟨by rw [eS], rfl⟩) fun r s₁ hr => ?_
  cases r with
  | error e => exact hr
  | ok fl =>
    cases fl with
    | ret obj =>
      obtain ⟨rfl, rfl⟩ := hr
      have hS : (s.heap.push (newSet w)).get? S = some (newSet w) := by rw [eS]; exact Heap.get?_push_size _ rfl
      have hT : Shared.TypeIs { s with heap := s.heap.push (newSet w) } (.ref S) "set" := ⟨_, hS, rfl⟩
      have hli := F.called_set.init.lookup
      have hbi := F.called_set.init.bind (.ref S)
      repeat (any_goals (first | assumption | wp_step))
      refine codeAny_mono (codeAny_call_builtin (R := wants (fun r s₂ => r = .none ∧ ∃ h' tk L es ep t, s₂ = { s with heap := h', toks := tk } ∧ SetQ P w h' S L es ep t ∧ Got ks ks.length L ∧ ∀ b o, s.heap.get? b = some o → h'.get? b = some o) E)
        F.called_set.init.plain F.entry_set_init (check_set_init_1 hT ?_)) fun r₂ s₂ hr₂ => ?_
      · have hlS : l < S := by obtain ⟨o, e, _⟩ := W.ty; rw [eS]; exact Heap.lt_size e
        have zp : (s.heap.push (newSet w)).objs.size = S + 1 := by rw [Heap.size_push, eS]
        have k1 : ∀ b o, s.heap.get? b = some o → (s.heap.push (newSet w)).get? b = some o := fun b o e => Heap.get?_push_of_some _ e
        obtain ⟨oI, St, iter, walk, st0⟩ := W.it A.in1.in1.in1 (s.heap.push (newSet w)) hh k1 (by rw [zp]; exact Nat.lt_succ_of_lt hlS)
        have ty1 : Shared.TypeIs { s with heap := s.heap.push (newSet w) } (.ref l) T := by obtain ⟨o, e1, e2⟩ := W.ty; exact ⟨o, k1 _ _ e1, e2⟩
        have f1 := W.ns
        have f2 := W.nf
        have f3 := W.nd
        have none_of : ∀ b, S ≤ b → s.heap.get? b = none := fun b hb => by
          cases q : s.heap.get? b with
          | none => rfl
          | some o => exact absurd (Nat.lt_of_lt_of_le (Heap.lt_size q) (by rw [← eS]; exact hb)) (Nat.lt_irrefl _)
        unfold Builtin.«set.__init__» noKeywords Builtin.Frozenset.updateFrom
        obtain ⟨ol, q1, q2⟩ := ty1
        have q3 : (s.heap.push (newSet w)).get? l = some ol := q1
        rw [← q2] at f1 f2 f3
        generalize hPI : pyIter = PI
        wp_walk
        subst hPI
        refine wp_if_neg (by rw [f3]; exact Bool.false_ne_true) (wpAny_bind (iter _ _ _ ?_))
        refine wpAny_bind (wpAny_runValue ?_)
        have nI : S ∉ [(s.heap.push (newSet w)).objs.size, l] := by
          rw [zp]
          simp only [List.mem_cons, List.not_mem_nil, or_false, not_or]
          exact ⟨Nat.ne_of_lt (Nat.lt_succ_self _), Nat.ne_of_gt hlS⟩
        refine upd_loop walk.toS S nI ks hn few hval s.heap hk (none_of _ (Nat.le_refl _)) (fun b hb => none_of b (by rw [List.mem_singleton.mp hb, zp]; exact Nat.le_succ _)) hu (n - 0) 0 _ rfl (Nat.zero_le _) st0 (fun b o e => Heap.get?_push_of_some _ (k1 b o e))
          ⟨[], #[], 0, _, setQ_new (Heap.get?_push_of_some _ hS), Got.zero ks⟩ fun s' hU => ?_
        obtain ⟨L, es, ep, t, hm, hS', g', hkp⟩ := hU
        obtain ⟨h', x2, x3, tk', x5⟩ := s'
        have y2 : x2 = s.gens := hm.gens
        have y3 : x3 = s.drawn := hm.drawn
        have y5 : x5 = s.os := hm.os
        subst y2 y3 y5
        show wpAny _ _ _ _ _ _
        refine wpAny_pure ?_
        show wpAny _ _ (ret Value.none) _ _ _
        exact wpAny_pure ⟨rfl, h', tk', L, es, ep, t, rfl, hS', g', hkp⟩
      · cases r₂ with
        | error e => exact hr₂
        | ok fl₂ =>
          cases fl₂ with
          | ret r =>
            obtain ⟨rfl, h', tk, L, es, ep, t, rfl, hS', g', hk'⟩ := hr₂
            repeat (any_goals (first | assumption | wp_step))
            exact h _ _ _ _ _ _ hS' g' hk'
          | _ => exact hr₂.elim
    | _ => exact hr.elim
end
end Pd
end
section
set_option Elab.async false
set_option linter.all false
set_option maxRecDepth 100000
/-! Pd12: sorted(set(xs)). -/
namespace Pd
open PySem PySem.Spec PySem.Calls PySem.W PyProof.Rows L2
/-- the set at a -/
def SetO (P : Program) (w : World) (a : Addr) (L : List (Addr × List Int)) : HO := .ext fun h => ∃ es ep t, SetQ P w h a L es ep t
theorem SetO.nt {P : Program} {w : World} {a : Addr} {L : List (Addr × List Int)} : NTb (SetO P w a L) := fun ps z => by
  unfold SetO at z
  cases z
section
variable {X : Cx} {pins : List (Addr × Obj)} {σ : L2.St} {H : Hp} {s : Shared}
/-- set(xs), xs a list or a tuple of tuples of ints -/
def rSetQ (K : PySem.W.Frag) (P : Program) (w : World) : List V → Hp → VK → Prop := fun xs H Q => ∃ (l : Addr) (ks : List (Addr × List Int)), xs = [V.ref l] ∧ (SqL K H l (ks.map fun p => V.ref p.1) ∨ SqT K H l (ks.map fun p => V.ref p.1)) ∧ (∀ p ∈ ks, SqT K H p.1 (p.2.map V.int)) ∧ ks.length ≤ 1200 ∧
  ∀ a L, H a = none → (∀ p ∈ L, p ∈ ks) → (∀ p ∈ ks, p.2 ∈ L.map (·.2)) → (L.map (·.2)).Nodup → L.length ≤ ks.length → Q (.ref a) (upd H a (SetO P w a L))
theorem cr_setQ (hc : X.calm = true) (hu : X.A.units + 64 < cLine) : CallR X (.type "set") (rSetQ X.K X.prog X.w) := by
  intro pins s σ H xs us Q I r h
  obtain ⟨l, ks, rfl, hl, hk, few, q⟩ := h
  rw [Vals.ref1 r]
  have TU : Tups X.prog X.w s.heap ks := fun p hp => I.isT (hk p hp)
  have fin : ∀ (its : List Value), Vals (ks.map fun p => V.ref p.1) its → ∀ (T : String), Wlk X.prog X.w s l T its.toArray.size (fun i v => its.toArray[i]? = some v) → wpAny (model X.prog X.w) X.A (call (.type "set") [.ref l]) (EP X pins σ Q) X.xe s := fun its rv T W => by
    have e := refs_of_vals rv
    refine set_call (P := X.prog) (w := X.w) ks (I.ok.hd hc) W (by rw [e]; simp) (fun i v hv => ?_) TU few (by omega) fun h' tk L es ep t R g k => ?_
    · rw [e] at hv
      have hv' : (ks.map fun p => Value.ref p.1)[i]? = some v := by simpa using hv
      rw [List.getElem?_map] at hv'
      obtain ⟨p, h1, h2⟩ := Option.map_eq_some_iff.mp hv'
      exact ⟨p, h1, h2.symm⟩
    · have hn := I.hok.fresh (Nat.le_refl s.heap.objs.size)
      have new : ObjOk X.prog X.w (upd H s.heap.objs.size (SetO X.prog X.w s.heap.objs.size L)) h' s.heap.objs.size (SetO X.prog X.w s.heap.objs.size L) := by
        obtain ⟨o, ho, _⟩ := R.ob
        exact ⟨⟨es, ep, t, R⟩, ⟨o, ho⟩, fun h1 h2 ⟨es', ep', t', R'⟩ st => ⟨es', ep', t', R'.same st⟩⟩
      exact ⟨.ref _, _, I.laid (t' := tk) k (Nat.le_refl _) new, rfl, q _ L hn (fun p hp => List.mem_of_mem_take (g.sub p hp)) (fun p hp => g.all p (by rw [List.take_length]; exact hp)) R.nd g.len⟩
  rcases hl with hl | hl
  · obtain ⟨its, rv, pl, _⟩ := I.list hl
    exact fin its rv _ (wlk_list pl.isList)
  · obtain ⟨its, rv, pl, _⟩ := I.tuple hl
    exact fin its rv _ (wlk_tup pl)
/-- what is gathered is one of these -/
def GathersP (prog : Program) (w : World) (A : Around) (s : Shared) (x : Value) (Pm : List Value → Prop) : Prop :=
  ∀ (E : Value → Shared → Prop) (Q : List Value → Shared → Prop), (∀ (vs : List Value) (s' : Shared), Pm vs → Kp s.heap s'.heap → s.heap.objs.size ≤ s'.heap.objs.size → s'.gens = s.gens → s'.os = s.os → Q vs s') → wpAny (model prog w) A (collect x) Q E s
theorem gathers_setQ {P : Program} {w : World} {A : Around} {a : Addr} {L : List (Addr × List Int)} {es : Array (Int × Value)} {ep : Nat} {t : SetTable} (R : SetQ P w s.heap a L es ep t) (hh : A.handled = none) (few : L.length ≤ 1200) :
    GathersP P w A s (.ref a) fun vs => vs.Perm (L.map fun p => Value.ref p.1) := fun E Q h => by
  obtain ⟨o, ho, hex, hd⟩ := R.ob
  refine collect_set hh ⟨o, ho, hex.1, hd⟩ R.fits (by rw [Pd.rows_len R.rows]; unfold scanBound; omega) R.tab.ris R.led fun s' out k z g o' pm => h out s' ?_ k z g o'
  have e : es.toList.map (·.2) = L.map fun p => Value.ref p.1 := by
    rw [R.rows]
    unfold L2.rowsOf
    rw [List.map_map] <;> rfl
  rw [← e]
  exact pm
/-- sorted of a set of tuples -/
def rSrtS (K : PySem.W.Frag) (P : Program) (w : World) : List V → Hp → VK → Prop := fun vs H Q => ∃ (a : Addr) (L : List (Addr × List Int)), vs = [V.ref a] ∧ H a = some (SetO P w a L) ∧ (∀ p ∈ L, SqT K H p.1 (p.2.map V.int)) ∧ L.length ≤ 1200 ∧
  ∀ L' : List (Addr × List Int), (L'.map fun p : Addr × List Int => p.1).Perm (L.map fun p => p.1) → (∀ p ∈ L', p ∈ L) → L'.length = L.length → okSort (L'.map fun p => tI p.2) = true ∧ ∀ p, H p = none → Q (.ref p) (upd H p (.lst (srtV (L'.map fun p => V.ref p.1) (L'.map fun p => tI p.2))))
theorem dp_tI {K : PySem.W.Frag} {H : Hp} {a : Addr} {k : List Int} (h : SqT K H a (k.map V.int)) : Dp K H (.ref a) (tI k) := by
  refine .tup h ?_
  clear h
  induction k with
  | nil => exact .nil
  | cons n k ih => exact .cons (.int n) ih
theorem rows_back : ∀ (vs : List Value) (L : List (Addr × List Int)), (∀ v ∈ vs, ∃ p ∈ L, v = Value.ref p.1) → ∃ L' : List (Addr × List Int), vs = L'.map (fun p => Value.ref p.1) ∧ ∀ p ∈ L', p ∈ L
  | [], _, _ => ⟨[], rfl, fun _ h => nomatch h⟩
  | v :: vs, L, h => by
    obtain ⟨p, hp, e⟩ := h v List.mem_cons_self
    obtain ⟨L', e1, h1⟩ := rows_back vs L fun u hu => h u (List.mem_cons_of_mem _ hu)
    refine ⟨p :: L', by rw [List.map_cons, e, e1], fun q hq => ?_⟩
    rcases List.mem_cons.mp hq with rfl | hq
    · exact hp
    · exact h1 q hq
set_option maxHeartbeats 2000000 in
theorem cr_srtS (hc : X.calm = true) (hu : X.A.units + 64 < cLine) : CallR X (.builtin "sorted") (rSrtS X.K X.prog X.w) := by
  intro pins s σ H vs us Q I r h
  obtain ⟨a, L, rfl, ha, hk, few, q⟩ := h
  obtain rfl := Vals.ref1 r
  obtain ⟨⟨es, ep, t, R⟩, _, _⟩ := I.hok a _ ha
  have gp := gathers_setQ (A := X.A.in1) R (I.ok.hd hc) few
  refine call_function_entry_kw (kw := []) kind_sorted plain_sorted entry_sorted (args_sorted1 _) ?_
  unfold Builtin.«sorted»
  refine wpAny_bind (m := checkCount "sorted" 1 1 _) (wpAny_pure ?_)
  refine wpAny_bind (gp _ _ fun vs s1 pm k1 z1 g1 o1 => ?_)
  obtain ⟨L', e1, sub⟩ := rows_back vs L fun v hv => by
    obtain ⟨p, hp, e⟩ := List.mem_map.mp (pm.mem_iff.mp hv)
    exact ⟨p, hp, e.symm⟩
  subst e1
  have pa : (L'.map fun p => p.1).Perm (L.map fun p => p.1) := by
    have q := pm.map (fun v => match v with | Value.ref b => b | _ => 0)
    rw [List.map_map, List.map_map] at q
    exact q
  have hl : L'.length = L.length := by have := pa.length_eq; simpa using this
  obtain ⟨ok, q⟩ := q L' pa sub hl
  have dp : ∀ M : List (Addr × List Int), (∀ p ∈ M, p ∈ L) → DpAll X.K H (M.map fun p => V.ref p.1) (M.map fun p => tI p.2) := by
    intro M
    induction M with
    | nil => exact fun _ => .nil
    | cons p M ih => exact fun h => .cons (dp_tI (hk p (h p List.mem_cons_self))) (ih fun q hq => h q (List.mem_cons_of_mem _ hq))
  have I1 := inv_grow I k1 g1 o1
  have hz : (L'.map fun p => Value.ref p.1).length ≤ sizeLine := by rw [List.length_map, hl, sizeLine_eq]; omega
  refine wpAny_bind (wpAny_newList ?_ hz)
  have at_ : (s1.heap.push (seqObj "list" (L'.map fun p => Value.ref p.1).toArray 0)).get? s1.heap.objs.size = some (seqObj "list" (L'.map fun p => Value.ref p.1).toArray 0) := Heap.get?_push_size _ rfl
  refine wpAny_bind (wpAny_holding (wpAny_call_entry_kw slot_list_sort ⟨_, at_, rfl⟩ entry_list_sort ?_ (args_list_sort _)))
  -- as sort_core from here
  have rv := vals_of_refs L'
  obtain ⟨as, rd⟩ := Dp.readsAll I1 _ _ _ (dp L' sub) rv
  have kq : Kp s1.heap (sortingHeap (s1.heap.push (seqObj "list" (L'.map fun p => Value.ref p.1).toArray 0)) s1.heap.objs.size (L'.map fun p => Value.ref p.1)) := fun b o e => sortingHeap_old (Nat.ne_of_lt (Heap.lt_size e)) (Heap.get?_push_of_some _ e)
  have er := (each_reads rd).mono fun v d ⟨bs, r⟩ => (⟨bs, PyProof.Rows.Reads.keeps kq r⟩ : ∃ bs, Reads _ v d bs)
  have S := sortsAt_ok (prog := X.prog) (w := X.w) (A := X.A.in1.in1) (s := { s1 with heap := sortingHeap (s1.heap.push (seqObj "list" (L'.map fun p => Value.ref p.1).toArray 0)) s1.heap.objs.size (L'.map fun p => Value.ref p.1) }) er ok (by show X.A.units + 1 + 1 + 60 < cLine; omega)
  have hll : (L'.map fun p => V.ref p.1).length = (L'.map fun p => tI p.2).length := by simp
  refine list_sort_vals (s := { s1 with heap := s1.heap.push (seqObj "list" (L'.map fun p => Value.ref p.1).toArray 0) }) at_ S hz ⟨_, rfl, wpAny_pure ⟨_, rfl, ?_⟩⟩
  have ev := sortVals_data (enc := fun p : V × D => p.2) false (each_zip rv hll) (each_zipR er hll) (by rw [zip_snd hll]; exact (okSort_tell ok).1)
  rw [zip_snd hll] at ev
  have ev2 := each_vals ev
  obtain ⟨n, hn⟩ := sortedHeap_at (vs := L'.map fun p => Value.ref p.1) (out := (sortVals (dataKind (sortingHeap (s1.heap.push (seqObj "list" (L'.map fun p => Value.ref p.1).toArray 0)) s1.heap.objs.size (L'.map fun p => Value.ref p.1)) (L'.map fun p => tI p.2)) false (L'.map fun p => Value.ref p.1) (L'.map fun p => Value.ref p.1)).toArray) at_
  have hlen : (srtV (L'.map fun p => V.ref p.1) (L'.map fun p => tI p.2)).length ≤ sizeLine := by
    unfold srtV srtP
    rw [List.length_map, (List.mergeSort_perm _ _).length_eq, List.length_zip, ← hll, Nat.min_self, List.length_map]
    rw [List.length_map] at hz
    exact hz
  have hn1 := I1.hok.fresh (Nat.le_refl s1.heap.objs.size)
  refine ⟨.ref s1.heap.objs.size, upd H s1.heap.objs.size (.lst (srtV (L'.map fun p : Addr × List Int => V.ref p.1) (L'.map fun p : Addr × List Int => tI p.2))), inv_growL (o := .lst (srtV (L'.map fun p : Addr × List Int => V.ref p.1) (L'.map fun p : Addr × List Int => tI p.2))) I1 (fun b o e => ?_) rfl rfl (Nat.le_refl _) ⟨hlen, _, n, ev2, hn⟩, rfl, q _ hn1⟩
  show (sortedHeap _ _ _ _).get? b = some o
  rw [sortedHeap_old (Nat.ne_of_lt (Heap.lt_size e)) (by rw [size_push']; exact Nat.lt_succ_of_lt (Heap.lt_size e))]
  exact Heap.get?_push_of_some _ e
end
end Pd
end
section
set_option Elab.async false
set_option linter.all false
set_option maxRecDepth 100000
/-! Pd13: the order of tuples of ints; sorted(set(xs)) in plain data. -/
namespace Pd
open PySem PySem.Spec PySem.W L2
variable [TB]
def leI (a b : List Int) : Bool := decide (a ≤ b)
theorem leI_trans (a b c : List Int) (h : leI a b = true) (k : leI b c = true) : leI a c = true := decide_eq_true (List.le_trans (of_decide_eq_true h) (of_decide_eq_true k))
theorem leI_total (a b : List Int) : (leI a b || leI b a) = true := by
  rw [Bool.or_eq_true]
  rcases List.le_total a b with h | h
  · exact .inl (decide_eq_true h)
  · exact .inr (decide_eq_true h)
theorem leI_anti {a b : List Int} (h : leI a b = true) (k : leI b a = true) : a = b := List.le_antisymm (of_decide_eq_true h) (of_decide_eq_true k)
/-- lists of ints, sorted -/
def sortI (l : List (List Int)) : List (List Int) := l.mergeSort leI
theorem le_tI (a b : List Int) : dataLe false id (tI a) (tI b) = leI a b := by
  rw [dataLe_eq]
  show (!dataLt (tI b) (tI a)) = leI a b
  rw [dataLt_tuple]
  show (!rowLt (b.map .int) (a.map .int)) = leI a b
  rw [dataLt_ints]
  unfold leI
  by_cases h : b < a
  · rw [decide_eq_true h, decide_eq_false (show ¬ a ≤ b from fun z => absurd h z)] <;> rfl
  · rw [decide_eq_false h, decide_eq_true (show a ≤ b from h)] <;> rfl
theorem srtD_tI (l : List (List Int)) : srtD (l.map tI) = (sortI l).map tI := by
  unfold srtD sortI
  rw [List.map_mergeSort (r := leI) (s := dataLe false id) (f := tI)]
  intro a _ b _
  exact (le_tI a b).symm
theorem depth_tI (a : List Int) : (tI a).depth = 1 := by
  show PyData.depthAll (a.map .int) + 1 = 1
  rw [depth_ints]
theorem lay_ints : ∀ a : List Int, PyData.canLayAll0 (a.map .int) = true
  | [] => by simp [PyData.canLayAll0]
  | n :: a => by
    show PyData.canLayAll0 (.int n :: a.map .int) = true
    simp only [PyData.canLayAll0, PyData.canLay0, lay_ints a, Bool.and_self]
theorem lay_tIs : ∀ l : List (List Int), PyData.canLayAll0 (l.map tI) = true
  | [] => by simp [PyData.canLayAll0]
  | a :: l => by
    show PyData.canLayAll0 (tI a :: l.map tI) = true
    simp only [PyData.canLayAll0, PyData.canLay0, lay_ints a, lay_tIs l, Bool.and_self]
theorem okSort_tI (l : List (List Int)) : okSort (l.map tI) = true := by
  unfold okSort
  simp only [Bool.and_eq_true, Bool.or_eq_true, List.all_eq_true, List.mem_map, forall_exists_index, and_imp, forall_apply_eq_imp_iff₂, decide_eq_true_eq]
  refine ⟨⟨⟨lay_tIs l, fun a _ b _ => ?_⟩, fun a _ => by rw [depth_tI]; omega⟩, .inl fun a _ => rfl⟩
  show alike (.tuple (a.map .int)) (.tuple (b.map .int)) = true
  simp only [alike]
  exact alike_ints a b
/-- each once -/
def ddI : List (List Int) → List (List Int)
  | [] => []
  | x :: r => if r.contains x = true then ddI r else x :: ddI r
theorem ddI_mem {x : List Int} : ∀ {l : List (List Int)}, x ∈ ddI l ↔ x ∈ l
  | [] => by simp [ddI]
  | y :: r => by
    unfold ddI
    split
    · rename_i h
      rw [ddI_mem (l := r), List.mem_cons]
      refine ⟨.inr, fun z => z.elim (fun e => ?_) id⟩
      subst e
      exact List.contains_iff_mem.mp h
    · rw [List.mem_cons, List.mem_cons, ddI_mem (l := r)]
theorem ddI_nodup : ∀ l : List (List Int), (ddI l).Nodup
  | [] => List.nodup_nil
  | y :: r => by
    unfold ddI
    split
    · exact ddI_nodup r
    · rename_i h
      exact List.nodup_cons.mpr ⟨fun z => h (List.contains_iff_mem.mpr (ddI_mem.mp z)), ddI_nodup r⟩
theorem sortI_perm {l m : List (List Int)} (h : l.Perm m) : sortI l = sortI m :=
  List.Perm.eq_of_pairwise (le := fun a b => leI a b = true) (fun a b _ _ => leI_anti) (List.pairwise_mergeSort leI_trans leI_total l) (List.pairwise_mergeSort leI_trans leI_total m) (((List.mergeSort_perm l leI).trans h).trans (List.mergeSort_perm m leI).symm)
/-- sorted(set(l)) -/
def setI (l : List (List Int)) : List (List Int) := sortI (ddI l)
theorem setI_of {l m : List (List Int)} (hn : m.Nodup) (h : ∀ x, x ∈ m ↔ x ∈ l) : sortI m = setI l := sortI_perm ((List.perm_ext_iff_of_nodup hn (ddI_nodup l)).mpr fun x => by rw [h, ddI_mem])
theorem tupsI_eq : ∀ {l : List D} {ks : List (List Int)}, mapO tupI? l = some ks → l = ks.map tI
  | [], ks, h => by cases h; rfl
  | d :: r, ks, h => by
    obtain ⟨b, e1, h⟩ := bnd h
    obtain ⟨m, e2, rfl⟩ := mpd h
    rw [List.map_cons, tupI_eq e1, tupsI_eq e2]
theorem tupsI_map : ∀ ks : List (List Int), mapO tupI? (ks.map tI) = some ks
  | [] => rfl
  | k :: ks => by
    show (tupI? (tI k)).bind _ = _
    rw [tupI_tI]
    show (mapO tupI? (ks.map tI)).map _ = _
    rw [tupsI_map ks] <;> rfl
def mSrtSet (me : MV) : MV := fun ρ pt => (me ρ pt).bind fun x => (x.1.sq?).bind fun l => (mapO tupI? l).bind fun ks => if ks.length ≤ 1200 then some (.lst ((setI ks).map tI), x.2) else none
/-- tuples of ints, with their addresses -/
theorem isA_tups {G : Hp} : ∀ {vs : List V} {ks : List (List Int)}, IsA G vs (ks.map tI) → ∃ L : List (Addr × List Int), vs = L.map (fun p => V.ref p.1) ∧ L.map (·.2) = ks ∧ ∀ p ∈ L, G p.1 = some (.tup (p.2.map V.int))
  | _, [], .nil => ⟨[], rfl, rfl, fun _ h => nomatch h⟩
  | _, k :: ks, .cons h t => by
    obtain ⟨L, e1, e2, e3⟩ := isA_tups t
    cases h with
    | @tup a us _ hg i =>
      rw [i.ints] at hg
      refine ⟨(a, k) :: L, by rw [List.map_cons, e1], by rw [List.map_cons, e2], fun p hp => ?_⟩
      rcases List.mem_cons.mp hp with rfl | hp
      · exact hg
      · exact e3 p hp
theorem isA_back {G : Hp} : ∀ (L : List (Addr × List Int)), (∀ p ∈ L, G p.1 = some (.tup (p.2.map V.int))) → IsA G (L.map fun p => V.ref p.1) (L.map fun p => tI p.2)
  | [], _ => .nil
  | p :: L, h => .cons (.tup (h p List.mem_cons_self) (IsA.of_ints p.2)) (isA_back L fun q hq => h q (List.mem_cons_of_mem _ hq))
theorem Vw.sqT {K : PySem.W.Frag} {pa : Mu} {G H : Hp} {v : V} {r : Rv} {l : List D} (P : PG pa G H) (k : Vw pa G H v r) (e : r.sq? = some l) : ∃ a vs, v = .ref a ∧ (SqL K H a vs ∨ SqT K H a vs) ∧ IsA G vs l := k.sq P e
theorem de_srtSet {K : PySem.W.Frag} {P : Program} {w : World} {te : TE} {me : MV} (h : DE te me) : DE (tCB (rSrtS K P w) (tCons (tCB (rSetQ K P w) (tCons te tNil)) tNil)) (mSrtSet me) := by
  intro G0 H0 pa G H σ ρ pt z pt' Q R e q
  obtain ⟨⟨r, p1⟩, e1, e⟩ := bnd e
  obtain ⟨l, e2, e⟩ := bnd e
  obtain ⟨ks, e3, e⟩ := bnd e
  split at e
  · rename_i few
    cases e
    obtain rfl := tupsI_eq e3
    refine h R e1 fun v G1 H1 x1 q1 k1 => ?_
    have R1 := R.ext x1 q1
    obtain ⟨a, vs, rfl, ha, i⟩ := (Res.vw R k1).sqT (K := K) R1.PG e2
    obtain ⟨L, rfl, hL, hg⟩ := isA_tups i
    have hlen : L.length = ks.length := by rw [← hL, List.length_map]
    refine ⟨a, L, rfl, ha, fun p hp => SqT.of (x1.gh _ _ (hg p hp)), by rw [hlen]; exact few, fun b M nb sub all nd le => ?_⟩
    have x2 : Ext mu0 G1 H1 G1 (upd H1 b (SetO P w b M)) := Ext.own x1.gh nb
    have at2 : ∀ p ∈ M, upd H1 b (SetO P w b M) p.1 = some (.tup (p.2.map V.int)) := fun p hp => x2.gh _ _ (hg p (sub p hp))
    refine ⟨b, M, rfl, upd_same, fun p hp => SqT.of (at2 p hp), by omega, fun M' pm sub' lm => ⟨?_, fun n hn => ?_⟩⟩
    · have := okSort_tI (M'.map (·.2))
      rw [List.map_map] at this
      exact this
    · have iM := isA_back M' fun p hp => hg p (sub p (sub' p hp))
      have e5 : srtD (M'.map fun p => tI p.2) = (setI ks).map tI := by
        have e6 : (M'.map fun p : Addr × List Int => tI p.2) = (M'.map (·.2)).map tI := by rw [List.map_map]; rfl
        rw [e6, srtD_tI]
        congr 1
        have key : ∀ p ∈ M, ∀ p' ∈ M, p.1 = p'.1 → p = p' := fun p hp p' hp' ee => by
          have a1 := hg p (sub p hp)
          have a2 := hg p' (sub p' hp')
          rw [ee, a2] at a1
          injection a1 with a1
          injection a1 with a1
          have a3 : p'.2 = p.2 := by
            have q := congrArg (List.map fun v => match v with | V.int i => i | _ => 0) a1
            rw [List.map_map, List.map_map] at q
            have id1 : ∀ l : List Int, l.map ((fun v => match v with | V.int i => i | _ => 0) ∘ V.int) = l := fun l => by
              induction l with
              | nil => rfl
              | cons n l ih => rw [List.map_cons, ih]; rfl
            rw [id1, id1] at q
            exact q
          exact Prod.ext ee a3.symm
        have mem' : ∀ p, p ∈ M' ↔ p ∈ M := fun p => ⟨sub' p, fun hp => by
          have : p.1 ∈ M'.map fun p => p.1 := pm.mem_iff.mpr (List.mem_map.mpr ⟨p, hp, rfl⟩)
          obtain ⟨p', hp', ee⟩ := List.mem_map.mp this
          rw [← key p' (sub' p' hp') p hp ee]
          exact hp'⟩
        have nM : (M'.map fun p => p.1).Nodup := by
          refine pm.nodup_iff.mpr ?_
          have n2 : M.Nodup := nodup_of_map nd
          refine List.pairwise_map.mpr (List.Pairwise.imp_of_mem (fun {p p'} hp hp' hne ee => hne (key p hp p' hp' ee)) n2)
        have pm2 : M'.Perm M := (List.perm_ext_iff_of_nodup (nodup_of_map nM) (nodup_of_map nd)).mpr mem'
        refine setI_of ((pm2.map (·.2)).nodup_iff.mpr nd) fun x => ?_
        rw [(pm2.map (·.2)).mem_iff, ← hL]
        refine ⟨fun hx => ?_, fun hx => ?_⟩
        · obtain ⟨p, hp, rfl⟩ := List.mem_map.mp hx
          exact List.mem_map.mpr ⟨p, sub p hp, rfl⟩
        · obtain ⟨p, hp, rfl⟩ := List.mem_map.mp hx
          exact all p hp
      have x3 : Ext mu0 G1 H1 G1 (upd (upd H1 b (SetO P w b M)) n (.lst (srtV (M'.map fun p => V.ref p.1) (M'.map fun p => tI p.2)))) := x2.trans (Ext.own x2.gh hn)
      refine q _ _ _ (x1.trans x3.any) (q1.ext x3) ⟨n, _, rfl, x1.pn n (x2.pn n (Nw.of hn)), free_G x2.gh hn, upd_same, ?_⟩
      rw [← e5]
      exact srt_is iM
  · cases e
end Pd
end
section
set_option Elab.async false
set_option linter.all false
set_option maxRecDepth 100000
/-! Pd14: dicts that are locked: walked by keys, by items. -/
namespace Pd
open PySem PySem.Spec PyProof.Rows L2
/-! ### the items of a locked dict with tuple keys -/
def Itit (d : Addr) (o : Obj) (kvs : List (List Key × V)) : It :=
  ⟨fun i H => H d = some (.frz o (.dT kvs)) ∧ i < kvs.length,
   fun i H x H' => ∃ (T q : Addr) (k : List Key) (v : V), kvs[i]? = some (k, v) ∧ x = .ref T ∧ H T = none ∧ H q = some (.tup (k.map kV)) ∧ H' = upd H T (.tup [.ref q, v]),
   fun i H => H d = some (.frz o (.dT kvs)) ∧ kvs.length ≤ i⟩
theorem inv_frzT {X : Cx} {pins : List (Addr × Obj)} {σ : L2.St} {H : Hp} {s : Shared} {d : Addr} {o : Obj} {kvs : List (List Key × V)} (I : Inv X pins σ H s) (h : H d = some (.frz o (.dT kvs))) :
    (d == sysModules) = false ∧ ∃ (es : Array DictEntry) (ep : Nat), o.data = .dict es ep ∧ DT.Raw s.heap d es ep ∧ es.size = kvs.length ∧
      ∀ (i : Nat) (k : List Key) (v : V), kvs[i]? = some (k, v) → ∃ (en : DictEntry) (q : Addr), es[i]? = some en ∧ en.key = .ref q ∧ H q = some (.tup (k.map kV)) ∧ RelV v en.val := by
  obtain ⟨hd, z, hs, xs, pr, o', es, ep, ho, hx, hdt, he, _⟩ := I.hok d _ h
  rw [hd] at ho
  cases ho
  refine ⟨hs, es, ep, hdt, ⟨o, hd, hx, hdt⟩, ?_, fun i k v e => ?_⟩
  · rw [size_of_entries he]
    exact (Paired.length pr).symm
  · obtain ⟨b, hb, e1, e2, e3⟩ := paired_get pr e
    have q := entry_at he i
    rw [hb] at q
    exact ⟨_, b.2.1, q, rfl, e2, e3⟩
theorem turn_itemsT {P : Program} {w : World} {K : PySem.W.Frag} {d : Addr} {o : Obj} {es : Array DictEntry} {ep : Nat} {kvs : List (List Key × V)} {elts : List Expr} {kk : Nat} {tpos : Pos} (it : Addr) (hod : o.data = .dict es ep) :
    Turn P w K (.Tuple elts kk tpos) (Itit d o kvs) [it] it (fun i h => ∃ ok ov, IsItemIter h it d i es.size ep ok ov) where
  mem := by simp
  obj := fun i h st b hb => by
    obtain ⟨ok, ov, e⟩ := st
    rw [List.mem_singleton.mp hb]
    exact ⟨_, e, fun v z => nomatch z⟩
  keep := fun i h h' st k => let ⟨ok, ov, e⟩ := st; ⟨ok, ov, k it (by simp) _ e⟩
  item := by
    intro X hP hw hK hc i pins s σ H E I hf st hg
    subst hP hw hK
    obtain ⟨hd, hi⟩ := hg
    obtain ⟨hs, es', ep', hdt, raw, hsz, ent⟩ := inv_frzT I hd
    rw [hod] at hdt
    cases hdt
    obtain ⟨⟨k, v⟩, hkv⟩ : ∃ p, kvs[i]? = some p := ⟨kvs[i], List.getElem?_eq_getElem hi⟩
    obtain ⟨en, q, hen, hkey, hq, rv⟩ := ent i k v hkv
    obtain ⟨ok, ov, he⟩ := st
    have hlt : it < s.heap.objs.size := Heap.lt_size he
    have hie : i < es.size := by rw [hsz]; exact hi
    have een : es[i] = en := by
      rw [Array.getElem?_eq_getElem hie] at hen
      exact Option.some.inj hen
    refine DT.nextI he raw hie fun h' ho hT hz hk => ?_
    rw [een, hkey] at hT ho
    refine ⟨_, rfl, wpAny_letOwnedTupleGo_items (s := { s with heap := h' }) ho fun h2 he2 sb => ?_⟩
    have hT2 : h2.get? s.heap.objs.size = some { cls := .type "tuple", data := .seq #[Value.ref q, en.val] } := (sb.2 _ (Nat.ne_of_gt hlt)).trans hT
    have new : ObjOk X.prog X.w (upd H s.heap.objs.size (.tup [.ref q, v])) h2 s.heap.objs.size (.tup [.ref q, v]) :=
      ⟨by show 2 ≤ sizeLine; decide, [Value.ref q, en.val], .cons rfl (.cons rv .nil), ⟨_, hT2, rfl, _, rfl⟩⟩
    have I1 : Inv X pins σ (upd H s.heap.objs.size (.tup [.ref q, v])) { s with heap := h2 } :=
      I.turnedNew (t' := s.toks) (ch := [it]) (fun b ob hb e => (sb.2 b (by simpa using hb)).trans (hk b ob (by simpa using hb) e)) hf (Nat.le_refl _) new
    refine ⟨.ref s.heap.objs.size, _, I1, rfl, ⟨_, q, k, v, hkv, rfl, I.hok.fresh (Nat.le_refl _), hq, rfl⟩, ⟨_, _, he2⟩, fun b hb => ?_⟩
    rw [List.mem_singleton.mp hb, upd_ne (Nat.ne_of_lt hlt)]
    exact (hf it (by simp)).1
  done := by
    intro X hP hw hK hc i pins s σ H E I hf st hg
    subst hP hw hK
    obtain ⟨hd, hi⟩ := hg
    obtain ⟨f0, f1, f2, f3, f4, f5⟩ := hf it (by simp)
    obtain ⟨hs, es', ep', hdt, raw, hsz, ent⟩ := inv_frzT I hd
    rw [hod] at hdt
    cases hdt
    obtain ⟨ok, ov, he⟩ := st
    exact DT.endI (I.ok.hd hc) he raw (by rw [hsz]; exact hi) fun h' eb => ⟨rfl, I.turned (t' := s.toks) (fun b ob hb e => eb b ob hb e) f0 f1 f3 f4 f5⟩
  self := fun A i s Q E st h => let ⟨_, _, e⟩ := st; PySem.W.kcp_self e h
/-- e.items(): the dict is locked already; it is locked now, for good -/
def iItemsL (td : TE) : TI := fun σ H R => td σ H fun x H1 => ∃ d o kvs, x = .ref d ∧ H1 d = some (.frz o (.dT kvs)) ∧ R (Itit d o kvs) H1
def iItemsN (td : TE) : TI := fun σ H R => td σ H fun x H1 => ∃ d kvs, x = .ref d ∧ H1 d = some (.dT kvs) ∧ ∀ o, R (Itit d o kvs) (upd H1 d (.frz o (.dT kvs)))
section
variable {X : Cx} {e : Expr} {td : TE} {apos cpos : Pos} {elts : List Expr} {kk : Nat} {tpos : Pos}
theorem items_run {pins : List (Addr × Obj)} {σ : L2.St} {H : Hp} {s : Shared} {d : Addr} {o : Obj} {kvs : List (List Key × V)} {R : It → Hp → Prop} (I : Inv X pins σ H s) (hd : H d = some (.frz o (.dT kvs))) (q : R (Itit d o kvs) H) :
    s.TypeIs (.ref d) "dict" ∧ (∀ a, Value.ref d = .ref a → ∃ ob, s.heap.get? a = some ob ∧ ob.dict = none) ∧
      wpAny (model X.prog X.w) X.A (callWith cpos (.builtin "dict.items") [.ref d] [] []) (fun v s1 => wpAny (model X.prog X.w) X.A (pyIter v) (PIE X pins σ (.Tuple elts kk tpos) R) X.xe s1) X.xe s := by
  obtain ⟨hs, es, ep, hdt, raw, hsz, ent⟩ := inv_frzT I hd
  refine ⟨raw.typeIs, ?_, ?_⟩
  · intro a ea
    cases ea
    obtain ⟨ob, h1, h2, _⟩ := raw
    exact ⟨ob, h1, h2.2.1⟩
  · refine method_meetsIn PySem.F.slot_dict_items PySem.F.entry_dict_items rfl (PySem.evalArgs_none ⟨rfl, raw.typeIs, PySem.F.args_dict_items_1 _, _, DT.meetsItems (es := es) (ep := ep) hs, raw, ?_⟩)
    have I2 : Inv X pins σ H { s with heap := s.heap.push { cls := .type "dict_items", data := .fields #[.ref d] } } := I.kept (t' := s.toks) fun b ob q => Heap.get?_push_of_some _ q
    exact DT.iterI (d := d) (es := es) (ep := ep) ⟨_, Heap.get?_push_size _ rfl, rfl, rfl⟩ (raw.push _) (pi_one (tk := s.toks) I2 _ (turn_itemsT _ hdt) ⟨.none, .none, Heap.get?_push_size _ rfl⟩ q)
theorem pi_itemsL (he : PE X e td) (hbase : attributeBase e "items" X.env (eval e X.env) = eval e X.env := by rfl) (hline : (apos.endLine == cpos.line) = true := by rfl) : PI X (.Tuple elts kk tpos) (.Call (.Attribute e "items" apos) [] [] cpos) (iItemsL td) := by
  refine ⟨fun pins s σ H R I h => ?_⟩
  refine wpAny_Call_method (T := "dict") (id := "dict.items") hbase rfl hline PySem.F.plainAttrs_dict PySem.F.slot_dict_items PySem.F.type_dict_items (thn (he.run pins s σ H _ I h) fun u s1 ⟨x, H1, I1, rx, d, o, kvs, ex, hd, q⟩ => ?_)
  subst ex
  obtain rfl : u = Value.ref d := rx
  exact items_run I1 hd q
theorem pi_itemsN (he : PE X e td) (hbase : attributeBase e "items" X.env (eval e X.env) = eval e X.env := by rfl) (hline : (apos.endLine == cpos.line) = true := by rfl) : PI X (.Tuple elts kk tpos) (.Call (.Attribute e "items" apos) [] [] cpos) (iItemsN td) := by
  refine ⟨fun pins s σ H R I h => ?_⟩
  refine wpAny_Call_method (T := "dict") (id := "dict.items") hbase rfl hline PySem.F.plainAttrs_dict PySem.F.slot_dict_items PySem.F.type_dict_items (thn (he.run pins s σ H _ I h) fun u s1 ⟨x, H1, I1, rx, d, kvs, ex, hd, q⟩ => ?_)
  subst ex
  obtain rfl : u = Value.ref d := rx
  obtain ⟨o, J⟩ := I1.lock hd trivial
  exact items_run J upd_same (q o)
/-- a statement that locks a thing for good ahead of it -/
def tLockS (t : TS) : TS := fun D σ H => ∃ d u, H d = some u ∧ Mut (some u) ∧ ∀ od, t D σ (upd H d (.frz od u))
theorem ps_lockS {st : Stmt} {t : TS} (h : PS X st t) : PS X st (tLockS t) := by
  refine ⟨fun pins s σ H D I hw => ?_⟩
  obtain ⟨d, u, hd, mu, hw⟩ := hw
  obtain ⟨od, J⟩ := I.lock hd mu
  exact h.run pins s σ _ D J (hw od)
end
/-! ### in plain data -/
section
variable [TB]
/-- neither a table nor any other thing -/
def Nte (o : HO) : Prop := (∀ ps, o ≠ .tbl ps) ∧ ∀ φ, o ≠ .ext φ
theorem nte_dT {kv : List (List Key × V)} : Nte (.dT kv) := ⟨fun _ z => (by cases z), fun _ z => (by cases z)⟩
theorem nte_frz {o : Obj} {u : HO} : Nte (.frz o u) := ⟨fun _ z => (by cases z), fun _ z => (by cases z)⟩
theorem tabs_set {T : List (Addr × Str)} {H : Hp} {a : Addr} {o : HO} (m : ∀ u, H a = some u → Nte u) (t : LamX.Tabs T H) : LamX.Tabs T (upd H a o) := fun p hp => by
  obtain ⟨ps, h1, h2, h3⟩ := t p hp
  have n1 : p.1 ≠ a := fun z => by rw [z] at h1; exact (m _ h1).1 ps rfl
  refine ⟨ps, by rw [upd_ne n1]; exact h1, h2, fun pos cv hc => ?_⟩
  obtain ⟨c, e1, e2⟩ := h3 pos cv hc
  have n2 : c ≠ a := fun z => by rw [z] at e2; exact (m _ e2).2 _ rfl
  exact ⟨c, e1, by rw [upd_ne n2]; exact e2⟩
section
variable {G0 H0 G H G' H' : Hp} {pa : Mu} {σ : L2.St} {ρ : List Sl} {pt pt' : List Int}
/-- a dict of ours is locked -/
theorem Rep.lockD {i : Nat} {l : List (List Int × D)} (R : Rep G0 H0 pa G H σ ρ pt) (hs : ρ[i]? = some (.dic l)) : ∃ a kv, σ[i]? = some (some (.ref a)) ∧ Nw H0 a ∧ G a = none ∧ H a = some (.dT kv) ∧ KvA G kv l ∧
    ∀ od, Rep G0 H0 pa (upd G a (.frz od (.dT kv))) (upd H a (.frz od (.dT kv))) σ (ρ.set i (.dat (.dict (dD l)))) pt := by
  obtain ⟨a, kv, ea, h0, g, ha, k⟩ := R.slot i _ hs
  refine ⟨a, kv, ea, h0, g, ha, k, fun od => ?_⟩
  have old : ∀ b o, H0 b = some o → NTb o → b ≠ a := fun b o e n z => by subst z; exact h0 o e n
  have m : ∀ u, H a = some u → Nte u := fun u hu => by rw [ha] at hu; cases hu; exact nte_dT
  have x : Ext pa G0 H0 (upd G a (.frz od (.dT kv))) (upd H a (.frz od (.dT kv))) := by
    refine ⟨R.ex.g.trans (same_upd g), fun b u eb => ?_, fun b o e fx => ?_, fun b u eb => ?_, fun b o e p => ?_, fun b e => ?_, fun n b u eb => ?_, fun t => tabs_set m (R.ex.tb t)⟩
    · by_cases c : b = a
      · subst c; rw [upd_same] at eb ⊢; exact eb
      · rw [upd_ne c] at eb ⊢; exact R.same b u eb
    · have nt : NTb o := fx.2.elim (fun z => by rw [R.ns] at z; cases z) id
      rw [upd_ne (old b o e nt)]
      exact R.ex.h b o e fx
    · by_cases c : b = a
      · subst c; exact .inr h0.nf
      · rw [upd_ne c] at eb; exact R.ex.f b u eb
    · obtain ⟨u, e1, e2⟩ := R.ex.pl b o e p
      exact ⟨u, by rw [upd_ne (old b o e p.nt)]; exact e1, e2⟩
    · by_cases c : b = a
      · subst c; exact h0
      · exact R.ex.pn b fun u q => e u (by rw [upd_ne c]; exact q)
    · by_cases c : b = a
      · subst c; rw [upd_same] at eb; cases eb; exact fun _ z => by cases z
      · rw [upd_ne c] at eb; exact R.ex.nt n b u eb
  have own_i : Sl.own ρ[i]? := by rw [hs]; trivial
  refine ⟨x, R.pot.put (R.pne h0), R.pg, fun b u eb => ?_, tabs_set m R.tb, R.ns, by simp [R.len], fun j s e' => ?_, fun j n b h1 h2 e1 e2 => ?_⟩
  · by_cases c : b = a
    · subst c; rw [upd_same] at eb; cases eb; exact fun _ z => by cases z
    · rw [upd_ne c] at eb; exact R.nt b u eb
  · by_cases c : i = j
    · subst c
      have hi : i < ρ.length := (List.getElem?_eq_some_iff.mp hs).1
      rw [List.getElem?_set_self hi] at e'
      cases e'
      exact ⟨_, ea, .dct upd_same (k.mono (same_upd g))⟩
    · rw [List.getElem?_set_ne c] at e'
      have kj := R.slot j s e'
      cases s with
      | un => trivial
      | dat d => obtain ⟨y, e2, i2⟩ := kj; exact ⟨y, e2, i2.mono (same_upd g)⟩
      | lst ys =>
        obtain ⟨b, ws, e2, b0, gb, hb, ib⟩ := kj
        have nb : b ≠ a := fun z => by rw [z, ha] at hb; cases hb
        exact ⟨b, ws, e2, b0, by rw [upd_ne nb]; exact gb, by rw [upd_ne nb]; exact hb, ib.mono (same_upd g)⟩
      | dic ys =>
        obtain ⟨b, ws, e2, b0, gb, hb, ib⟩ := kj
        have nb : b ≠ a := fun z => c (R.inj i j a own_i (by rw [e']; trivial) ea (by rw [e2, z]))
        exact ⟨b, ws, e2, b0, by rw [upd_ne nb]; exact gb, by rw [upd_ne nb]; exact hb, ib.mono (same_upd g)⟩
      | pot => exact kj
  · have nj : ∀ j, Sl.own (ρ.set i (.dat (.dict (dD l))))[j]? → Sl.own ρ[j]? := fun j h => by
      by_cases c : i = j
      · subst c; exact own_i
      · rw [List.getElem?_set_ne c] at h; exact h
    exact R.inj j n b (nj j h1) (nj n h2) e1 e2
/-- data without dicts doesn't lean on a locked one -/
def rmv (G : Hp) (a : Addr) : Hp := fun b => if b = a then none else G b
theorem rmv_ne {G : Hp} {a b : Addr} (h : b ≠ a) : rmv G a b = G b := if_neg h
mutual
theorem Is.rmv {G : Hp} {a : Addr} {o : Obj} {u : HO} (hg : G a = some (.frz o u)) : ∀ {v : V} {d : D}, d.canLay0 = true → Is G v d → Is (Pd.rmv G a) v d
  | _, _, _, .non => .non
  | _, _, _, .bl b => .bl b
  | _, _, _, .int i => .int i
  | _, _, _, .str x => .str x
  | _, _, c, .lst h r => .lst (by rw [rmv_ne fun z => by rw [z, hg] at h; cases h]; exact h) (IsA.rmv hg (by simpa only [PyData.canLay0] using c) r)
  | _, _, c, .tup h r => .tup (by rw [rmv_ne fun z => by rw [z, hg] at h; cases h]; exact h) (IsA.rmv hg (by simpa only [PyData.canLay0] using c) r)
  | _, _, c, .dct h r => by simp [PyData.canLay0] at c
theorem IsA.rmv {G : Hp} {a : Addr} {o : Obj} {u : HO} (hg : G a = some (.frz o u)) : ∀ {vs : List V} {ds : List D}, PyData.canLayAll0 ds = true → IsA G vs ds → IsA (Pd.rmv G a) vs ds
  | _, _, _, .nil => .nil
  | _, _, c, .cons h r => by
    simp only [PyData.canLayAll0, Bool.and_eq_true] at c
    exact .cons (Is.rmv hg c.1 h) (IsA.rmv hg c.2 r)
end
end
/-- what may be handed on from under a lock -/
def Rv.clean : Rv → Bool
  | .dat d => d.canLay0
  | .lst xs => PyData.canLayAll0 xs
  | _ => false
def mLock (i : Nat) (m : MV) : MV := fun ρ pt => match ρ[i]? with
  | some (.dic l) => (m (ρ.set i (.dat (.dict (dD l)))) pt).bind fun x => if x.1.clean = true then some x else none
  | _ => none
def bLock (i : Nat) (m : MB) : MB := fun ρ pt => match ρ[i]? with
  | some (.dic l) => m (ρ.set i (.dat (.dict (dD l)))) pt
  | _ => none
theorem db_lockS (i : Nat) {t : TS} {m : MB} (h : DB t m) : DB (tLockS t) (bLock i m) := by
  intro G0 H0 pa G H σ ρ pt o E R e q
  unfold bLock at e
  cases hs : ρ[i]? with
  | none => rw [hs] at e; cases e
  | some s =>
    rw [hs] at e
    cases s with
    | dic l =>
      obtain ⟨a, kv, ea, h0, g, ha, k, hR⟩ := R.lockD hs
      exact ⟨a, _, ha, trivial, fun od => h (hR od) e (q.same (same_upd g))⟩
    | _ => cases e
theorem de_lock (i : Nat) {t : TE} {m : MV} (h : DE t m) : DE (tLockE t) (mLock i m) := by
  intro G0 H0 pa G H σ ρ pt r pt' Q R e q
  unfold mLock at e
  cases hs : ρ[i]? with
  | none => rw [hs] at e; cases e
  | some s =>
    rw [hs] at e
    cases s with
    | dic l =>
      obtain ⟨⟨r1, p1⟩, e1, e⟩ := bnd e
      split at e
      · rename_i cl
        cases e
        obtain ⟨a, kv, ea, h0, g, ha, k, hR⟩ := R.lockD hs
        refine ⟨a, _, ha, trivial, fun od => h (hR od) e1 fun v G1 H1 x1 q1 k1 => ?_⟩
        have npa : pa.p ≠ some a := R.pne h0
        have g1 : G1 a = some (.frz od (.dT kv)) := x1.g a _ upd_same
        have h1 : H1 a = some (.frz od (.dT kv)) := x1.gh a _ g1
        have m1 : ∀ u, H1 a = some u → Nte u := fun u hu => by rw [h1] at hu; cases hu; exact nte_frz
        have m0 : ∀ u, H a = some u → Nte u := fun u hu => by rw [ha] at hu; cases hu; exact nte_dT
        have nw : ∀ b, Nw (upd H a (.frz od (.dT kv))) b → Nw H b := fun b n o e kk => by
          by_cases c : b = a
          · subst c; exact n _ upd_same (fun _ z => by cases z)
          · exact n o (by rw [upd_ne c]; exact e) kk
        have x : Ext pa G H (rmv G1 a) (upd H1 a (.dT kv)) := by
          refine ⟨fun b u e => ?_, fun b u e => ?_, fun b o e fx => ?_, fun b u e => ?_, fun b o e p => ?_, fun b n => ?_, fun n b u e => ?_, fun t => tabs_set m1 (x1.tb (tabs_set m0 t))⟩
          · have ne : b ≠ a := fun z => by subst z; rw [g] at e; cases e
            rw [rmv_ne ne]
            exact x1.g b u (by rw [upd_ne ne]; exact e)
          · have ne : b ≠ a := fun z => by subst z; unfold rmv at e; rw [if_pos rfl] at e; cases e
            rw [rmv_ne ne] at e
            rw [upd_ne ne]
            exact x1.gh b u e
          · by_cases c : b = a
            · subst c; rw [upd_same, ← e, ha]
            · rw [upd_ne c]
              exact x1.h b o (by rw [upd_ne c]; exact e) fx
          · have ne : b ≠ a := fun z => by subst z; unfold rmv at e; rw [if_pos rfl] at e; cases e
            rw [rmv_ne ne] at e
            rcases x1.f b u e with z | z
            · rw [upd_ne ne] at z; exact .inl z
            · exact .inr fun o eo po => z o (by rw [upd_ne ne]; exact eo) po
          · by_cases c : b = a
            · subst c; exact ⟨_, upd_same, trivial⟩
            · obtain ⟨u, e1, e2⟩ := x1.pl b o (by rw [upd_ne c]; exact e) p
              exact ⟨u, by rw [upd_ne c]; exact e1, e2⟩
          · by_cases c : b = a
            · subst c; exact (n _ upd_same (fun _ z => by cases z)).elim
            · exact nw b (x1.pn b fun u q => n u (by rw [upd_ne c]; exact q))
          · have ne : b ≠ a := fun z => by subst z; unfold rmv at e; rw [if_pos rfl] at e; cases e
            rw [rmv_ne ne] at e
            refine x1.nt (fun c w ec => ?_) b u e
            by_cases cc : c = a
            · subst cc; rw [upd_same] at ec; cases ec; exact fun _ z => by cases z
            · rw [upd_ne cc] at ec; exact n c w ec
        refine ⟨h1, q v _ _ x (q1.put npa) ?_⟩
        cases r with
        | dat d => exact Is.rmv g1 cl k1
        | lst xs =>
          obtain ⟨b, vs, rfl, nb, gb, hb, ib⟩ := k1
          have ne : b ≠ a := fun z => by subst z; exact nb _ upd_same (fun _ z => by cases z)
          exact ⟨b, vs, rfl, nw b nb, by rw [rmv_ne ne]; exact gb, by rw [upd_ne ne]; exact hb, IsA.rmv g1 cl ib⟩
        | _ => cases cl
      · cases e
    | _ => cases e
end
end Pd
end
section
set_option Elab.async false
set_option linter.all false
set_option maxRecDepth 100000
set_option maxHeartbeats 1000000
/-! Pd15: zip of a list and a tuple, its pairs kept: as a list, as a dict. -/
namespace Pd
open PySem PySem.Spec PySem.Calls PySem.W PyProof.Rows L2
section
variable {prog : Program} {w : World} {A : Around} {E : Value → Shared → Prop} {s : Shared} {z TI TO T i1 i2 : Addr} {fp1 fp2 : List Addr} {n1 n2 i : Nat} {P1 P2 : Nat → Value → Prop} {St1 St2 : Nat → Heap → Prop} {f : Bool} {oT : Obj}
/-- the next pair, the last one still in use -/
theorem held_item {Q : Value → Shared → Prop} (S : ZipSep2 z TI TO i1 i2 fp1 fp2) (D1 : Draws prog w A i1 fp1 n1 P1 St1) (D2 : Draws prog w A i2 fp2 n2 P2 St2)
    (hz : IsZipHeld s.heap z TI TO T f) (hT : s.heap.get? T = some oT) (hTI : IsTupOf2 s.heap TI (.ref i1) (.ref i2)) (st1 : St1 i s.heap) (st2 : St2 i s.heap) (lt1 : i < n1) (lt2 : i < n2)
    (hQ : ∀ x y h' tk, P1 i x → P2 i y → IsZipHeld h' z TI TO T true → St1 (i + 1) h' → St2 (i + 1) h' → IsTupOf2 h' s.heap.objs.size x y → h'.objs.size = s.heap.objs.size + 1 →
      (∀ c o, c ≠ z → c ≠ i1 → c ≠ i2 → s.heap.get? c = some o → h'.get? c = some o) → Q (.ref s.heap.objs.size) { s with heap := h', toks := tk }) :
    wpAny (model prog w) A (Builtin.«zip.__next__» ⟨[.ref z], []⟩) (fun fin s' => ∃ v, fin = .done (.ret v) ∧ Q v s') E s := by
  obtain ⟨hp, g, d, tk0, os⟩ := s
  show wpAny _ _ (field (.ref z) 2 >>= _) _ _ _
  refine wpAny_bind (wpAny_field hz rfl (x := .bool false) rfl ?_)
  show wpAny _ _ (field (.ref z) 3 >>= _) _ _ _
  refine wpAny_bind (wpAny_field hz rfl (x := .ref TI) rfl ?_)
  refine wpAny_bind (wpAny_seqItems hTI rfl ?_)
  show wpAny _ _ (Builtin.SmallTypes.ownedTupleIsFree (.ref z) >>= _) _ _ _
  refine wpAny_bind (wpAny_tupleHeld_zip hz hT fun g0 z0 s0 => ?_)
  replace s0 : Heap.SameBut z hp g0 := s0
  simp only [Bool.false_eq_true, if_false]
  refine wpAny_bind ?_
  rw [← Array.forIn_toList]
  simp only [List.forIn_cons, List.forIn_nil]
  refine wpAny_bind (wpAny_bind (wpAny_holding ?_))
  show wpAny _ _ (Builtin.SmallTypes.nextOf (.ref i1) >>= _) _ _ ⟨g0, g, d, tk0, os⟩
  refine wpAny_bind (D1.item i _ _ _ lt1 (D1.over st1 s0 S.zf1) fun x g1 tk1 px q1 s1 => wpAny_pure ?_)
  replace s1 : Heap.SameBut i1 g0 g1 := s1
  refine wpAny_pure ?_
  refine wpAny_bind (wpAny_bind (wpAny_holding ?_))
  show wpAny _ _ (Builtin.SmallTypes.nextOf (.ref i2) >>= _) _ _ ⟨g1, g, d, tk1, os⟩
  refine wpAny_bind (D2.item i _ _ _ lt2 (D2.over (D2.over st2 s0 S.zf2) s1 S.sep1_2) fun y g2 tk2 py q2 s2 => wpAny_pure ?_)
  replace s2 : Heap.SameBut i2 g1 g2 := s2
  refine wpAny_pure (wpAny_pure ?_)
  show wpAny _ _ (newTuple [x, y] >>= _) _ _ _
  refine wpAny_bind (wpAny_newTuple ?_)
  have hsz : g2.objs.size = hp.objs.size := by rw [s2.1, s1.1, s0.1]
  have z2 : IsZipHeld g2 z TI TO T true := s2.extBut _ _ S.zi2 (s1.extBut _ _ S.zi1 z0)
  have kk : ∀ c o, c ≠ z → c ≠ i1 → c ≠ i2 → hp.get? c = some o → g2.get? c = some o := fun c o c1 c2 c3 e => s2.extBut _ _ c3 (s1.extBut _ _ c2 (s0.extBut _ _ c1 e))
  have e1 : St1 (i + 1) g2 := D1.over q1 s2 S.sep2_1
  refine wpAny_pure ⟨_, rfl, ?_⟩
  show Q (.ref g2.objs.size) _
  have pp : IsTupOf2 (g2.push { cls := .type "tuple", data := .seq #[x, y] }) g2.objs.size x y := Heap.get?_push_size _ rfl
  have zz : (g2.push { cls := .type "tuple", data := .seq #[x, y] }).objs.size = g2.objs.size + 1 := Heap.size_push ..
  rw [hsz] at pp zz ⊢
  exact hQ x y _ _ px py (Heap.get?_push_of_some _ z2) (D1.frame _ _ _ e1 fun b hb o e => Heap.get?_push_of_some _ e) (D2.frame _ _ _ q2 fun b hb o e => Heap.get?_push_of_some _ e) pp zz fun c o c1 c2 c3 e => Heap.get?_push_of_some _ (kk c o c1 c2 c3 e)
theorem held_end {Q : Fin → Shared → Prop} (S : ZipSep2 z TI TO i1 i2 fp1 fp2) (D1 : Draws prog w A i1 fp1 n1 P1 St1) (D2 : Draws prog w A i2 fp2 n2 P2 St2)
    (hz : IsZipHeld s.heap z TI TO T f) (hT : s.heap.get? T = some oT) (hTI : IsTupOf2 s.heap TI (.ref i1) (.ref i2)) (st1 : St1 i s.heap) (st2 : St2 i s.heap) (le1 : i ≤ n1) (le2 : i ≤ n2) (hend : i = n1 ∨ i = n2)
    (hE : ∀ h' tk e, (∀ c o, c ≠ z → c ≠ i1 → c ≠ i2 → s.heap.get? c = some o → h'.get? c = some o) → (∃ o, h'.get? e = some o ∧ o.cls = .type "StopIteration") → E (.ref e) { s with heap := h', toks := tk }) :
    wpAny (model prog w) A (Builtin.«zip.__next__» ⟨[.ref z], []⟩) Q E s := by
  obtain ⟨hp, g, d, tk0, os⟩ := s
  show wpAny _ _ (field (.ref z) 2 >>= _) _ _ _
  refine wpAny_bind (wpAny_field hz rfl (x := .bool false) rfl ?_)
  show wpAny _ _ (field (.ref z) 3 >>= _) _ _ _
  refine wpAny_bind (wpAny_field hz rfl (x := .ref TI) rfl ?_)
  refine wpAny_bind (wpAny_seqItems hTI rfl ?_)
  show wpAny _ _ (Builtin.SmallTypes.ownedTupleIsFree (.ref z) >>= _) _ _ _
  refine wpAny_bind (wpAny_tupleHeld_zip hz hT fun g0 z0 s0 => ?_)
  replace s0 : Heap.SameBut z hp g0 := s0
  simp only [Bool.false_eq_true, if_false]
  refine wpAny_bind ?_
  rw [← Array.forIn_toList]
  simp only [List.forIn_cons, List.forIn_nil]
  refine wpAny_bind (wpAny_bind (wpAny_holding ?_))
  show wpAny _ _ (Builtin.SmallTypes.nextOf (.ref i1) >>= _) _ _ ⟨g0, g, d, tk0, os⟩
  by_cases lt1 : i < n1
  · refine wpAny_bind (D1.item i _ _ _ lt1 (D1.over st1 s0 S.zf1) fun x g1 tk1 px q1 s1 => wpAny_pure ?_)
    replace s1 : Heap.SameBut i1 g0 g1 := s1
    refine wpAny_pure ?_
    refine wpAny_bind (wpAny_bind (wpAny_holding ?_))
    show wpAny _ _ (Builtin.SmallTypes.nextOf (.ref i2) >>= _) _ _ ⟨g1, g, d, tk1, os⟩
    have e2 : i = n2 := by omega
    refine wpAny_bind (D2.done ⟨g1, g, d, tk1, os⟩ _ _ (by rw [← e2]; exact D2.over (D2.over st2 s0 S.zf2) s1 S.sep1_2) fun g2 e s2 he => ?_)
    replace s2 : Heap.ExtBut i2 g1 g2 := s2
    exact hE g2 tk1 e (fun c o c1 c2 c3 x => s2 _ _ c3 (s1.extBut _ _ c2 (s0.extBut _ _ c1 x))) he
  · have e1 : i = n1 := by omega
    refine wpAny_bind (D1.done ⟨g0, g, d, tk0, os⟩ _ _ (by rw [← e1]; exact D1.over st1 s0 S.zf1) fun g1 e s1 he => ?_)
    replace s1 : Heap.ExtBut i1 g0 g1 := s1
    exact hE g1 tk0 e (fun c o c1 c2 _ x => s1 _ _ c2 (s0.extBut _ _ c1 x)) he
end
/-- a zip midway; its last pair, where there is one, stands at none of ex -/
structure ZipAt (z TI TO i1 i2 : Addr) (St1 St2 : Nat → Heap → Prop) (ex : List Addr) (i : Nat) (h : Heap) : Prop where
  ti : IsTupOf2 h TI (.ref i1) (.ref i2)
  s1 : St1 i h
  s2 : St2 i h
  zz : (IsZip h z TI TO .none ∧ ∃ a b, IsTupOf2 h TO a b) ∨ ∃ T f oT, IsZipHeld h z TI TO T f ∧ h.get? T = some oT ∧ T ≠ z ∧ T ≠ TO ∧ T ≠ i1 ∧ T ≠ i2 ∧ T ∉ ex
section
variable {prog : Program} {w : World} {A : Around} {E : Value → Shared → Prop} {s : Shared} {z TI TO i1 i2 : Addr} {fp1 fp2 ex : List Addr} {n1 n2 i : Nat} {P1 P2 : Nat → Value → Prop} {St1 St2 : Nat → Heap → Prop}
theorem ZipAt.keep {A : Around} {h h' : Heap} (D1 : Draws prog w A i1 fp1 n1 P1 St1) (D2 : Draws prog w A i2 fp2 n2 P2 St2) (x : ZipAt z TI TO i1 i2 St1 St2 ex i h) (hn : ∀ b ∈ ex, b ∉ z :: TI :: TO :: (fp1 ++ fp2))
    (k : ∀ b o, b ∉ ex → h.get? b = some o → h'.get? b = some o) : ZipAt z TI TO i1 i2 St1 St2 ex i h' := by
  have no : ∀ b, b ∈ z :: TI :: TO :: (fp1 ++ fp2) → b ∉ ex := fun b hb he => hn b he hb
  refine ⟨k _ _ (no _ (by simp)) x.ti, D1.frame _ _ _ x.s1 fun b hb o e => k b o (no _ (by simp [hb])) e, D2.frame _ _ _ x.s2 fun b hb o e => k b o (no _ (by simp [hb])) e, ?_⟩
  rcases x.zz with ⟨hz, a, b, hO⟩ | ⟨T, f, oT, hz, hT, r1, r2, r3, r4, r5⟩
  · exact .inl ⟨k _ _ (no _ (by simp)) hz, a, b, k _ _ (no _ (by simp)) hO⟩
  · exact .inr ⟨T, f, oT, k _ _ (no _ (by simp)) hz, k _ _ r5 hT, r1, r2, r3, r4, r5⟩
theorem ZipAt.item {Q : Option Value → Shared → Prop} (S : ZipSep2 z TI TO i1 i2 fp1 fp2) (D1 : Draws prog w A.in1 i1 fp1 n1 P1 St1) (D2 : Draws prog w A.in1 i2 fp2 n2 P2 St2) (x : ZipAt z TI TO i1 i2 St1 St2 ex i s.heap) (lt1 : i < n1) (lt2 : i < n2)
    (hex : ∀ b ∈ ex, b < s.heap.objs.size)
    (hQ : ∀ u v h' tk, P1 i u → P2 i v → ZipAt z TI TO i1 i2 St1 St2 ex (i + 1) h' → IsTupOf2 h' s.heap.objs.size u v → h'.objs.size = s.heap.objs.size + 1 →
      (∀ c o, c ≠ z → c ≠ TO → c ≠ i1 → c ≠ i2 → s.heap.get? c = some o → h'.get? c = some o) → Q (some (.ref s.heap.objs.size)) { s with heap := h', toks := tk }) :
    wpAny (model prog w) A (pyNext (.ref z)) Q E s := by
  have lt : ∀ {c o}, s.heap.get? c = some o → s.heap.objs.size ≠ c := fun e => Nat.ne_of_gt (Heap.lt_size e)
  have l1 : s.heap.objs.size ≠ i1 := by obtain ⟨_, e⟩ := D1.live _ _ x.s1; exact lt e
  have l2 : s.heap.objs.size ≠ i2 := by obtain ⟨_, e⟩ := D2.live _ _ x.s2; exact lt e
  have lx : s.heap.objs.size ∉ ex := fun h => Nat.lt_irrefl _ (hex _ h)
  rcases x.zz with ⟨hz, a, b, hO⟩ | ⟨T, f, oT, hz, hT, r1, r2, r3, r4, r5⟩
  · refine wpAny_pyNext_zipD2_item S D1 D2 hz x.ti hO x.s1 x.s2 lt1 lt2 fun u v h' tk pu pv z' O' q1 q2 hp hs hk => ?_
    exact hQ u v h' tk pu pv ⟨hk _ _ S.TIz S.TITO S.TIi1 S.TIi2 x.ti, q1, q2, .inr ⟨_, false, _, z', hp, lt hz, lt hO, l1, l2, lx⟩⟩ hp hs hk
  · have hTy : s.TypeIs (.ref z) "zip" := ⟨_, hz, rfl⟩
    unfold pyNext
    refine wpAny_bind (wpAny_attempt (wpAny_callSpecial?_slot (name := Str.ofString "__next__") hTy PySem.F.slot_zip_next
      (wpAny_call_entry PySem.F.slot_zip_next hTy PySem.F.entry_zip_next
        (held_item S D1 D2 hz hT x.ti x.s1 x.s2 lt1 lt2 fun u v h' tk pu pv z' q1 q2 hp hs hk => wpAny_pure ?_) (PySem.F.args_zip_next_1 _))))
    exact hQ u v h' tk pu pv ⟨hk _ _ S.TIz S.TIi1 S.TIi2 x.ti, q1, q2, .inr ⟨T, true, oT, z', hk _ _ r1 r3 r4 hT, r1, r2, r3, r4, r5⟩⟩ hp hs fun c o c1 _ c3 c4 e => hk c o c1 c3 c4 e
theorem ZipAt.end {Q : Option Value → Shared → Prop} (S : ZipSep2 z TI TO i1 i2 fp1 fp2) (D1 : Draws prog w A.in1 i1 fp1 n1 P1 St1) (D2 : Draws prog w A.in1 i2 fp2 n2 P2 St2) (x : ZipAt z TI TO i1 i2 St1 St2 ex i s.heap) (le1 : i ≤ n1) (le2 : i ≤ n2) (hend : i = n1 ∨ i = n2)
    (hQ : ∀ h' tk, (∀ c o, c ≠ z → c ≠ TO → c ≠ i1 → c ≠ i2 → s.heap.get? c = some o → h'.get? c = some o) → Q none { s with heap := h', toks := tk }) :
    wpAny (model prog w) A (pyNext (.ref z)) Q E s := by
  rcases x.zz with ⟨hz, a, b, hO⟩ | ⟨T, f, oT, hz, hT, r1, r2, r3, r4, r5⟩
  · exact wpAny_pyNext_zipD2_end S D1 D2 hz x.ti hO x.s1 x.s2 le1 le2 hend hQ
  · have hTy : s.TypeIs (.ref z) "zip" := ⟨_, hz, rfl⟩
    unfold pyNext
    refine wpAny_bind (wpAny_attempt (wpAny_callSpecial?_slot (name := Str.ofString "__next__") hTy PySem.F.slot_zip_next
      (wpAny_call_entry PySem.F.slot_zip_next hTy PySem.F.entry_zip_next (held_end S D1 D2 hz hT x.ti x.s1 x.s2 le1 le2 hend fun h' tk e hk he => ?_) (PySem.F.args_zip_next_1 _))))
    obtain ⟨o, ho, hc⟩ := he
    refine wpAny_bind (wpAny_isInstance (T := "StopIteration") (b := true) ⟨o, ho, hc⟩ isSubtype_stop ?_)
    exact wpAny_pure (hQ _ _ fun c o c1 _ c3 c4 e => hk c o c1 c3 c4 e)
end
/-! ### made of a list and a tuple -/
abbrev mz1 (h : Heap) (l : Addr) : Heap := h.push { cls := .type "list_iterator", data := .fields #[.ref l, .int 0 0] }
abbrev mz2 (h : Heap) (l t : Addr) : Heap := (mz1 h l).push { cls := .type "tuple_iterator", data := .fields #[.ref t, .int 0 0] }
abbrev mz3 (h : Heap) (l t : Addr) : Heap := (mz2 h l t).push { cls := .type "tuple", data := .seq #[.ref h.objs.size, .ref (mz1 h l).objs.size] }
abbrev mz4 (h : Heap) (l t : Addr) : Heap := (mz3 h l t).push { cls := .type "tuple", data := .seq #[.none, .none] }
abbrev mz5 (h : Heap) (l t : Addr) : Heap := (mz4 h l t).push { cls := .type "zip", data := .fields #[.none, .bool false, .bool false, .ref (mz2 h l t).objs.size, .ref (mz3 h l t).objs.size] }
theorem meets_mz (l t : Addr) (xs ys : Array Value) :
    Meets (Builtin.«zip.__new__» ⟨[.type "zip", .ref l, .ref t], []⟩) (fun _ R s => s.heap.IsList l xs ∧ s.heap.IsTuple t ys ∧
      R (.ok (.ret (.ref (mz4 s.heap l t).objs.size))) { s with heap := mz5 s.heap l t }) :=
  .of_wp fun prog w A R s h => by
    obtain ⟨hp, g, d, tk, os⟩ := s; obtain ⟨hl1, hl2, h⟩ := h
    have hsub := sub_zip
    have hL1 : Heap.IsList (Shared.heap ⟨hp, g, d, tk, os⟩) l xs := hl1
    have hL2 : Heap.IsTuple (Shared.heap ⟨hp.push { cls := .type "list_iterator", data := .fields #[.ref l, .int 0 0] }, g, d, tk, os⟩) t ys := Heap.IsTuple.push hl2 _
    wp_walk using wpAny_pyIter_list hL1, wpAny_pyIter_tuple hL2
    exact ⟨_, rfl, h⟩
abbrev LSt (l : Addr) (xs : Array Value) (it : Addr) : Nat → Heap → Prop := fun i h => h.IsListIter it l i ∧ h.IsList l xs
abbrev TSt (t : Addr) (ys : Array Value) (it : Addr) : Nat → Heap → Prop := fun i h => h.IsTupleIter it t i ∧ h.IsTuple t ys
theorem sep_mz (n l t : Nat) (hl : l < n) (ht : t < n) : ZipSep2 (n + 4) (n + 2) (n + 3) n (n + 1) [n, l] [n + 1, t] := by
  have a (k m : Nat) (h : k < m) : n + k ≠ n + m := by omega
  have b (k m : Nat) (h : k < m) : n + m ≠ n + k := by omega
  have c (k : Nat) : n + (k + 1) ≠ n := by omega
  have d (k : Nat) : n + k ≠ l := by omega
  have e (k : Nat) : n + k ≠ t := by omega
  have f : n ≠ t := by omega
  have g (k : Nat) : n ≠ n + (k + 1) := by omega
  exact ⟨a 2 4 (by decide), a 3 4 (by decide), a 2 3 (by decide), c 1, by simp, by simp only [List.mem_cons, List.not_mem_nil, or_false, not_or]; exact ⟨c 3, d 4⟩, by simp only [List.mem_cons, List.not_mem_nil, or_false, not_or]; exact ⟨c 2, d 3⟩,
    b 1 2 (by decide), by simp, by simp only [List.mem_cons, List.not_mem_nil, or_false, not_or]; exact ⟨b 1 4 (by decide), e 4⟩, by simp only [List.mem_cons, List.not_mem_nil, or_false, not_or]; exact ⟨b 1 3 (by decide), e 3⟩,
    by simp only [List.mem_cons, List.not_mem_nil, or_false, not_or]; exact ⟨g 0, f⟩, by simp only [List.mem_cons, List.not_mem_nil, or_false, not_or]; exact ⟨c 0, d 1⟩⟩
section
variable {prog : Program} {w : World} {A : Around} {E : Value → Shared → Prop} {s : Shared} {l t : Addr} {xs ys : Array Value}
theorem call_mz {Q : Value → Shared → Prop} (hl : s.heap.IsList l xs) (ht : s.heap.IsTuple t ys)
    (h : ∀ h', (∀ ex, ZipAt (s.heap.objs.size + 4) (s.heap.objs.size + 2) (s.heap.objs.size + 3) s.heap.objs.size (s.heap.objs.size + 1) (LSt l xs s.heap.objs.size) (TSt t ys (s.heap.objs.size + 1)) ex 0 h') →
      IsZip h' (s.heap.objs.size + 4) (s.heap.objs.size + 2) (s.heap.objs.size + 3) .none → h'.objs.size = s.heap.objs.size + 5 → (∀ c o, s.heap.get? c = some o → h'.get? c = some o) → Q (.ref (s.heap.objs.size + 4)) { s with heap := h' }) :
    wpAny (model prog w) A (call (.type "zip") [.ref l, .ref t]) Q E s := by
  refine callType_new PySem.F.called_zip (by decide) (PySem.F.typeCall_zip_2 _ _) (PySem.F.newCall_zip_2 _ _) (fun obj => PySem.F.args_object_init_3 obj _ _) PySem.F.entry_zip_new
    (meets_mz l t xs ys) ⟨hl, ht, ?_⟩
  have z1 : (mz1 s.heap l).objs.size = s.heap.objs.size + 1 := Heap.size_push ..
  have z2 : (mz2 s.heap l t).objs.size = s.heap.objs.size + 2 := by rw [Heap.size_push, z1]
  have z3 : (mz3 s.heap l t).objs.size = s.heap.objs.size + 3 := by rw [Heap.size_push, z2]
  have z4 : (mz4 s.heap l t).objs.size = s.heap.objs.size + 4 := by rw [Heap.size_push, z3]
  have z5 : (mz5 s.heap l t).objs.size = s.heap.objs.size + 5 := by rw [Heap.size_push, z4]
  have up1 : ∀ c o, (mz1 s.heap l).get? c = some o → (mz5 s.heap l t).get? c = some o := fun c o x => Heap.get?_push_of_some _ (Heap.get?_push_of_some _ (Heap.get?_push_of_some _ (Heap.get?_push_of_some _ x)))
  have g5 : (mz5 s.heap l t).get? (mz4 s.heap l t).objs.size = some _ := Heap.get?_push_size _ rfl
  have g4 : (mz5 s.heap l t).get? (mz3 s.heap l t).objs.size = some _ := Heap.get?_push_of_some _ (Heap.get?_push_size _ rfl)
  have g3 : (mz5 s.heap l t).get? (mz2 s.heap l t).objs.size = some _ := Heap.get?_push_of_some _ (Heap.get?_push_of_some _ (Heap.get?_push_size _ rfl))
  have g2 : (mz5 s.heap l t).get? (mz1 s.heap l).objs.size = some _ := Heap.get?_push_of_some _ (Heap.get?_push_of_some _ (Heap.get?_push_of_some _ (Heap.get?_push_size _ rfl)))
  have g1 : (mz5 s.heap l t).get? s.heap.objs.size = some _ := up1 _ _ (Heap.get?_push_size _ rfl)
  show _ ∧ _
  rw [z2, z3, z4] at g5
  rw [z1, z2] at g3
  rw [z3] at g4
  rw [z1] at g2
  rw [z4]
  have k : ∀ c o, s.heap.get? c = some o → (mz5 s.heap l t).get? c = some o := fun c o x => up1 c o (Heap.get?_push_of_some _ x)
  exact ⟨⟨_, g5, rfl⟩, h _ (fun ex => ⟨g3, ⟨⟨_, g1, rfl, rfl⟩, hl.at fun o e => k _ o e⟩, ⟨⟨_, g2, rfl, rfl⟩, ht.at fun o e => k _ o e⟩, .inl ⟨g5, _, _, g4⟩⟩) g5 z5 k⟩
end
end Pd
end
section
set_option Elab.async false
set_option linter.all false
set_option maxRecDepth 100000
set_option maxHeartbeats 1000000
/-! Pd16: list(zip(l, t)), l a list, t a tuple. -/
namespace Pd
open PySem PySem.Spec PySem.Calls PySem.W PyProof.Rows L2
theorem zip_no_len : typeLookup (.type "zip") "__len__" = pure none := by rw [typeLookup_type, builtinLookup_eq_fast]; kernel_rfl
theorem zip_no_hint : typeLookup (.type "zip") "__length_hint__" = pure none := by rw [typeLookup_type, builtinLookup_eq_fast]; kernel_rfl
/-- the pairs made so far -/
structure Prs (P1 P2 : Nat → Value → Prop) (lo : Addr) (h : Heap) (as : List Addr) : Prop where
  rise : as.Pairwise (· < ·)
  above : ∀ a ∈ as, lo ≤ a
  pairs : ∀ (j : Nat) (a : Addr), as[j]? = some a → ∃ u v, P1 j u ∧ P2 j v ∧ IsTupOf2 h a u v
theorem Prs.there {P1 P2 : Nat → Value → Prop} {lo : Addr} {h : Heap} {as : List Addr} (g : Prs P1 P2 lo h as) {a : Addr} (ha : a ∈ as) : a < h.objs.size := by
  obtain ⟨j, hj⟩ := List.mem_iff_getElem?.mp ha
  obtain ⟨_, _, _, _, e⟩ := g.pairs j a hj
  exact Heap.lt_size e
theorem Prs.nil {P1 P2 : Nat → Value → Prop} {lo : Addr} {h : Heap} : Prs P1 P2 lo h [] := ⟨.nil, (fun a ha => nomatch ha), (fun j a hj => by simp at hj)⟩
section
variable {prog : Program} {w : World} {A : Around} {s : Shared} {R : Result → Shared → Prop} {z TI TO i1 i2 S lo : Addr} {fp1 fp2 : List Addr} {n : Nat} {P1 P2 : Nat → Value → Prop} {St1 St2 : Nat → Heap → Prop}
theorem mz_loop (D : ZipSep2 z TI TO i1 i2 fp1 fp2) (D1 : Draws prog w A.in1.in1 i1 fp1 n P1 St1) (D2 : Draws prog w A.in1.in1 i2 fp2 n P2 St2) (hS : ∀ b ∈ [S], b ∉ z :: TI :: TO :: (fp1 ++ fp2)) (hn : n ≤ sizeLine) (hlo : S < lo)
    (hcell : ∀ b ∈ [z, TO, i1, i2], b < lo) (res : Value) {h₁ : Heap}
    (hR : ∀ h' tk acc c as, (∀ b o, b ≠ S → b ≠ z → b ≠ TO → b ≠ i1 → b ≠ i2 → h₁.get? b = some o → h'.get? b = some o) → h'.get? S = some { cls := .type "list", dict := none, data := .seq acc c, slots := #[] } → as.length = n → Prs P1 P2 lo h' as →
      acc.toList = as.map Value.ref → R (.ok (.ret res)) { s with heap := h', toks := tk }) :
    ∀ (k i : Nat) (h : Heap) (tk c : Nat) (acc : Array Value) (as : List Addr), n - i = k → i ≤ n → ZipAt z TI TO i1 i2 St1 St2 [S] i h → (∀ b o, b ≠ S → b ≠ z → b ≠ TO → b ≠ i1 → b ≠ i2 → h₁.get? b = some o → h.get? b = some o) →
      h.get? S = some { cls := .type "list", dict := none, data := .seq acc c, slots := #[] } → acc.toList = as.map Value.ref → as.length = i → Prs P1 P2 lo h as → lo ≤ h.objs.size →
      codeAny (model prog w) A (.builtin "list.extend.loop" ⟨[.ref S, .ref z, res], []⟩) R { s with heap := h, toks := tk } := by
  have nS : S ≠ z ∧ S ≠ TO ∧ S ≠ i1 ∧ S ≠ i2 := by
    have q := hS S (by simp)
    simp only [List.mem_cons, List.mem_append, not_or] at q
    exact ⟨q.1, q.2.2.1, fun e => q.2.2.2.1 (by rw [e]; exact D.mem1), fun e => q.2.2.2.2 (by rw [e]; exact D.mem2)⟩
  obtain ⟨n1, n2, n3, n4⟩ := nS
  have ac : ∀ {a}, lo ≤ a → a ≠ z ∧ a ≠ TO ∧ a ≠ i1 ∧ a ≠ i2 ∧ a ≠ S := fun {a} ha => by
    have h1 := hcell z (by simp)
    have h2 := hcell TO (by simp)
    have h3 := hcell i1 (by simp)
    have h4 := hcell i2 (by simp)
    exact ⟨Nat.ne_of_gt (Nat.lt_of_lt_of_le h1 ha), Nat.ne_of_gt (Nat.lt_of_lt_of_le h2 ha), Nat.ne_of_gt (Nat.lt_of_lt_of_le h3 ha), Nat.ne_of_gt (Nat.lt_of_lt_of_le h4 ha), Nat.ne_of_gt (Nat.lt_of_lt_of_le hlo ha)⟩
  intro k
  induction k with
  | zero =>
    intro i h tk c acc as hk hi hst hkeep hSS hacc hal hG hIs
    refine codeAny_builtin PySem.F.entry_extend_loop ?_
    rw [Around.under_plainId PySem.F.plain_extend_loop _]
    show wpAny _ A.in1 (pyNext (.ref z) >>= _) _ _ _
    have hin : i = n := by omega
    refine wpAny_bind (ZipAt.end (s := { s with heap := h, toks := tk }) (A := A.in1) D D1 D2 hst (Nat.le_of_eq hin) (Nat.le_of_eq hin) (.inl hin) fun h' tk' he => ?_)
    refine wpAny_pure (hR h' tk' acc c as (fun b o q1 q2 q3 q4 q5 e => he b o q2 q3 q4 q5 (hkeep b o q1 q2 q3 q4 q5 e)) (he S _ n1 n2 n3 n4 hSS) (by omega) ⟨hG.rise, hG.above, fun j a hj => ?_⟩ hacc)
    obtain ⟨u, v, p, q, e3⟩ := hG.pairs j a hj
    obtain ⟨a1, a2, a3, a4, _⟩ := ac (hG.above a (List.mem_of_getElem? hj))
    exact ⟨u, v, p, q, he a _ a1 a2 a3 a4 e3⟩
  | succ k ih =>
    intro i h tk c acc as hk hi hst hkeep hSS hacc hal hG hIs
    have hlt : i < n := by omega
    have hsz : acc.size = i := by rw [← Array.length_toList, hacc, List.length_map, hal]
    refine codeAny_builtin PySem.F.entry_extend_loop ?_
    rw [Around.under_plainId PySem.F.plain_extend_loop _]
    show wpAny _ A.in1 (pyNext (.ref z) >>= _) _ _ _
    have hSl : S < h.objs.size := Heap.lt_size hSS
    refine wpAny_bind (ZipAt.item (s := { s with heap := h, toks := tk }) (A := A.in1) D D1 D2 hst hlt hlt (fun b hb => by rw [List.mem_singleton.mp hb]; exact hSl) fun u v h' tk' pu pv hst' ht hz hkp => ?_)
    dsimp only at ht hz hkp ⊢
    have hS' := hkp S _ n1 n2 n3 n4 hSS
    have up : ∀ b o, b ≠ S → h'.get? b = some o → (h'.update S (Obj.mapSeq (·.push (Value.ref h.objs.size)))).get? b = some o := fun b o hb e => (Heap.get?_update_other _ _ (Ne.symm hb)).trans e
    show wpAny _ A.in1 (updateSeq S (·.push (Value.ref h.objs.size)) >>= _) _ _ _
    refine wpAny_bind ?_
    refine wpAny_updateSeq hS' rfl (wpAny_pure ⟨plainId_quiet PySem.F.plain_extend_loop _, ih (i + 1) _ tk' _ (acc.push (Value.ref h.objs.size)) (as ++ [h.objs.size]) (by omega) hlt (hst'.keep D1 D2 hS fun b o hb e => up b o (fun z => hb (by simp [z])) e)
      (fun b o q1 q2 q3 q4 q5 e => up b o q1 (hkp b o q2 q3 q4 q5 (hkeep b o q1 q2 q3 q4 q5 e))) (Heap.get?_update_self _ hS' rfl) (by rw [Array.toList_push, hacc, List.map_append]; rfl) (by rw [List.length_append, hal]; rfl) ⟨?_, ?_, ?_⟩ ?_⟩) (by rw [hsz]; omega) (by show (acc.push (Value.ref h.objs.size)).size ≤ sizeLine + 1; rw [Array.size_push, hsz]; omega)
    · refine List.pairwise_append.mpr ⟨hG.rise, List.pairwise_singleton _ _, fun a ha b hb => ?_⟩
      rw [List.mem_singleton.mp hb]
      exact hG.there ha
    · intro a ha
      rcases List.mem_append.mp ha with ha | ha
      · exact hG.above a ha
      · rw [List.mem_singleton.mp ha]; exact hIs
    · intro j b hj
      rcases Nat.lt_trichotomy j as.length with h1 | h1 | h1
      · rw [List.getElem?_append_left h1] at hj
        obtain ⟨u', v', p', q', e3⟩ := hG.pairs j b hj
        obtain ⟨a1, a2, a3, a4, a5⟩ := ac (hG.above b (List.mem_of_getElem? hj))
        exact ⟨u', v', p', q', up b _ a5 (hkp b _ a1 a2 a3 a4 e3)⟩
      · subst h1
        have hb : h.objs.size = b := by simpa using hj
        subst hb
        exact ⟨u, v, by rw [hal]; exact pu, by rw [hal]; exact pv, up _ _ (Nat.ne_of_gt hSl) ht⟩
      · have hnone : (as ++ [h.objs.size])[j]? = none := List.getElem?_eq_none (by rw [List.length_append, List.length_singleton]; omega)
        rw [hnone] at hj; cases hj
    · have e : (h'.update S (Obj.mapSeq (·.push (Value.ref h.objs.size)))).get? h.objs.size = _ := up _ _ (Nat.ne_of_gt hSl) ht
      exact Nat.le_trans hIs (Nat.le_of_lt (Heap.lt_size e))
/-- list(z), z a zip whose iterators have as many -/
theorem call_list_mz {E : Value → Shared → Prop} {Q : Value → Shared → Prop} (D : ZipSep2 z TI TO i1 i2 fp1 fp2) (D1 : Draws prog w A.in1.in1.in1 i1 fp1 n P1 St1) (D2 : Draws prog w A.in1.in1.in1 i2 fp2 n P2 St2) (hn : n ≤ sizeLine)
    (hz : IsZip s.heap z TI TO .none) (hst : ∀ ex, ZipAt z TI TO i1 i2 St1 St2 ex 0 s.heap) (hfp : ∀ b ∈ z :: TI :: TO :: (fp1 ++ fp2), b < s.heap.objs.size)
    (h : ∀ h' tk acc c as, (∀ b o, b ≠ z → b ≠ TO → b ≠ i1 → b ≠ i2 → s.heap.get? b = some o → h'.get? b = some o) → h'.get? s.heap.objs.size = some { cls := .type "list", dict := none, data := .seq acc c, slots := #[] } → as.length = n →
      Prs P1 P2 (s.heap.objs.size + 1) h' as → acc.toList = as.map Value.ref → Q (.ref s.heap.objs.size) { s with heap := h', toks := tk }) :
    wpAny (model prog w) A (call (.type "list") [.ref z]) Q E s := by
  generalize hSe : s.heap.objs.size = S at *
  have hSf : ∀ b ∈ [S], b ∉ z :: TI :: TO :: (fp1 ++ fp2) := fun b hb hm => by
    rw [List.mem_singleton.mp hb] at hm
    exact Nat.lt_irrefl _ (hfp _ hm)
  have hlt : ∀ b o, s.heap.get? b = some o → b ≠ S := fun b o e => by rw [← hSe]; exact Nat.ne_of_lt (Heap.lt_size e)
  refine callType_codes (Q₁ := fun obj s₁ => obj = .ref S ∧ s₁ = { s with heap := s.heap.push { cls := .type "list", data := .seq #[] } }) PySem.F.called_list (PySem.F.typeCall_list_1 _) PySem.F.entry_list_init
    (code_list_new _ ⟨by rw [hSe], rfl⟩) fun obj s₁ h₁ => ?_
  obtain ⟨rfl, rfl⟩ := h₁
  have hS : (s.heap.push { cls := .type "list", data := .seq #[] }).get? S = some { cls := .type "list", data := .seq #[] } := by rw [← hSe]; exact Heap.get?_push_size _ rfl
  refine ⟨⟨_, hS, rfl⟩, PySem.F.args_list_init_2 _ _, ?_⟩
  show wpAny _ _ (do let old ← Builtin.List.listItems (.ref S); Builtin.List.listUpdate (.ref S) (fun _ => #[]); letGo old.toList.reverse; Builtin.List.listExtendWith (.ref S) (.ref z) .none) _ _ _
  refine wpAny_bind ?_
  unfold Builtin.List.listItems
  refine wpAny_bind (wpAny_seqItems hS rfl (wpAny_pure ?_))
  show wpAny _ _ (updateSeq S (fun _ => #[]) >>= fun _ => letGo (#[] : Array Value).toList.reverse >>= fun _ => Builtin.List.listExtendWith (.ref S) (.ref z) .none) _ _ _
  refine wpAny_bind (wpAny_updateSeq hS rfl ?_)
  have hS2 := Heap.get?_update_self (Obj.mapSeq (fun _ => (#[] : Array Value))) hS rfl
  have k2 : ∀ b o, b ≠ S → s.heap.get? b = some o → ((s.heap.push { cls := .type "list", data := .seq #[] }).update S (Obj.mapSeq (fun _ => (#[] : Array Value)))).get? b = some o :=
    fun b o hb e => (Heap.get?_update_other _ _ (Ne.symm hb)).trans (Heap.get?_push_of_some _ e)
  refine wpAny_bind (wpAny_letGo ?_)
  generalize hh2 : (s.heap.push { cls := .type "list", data := .seq #[] }).update S (Obj.mapSeq (fun _ => (#[] : Array Value))) = h2 at hS2 k2 ⊢
  have hz2 : IsZip h2 z TI TO .none := k2 _ _ (hlt _ _ hz) hz
  have hty : Shared.TypeIs { s with heap := h2 } (.ref z) "zip" := ⟨_, hz2, rfl⟩
  unfold Builtin.List.listExtendWith
  refine wpAny_bind (wpAny_typeOf hty ?_)
  have f1 : Builtin.List.listSameRef (.ref S) (.ref z) = false := by
    have : S ≠ z := fun e => hSf S (by simp) (by rw [e]; simp)
    simp [Builtin.List.listSameRef, this]
  have f2 : (Value.type "zip" == Value.type "list") = false := by decide
  have f3 : (Value.type "zip" == Value.type "tuple") = false := by decide
  simp only [f1, f2, f3, Bool.or_false, Bool.false_eq_true, if_false]
  refine wpAny_bind (wpAny_pyIter_zip (s := { s with heap := h2 }) hz2 ?_)
  refine wpAny_bind (wpAny_holding ?_)
  unfold Builtin.List.listLengthHint
  refine wpAny_bind (wpAny_specialOf hty zip_no_len ?_)
  show wpAny _ _ (specialOf (Value.ref z) (Str.ofString "__length_hint__") >>= _) _ _ _
  refine wpAny_bind (wpAny_specialOf hty zip_no_hint ?_)
  refine wpAny_pure ?_
  show wpAny _ _ (rule "list.extend.makes-room" >>= fun _ => Builtin.List.listTouch (.ref S) >>= fun _ =>
    again (.builtin "list.extend.loop" ⟨[.ref S, .ref z, .none], []⟩)) _ _ _
  refine wpAny_bind (wpAny_rule ?_)
  refine wpAny_bind ?_
  show wpAny _ _ (updateSeq S (·.push .none) >>= fun _ => updateSeq S (·.pop)) _ _ _
  refine wpAny_bind (wpAny_updateSeq (s := { s with heap := h2 }) hS2 rfl ?_)
  have hS3 := Heap.get?_update_self (Obj.mapSeq (·.push Value.none)) hS2 rfl
  refine wpAny_updateSeq hS3 rfl ?_
  have hS4 := Heap.get?_update_self (Obj.mapSeq (·.pop)) hS3 rfl
  have k4 : ∀ b o, b ≠ S → s.heap.get? b = some o → ((h2.update S (Obj.mapSeq (·.push Value.none))).update S (Obj.mapSeq (·.pop))).get? b = some o :=
    fun b o hb e => (Heap.get?_update_other _ _ (Ne.symm hb)).trans ((Heap.get?_update_other _ _ (Ne.symm hb)).trans (k2 b o hb e))
  generalize (h2.update S (Obj.mapSeq (·.push Value.none))).update S (Obj.mapSeq (·.pop)) = h4 at hS4 k4 ⊢
  have hsz4 : S + 1 ≤ h4.objs.size := Heap.lt_size hS4
  have mem : ∀ b ∈ [z, TO, i1, i2], b ∈ z :: TI :: TO :: (fp1 ++ fp2) := fun b hb => by
    simp only [List.mem_cons, List.not_mem_nil, or_false] at hb
    rcases hb with rfl | rfl | rfl | rfl
    · simp
    · simp
    · simp [D.mem1]
    · simp [D.mem2]
  refine wpAny_pure ⟨plainId_quiet PySem.F.plain_extend_loop _, mz_loop (s := { s with heap := h4 }) (A := A.in1) (lo := S + 1) (h₁ := h4) D D1 D2 hSf hn (Nat.lt_succ_self S) (fun b hb => Nat.lt_succ_of_lt (hfp b (mem b hb))) .none
    (fun h' tk acc c as k hS' hl hp ha => ⟨rfl, h h' tk acc c as (fun b o q1 q2 q3 q4 e => k b o (hlt b o e) q1 q2 q3 q4 (k4 b o (hlt b o e) e)) hS' hl hp ha⟩) n 0 h4 s.toks _ #[] [] (Nat.sub_zero _) (Nat.zero_le _)
    (ZipAt.keep (h := s.heap) D1 D2 (hst [S]) hSf fun b o hb e => k4 b o (fun z => hb (by simp [z])) e) (fun b o _ _ _ _ _ e => e) hS4 rfl rfl Prs.nil hsz4⟩
end
end Pd
end
section
set_option Elab.async false
set_option linter.all false
set_option maxRecDepth 100000
set_option maxHeartbeats 1000000
/-! Pd17: dicts made of pairs; list(zip(..)). -/
namespace Pd
open PySem PySem.Spec PySem.Calls PySem.W PyProof.Rows L2
/-! ### dict(zip(l, t)) at the library's level -/
structure MzOk (n l t : Addr) (xs ys : Array Value) (h : Heap) : Prop where
  z : IsZip h (n + 4) (n + 2) (n + 3) .none
  ti : IsTupOf2 h (n + 2) (.ref n) (.ref (n + 1))
  to' : ∃ a b, IsTupOf2 h (n + 3) a b
  s1 : LSt l xs n 0 h
  s2 : TSt t ys (n + 1) 0 h
theorem MzOk.at {n l t : Addr} {xs ys : Array Value} {h : Heap} (x : MzOk n l t xs ys h) (ex : List Addr) : ZipAt (n + 4) (n + 2) (n + 3) n (n + 1) (LSt l xs n) (TSt t ys (n + 1)) ex 0 h :=
  ⟨x.ti, x.s1, x.s2, .inl ⟨x.z, x.to'⟩⟩
theorem MzOk.keep {n l t : Addr} {xs ys : Array Value} {h h' : Heap} (x : MzOk n l t xs ys h) (k : ∀ b o, h.get? b = some o → h'.get? b = some o) : MzOk n l t xs ys h' :=
  ⟨k _ _ x.z, k _ _ x.ti, let ⟨a, b, e⟩ := x.to'; ⟨a, b, k _ _ e⟩, ⟨x.s1.1.at fun o e => k _ o e, x.s1.2.at fun o e => k _ o e⟩, ⟨x.s2.1.at fun o e => k _ o e, x.s2.2.at fun o e => k _ o e⟩⟩
theorem MzOk.of {n l t : Addr} {xs ys : Array Value} {h : Heap} (z : IsZip h (n + 4) (n + 2) (n + 3) .none) (x : ZipAt (n + 4) (n + 2) (n + 3) n (n + 1) (LSt l xs n) (TSt t ys (n + 1)) [] 0 h) : MzOk n l t xs ys h := by
  refine ⟨z, x.ti, ?_, x.s1, x.s2⟩
  rcases x.zz with ⟨_, e⟩ | ⟨T, f, oT, hz, _⟩
  · exact e
  · exfalso
    have e : h.get? (n + 4) = _ := z
    have e' : h.get? (n + 4) = _ := hz
    rw [e] at e'
    simp [rawInt] at e'
abbrev mzFp (n l t : Addr) : List Addr := (n + 4) :: (n + 2) :: (n + 3) :: ([n, l] ++ [n + 1, t])
abbrev mzWr (n : Addr) : List Addr := [n + 4, n + 3, n, n + 1]
theorem dr_l {prog : Program} {w : World} {A : Around} (hh : A.handled = none) (it l : Addr) (hne : l ≠ it) (xs : Array Value) {n : Nat} (hn : xs.size = n) : Draws prog w A it [it, l] n (fun i v => xs[i]? = some v) (LSt l xs it) := by
  subst hn; exact Draws.list hh it l hne xs
theorem dr_t {prog : Program} {w : World} {A : Around} (hh : A.handled = none) (it l : Addr) (hne : l ≠ it) (xs : Array Value) {n : Nat} (hn : xs.size = n) : Draws prog w A it [it, l] n (fun i v => xs[i]? = some v) (TSt l xs it) := by
  subst hn; exact Draws.tuple hh it l hne xs
theorem mz_pairs {prog : Program} {w : World} (n l t : Addr) (hl : l < n) (ht : t < n) (xs ys : Array Value) (m : Nat) (h1 : xs.size = m) (h2 : ys.size = m) :
    PairArg prog w "zip" (n + 4) (mzFp n l t) (mzWr n) m (fun i k v => xs[i]? = some k ∧ ys[i]? = some v) (MzOk n l t xs ys) := by
  have D := sep_mz n l t hl ht
  have nl : l ≠ n := Nat.ne_of_lt hl
  have nt : t ≠ n + 1 := Nat.ne_of_lt (Nat.lt_succ_of_lt ht)
  refine ⟨fun s ok => ⟨_, ok.z, rfl⟩, by decide, fun h h' ok k => ok.keep k, fun h ok b hb => ?_, fun b hb => ?_, fun A s Q E hA ok hq => getAttrOr_miss_zip ok.z rfl rfl rfl zip_no_keys (by decide +kernel) hA hq, fun A s d Q E hA ok hd hdf hq => ?_⟩
  · obtain ⟨z, ti, ⟨ta, tb, to'⟩, ⟨⟨o1, e1, _⟩, ⟨o2, e2, _⟩⟩, ⟨⟨o3, e3, _⟩, ⟨o4, e4, _⟩⟩⟩ := ok
    simp only [List.mem_cons, List.mem_append, List.not_mem_nil, or_false] at hb
    rcases hb with rfl | rfl | rfl | (rfl | rfl) | (rfl | rfl)
    · exact ⟨_, z⟩
    · exact ⟨_, ti⟩
    · exact ⟨_, to'⟩
    · exact ⟨_, e1⟩
    · exact ⟨_, e2⟩
    · exact ⟨_, e3⟩
    · exact ⟨_, e4⟩
  · simp only [List.mem_cons, List.not_mem_nil, or_false] at hb
    rcases hb with rfl | rfl | rfl | rfl <;> simp
  · have hA' : A.in1.handled = none := hA
    have D1 := dr_l (prog := prog) (w := w) hA' n l nl xs h1
    have D2 := dr_t (prog := prog) (w := w) hA' (n + 1) t nt ys h2
    have off : ∀ b ∈ [d], b ∉ mzFp n l t := fun b hb => by rw [List.mem_singleton.mp hb]; exact hdf
    refine wpAny_pyIter_zip ok.z (hq (n + 4) (mzWr n) (ZipAt (n + 4) (n + 2) (n + 3) n (n + 1) (LSt l xs n) (TSt t ys (n + 1)) [d]) s.heap s.toks ?_ (ok.at [d]) (fun _ _ e => e) fun b hb => .inl hb)
    refine ⟨fun hm => hdf ?_, fun i h h' st k => st.keep D1 D2 off fun b o hb e => k b o (fun z => hb (by simp [z])) e, fun i s1 Q1 E1 hi st hds hQ => ?_, fun s1 Q1 E1 st hQ => ?_⟩
    · simp only [List.mem_cons, List.not_mem_nil, or_false] at hm
      rcases hm with rfl | rfl | rfl | rfl <;> simp
    · refine ZipAt.item D D1 D2 st hi hi (fun b hb => by rw [List.mem_singleton.mp hb]; exact hds) fun u v h' tk pu pv st' hp hz hk => ?_
      exact hQ _ u v h' tk ⟨pu, pv⟩ (.inl ⟨_, hp, rfl, _, rfl⟩) st' fun b o hb e => hk b o (fun x => hb (by simp [x])) (fun x => hb (by simp [x])) (fun x => hb (by simp [x])) (fun x => hb (by simp [x])) e
    · exact ZipAt.end D D1 D2 st (Nat.le_refl _) (Nat.le_refl _) (.inl rfl) fun h' tk hk => hQ h' tk fun b o hb e => hk b o (fun x => hb (by simp [x])) (fun x => hb (by simp [x])) (fun x => hb (by simp [x])) (fun x => hb (by simp [x])) e
/-! ### new pairs -/
def newP (H : Hp) : List (Addr × V × V) → Hp
  | [] => H
  | p :: r => newP (upd H p.1 (.tup [p.2.1, p.2.2])) r
/-- what the pairs are, in data, and that they are new -/
theorem newP_old {H : Hp} {b : Addr} {o : HO} : ∀ (L : List (Addr × V × V)), (∀ p ∈ L, H p.1 = none) → (L.map (·.1)).Nodup → H b = some o → newP H L b = some o
  | [], _, _, h => h
  | p :: L, hn, nd, h => by
    rw [List.map_cons, List.nodup_cons] at nd
    refine newP_old L (fun q hq => ?_) nd.2 (by rw [upd_ne (ne_of_none h (hn p List.mem_cons_self))]; exact h)
    rw [upd_ne fun z => nd.1 (List.mem_map.mpr ⟨q, hq, z⟩)]
    exact hn q (List.mem_cons_of_mem _ hq)
theorem newP_none {H : Hp} {b : Addr} : ∀ (L : List (Addr × V × V)), newP H L b = none → H b = none
  | [], h => h
  | p :: L, h => by
    have q := newP_none L h
    by_cases c : b = p.1
    · rw [c, upd_same] at q; cases q
    · rw [upd_ne c] at q; exact q
theorem newP_at {H : Hp} : ∀ (L : List (Addr × V × V)), (∀ p ∈ L, H p.1 = none) → (L.map (·.1)).Nodup → ∀ p ∈ L, newP H L p.1 = some (.tup [p.2.1, p.2.2])
  | [], _, _, p, h => nomatch h
  | p :: L, hn, nd, q, h => by
    rw [List.map_cons, List.nodup_cons] at nd
    have hn' : ∀ r ∈ L, upd H p.1 (.tup [p.2.1, p.2.2]) r.1 = none := fun r hr => by
      rw [upd_ne fun z => nd.1 (List.mem_map.mpr ⟨r, hr, z⟩)]
      exact hn r (List.mem_cons_of_mem _ hr)
    rcases List.mem_cons.mp h with rfl | h
    · exact newP_old L hn' nd.2 upd_same
    · exact newP_at L hn' nd.2 q h
section
variable {X : Cx} {pins : List (Addr × Obj)} {σ : L2.St} {s : Shared} {h' : Heap} {tk : Nat} {H0 : Hp}
theorem take_pairs (I0 : Inv X pins σ H0 s) : ∀ (L : List (Addr × V × V)) (H1 : Hp), Inv X pins σ H1 { s with heap := h', toks := tk } → (L.map (·.1)).Nodup →
    (∀ p ∈ L, s.heap.objs.size ≤ p.1 ∧ H1 p.1 = none ∧ ∃ u v, RelV p.2.1 u ∧ RelV p.2.2 v ∧ IsTupOf2 h' p.1 u v) → Inv X pins σ (newP H1 L) { s with heap := h', toks := tk }
  | [], H1, I1, _, _ => I1
  | p :: L, H1, I1, nd, h => by
    rw [List.map_cons, List.nodup_cons] at nd
    obtain ⟨hb, hnone, u, v, ru, rv, e⟩ := h p List.mem_cons_self
    have I2 : Inv X pins σ (upd H1 p.1 (.tup [p.2.1, p.2.2])) { s with heap := h', toks := tk } := I1.take (h' := h') (t' := tk) (fun b ob _ e => e) (I0.fpOk hb hnone) ⟨by show 2 ≤ sizeLine; decide, [u, v], .cons ru (.cons rv .nil), ⟨_, e, rfl, _, rfl⟩⟩
    exact take_pairs I0 L _ I2 nd.2 fun q hq => by
      obtain ⟨c1, c2, c3⟩ := h q (List.mem_cons_of_mem _ hq)
      exact ⟨c1, by rw [upd_ne fun z => nd.1 (List.mem_map.mpr ⟨q, hq, z⟩)]; exact c2, c3⟩
end
section
variable {X : Cx}
/-- list(zip(l, t)) -/
def tLZip (K : PySem.W.Frag) (ta : TA) : TE := fun σ H Q => ta σ H fun vs H1 => ∃ (a b : Addr) (xs ys : List V), vs = [V.ref a, .ref b] ∧ SqL K H1 a xs ∧ SqT K H1 b ys ∧ xs.length = ys.length ∧
  ∀ (as : List Addr) (q : Addr), as.length = xs.length → as.Nodup → (∀ c ∈ as, H1 c = none) → H1 q = none → q ∉ as → Q (.ref q) (upd (newP H1 (as.zip (xs.zip ys))) q (.lst (as.map V.ref)))
theorem zip3_fst {as : List Addr} {xs ys : List V} (h1 : as.length = xs.length) (h2 : xs.length = ys.length) : (as.zip (xs.zip ys)).map (·.1) = as := by
  apply List.ext_getElem
  · simp; omega
  · intro i _ _; simp
set_option maxHeartbeats 2000000 in
theorem pe_lzip {e e2 : Expr} {ta : TA} {p p2 pos pos2 : Pos} (hc : X.calm = true) (hgl : Gl X "list") (hml : X.mg "list" = none) (hg : Gl X "zip") (hm : X.mg "zip" = none) (ha : PA X [e, e2] ta)
    (na : starEach [.Call (.Name "zip" p2) [e, e2] [] pos2] X.env = (false, eval (.Call (.Name "zip" p2) [e, e2] [] pos2) X.env) :: starEach [] X.env := by rfl)
    (hs : starEach [e, e2] X.env = (false, eval e X.env) :: starEach [e2] X.env := by rfl) (hpl : (backTo pos2 (starEach [e2] X.env)).any (·.1) = false := by rfl) :
    PE X (.Call (.Name "list" p) [.Call (.Name "zip" p2) [e, e2] [] pos2] [] pos) (tLZip X.K ta) := by
  refine ⟨fun pins s σ H Q I h => ?_⟩
  refine Call_ (ld_blt I hgl hml boot_list (PyProof.Rows.callWith_type1 (args_cons (Call_ (ld_blt I hg hm PyProof.Rows.boot_zip (PyProof.Rows.callWith_type1 (thn (ha.run pos2 pins s σ H _ I h) fun us s1 ⟨vs, H1, I1, r1, q1⟩ => ?_) hs hpl))) na) na))
  obtain ⟨a, b, xs, ys, ex, hx, hy, hxy, q⟩ := q1
  subst ex
  cases r1 with
  | cons r rr =>
    cases rr with
    | cons r' rr =>
      cases rr
      cases r
      cases r'
      obtain ⟨its, rv, p1, hzx⟩ := I1.list hx
      obtain ⟨its2, rv2, p3, _⟩ := I1.tuple hy
      have l1 := rv.length
      have l2 := rv2.length
      have la : a < s1.heap.objs.size := p1.lt
      have lb : b < s1.heap.objs.size := let ⟨o, ho, _⟩ := id p3; Heap.lt_size ho
      refine call_mz p1.isList (show s1.heap.IsTuple b its2.toArray from p3) fun h1 hZ hz hsz hk => args_nil ?_
      generalize hn : s1.heap.objs.size = n at hZ hz hsz la lb ⊢
      have hh : X.A.handled = none := I1.ok.hd hc
      have nl : a ≠ n := Nat.ne_of_lt la
      have nt : b ≠ n + 1 := Nat.ne_of_lt (Nat.lt_succ_of_lt lb)
      have D := sep_mz n a b la lb
      have hA3 : X.A.in1.in1.in1.handled = none := hh
      have D1 := dr_l (prog := X.prog) (w := X.w) (n := its.length) hA3 n a nl its.toArray (by simp)
      have D2 := dr_t (prog := X.prog) (w := X.w) (n := its.length) hA3 (n + 1) b nt its2.toArray (by simp; omega)
      have cells : ∀ c ∈ (n + 4) :: (n + 2) :: (n + 3) :: ([n, a] ++ [n + 1, b]), c < h1.objs.size := fun c hc => by
        have e : h1.objs.size = n + 5 := hsz
        simp only [List.mem_cons, List.mem_append, List.not_mem_nil, or_false] at hc
        have la' : a < n + 5 := Nat.lt_of_lt_of_le la (Nat.le_add_right _ _)
        have lb' : b < n + 5 := Nat.lt_of_lt_of_le lb (Nat.le_add_right _ _)
        rw [e]
        rcases hc with rfl | rfl | rfl | (rfl | rfl) | (rfl | rfl)
        · exact Nat.lt_succ_self _
        · exact Nat.add_lt_add_left (by decide) _
        · exact Nat.add_lt_add_left (by decide) _
        · exact Nat.lt_add_of_pos_right (by decide)
        · exact la'
        · exact Nat.add_lt_add_left (by decide) _
        · exact lb'
      refine call_list_mz (s := { s1 with heap := h1 }) D D1 D2 (by rw [← l1]; exact hzx) hz hZ cells fun h' tk acc c as hk' hS hl hP hacc => ?_
      have hk2 : ∀ b o, s1.heap.get? b = some o → h'.get? b = some o := fun b' o e => by
        have hb : b' < n := by rw [← hn]; exact Heap.lt_size e
        refine hk' b' o ?_ ?_ ?_ ?_ (hk b' o e)
        · exact Nat.ne_of_lt (Nat.lt_of_lt_of_le hb (Nat.le_add_right _ _))
        · exact Nat.ne_of_lt (Nat.lt_of_lt_of_le hb (Nat.le_add_right _ _))
        · exact Nat.ne_of_lt hb
        · exact Nat.ne_of_lt (Nat.lt_of_lt_of_le hb (Nat.le_add_right _ _))
      have e5 : h1.objs.size = n + 5 := hsz
      have I2 : Inv X pins σ H1 { s1 with heap := h', toks := tk } := I1.kept hk2
      have fr : ∀ c, n ≤ c → H1 c = none := fun c hc => I1.hok.fresh (by rw [hn]; exact hc)
      have las : as.length = xs.length := by rw [hl, ← l1]
      have nd : as.Nodup := hP.rise.imp fun h => Nat.ne_of_lt h
      have ab : ∀ c ∈ as, n ≤ c := fun c hc => by
        have := hP.above c hc
        have e6 : h1.objs.size + 1 ≤ c := this
        rw [e5] at e6
        exact Nat.le_trans (Nat.le_add_right n 6) e6
      have z1 := zip3_fst las hxy
      have I3 : Inv X pins σ (newP H1 (as.zip (xs.zip ys))) { s1 with heap := h', toks := tk } := by
        refine take_pairs (s := s1) (h' := h') I1 _ H1 I2 (by rw [z1]; exact nd) fun p hp => ?_
        obtain ⟨j, hj⟩ := List.mem_iff_getElem?.mp hp
        rw [List.getElem?_zip_eq_some] at hj
        obtain ⟨j1, j2⟩ := hj
        have j3 := List.getElem?_zip_eq_some.mp (show (xs.zip ys)[j]? = some (p.2.1, p.2.2) from j2)
        obtain ⟨u, v, pu, pv, tp⟩ := hP.pairs j p.1 j1
        obtain ⟨u', hu', ru⟩ := rv.get j3.1
        obtain ⟨v', hv', rv'⟩ := rv2.get j3.2
        have eu : u = u' := by
          have pu : its.toArray[j]? = some u := pu
          rw [List.getElem?_toArray, hu'] at pu
          exact (Option.some.inj pu).symm
        have ev : v = v' := by
          have pv : its2.toArray[j]? = some v := pv
          rw [List.getElem?_toArray, hv'] at pv
          exact (Option.some.inj pv).symm
        subst eu ev
        have hm := List.mem_of_getElem? j1
        exact ⟨by rw [hn]; exact ab _ hm, fr _ (ab _ hm), u, v, ru, rv', tp⟩
      have hq : n ≤ h1.objs.size := by rw [e5]; exact Nat.le_add_right _ _
      have nq : h1.objs.size ∉ as := fun hm => by
        have e6 : h1.objs.size + 1 ≤ h1.objs.size := hP.above _ hm
        exact Nat.lt_irrefl _ e6
      have nnone : newP H1 (as.zip (xs.zip ys)) h1.objs.size = none := by
        have gen : ∀ (L : List (Addr × V × V)) (H : Hp) (c : Addr), c ∉ L.map (·.1) → H c = none → newP H L c = none := by
          intro L
          induction L with
          | nil => intro H c _ h; exact h
          | cons p L ih =>
            intro H c hc h
            rw [List.map_cons, List.mem_cons, not_or] at hc
            exact ih _ c hc.2 (by rw [upd_ne hc.1]; exact h)
        exact gen _ _ _ (by rw [z1]; exact nq) (fr _ hq)
      have vr : ∀ l : List Addr, Vals (l.map V.ref) (l.map Value.ref) := fun l => by
        induction l with
        | nil => exact .nil
        | cons c l ih => exact .cons rfl ih
      have I4 : Inv X pins σ (upd (newP H1 (as.zip (xs.zip ys))) h1.objs.size (.lst (as.map V.ref))) { s1 with heap := h', toks := tk } := by
        refine I3.take (h' := h') (t' := tk) (fun b ob _ e => e) (I1.fpOk (by rw [hn]; exact hq) nnone) ⟨?_, as.map Value.ref, c, vr as, ?_⟩
        · rw [List.length_map, las]; exact hzx
        · rw [← hacc, Array.toArray_toList]; exact hS
      exact ⟨.ref h1.objs.size, _, I4, rfl, q as h1.objs.size las nd (fun c hc => fr c (ab c hc)) (fr _ hq) nq⟩
end
/-! ### dicts -/
/-- pairs put one by one -/
def putAll (l : List (List Int × D)) : List (List Int × D) := l.foldl (fun m p => kPut m p.1 p.2) []
def putAllK (l : List (List Key × V)) : List (List Key × V) := l.foldl (fun m p => putK m p.1 p.2) []
abbrev tk0 (X : Cx) := tupleKind (mixKind X.prog X.w)
theorem KT.putAll {H : Hp} : ∀ {l : List (List Key × V)} {ps : List (List Key × Addr × Value)} {m : List (List Key × V)} {xs : List (List Key × Addr × Value)}, KT H l ps → KT H m xs → KT H (l.foldl (fun m p => putK m p.1 p.2) m) (storedAllH xs ps)
  | _, _, _, _, .nil, h => h
  | _, _, m, xs, .cons (a := p) (b := q) ⟨h1, h2, h3⟩ t, h => by
    have z : KT H (putK m p.1 p.2) (storedH xs q.1 q.2.1 q.2.2) := by rw [← h1]; exact h.put p.1 h2 h3
    exact KT.putAll (m := putK m p.1 p.2) (xs := storedH xs q.1 q.2.1 q.2.2) t z
theorem foldl_putK_le : ∀ (l m : List (List Key × V)), (l.foldl (fun m p => putK m p.1 p.2) m).length ≤ m.length + l.length
  | [], m => Nat.le_refl _
  | p :: l, m => by
    have := foldl_putK_le l (putK m p.1 p.2)
    have := length_putK m p.1 p.2
    rw [List.foldl_cons, List.length_cons]
    omega
theorem KvA.putAll {G : Hp} : ∀ {l : List (List Key × V)} {ps : List (List Int × D)} {m : List (List Key × V)} {xs : List (List Int × D)}, KvA G l ps → KvA G m xs → KvA G (l.foldl (fun m p => putK m p.1 p.2) m) (ps.foldl (fun m p => kPut m p.1 p.2) xs)
  | _, _, _, _, .nil, h => h
  | _, _, m, xs, .cons (k := k) (v := v) (d := d) hv t, h => KvA.putAll (m := putK m (kI k) v) (xs := kPut xs k d) t (h.put k hv)
section
variable {X : Cx} {pins : List (Addr × Obj)} {σ : L2.St} {H : Hp} {s : Shared}
/-- a dict laid of pairs -/
theorem dict_laid {h' : Heap} {tk : Nat} {kvs : List (List Key × V)} {ps : List (List Key × Addr × Value)} (I : Inv X pins σ H s) (r : KT H kvs ps) (hz : kvs.length ≤ sizeLine) (hd : h'.DictOfH (tk0 X) s.heap.objs.size (storedAllH [] ps))
    (k : ∀ b o, s.heap.get? b = some o → h'.get? b = some o) : Inv X pins σ (upd H s.heap.objs.size (.dT (putAllK kvs))) { s with heap := h', toks := tk } := by
  have hn := I.hok.fresh (Nat.le_refl s.heap.objs.size)
  have hm : (s.heap.objs.size == sysModules) = false := beq_eq_false_iff_ne.mpr (Nat.ne_of_gt I.big)
  obtain ⟨o, es, ep, e1, e2, e3, e4, _, e5⟩ := hd
  refine I.laid k (Nat.le_refl _) ⟨?_, hm, storedAllH [] ps, ?_, o, es, ep, e1, e2, e3, e4, e5⟩
  · have := foldl_putK_le kvs []
    rw [List.length_nil, Nat.zero_add] at this
    exact Nat.le_trans this hz
  · have q : KT H (putAllK kvs) (storedAllH [] ps) := KT.putAll r .nil
    exact q.keeps fun b ys e => by rw [upd_ne (ne_of_none e hn)]; exact e
/-- dict(l), l a list of pairs (key, value) -/
def rDictL (K : PySem.W.Frag) : List V → Hp → VK → Prop := fun xs H Q => ∃ (a : Addr) (cs : List Addr) (kvs : List (List Key × V)), xs = [V.ref a] ∧ SqL K H a (cs.map V.ref) ∧ cs.length = kvs.length ∧
  (∀ (i : Nat) (c : Addr) (p : List Key × V), cs[i]? = some c → kvs[i]? = some p → ∃ b, SqT K H c [V.ref b, p.2] ∧ H b = some (.tup (p.1.map kV))) ∧ ∀ q, H q = none → Q (.ref q) (upd H q (.dT (putAllK kvs)))
theorem pairs_list (I : Inv X pins σ H s) : ∀ (cs : List Addr) (kvs : List (List Key × V)), cs.length = kvs.length →
    (∀ (i : Nat) (c : Addr) (p : List Key × V), cs[i]? = some c → kvs[i]? = some p → ∃ b, SqT X.K H c [V.ref b, p.2] ∧ H b = some (.tup (p.1.map kV))) →
    ∃ ps : List (List Key × Addr × Value), KT H kvs ps ∧ ∀ (i : Nat) (c : Addr), cs[i]? = some c → ∃ q, ps[i]? = some q ∧ s.heap.IsTuple c #[.ref q.2.1, q.2.2]
  | [], [], _, _ => ⟨[], .nil, fun i c e => by simp at e⟩
  | c :: cs, p :: kvs, hl, h => by
    obtain ⟨ps, r, q⟩ := pairs_list I cs kvs (by simpa using hl) fun i c' p' e1 e2 => h (i + 1) c' p' (by simpa using e1) (by simpa using e2)
    obtain ⟨b, hc, hb⟩ := h 0 c p rfl rfl
    obtain ⟨its, rv, tp, _⟩ := I.tuple hc
    obtain ⟨u, y, ei, ru, ry⟩ := vals2 rv
    subst ei
    cases (show u = Value.ref b from ru)
    refine ⟨(p.1, b, y) :: ps, .cons ⟨rfl, hb, ry⟩ r, fun i c' e => ?_⟩
    cases i with
    | zero =>
      simp at e
      subst e
      exact ⟨_, rfl, show s.heap.IsTuple c _ from tp⟩
    | succ i => exact q i c' (by simpa using e)
theorem cr_dictL (hc : X.calm = true) (hu : X.A.units + 64 < cLine) : CallR X (.type "dict") (rDictL X.K) := by
  intro pins s σ H xs us Q I r h
  obtain ⟨a, cs, kvs, rfl, ha, hl, hp, q⟩ := h
  obtain rfl := Vals.ref1 r
  obtain ⟨its, rv, pl, hz⟩ := I.list ha
  have ei := refs_at rv
  subst ei
  obtain ⟨ps, kt, hps⟩ := pairs_list I cs kvs hl hp
  have l1 : kvs.length = ps.length := Paired.length kt
  have hzk : kvs.length ≤ sizeLine := by rw [← hl]; rw [List.length_map] at hz; exact hz
  obtain ⟨o, n, ho, hcl, hd, hdat⟩ := pl
  have key : ∀ (i : Nat) (q : List Key × Addr × Value), ps[i]? = some q → (tk0 X).is s.heap q.1 q.2.1 := fun i q e => by
    obtain ⟨p, e1, e2, e3, e4⟩ := L2.DX.pget kt e
    exact key_of I.hok (by rw [← e2]; exact e3)
  have P := PairArg.list (prog := X.prog) (w := X.w) a (cs.map Value.ref).toArray (fun j => cs.getD j 0) (ps.map fun q => (Value.ref q.2.1, q.2.2))
  refine call_dict_pairsH (knd := tk0 X) (ps := ps) P (I.ok.hd hc) (by show X.A.units + 1 + 1 < cLine; omega) ⟨⟨o, n, ho, hcl, hd, hdat⟩, ?_⟩ ⟨by simp, ?_⟩ (fun h' k x hx => ?_) (by rw [List.length_map, ← l1]; exact hzk) fun h' tk hd' hk => ?_
  · refine ⟨by simp; omega, fun j k v e => ?_⟩
    rw [List.getElem?_map] at e
    obtain ⟨q, e1, e2⟩ := Option.map_eq_some_iff.mp e
    have hj : j < cs.length := by rw [hl, l1]; exact (List.getElem?_eq_some_iff.mp e1).1
    have ec : cs[j]? = some cs[j] := List.getElem?_eq_getElem hj
    obtain ⟨q', e3, e4⟩ := hps j _ ec
    rw [e1] at e3
    cases e3
    injection e2 with e5 e6
    subst e5 e6
    have eg : cs.getD j 0 = cs[j] := by simp [List.getD, ec]
    refine ⟨?_, .inl (by show s.heap.IsTuple (cs.getD j 0) _; rw [eg]; exact e4)⟩
    show (cs.map Value.ref).toArray[j]? = some (Value.ref (cs.getD j 0))
    rw [eg]
    simp [ec]
  · intro i k v e
    have e : (ps.map fun q => (Value.ref q.2.1, q.2.2))[i]? = some (k, v) := e
    rw [List.getElem?_map] at e
    obtain ⟨q, e1, e2⟩ := Option.map_eq_some_iff.mp e
    injection e2 with e5 e6
    exact ⟨q.1, q.2.1, by rw [e1, ← e6], e5.symm⟩
  · obtain ⟨i, hi⟩ := List.mem_iff_getElem?.mp hx
    have kk := key i x hi
    obtain ⟨o', its, n', q1, q2, q3, q4⟩ := kk
    exact ⟨o', its, n', k _ _ (Nat.ne_of_lt (Heap.lt_size q1)) (fun z => nomatch z) q1, q2, q3, q4⟩
  · exact ⟨.ref _, _, dict_laid (tk := tk) I kt hzk hd' fun b o e => hk b o (fun z => nomatch z) e, rfl, q _ (I.hok.fresh (Nat.le_refl _))⟩
/-- dict(zip(l, t)) -/
def tDZip (K : PySem.W.Frag) (ta : TA) : TE := fun σ H Q => ta σ H fun vs H1 => ∃ (a b : Addr) (cs : List Addr) (ks : List (List Key)) (ys : List V), vs = [V.ref a, .ref b] ∧ SqL K H1 a (cs.map V.ref) ∧ SqT K H1 b ys ∧ cs.length = ys.length ∧ cs.length = ks.length ∧
  (∀ (i : Nat) (c : Addr) (k : List Key), cs[i]? = some c → ks[i]? = some k → H1 c = some (.tup (k.map kV))) ∧ ∀ q, H1 q = none → Q (.ref q) (upd H1 q (.dT (putAllK (ks.zip ys))))
theorem zip_kt (I : Inv X pins σ H s) : ∀ (cs : List Addr) (ks : List (List Key)) (ys : List V) (us : List Value), Vals ys us → cs.length = ys.length → cs.length = ks.length →
    (∀ (i : Nat) (c : Addr) (k : List Key), cs[i]? = some c → ks[i]? = some k → H c = some (.tup (k.map kV))) → KT H (ks.zip ys) (ks.zip (cs.zip us))
  | [], [], [], _, .nil, _, _, _ => .nil
  | c :: cs, k :: ks, y :: ys, u :: us, .cons r rr, h1, h2, h => by
    rw [List.zip_cons_cons, List.zip_cons_cons, List.zip_cons_cons]
    exact .cons ⟨rfl, h 0 c k rfl rfl, r⟩ (zip_kt I cs ks ys us rr (by simpa using h1) (by simpa using h2) fun i c' k' e1 e2 => h (i + 1) c' k' (by simpa using e1) (by simpa using e2))
set_option maxHeartbeats 2000000 in
theorem pe_dzip {e e2 : Expr} {ta : TA} {p p2 pos pos2 : Pos} (hc : X.calm = true) (hu : X.A.units + 64 < cLine) (hgl : Gl X "dict") (hml : X.mg "dict" = none) (hg : Gl X "zip") (hm : X.mg "zip" = none) (ha : PA X [e, e2] ta)
    (na : starEach [.Call (.Name "zip" p2) [e, e2] [] pos2] X.env = (false, eval (.Call (.Name "zip" p2) [e, e2] [] pos2) X.env) :: starEach [] X.env := by rfl)
    (hs : starEach [e, e2] X.env = (false, eval e X.env) :: starEach [e2] X.env := by rfl) (hpl : (backTo pos2 (starEach [e2] X.env)).any (·.1) = false := by rfl) :
    PE X (.Call (.Name "dict" p) [.Call (.Name "zip" p2) [e, e2] [] pos2] [] pos) (tDZip X.K ta) := by
  refine ⟨fun pins s σ H Q I h => ?_⟩
  refine Call_ (ld_blt I hgl hml boot_dict (PyProof.Rows.callWith_type1 (args_cons (Call_ (ld_blt I hg hm PyProof.Rows.boot_zip (PyProof.Rows.callWith_type1 (thn (ha.run pos2 pins s σ H _ I h) fun us s1 ⟨vs, H1, I1, r1, q1⟩ => ?_) hs hpl))) na) na))
  obtain ⟨a, b, cs, ks, ys, ex, hx, hy, hxy, hck, hkeys, q⟩ := q1
  subst ex
  cases r1 with
  | cons r rr =>
    cases rr with
    | cons r' rr =>
      cases rr
      cases r
      cases r'
      obtain ⟨its, rv, p1, hzx⟩ := I1.list hx
      have ei := refs_at rv
      subst ei
      obtain ⟨its2, rv2, p3, _⟩ := I1.tuple hy
      have l2 := rv2.length
      rw [List.length_map] at hzx
      have la : a < s1.heap.objs.size := p1.lt
      have lb : b < s1.heap.objs.size := let ⟨o, ho, _⟩ := id p3; Heap.lt_size ho
      refine call_mz p1.isList (show s1.heap.IsTuple b its2.toArray from p3) fun h1 hZ hz hsz hk => args_nil ?_
      generalize hn : s1.heap.objs.size = n at hZ hz hsz la lb ⊢
      have I2 : Inv X pins σ H1 { s1 with heap := h1, toks := s1.toks } := I1.kept hk
      have kt := zip_kt I1 cs ks ys its2 rv2 hxy hck hkeys
      have P := mz_pairs (prog := X.prog) (w := X.w) n a b la lb (cs.map Value.ref).toArray its2.toArray cs.length (by simp) (by simp; omega)
      have e5 : h1.objs.size = n + 5 := hsz
      have cell : ∀ c ∈ mzWr n, n ≤ c := fun c hc => by
        simp only [List.mem_cons, List.not_mem_nil, or_false] at hc
        rcases hc with rfl | rfl | rfl | rfl
        · exact Nat.le_add_right _ _
        · exact Nat.le_add_right _ _
        · exact Nat.le_refl _
        · exact Nat.le_add_right _ _
      have key : ∀ (i : Nat) (q : List Key × Addr × Value), (ks.zip (cs.zip its2))[i]? = some q → (tk0 X).is s1.heap q.1 q.2.1 := fun i q e => by
        obtain ⟨p, e1, e2, e3, e4⟩ := L2.DX.pget kt e
        exact key_of I1.hok (by rw [← e2]; exact e3)
      refine call_dict_pairsH (s := { s1 with heap := h1 }) (knd := tk0 X) (ps := ks.zip (cs.zip its2)) P (I1.ok.hd hc) (by show X.A.units + 1 + 1 < cLine; omega) (MzOk.of hz (hZ [])) ⟨by simp; omega, ?_⟩ (fun h' k x hx => ?_) hzx fun h' tk hd' hk' => ?_
      · intro i k v ⟨e1, e2⟩
        have e1 : (cs.map Value.ref).toArray[i]? = some k := e1
        have e2 : its2.toArray[i]? = some v := e2
        rw [List.getElem?_toArray] at e1 e2
        rw [List.getElem?_map] at e1
        obtain ⟨c, e3, e4⟩ := Option.map_eq_some_iff.mp e1
        have hi : i < ks.length := by rw [← hck]; exact (List.getElem?_eq_some_iff.mp e3).1
        refine ⟨ks[i], c, ?_, e4.symm⟩
        rw [List.getElem?_zip_eq_some]
        exact ⟨List.getElem?_eq_getElem hi, by rw [List.getElem?_zip_eq_some]; exact ⟨e3, e2⟩⟩
      · obtain ⟨i, hi⟩ := List.mem_iff_getElem?.mp hx
        obtain ⟨o', its, n', q1, q2, q3, q4⟩ := key i x hi
        have hlt : x.2.1 < n := by rw [← hn]; exact Heap.lt_size q1
        refine ⟨o', its, n', k _ _ ?_ (fun hm => ?_) (hk _ _ q1), q2, q3, q4⟩
        · show x.2.1 ≠ h1.objs.size
          rw [e5]
          exact Nat.ne_of_lt (Nat.lt_of_lt_of_le hlt (Nat.le_add_right _ _))
        · exact Nat.lt_irrefl _ (Nat.lt_of_lt_of_le hlt (cell _ hm))
      · have kall : ∀ b o, s1.heap.get? b = some o → h'.get? b = some o := fun b o e => hk' b o (fun hm => Nat.lt_irrefl _ (Nat.lt_of_lt_of_le (by rw [← hn]; exact Heap.lt_size e) (cell _ hm))) (hk b o e)
        have I3 : Inv X pins σ H1 { s1 with heap := h', toks := tk } := I1.kept kall
        have hfresh : H1 h1.objs.size = none := I2.hok.fresh (Nat.le_refl _)
        have hm : (h1.objs.size == sysModules) = false := beq_eq_false_iff_ne.mpr (Nat.ne_of_gt I2.big)
        obtain ⟨o, es, ep, f1, f2, f3, f4, _, f5⟩ := hd'
        have hn1 : s1.heap.objs.size ≤ h1.objs.size := by rw [hn, e5]; exact Nat.le_add_right _ _
        have I4 : Inv X pins σ (upd H1 h1.objs.size (.dT (putAllK (ks.zip ys)))) { s1 with heap := h', toks := tk } := by
          refine I3.take (h' := h') (t' := tk) (fun b ob _ e => e) (I1.fpOk hn1 hfresh) ⟨?_, hm, storedAllH [] (ks.zip (cs.zip its2)), ?_, o, es, ep, f1, f2, f3, f4, f5⟩
          · have := foldl_putK_le (ks.zip ys) []
            rw [List.length_nil, Nat.zero_add, List.length_zip] at this
            exact Nat.le_trans this (Nat.le_trans (Nat.min_le_left _ _) (by rw [← hck]; exact hzx))
          · exact (KT.putAll kt .nil).keeps fun b ys e => by rw [upd_ne (ne_of_none e hfresh)]; exact e
        exact ⟨.ref h1.objs.size, _, I4, rfl, q _ hfresh⟩
end
end Pd
end
section
set_option Elab.async false
set_option linter.all false
set_option maxRecDepth 100000
set_option maxHeartbeats 1000000
/-! Pd18: dict comprehensions whose keys are tuples; d.update(d2). -/
namespace Pd
open PySem PySem.Spec PySem.Calls PySem.W PyProof.Rows L2
section
variable {X : Cx}
theorem set_dT {pins : List (Addr × Obj)} {σ : L2.St} {H : Hp} {s : Shared} {E : Value → Shared → Prop} {D b : Addr} {kvs : List (List Key × V)} {k : List Key} {v : V} {r : Value} {Q : Unit → Shared → Prop} (hu : X.A.units < cLine) (I : Inv X pins σ H s)
    (hD : H D = some (.dT kvs)) (hb : H b = some (.tup (k.map kV))) (hz : kvs.length < sizeLine) (rv : RelV v r) (h : ∀ s', Inv X pins σ (upd H D (.dT (putK kvs k v))) s' → Q () s') : wpAny (model X.prog X.w) X.A (dictSet D (.ref b) r) Q E s := by
  obtain ⟨z, hd, xs, rel, dd⟩ := dt_of I.hok hD
  have hx : xs.length ≤ sizeLine := by rw [← Paired.length rel]; exact z
  have hl : (putK kvs k v).length ≤ sizeLine := by have := length_putK kvs k v; omega
  refine wpAny_dictSet_heap (hsz := hx) hu (key_of I.hok hb) dd fun h' dd' hs => h _ ?_
  obtain ⟨q, es, ep, hq, h2, h3, h4, _, h5⟩ := dd'
  refine d_write I (by rw [hD]; exact True.intro) hs ⟨q, hq⟩ ⟨hl, hd, _, (rel.put k hb rv).keeps fun c ys ec => ?_, q, es, ep, hq, h2, h3, h4, h5⟩
  rw [upd_ne (ne_of ec hD (fun z => nomatch z))]
  exact ec
/-- {k: v for target in iter if ..}, the keys tuples: D the new dict -/
def tDcT (wi : TI) (g : TG) (tt : TT) (tk tv : TE) (vs : List Nat) : TE := fun σ H Q => wi σ H fun J H1 => ∀ D, H1 D = none → ∃ W : Nat → Nat → Hp → Prop, (∃ m, W 0 m (upd H1 D (.dT []))) ∧ ∀ i m H, W i m H →
  (J.stop i H ∧ Q (.ref D) H) ∨ (J.go i H ∧ ∃ Nx : Hp → Prop, (∀ H', Nx H' → ∃ m', m' < m ∧ W (i + 1) m' H') ∧ ∀ x H', J.yld i H x H' → g x (L2.wipe σ vs) H' fun σ2 H2 => L2.wipe σ2 vs = L2.wipe σ vs ∧ tt σ2 H2 fun b H3 =>
    if b = true then tk σ2 H3 fun y H4 => tv σ2 H4 fun z H5 => ∃ kvs k c, y = .ref c ∧ H5 c = some (.tup (k.map kV)) ∧ H5 D = some (.dT kvs) ∧ kvs.length < sizeLine ∧ Nx (upd H5 D (.dT (putK kvs k z))) else Nx H3)
theorem pe_dcT {kx vx tg iter : Expr} {ifs : List Expr} {scope : Scope} {own : List (Str × Nat)} {pos : Pos} {wi : TI} {g : TG} {tt : TT} {tk tv : TE} (hc : X.calm = true) (hu : X.A.units < cLine) (hN : X.N.Nodup) (hi : PI X tg iter wi) (ok : BlkOk X.N X.env.scope scope own)
    (hg : ∀ (s : Shared) (H : Hp) (C : Addr) (cl : List (Str × Addr)) (fp : List Addr), L2.PG (X.blk s H scope (compEnvC scope cl C X.env) fp) tg g) (ht : ∀ (s : Shared) (H : Hp) (C : Addr) (cl : List (Str × Addr)) (fp : List Addr), PTs (X.blk s H scope (compEnvC scope cl C X.env) fp) ifs tt)
    (hk : ∀ (s : Shared) (H : Hp) (C : Addr) (cl : List (Str × Addr)) (fp : List Addr), PE (X.blk s H scope (compEnvC scope cl C X.env) fp) kx tk)
    (he : ∀ (s : Shared) (H : Hp) (C : Addr) (cl : List (Str × Addr)) (fp : List Addr), PE (X.blk s H scope (compEnvC scope cl C X.env) fp) vx tv) (hs : ∀ x, foldedSetIterable iter X.env x = pure x := by intro _; rfl) :
    PE X (.DictComp kx vx [⟨tg, iter, ifs, 0⟩] scope pos) (tDcT wi g tt tk tv (own.map (·.2))) := by
  refine ⟨fun pins s σ H Q I h => ?_⟩
  rw [arm_eval_DictComp]
  have cells : ∀ y ∈ scope.names, y.2 = .free → ∃ c, X.env.cells.lookup y.1 = some c := fun y hy e => by
    rcases ok.free y hy e with k | k
    · exact I.ok.has _ (.inl k)
    · exact I.ok.has _ (.inr k)
  refine wpAny_comprehension_free (use := none) rfl hs (closure_ok cells) ok.kind (fun y hy e => by rw [ok.uniq y hy, e])
    (thn (hi.run pins s σ H _ I h) fun xv s1 hx => thn hx fun itv s2 h2 => ?_)
  obtain ⟨it, fp, tn, J, H2, e, I2, T, st2, f2, q⟩ := h2
  subst e
  refine wpAny_newObj_type (newEnv_comp ?_)
  generalize hD : s2.heap.objs.size = D
  have hDn : H2 D = none := I2.hok.fresh (Nat.le_of_eq hD)
  obtain ⟨W, ⟨m0, w0⟩, turn⟩ := q D hDn
  -- the new dict stands
  generalize hs3 : ({ s2 with heap := s2.heap.push { cls := .type "dict", data := .dict #[] } } : Shared) = s3
  have I3 : Inv X pins σ (upd H2 D (.dT [])) s3 := by
    rw [← hs3]
    refine I2.laid (t' := s2.toks) (fun b o e => Heap.get?_push_of_some _ e) (Nat.le_of_eq hD) ?_
    rw [← hD]
    exact dt_empty s2.heap I2.big
  have h3 : s3.heap = s2.heap.push { cls := .type "dict", data := .dict #[] } := by rw [← hs3]
  have f3 : ∀ b ∈ fp, FpOk X pins (upd H2 D (.dT [])) b ∧ b < s3.heap.objs.size := fun b hb => by
    obtain ⟨o, e, _⟩ := T.obj _ _ st2 b hb
    have hlt := Heap.lt_size e
    refine ⟨⟨?_, (f2 b hb).2⟩, by rw [h3, Heap.size_push]; exact Nat.lt_succ_of_lt hlt⟩
    rw [upd_ne (by rw [← hD]; exact Nat.ne_of_lt hlt)]
    exact (f2 b hb).1
  have st3 : tn 0 s3.heap := T.keep _ _ _ st2 fun b _ o e => by rw [h3]; exact Heap.get?_push_of_some _ e
  have I4 := block_start I3 ok hN f3
  have pg := hg s3 (upd H2 D (.dT [])) s3.heap.objs.size (cellsFrom (s3.heap.objs.size + 1) scope.names (cloFrom X.env.cells scope.names [])) fp
  have pt := ht s3 (upd H2 D (.dT [])) s3.heap.objs.size (cellsFrom (s3.heap.objs.size + 1) scope.names (cloFrom X.env.cells scope.names [])) fp
  have pk := hk s3 (upd H2 D (.dT [])) s3.heap.objs.size (cellsFrom (s3.heap.objs.size + 1) scope.names (cloFrom X.env.cells scope.names [])) fp
  have pe := he s3 (upd H2 D (.dT [])) s3.heap.objs.size (cellsFrom (s3.heap.objs.size + 1) scope.names (cloFrom X.env.cells scope.names [])) fp
  show codeAny _ _ (.compStart (.DictComp kx vx [⟨tg, iter, ifs, 0⟩] scope pos) 0 (.ref it) (.ref D) (compEnvC scope (cellsFrom (s3.heap.objs.size + 1) scope.names (cloFrom X.env.cells scope.names [])) s3.heap.objs.size X.env)) _ { s3 with heap := pushCells (s3.heap.push { cls := .type "dict", data := .dict #[] }) scope.names }
  have nfp : ∀ b ∈ fp, (upd H2 D (.dT [])) b = none := fun b hb => (f3 b hb).1.1
  generalize hce : compEnvC scope (cellsFrom (s3.heap.objs.size + 1) scope.names (cloFrom X.env.cells scope.names [])) s3.heap.objs.size X.env = ce at I4 pg pt pk pe ⊢
  have cL : ce.locals = s3.heap.objs.size := by subst hce; rfl
  generalize hH3 : upd H2 D (.dT []) = H3 at I3 I4 pg pt pk pe w0 nfp f3
  generalize hs4 : ({ s3 with heap := pushCells (s3.heap.push { cls := .type "dict", data := .dict #[] }) scope.names } : Shared) = s4 at I4 ⊢
  have st4 : tn 0 s4.heap := T.keep _ _ _ st3 fun b _ o e => by rw [← hs4]; exact pushCells_keeps _ _ _ _ (Heap.get?_push_of_some _ e)
  have fpOk : ∀ {σ' : L2.St} {H' : Hp} {s' : Shared}, Inv (X.blk s3 H3 scope ce fp) [] σ' H' s' → (∀ b ∈ fp, H' b = none) → ∀ b ∈ fp, FpOk (X.blk s3 H3 scope ce fp) [] H' b := fun {σ' H' s'} I' hn b hb =>
    ⟨hn b hb, (I'.ok.exf b hb).1, I'.ok.exfs b hb, .inl hb, fun x c e => (I'.ok.exf b hb).2 x c e, fun p hp => absurd (show p ∈ ([] : List (Addr × Obj)) ++ [] from hp) (by simp)⟩
  have loop : codeAny (model X.prog X.w) X.A (.compLoop (.DictComp kx vx [⟨tg, iter, ifs, 0⟩] scope pos) 0 (.ref it) (.ref D) ce) (compPost (model X.prog X.w) X.A X.xe none (EP X pins σ Q) (.ref D) s3.heap.objs.size) s4 := by
    refine compLoop_anyD (fun n s' => ∃ i H', Inv (X.blk s3 H3 scope ce fp) [] (L2.wipe σ (own.map (·.2))) H' s' ∧ tn i s'.heap ∧ (∀ b ∈ fp, H' b = none) ∧ W i n H') ?_ m0 ⟨0, H3, I4, st4, nfp, w0⟩
    rintro n s5 ⟨i, H5, I5, st5, n5, w5⟩
    rcases turn i n H5 w5 with ⟨stop, qq⟩ | ⟨go, Nx, hNx, step⟩
    · refine thnF (T.done (X.blk s3 H3 scope ce fp) rfl rfl rfl hc i [] s5 _ H5 (fun _ _ => False) I5 (fpOk I5 n5) st5 stop) fun r s6 ⟨hr, I6⟩ => ?_
      subst hr
      have I7 : Inv X pins σ H5 s6 := I3.call' (ch := fp) I6.os I6.base I6.hok I6.bare fun b hb => ⟨(f3 b hb).1.2.2.2.1, (f3 b hb).1.2.1, (f3 b hb).1.2.2.2.2.1, (f3 b hb).1.2.2.2.2.2⟩
      have nC : H5 s3.heap.objs.size = none := by
        have z : H5 ce.locals = none := I6.free
        rw [cL] at z
        exact z
      obtain ⟨m, hn, _⟩ := I6.loc
      have hn : s6.heap.Ns ce.locals m := hn
      rw [cL] at hn
      obtain ⟨f0, f1, f2, f3, f4, f5⟩ := I3.fpOk (Nat.le_refl _) nC
      exact ⟨m, hn, fun h'' sb => ⟨.ref D, H5, I7.turned (t' := s6.toks) (fun b o hb e => (sb.2 b hb).trans e) f0 f1 f3 f4 f5, rfl, qq⟩⟩
    · refine thnF (T.item (X.blk s3 H3 scope ce fp) rfl rfl rfl hc i [] s5 _ H5 (fun _ _ => False) I5 (fpOk I5 n5) st5 go) fun r s6 ⟨u, hr, h6⟩ => ?_
      subst hr
      refine thnF h6 fun _ s7 ⟨x, H7, I7, r7, y7, st7, n7⟩ => ?_
      refine thnF (pg.run _ s7 _ H7 x u _ (I7.pinned (fpOk I7 n7) (T.obj _ _ st7)) r7 (step x H7 y7)) fun _ s8 ⟨σ8, H8, I8, hw8, q8⟩ => ?_
      refine thnF (pt.run _ s8 σ8 H8 _ I8 q8) fun b s9 ⟨H9, I9, q9⟩ => ?_
      -- a turn is over
      have fin : ∀ {s' : Shared} {H' : Hp}, Inv (X.blk s3 H3 scope ce fp) ([] ++ pinsAt fp s7.heap) σ8 H' s' → Nx H' → ∃ m, m < n ∧ ∃ i H', Inv (X.blk s3 H3 scope ce fp) [] (L2.wipe σ (own.map (·.2))) H' s' ∧ tn i s'.heap ∧ (∀ b ∈ fp, H' b = none) ∧ W i m H' := fun {s' H'} I' nx => by
        obtain ⟨m', hm, w'⟩ := hNx H' nx
        have pin' : ∀ b ∈ fp, ∀ o, s7.heap.get? b = some o → s'.heap.get? b = some o ∧ H' b = none := fun b hb o e =>
          let z := I'.pin (b, o) (List.mem_append_right _ (List.mem_append_right _ (mem_pinsAt hb e)))
          ⟨z.1, z.2.1⟩
        have hl : (L2.wipe σ (own.map (·.2))).length = σ8.length := by rw [← hw8, wipe_length]
        refine ⟨m', hm, i + 1, H', (I'.unpinned (pins := [])).weak hl (fun j v e => ?_), T.keep _ _ _ st7 fun b hb o e => (pin' b hb o e).1, fun b hb => ?_, w'⟩
        · rw [← hw8] at e
          exact (wipe_some e).1
        · obtain ⟨o, e, _⟩ := T.obj _ _ st7 b hb
          exact (pin' b hb o e).2
      cases b with
      | false =>
        simp only [Bool.false_eq_true, if_false] at q9 ⊢
        exact fin I9 q9
      | true =>
        simp only [if_true] at q9 ⊢
        refine thnF (pk.run _ s9 σ8 H9 _ I9 q9) fun z s10 ⟨yk, H10, I10, r10, q10⟩ => ?_
        refine thnF (pe.run _ s10 σ8 H10 _ I10 q10) fun z2 s11 ⟨yv, H11, I11, r11, kvs, k, c, ek, hc11, hD11, hz11, nx⟩ => ?_
        subst ek
        cases (show z = Value.ref c from r10)
        exact set_dT (X := X.blk s3 H3 scope ce fp) hu I11 hD11 hc11 hz11 r11 fun s12 I12 => fin I12 nx
  exact codeAny_compStart_dict loop (T.self X.A 0 _ _ _ st4 loop)
/-- d.update(d2) -/
def rUpdT (X : Cx) : V → List V → Hp → VK → Prop := fun x xs H Q => ∃ (a b : Addr) (kvs more : List (List Key × V)), x = .ref a ∧ xs = [.ref b] ∧ a ≠ b ∧ H a = some (.dT kvs) ∧ H b = some (.dT more) ∧
  (kvs ≠ [] ∨ (more.map fun p => (tk0 X).hash p.1).Nodup) ∧ kvs.length + more.length ≤ sizeLine ∧ Q .non (upd H a (.dT (more.foldl (fun m p => putK m p.1 p.2) kvs)))
theorem mt_updT (hu : X.A.units + 64 < cLine) : MtR X "dict.update" (rUpdT X) := by
  intro pins s σ H x xs u us Q I r rs h
  obtain ⟨a, b, kvs, more, rfl, rfl, hab, ha, hb, hap, hsz, q⟩ := h
  cases (show u = Value.ref a from r)
  obtain rfl := Vals.ref1 rs
  obtain ⟨z, hd, ps, rel, dd⟩ := dt_of I.hok ha
  obtain ⟨z2, hd2, qs, rel2, dd2⟩ := dt_of I.hok hb
  have l1 : kvs.length = ps.length := Paired.length rel
  have l2 : more.length = qs.length := Paired.length rel2
  have hh : ∀ {ms : List (List Key × V)} {rs : List (List Key × Addr × Value)}, KT H ms rs → (ms.map fun p => (tk0 X).hash p.1) = rs.map fun p => (tk0 X).hash p.1 := fun {ms rs} k => by
    induction k with
    | nil => rfl
    | cons h t ih => rw [List.map_cons, List.map_cons, ih, h.1]
  refine call_update_dictH (knd := tk0 X) (show X.A.units + 1 < cLine by omega) hab hd2 dd dd2 ?_ (by rw [← l1, ← l2]; exact hsz) ?_
  · rcases hap with h | h
    · exact .inl fun e => h (List.length_eq_zero_iff.mp (by rw [l1, e]; rfl))
    · refine .inr ⟨fun y hy => ?_, by rw [← hh rel2]; exact h⟩
      obtain ⟨i, hi⟩ := List.mem_iff_getElem?.mp hy
      obtain ⟨p, e1, e2, e3, e4⟩ := L2.DX.pget rel2 hi
      obtain ⟨_, its, rv, o, h1, h2, n, h3⟩ := (show ObjOk X.prog X.w H s.heap y.2.1 (.tup (p.1.map kV)) from I.hok _ _ e3)
      exact ⟨o, h1, h2⟩
  · intro h' dd' _ hs
    obtain ⟨o, es, ep, hq, h2, h3, h4, _, h5⟩ := dd'
    have hl : (more.foldl (fun m p => putK m p.1 p.2) kvs).length ≤ sizeLine := Nat.le_trans (foldl_putK_le more kvs) hsz
    have I2 : Inv X pins σ (upd H a (.dT (more.foldl (fun m p => putK m p.1 p.2) kvs))) { s with heap := h', toks := s.toks } := by
      refine d_write I (by rw [ha]; exact True.intro) hs ⟨o, hq⟩ ⟨hl, hd, storedAllH ps qs, (KT.putAll rel2 rel).keeps fun c ys ec => ?_, o, es, ep, hq, h2, h3, h4, h5⟩
      rw [upd_ne (ne_of ec ha (fun z => nomatch z))]
      exact ec
    exact ⟨.non, _, I2, rfl, q⟩
end
end Pd
end
section
set_option Elab.async false
set_option linter.all false
set_option maxRecDepth 100000
set_option maxHeartbeats 1000000
/-! Pd19: dicts with tuple keys, in plain data: walked, made, put together. -/
namespace Pd
open PySem PySem.Spec PySem.W L2 RZ
variable [TB]
/-! ### walks over a locked dict -/
def mKeys (md : MV) : ML := fun ρ pt => (md ρ pt).bind fun x => match x.1 with
  | .dat (.dict m) => (undD m).map fun l => (keyD l, x.2)
  | _ => none
def itemD (l : List (List Int × D)) : List D := l.map fun p => .tuple [tI p.1, p.2]
def mItemsL (md : MV) : ML := fun ρ pt => (md ρ pt).bind fun x => match x.1 with
  | .dat (.dict m) => (undD m).map fun l => (itemD l, x.2)
  | _ => none
def mItemsN (md : MV) : ML := fun ρ pt => (md ρ pt).bind fun x => match x.1 with
  | .dic l => some (itemD l, x.2)
  | _ => none
theorem KvA.at {G : Hp} : ∀ {kv : List (List Key × V)} {l : List (List Int × D)} {i : Nat}, KvA G kv l → ∀ {k : List Int} {d : D}, l[i]? = some (k, d) → ∃ v, kv[i]? = some (kI k, v) ∧ Is G v d
  | _, _, i, .nil, k, d, e => by simp at e
  | _, _, 0, .cons h t, k, d, e => by simp at e; obtain ⟨rfl, rfl⟩ := e; exact ⟨_, rfl, h⟩
  | _, _, i + 1, .cons h t, k, d, e => by
    obtain ⟨v, h1, h2⟩ := KvA.at (i := i) t (k := k) (d := d) (by simpa using e)
    exact ⟨v, by simpa using h1, h2⟩
theorem Is.dct' {G : Hp} {v : V} {m : List (D × D)} (h : Is G v (.dict m)) : ∃ a o kv l, v = .ref a ∧ m = dD l ∧ G a = some (.frz o (.dT kv)) ∧ KvA G kv l := by
  cases h with
  | dct h k => exact ⟨_, _, _, _, rfl, rfl, h, k⟩
theorem key_is {G H : Hp} (P : Same G H) {q : Addr} {k : List Int} (hq : H q = some (.tup ((kI k).map kV))) : ∃ G', Ext mu0 G H G' H ∧ Is G' (.ref q) (tI k) ∧ Same G G' := by
  obtain ⟨x, xt⟩ := addT_ext P [q] fun b hb => by rw [List.mem_singleton.mp hb]; exact ⟨_, hq⟩
  refine ⟨_, x, .tup ((xt q (by simp)).trans hq) ?_, x.g⟩
  have e : (kI k).map kV = k.map V.int := by rw [List.map_map]; rfl
  rw [e]
  exact IsA.of_ints k
section
variable {td : TE} {md : MV}
theorem dif_keys (h : DE td md) : DIF (iKeys td) (mKeys md) := by
  intro G0 H0 pa G H σ ρ pt ds pt' Q R e q
  obtain ⟨⟨r, p1⟩, e1, e⟩ := bnd e
  refine h R e1 fun v G1 H1 x1 q1 k1 => ?_
  match r, e, k1 with
  | .dat (.dict m), e, k1 =>
    obtain ⟨l, e2, e⟩ := mpd (show (undD m).map (fun l => (keyD l, p1)) = some (ds, pt') from e)
    cases e
    obtain ⟨a, o, kv, l', rfl, rfl, hg, ka⟩ := Is.dct' k1
    rw [undD_dD] at e2
    cases e2
    refine ⟨a, o, rfl, .inr ⟨kv, x1.gh _ _ hg, q _ G1 H1 x1 q1 ⟨fun i d G2 H2 s2 P2 e3 => ?_, fun i G2 H2 s2 P2 e3 => ⟨P2.gh _ _ (s2 _ _ hg), ?_⟩⟩⟩⟩
    · unfold keyD at e3
      rw [List.getElem?_map] at e3
      obtain ⟨p, e4, rfl⟩ := mpd e3
      refine ⟨⟨P2.gh _ _ (s2 _ _ hg), by rw [ka.length]; exact (List.getElem?_eq_some_iff.mp e4).1⟩, fun x H' hx => ?_⟩
      obtain ⟨rfl, k, v, b, e5, rfl, hb⟩ := hx
      obtain ⟨w, e6, _⟩ := ka.at (k := p.1) (d := p.2) e4
      rw [e6] at e5
      cases e5
      obtain ⟨G', x', i', _⟩ := key_is P2.gh hb
      exact ⟨G', x', i'⟩
    · unfold keyD at e3
      rw [List.length_map] at e3
      rw [ka.length]
      exact e3
theorem wk_items {pa : Mu} {G1 : Hp} {a : Addr} {o : Obj} {kv : List (List Key × V)} {l : List (List Int × D)} (hg : G1 a = some (.frz o (.dT kv))) (ka : KvA G1 kv l) : WkF pa G1 (Itit a o kv) (itemD l) := by
  refine ⟨fun i d G2 H2 s2 P2 e3 => ?_, fun i G2 H2 s2 P2 e3 => ⟨P2.gh _ _ (s2 _ _ hg), ?_⟩⟩
  · unfold itemD at e3
    rw [List.getElem?_map] at e3
    obtain ⟨p, e4, rfl⟩ := mpd e3
    refine ⟨⟨P2.gh _ _ (s2 _ _ hg), by rw [ka.length]; exact (List.getElem?_eq_some_iff.mp e4).1⟩, fun x H' hx => ?_⟩
    obtain ⟨T, b, k, v, e5, rfl, hT, hb, rfl⟩ := hx
    obtain ⟨w, e6, iw⟩ := ka.at (k := p.1) (d := p.2) e4
    rw [e6] at e5
    cases e5
    obtain ⟨G', x', i', s'⟩ := key_is P2.gh hb
    have x2 := Ext.new (pa := mu0) (o := .tup [.ref b, v]) x'.gh hT
    exact ⟨_, x'.trans x2, .tup upd_same (.cons (i'.mono x2.g) (.cons (iw.mono (s2.trans (s'.trans x2.g))) .nil))⟩
  · unfold itemD at e3
    rw [List.length_map] at e3
    rw [ka.length]
    exact e3
theorem dif_itemsL (h : DE td md) : DIF (iItemsL td) (mItemsL md) := by
  intro G0 H0 pa G H σ ρ pt ds pt' Q R e q
  obtain ⟨⟨r, p1⟩, e1, e⟩ := bnd e
  refine h R e1 fun v G1 H1 x1 q1 k1 => ?_
  match r, e, k1 with
  | .dat (.dict m), e, k1 =>
    obtain ⟨l, e2, e⟩ := mpd (show (undD m).map (fun l => (itemD l, p1)) = some (ds, pt') from e)
    cases e
    obtain ⟨a, o, kv, l', rfl, rfl, hg, ka⟩ := Is.dct' k1
    rw [undD_dD] at e2
    cases e2
    exact ⟨a, o, kv, rfl, x1.gh _ _ hg, q _ G1 H1 x1 q1 (wk_items hg ka)⟩
/-- a new dict is locked for good -/
theorem Ext.lockN {pa : Mu} {G H G1 H1 : Hp} {d : Addr} {kv : List (List Key × V)} (hp : pa.st = false) (x : Ext pa G H G1 H1) (n : Nw H d) (g : G1 d = none) (h : H1 d = some (.dT kv)) (od : Obj) :
    Ext pa G H (upd G1 d (.frz od (.dT kv))) (upd H1 d (.frz od (.dT kv))) := by
  have old : ∀ b o, H b = some o → NTb o → b ≠ d := fun b o e k z => by subst z; exact n o e k
  have m : ∀ u, H1 d = some u → Nte u := fun u hu => by rw [h] at hu; cases hu; exact nte_dT
  refine ⟨x.g.trans (same_upd g), fun b u eb => ?_, fun b o e fx => ?_, fun b u eb => ?_, fun b o e p => ?_, fun b e => ?_, fun nt b u eb => ?_, fun t => tabs_set m (x.tb t)⟩
  · by_cases c : b = d
    · subst c; rw [upd_same] at eb ⊢; exact eb
    · rw [upd_ne c] at eb ⊢; exact x.gh b u eb
  · have nt : NTb o := fx.2.elim (fun z => by rw [hp] at z; cases z) id
    rw [upd_ne (old b o e nt)]
    exact x.h b o e fx
  · by_cases c : b = d
    · subst c; exact .inr n.nf
    · rw [upd_ne c] at eb; exact x.f b u eb
  · obtain ⟨u, e1, e2⟩ := x.pl b o e p
    exact ⟨u, by rw [upd_ne (old b o e p.nt)]; exact e1, e2⟩
  · by_cases c : b = d
    · subst c; exact n
    · exact x.pn b fun u q => e u (by rw [upd_ne c]; exact q)
  · by_cases c : b = d
    · subst c; rw [upd_same] at eb; cases eb; exact fun _ z => by cases z
    · rw [upd_ne c] at eb; exact x.nt nt b u eb
theorem dif_itemsN (h : DE td md) : DIF (iItemsN td) (mItemsN md) := by
  intro G0 H0 pa G H σ ρ pt ds pt' Q R e q
  obtain ⟨⟨r, p1⟩, e1, e⟩ := bnd e
  refine h R e1 fun v G1 H1 x1 q1 k1 => ?_
  match r, e, k1 with
  | .dic l, e, k1 =>
    cases e
    obtain ⟨a, kv, rfl, nw, g, ha, ka⟩ := k1
    refine ⟨a, kv, rfl, ha, fun o => ?_⟩
    have x2 := x1.lockN R.ns nw g ha o
    exact q _ _ _ x2 (q1.put (R.pne' nw)) (wk_items upd_same (ka.mono (same_upd g)))
end
/-! ### dicts of pairs -/
def pairsA? : List D → Option (List (List Int × D))
  | [] => some []
  | .tuple [k, d] :: r => (tupI? k).bind fun k' => (pairsA? r).map fun l => (k', d) :: l
  | _ :: _ => none
theorem pairsA_map : ∀ l : List (List Int × D), pairsA? (itemD l) = some l
  | [] => rfl
  | p :: l => by
    show (tupI? (tI p.1)).bind _ = _
    rw [tupI_tI]
    show (pairsA? (itemD l)).map _ = _
    rw [pairsA_map l] <;> rfl
theorem pairsA_is {G : Hp} : ∀ {vs : List V} {ds : List D} {l : List (List Int × D)}, IsA G vs ds → pairsA? ds = some l → ∃ (cs : List Addr) (kv : List (List Key × V)), vs = cs.map V.ref ∧ cs.length = kv.length ∧ KvA G kv l ∧
    ∀ (i : Nat) (c : Addr) (p : List Key × V), cs[i]? = some c → kv[i]? = some p → ∃ b, G c = some (.tup [V.ref b, p.2]) ∧ G b = some (.tup (p.1.map kV))
  | _, [], l, .nil, e => by cases e; exact ⟨[], [], rfl, rfl, .nil, fun i c p e => by simp at e⟩
  | _, .tuple [k, d] :: ds, l, .cons h t, e => by
    obtain ⟨k', e1, e⟩ := bnd (show (tupI? k).bind _ = some l from e)
    obtain ⟨l', e2, rfl⟩ := mpd e
    obtain ⟨cs, kv, rfl, hl, ka, q⟩ := pairsA_is t e2
    cases h with
    | @tup c us _ hc i =>
      match us, i with
      | [x, y], .cons h1 (.cons h2 .nil) =>
        rw [tupI_eq e1] at h1
        cases h1 with
        | @tup b ws _ hb ib =>
          rw [ib.ints] at hb
          refine ⟨c :: cs, (kI k', y) :: kv, rfl, by simp [hl], .cons h2 ka, fun i c' p e3 e4 => ?_⟩
          cases i with
          | zero =>
            simp at e3 e4
            subst e3 e4
            refine ⟨b, hc, ?_⟩
            rw [hb, List.map_map]
            rfl
          | succ i => exact q i c' p (by simpa using e3) (by simpa using e4)
def mDictL (me : MV) : MV := fun ρ pt => (me ρ pt).bind fun x => (x.1.ls?).bind fun ds => (pairsA? ds).map fun l => (.dic (putAll l), x.2)
theorem de_dictL {K : PySem.W.Frag} {te : TE} {me : MV} (h : DE te me) : DE (tCB (rDictL K) (tCons te tNil)) (mDictL me) := by
  intro G0 H0 pa G H σ ρ pt z pt' Q R e q
  obtain ⟨⟨r, p1⟩, e1, e⟩ := bnd e
  obtain ⟨ds, e2, e⟩ := bnd e
  obtain ⟨l, e3, e⟩ := mpd e
  cases e
  refine h R e1 fun v G1 H1 x1 q1 k1 => ?_
  obtain ⟨a, vs, rfl, n, ha, i⟩ := (Res.vw R k1).ls (R.ext x1 q1).PG e2
  obtain ⟨cs, kv, rfl, hl, ka, hc⟩ := pairsA_is i e3
  refine ⟨a, cs, kv, rfl, SqL.of ha, hl, fun i c p f1 f2 => ?_, fun d hd => ?_⟩
  · obtain ⟨b, g1, g2⟩ := hc i c p f1 f2
    exact ⟨b, SqT.of (x1.gh _ _ g1), x1.gh _ _ g2⟩
  · exact q _ _ _ (x1.trans (Ext.own x1.gh hd)) (q1.ext (Ext.own x1.gh hd)) ⟨d, _, rfl, x1.pn d (Nw.of hd), free_G x1.gh hd, upd_same, KvA.putAll ka .nil⟩
/-- keys and values -/
def mDZip (mw : MW) : MV := fun ρ pt => (mw ρ pt).bind fun x => match x.1 with
  | [a, b] => (a.ls?).bind fun l => (b.tp?).bind fun m => (mapO tupI? l).bind fun ks => if ks.length = m.length then some (.dic (putAll (ks.zip m)), x.2) else none
  | _ => none
theorem kva_zip {G : Hp} : ∀ {ks : List (List Int)} {ys : List V} {m : List D}, IsA G ys m → KvA G ((ks.map kI).zip ys) (ks.zip m)
  | [], _, _, _ => .nil
  | k :: ks, _, _, .nil => .nil
  | k :: ks, _, _, .cons h t => .cons h (kva_zip t)
theorem de_dzip {K : PySem.W.Frag} {ta : TA} {mw : MW} (h : DW ta mw) : DE (tDZip K ta) (mDZip mw) := by
  intro G0 H0 pa G H σ ρ pt z pt' Q R e q
  obtain ⟨⟨rs, p1⟩, e1, e⟩ := bnd e
  match rs, e with
  | [r, s], e =>
    obtain ⟨l, e2, e⟩ := bnd e
    obtain ⟨m, e3, e⟩ := bnd e
    obtain ⟨ks, e4, e⟩ := bnd e
    split at e
    · rename_i hl
      cases e
      refine h R e1 fun ws G1 H1 x1 q1 k1 => ?_
      have P := (R.ext x1 q1).PG
      obtain ⟨v, u, rfl, kv, ku⟩ := k1.two
      obtain ⟨a, vs, rfl, n, ha, i⟩ := kv.ls P e2
      obtain ⟨b, us, rfl, hb, i'⟩ := ku.tp e3
      obtain rfl := tupsI_eq e4
      obtain ⟨L, rfl, hL, hg⟩ := isA_tups i
      have hlen : L.length = ks.length := by rw [← hL, List.length_map]
      refine ⟨a, b, L.map (·.1), ks.map kI, us, rfl, by rw [List.map_map]; exact SqL.of ha, SqT.of (x1.gh _ _ hb), by rw [List.length_map, hlen, hl, i'.length], by simp [hlen], fun j c k f1 f2 => ?_, fun d hd => ?_⟩
      · rw [List.getElem?_map] at f1 f2
        obtain ⟨p, f3, rfl⟩ := mpd f1
        obtain ⟨k', f4, rfl⟩ := mpd f2
        rw [← hL, List.getElem?_map, f3] at f4
        cases f4
        rw [x1.gh _ _ (hg p (List.mem_of_getElem? f3)), List.map_map]
        rfl
      · exact q _ _ _ (x1.trans (Ext.own x1.gh hd)) (q1.ext (Ext.own x1.gh hd)) ⟨d, _, rfl, x1.pn d (Nw.of hd), free_G x1.gh hd, upd_same, KvA.putAll (kva_zip i') .nil⟩
    · cases e
def mLZip (mw : MW) : MV := fun ρ pt => (mw ρ pt).bind fun x => match x.1 with
  | [a, b] => (a.ls?).bind fun l => (b.tp?).bind fun m => if l.length = m.length then some (.lst (zipD l m), x.2) else none
  | _ => none
theorem newP_ext {pa : Mu} : ∀ (L : List (Addr × V × V)) (ds : List (D × D)) {G H : Hp}, Same G H → (∀ p ∈ L, H p.1 = none) → (L.map (·.1)).Nodup → L.length = ds.length → (∀ (i : Nat) (p : Addr × V × V) (d : D × D), L[i]? = some p → ds[i]? = some d → Is G p.2.1 d.1 ∧ Is G p.2.2 d.2) →
    ∃ G', Ext pa G H G' (newP H L) ∧ IsA G' (L.map fun p => V.ref p.1) (ds.map fun d => .tuple [d.1, d.2])
  | [], [], G, H, s, _, _, _, _ => ⟨G, Ext.refl s, .nil⟩
  | p :: L, d :: ds, G, H, s, hn, nd, hl, h => by
    rw [List.map_cons, List.nodup_cons] at nd
    obtain ⟨i1, i2⟩ := h 0 p d rfl rfl
    have x1 := Ext.new (pa := pa) (o := .tup [p.2.1, p.2.2]) s (hn p List.mem_cons_self)
    obtain ⟨G', x2, ia⟩ := newP_ext (pa := pa) L ds x1.gh (fun q hq => by rw [upd_ne fun z => nd.1 (List.mem_map.mpr ⟨q, hq, z⟩)]; exact hn q (List.mem_cons_of_mem _ hq)) nd.2 (by simpa using hl)
      fun i q e f1 f2 => by
        obtain ⟨j1, j2⟩ := h (i + 1) q e (by simpa using f1) (by simpa using f2)
        exact ⟨j1.mono x1.g, j2.mono x1.g⟩
    exact ⟨G', x1.trans x2, .cons (.tup (x2.g _ _ upd_same) (.cons (i1.mono (x1.g.trans x2.g)) (.cons (i2.mono (x1.g.trans x2.g)) .nil))) ia⟩
theorem de_lzip {K : PySem.W.Frag} {ta : TA} {mw : MW} (h : DW ta mw) : DE (tLZip K ta) (mLZip mw) := by
  intro G0 H0 pa G H σ ρ pt z pt' Q R e q
  obtain ⟨⟨rs, p1⟩, e1, e⟩ := bnd e
  match rs, e with
  | [r, s], e =>
    obtain ⟨l, e2, e⟩ := bnd e
    obtain ⟨m, e3, e⟩ := bnd e
    split at e
    · rename_i hl
      cases e
      refine h R e1 fun ws G1 H1 x1 q1 k1 => ?_
      have P := (R.ext x1 q1).PG
      obtain ⟨v, u, rfl, kv, ku⟩ := k1.two
      obtain ⟨a, vs, rfl, n, ha, i⟩ := kv.ls P e2
      obtain ⟨b, us, rfl, hb, i'⟩ := ku.tp e3
      have l1 := i.length
      have l2 := i'.length
      refine ⟨a, b, vs, us, rfl, SqL.of ha, SqT.of (x1.gh _ _ hb), by omega, fun as d hla nd hno hd nda => ?_⟩
      have z1 : (as.zip (vs.zip us)).map (·.1) = as := zip3_fst hla (by omega)
      obtain ⟨G2, x2, ia⟩ := newP_ext (pa := pa) (as.zip (vs.zip us)) (l.zip m) x1.gh (fun p hp => hno p.1 (by rw [← z1]; exact List.mem_map.mpr ⟨p, hp, rfl⟩)) (by rw [z1]; exact nd) (by simp; omega) fun j p d' f1 f2 => by
        rw [List.getElem?_zip_eq_some] at f1
        have f3 := List.getElem?_zip_eq_some.mp (show (vs.zip us)[j]? = some (p.2.1, p.2.2) from f1.2)
        have f4 := List.getElem?_zip_eq_some.mp (show (l.zip m)[j]? = some (d'.1, d'.2) from f2)
        obtain ⟨w1, g1, g2⟩ := i.get f4.1
        obtain ⟨w2, g3, g4⟩ := i'.get f4.2
        rw [f3.1] at g1
        rw [f3.2] at g3
        cases g1
        cases g3
        exact ⟨g2, g4⟩
      have gen : ∀ (L : List (Addr × V × V)) (H : Hp) (c : Addr), c ∉ L.map (·.1) → H c = none → newP H L c = none := by
        intro L
        induction L with
        | nil => intro H c _ h; exact h
        | cons p L ih =>
          intro H c hc h
          rw [List.map_cons, List.mem_cons, not_or] at hc
          exact ih _ c hc.2 (by rw [upd_ne hc.1]; exact h)
      have hd2 : newP H1 (as.zip (vs.zip us)) d = none := gen _ _ _ (by rw [z1]; exact nda) hd
      have pot2 : PotAt pa (newP H1 (as.zip (vs.zip us))) p1 := fun p' e' => newP_old _ (fun p hp => hno p.1 (by rw [← z1]; exact List.mem_map.mpr ⟨p, hp, rfl⟩)) (by rw [z1]; exact nd) (q1 p' e')
      have e9 : ((as.zip (vs.zip us)).map fun p => V.ref p.1) = as.map V.ref := by
        have := congrArg (List.map V.ref) z1
        rw [List.map_map] at this
        exact this
      rw [e9] at ia
      have e8 : (l.zip m).map (fun d : D × D => PyData.tuple [d.1, d.2]) = zipD l m := by
        unfold zipD
        rw [List.zip, List.map_zipWith]
      rw [e8] at ia
      exact q _ _ _ ((x1.trans x2).trans (Ext.own x2.gh hd2)) (pot2.ext (Ext.own x2.gh hd2)) ⟨d, _, rfl, x1.pn d (x2.pn d (Nw.of hd2)), free_G x2.gh hd2, upd_same, ia⟩
    · cases e
end Pd
end
section
set_option Elab.async false
set_option linter.all false
set_option maxRecDepth 100000
set_option maxHeartbeats 1000000
/-! Pd20: dict comprehensions, update, stars, a call as a statement, in plain data. -/
namespace Pd
open PySem PySem.Spec PySem.W L2 RZ
variable [TB]
def dcGo (mg : MG) (mt : MT) (mk mv : MV) (ρ : List Sl) : List D → List (List Int × D) → List Int → Option (List (List Int × D) × List Int)
  | [], acc, p => some (acc, p)
  | d :: r, acc, p => (mg d ρ).bind fun ρ2 => (mt ρ2 p).bind fun b => if b.1 = true then (mk ρ2 b.2).bind fun y => (y.1.key?).bind fun k => (mv ρ2 y.2).bind fun z => (z.1.fix?).bind fun w => if acc.length < sizeLine then dcGo mg mt mk mv ρ r (kPut acc k w) z.2 else none
      else dcGo mg mt mk mv ρ r acc b.2
def mDc (mi : ML) (mg : MG) (mt : MT) (mk mv : MV) (vs : List Nat) : MV := fun ρ pt => (mi ρ pt).bind fun x => (dcGo mg mt mk mv (wipeR ρ vs) x.1 [] x.2).map fun y => (.dic y.1, y.2)
theorem de_dc {wi : TI} {g : TG} {tt : TT} {tk tv : TE} {vs : List Nat} {mi : ML} {mg : MG} {mt : MT} {mk mv : MV} (hi : DI wi mi) (hg : DGv g vs mg) (ht : DT tt mt) (hk : DE tk mk) (hv : DE tv mv) : DE (tDcT wi g tt tk tv vs) (mDc mi mg mt mk mv vs) := by
  intro G0 H0 pa G H σ ρ pt z pt' Q R e q
  obtain ⟨⟨ds, p0⟩, e1, e⟩ := bnd e
  obtain ⟨⟨fin, pf⟩, e2, e⟩ := mpd e
  cases e
  refine hi R e1 fun J G1 H1 x1 q1 w => ?_
  intro D nD
  have R1 := R.ext x1 q1
  have nP : pa.p ≠ some D := R1.pne' (Nw.of nD)
  have gD : G1 D = none := free_G x1.gh nD
  refine ⟨fun i m H' => m = ds.length - i ∧ i ≤ ds.length ∧ ∃ G' acc ws p, Ext pa G1 H1 G' H' ∧ G' D = none ∧ H' D = some (.dT ws) ∧ KvA G' ws acc ∧ PotAt pa H' p ∧ dcGo mg mt mk mv (wipeR ρ vs) (ds.drop i) acc p = some (fin, pf), ⟨ds.length, rfl, Nat.zero_le _, G1, [], [], p0, (Ext.refl x1.gh).put (Nw.of nD) gD (fun u z => by rw [nD] at z; cases z), gD, upd_same, .nil, q1.put nP, e2⟩, ?_⟩
  rintro i m H2 ⟨rfl, hi, G2, acc, ws, p, x2, g2, h2, a2, q2, lp⟩
  have R2 := R1.ext x2 q2
  by_cases hlt : i < ds.length
  · refine .inr ?_
    obtain ⟨go, yl⟩ := w.item i ds[i] G2 H2 x2 R2.PG (List.getElem?_eq_getElem hlt)
    rw [List.drop_eq_getElem_cons hlt] at lp
    refine ⟨go, fun H' => ds.length - (i + 1) = ds.length - (i + 1) ∧ i + 1 ≤ ds.length ∧ ∃ G' acc ws p, Ext pa G1 H1 G' H' ∧ G' D = none ∧ H' D = some (.dT ws) ∧ KvA G' ws acc ∧ PotAt pa H' p ∧ dcGo mg mt mk mv (wipeR ρ vs) (ds.drop (i + 1)) acc p = some (fin, pf),
      fun H' hN => ⟨ds.length - (i + 1), by omega, hN⟩, fun x H3 hx => ?_⟩
    obtain ⟨G3, x3, k3⟩ := yl x H3 hx
    unfold dcGo at lp
    obtain ⟨ρ2, lg, lp⟩ := bnd lp
    obtain ⟨⟨b, p1⟩, lt, lp⟩ := bnd lp
    have x3' := x2.trans x3.any
    have R3 := R1.ext x3' (q2.ext x3)
    refine hg (R3.wipe vs) k3 lg fun σ' R4 hw => ⟨by rw [hw, wipe_wipe], ht R4 lt fun G5 H5 x5 q5 => ?_⟩
    have hD5 : H5 D = some (.dT ws) := x5.hv D _ (x3.hv D _ h2 (by simp)) nP
    have gD5 : G5 D = none := (x3.any.trans x5).out g2 h2
    cases b with
    | false =>
      refine iteF ⟨rfl, hlt, G5, acc, ws, p1, x3'.trans x5, gD5, hD5, a2.mono (x3.g.trans x5.g), q5, ?_⟩
      exact lp
    | true =>
      obtain ⟨⟨y, p2⟩, le, lp⟩ := bnd lp
      obtain ⟨kk, lk, lp⟩ := bnd lp
      obtain ⟨⟨zz, p3⟩, lv, lp⟩ := bnd lp
      obtain ⟨yd, lf, lp⟩ := bnd lp
      split at lp
      · rename_i hz
        have R5 := R4.ext x5 q5
        refine iteT (hk R5 le fun u G6 H6 x6 q6 k6 => hv (R5.ext x6 q6) lv fun v G7 H7 x7 q7 k7 => ?_)
        have R6 := R5.ext x6 q6
        obtain ⟨G8, s8, x8, k8⟩ := k7.fix x7 lf
        have xx := x6.trans x8
        have a7 : KvA G8 ws acc := a2.mono (x3.g.trans (x5.g.trans xx.g))
        have hD7 : H7 D = some (.dT ws) := xx.hv D _ hD5 nP
        have gD7 : G8 D = none := xx.out gD5 hD5
        have R8 := R6.ext x8 q7
        obtain ⟨b, rfl, hb⟩ := ((Res.vw R5 k6).ext x8).key R8.PG lk
        refine ⟨ws, kI kk, b, rfl, hb, hD7, by rw [a7.length]; exact hz, rfl, hlt, G8, kPut acc kk yd, _, p3, ((x3'.trans x5).trans xx).put (Nw.of nD) gD7 (fun u z => by rw [hD7] at z; cases z; trivial), gD7, upd_same, a7.put kk k8, q7.put nP, lp⟩
      · cases lp
  · have ei : i = ds.length := by omega
    subst ei
    refine .inl ⟨w.done _ G2 H2 x2 R2.PG (Nat.le_refl _), ?_⟩
    rw [List.drop_length] at lp
    cases lp
    exact q _ G2 H2 (x1.trans x2) q2 ⟨D, ws, rfl, x1.pn D (Nw.of nD), g2, h2, a2⟩
/-- a key's hash -/
def hashI (k : List Int) : Int := reduceHash (Builtin.Tuple.tupleHashOf (k.map hashInt))
theorem hash_kI (X : Cx) (k : List Int) : (tk0 X).hash (kI k) = hashI k := by
  show reduceHash (Builtin.Tuple.tupleHashOf ((kI k).map (keyH X.w))) = _
  rw [List.map_map]
  rfl
def hashOk (l : List (List Int × D)) : Bool := decide ((l.map fun p => hashI p.1).Nodup)
def mergeP (l m : List (List Int × D)) : List (List Int × D) := m.foldl (fun a p => kPut a p.1 p.2) l
/-- d.update(d2), d a name -/
def bUpd (i : Nat) (me : MV) : MB := fun ρ pt => match ρ[i]? with
  | some (.dic l) => (me ρ pt).bind fun x => match x.1 with
    | .dic m => if (l.isEmpty = false ∨ hashOk m = true) ∧ l.length + m.length ≤ sizeLine then some (.nx (ρ.set i (.dic (mergeP l m))) x.2) else none
    | _ => none
  | _ => none
theorem KvA.hash {G : Hp} (X : Cx) : ∀ {kv : List (List Key × V)} {l : List (List Int × D)}, KvA G kv l → (kv.map fun p => (tk0 X).hash p.1) = l.map fun p => hashI p.1
  | _, _, .nil => rfl
  | _, _, .cons h t => by rw [List.map_cons, List.map_cons, KvA.hash X t, hash_kI]
theorem db_upd {K : PySem.W.Frag} {X : Cx} {i : Nat} {te : TE} {me : MV} (h : DE te me) : DB (tDrop (tBM K "dict" (rUpdT X) (tVar i) (tCons te tNil))) (bUpd i me) := by
  intro G0 H0 pa G H σ ρ pt o E R e q
  unfold bUpd at e
  cases hs : ρ[i]? with
  | none => rw [hs] at e; cases e
  | some s =>
    rw [hs] at e
    cases s with
    | dic l =>
      obtain ⟨⟨r, p1⟩, e1, e⟩ := bnd e
      cases r with
      | dic m =>
        simp only at e
        split at e
        · rename_i hz
          cases e
          obtain ⟨a, kv, ea, h0, g, ha, k⟩ := R.dicAt hs
          refine ⟨_, ea, .inr (.inr (.inl ⟨rfl, .inr ⟨_, ha⟩⟩)), h R e1 fun v G1 H1 x1 q1 k1 => ?_⟩
          have R1 := R.ext x1 q1
          obtain ⟨b, kw, rfl, nb, gb, hb, kb⟩ := k1
          obtain ⟨a', kv', ea', a0', ga', ha', ka'⟩ := R1.dicAt hs
          have := slot_same ea ea'
          subst this
          have hab : a' ≠ b := fun z => by subst z; exact nb.no ha
          refine ⟨a', b, kv', kw, rfl, rfl, hab, ha', hb, ?_, by rw [ka'.length, kb.length]; exact hz.2, ?_⟩
          · rcases hz.1 with z | z
            · refine .inl fun e => ?_
              have := ka'.length
              rw [e] at this
              cases l with
              | nil => cases z
              | cons _ _ => cases this
            · refine .inr ?_
              rw [kb.hash X]
              exact of_decide_eq_true z
          · exact q σ G1 _ (R1.mutD hs ea a0' ga' (KvA.putAll kb ka')) x1.g
        · cases e
      | _ => cases e
    | _ => cases e
/-! ### stars, a call as a statement -/
def mStar (me : MV) (mr : MA) : MA := fun ρ pt => (me ρ pt).bind fun x => (x.1.sq?).bind fun l => (mr ρ x.2).map fun y => (l ++ y.1, y.2)
theorem da_star {K : PySem.W.Frag} {te : TE} {me : MV} {tl : TA} {ml : MA} (h : DE te me) (hr : DA tl ml) : DA (StX.tStar K te tl) (mStar me ml) := by
  intro G0 H0 pa G H σ ρ pt z pt' Q R e q
  obtain ⟨⟨a, p1⟩, e1, e⟩ := bnd e
  obtain ⟨l, e3, e⟩ := bnd e
  obtain ⟨⟨b, p2⟩, e2, e⟩ := mpd e
  cases e
  refine h R e1 fun v G1 H1 x1 q1 k1 => ?_
  obtain ⟨a, vs, rfl, hs, i⟩ := (Res.vw R k1).sq (K := K) (R.ext x1 q1).PG e3
  refine ⟨a, vs, rfl, hs.symm, hr (R.ext x1 q1) e2 fun ws G2 H2 x2 q2 k2 => ?_⟩
  exact q (vs ++ ws) G2 H2 (x1.trans x2) q2 ((i.mono x2.g).append k2)
def bDrop (me : MV) : MB := fun ρ pt => (me ρ pt).map fun x => .nx ρ x.2
theorem db_drop {te : TE} {me : MV} (h : DE te me) : DB (tDrop te) (bDrop me) := by
  intro G0 H0 pa G H σ ρ pt o E R e q
  obtain ⟨⟨r, p1⟩, e1, e⟩ := mpd e
  cases e
  exact h R e1 fun v G1 H1 x1 q1 k1 => q σ G1 H1 (R.ext x1 q1) x1.g
end Pd
end
section
set_option Elab.async false
set_option linter.all false
set_option maxRecDepth 100000
set_option maxHeartbeats 1000000
/-! Pd21: found = [[] for ..]; for lot in ..: found[len(lot)].append(lot); return found. -/
namespace Pd
open PySem PySem.Spec PySem.W L2 RZ
variable [TB]
def Sl.free : Sl → Bool
  | .lst _ => false
  | .dic _ => false
  | _ => true
/-- what the lists by sizes become -/
def szGo : List D → List (List D) → Option (List (List D))
  | [], acc => some acc
  | .tuple xs :: r, acc => (acc[xs.length]?).bind fun l => if l.length < sizeLine then szGo r (acc.set xs.length (l ++ [.tuple xs])) else none
  | _ :: _, _ => none
def bSizes (i j : Nat) (mi mi2 : ML) : MB := fun ρ pt => if ρ.all Sl.free = true ∧ i ≠ j ∧ i < ρ.length ∧ j < ρ.length then (mi ρ pt).bind fun x => if x.1.length ≤ sizeLine then (mi2 (ρ.set i .un) x.2).bind fun y => (szGo y.1 (List.replicate x.1.length [])).map fun l => .rt (.dat (.list (l.map .list))) y.2 else none else none
structure Szs (H0 G H : Hp) (D : Addr) (as : List Addr) (xss : List (List PyData)) : Prop where
  h : H D = some (.lst (as.map V.ref))
  gD : G D = none
  nD : Nw H0 D
  nd : as.Nodup
  na : D ∉ as
  len : as.length = xss.length
  it : ∀ (k : Nat) (a : Addr) (xs : List PyData), as[k]? = some a → xss[k]? = some xs → Nw H0 a ∧ G a = none ∧ ∃ vs, H a = some (.lst vs) ∧ IsA G vs xs
section
variable {G0 H0 G H G' H' : Hp} {pa : Mu} {σ : L2.St} {ρ : List Sl} {pt : List Int} {D : Addr} {as : List Addr} {xss : List (List PyData)}
theorem Szs.ext (S : Szs H0 G H D as xss) (x : Ext pa G H G' H') (np : ∀ a, Nw H0 a → pa.p ≠ some a) : Szs H0 G' H' D as xss :=
  ⟨x.hv D _ S.h (np D S.nD), x.out S.gD S.h, S.nD, S.nd, S.na, S.len, fun k a xs e1 e2 => by
    obtain ⟨n, g, vs, h, i⟩ := S.it k a xs e1 e2
    exact ⟨n, x.out g h, vs, x.hv a _ h (np a n), i.mono x.g⟩⟩
theorem Rep.putFree (R : Rep G0 H0 pa G H σ ρ pt) (no : ρ.all Sl.free = true) {a : Addr} {o : HO} (h0 : Nw H0 a) (g : G a = none) (m : ∀ u, H a = some u → Pl u) : Rep G0 H0 pa G (upd H a o) σ ρ pt := by
  refine ⟨R.ex.put h0 g m, R.pot.put (R.pne h0), R.pg, R.nt, tabs_put m R.tb, R.ns, R.len, fun j s e => ?_, R.inj⟩
  have k := R.slot j s e
  have f := List.all_eq_true.mp no s (List.mem_of_getElem? e)
  cases s with
  | lst _ => cases f
  | dic _ => cases f
  | _ => exact k
theorem nodup_ix : ∀ {l : List Addr} {n k : Nat} {a : Addr}, l.Nodup → l[n]? = some a → l[k]? = some a → n = k
  | [], n, k, a, _, h, _ => by simp at h
  | b :: l, 0, 0, a, _, _, _ => rfl
  | b :: l, 0, k + 1, a, nd, h1, h2 => by
    simp at h1
    subst h1
    exact absurd (List.mem_of_getElem? (by simpa using h2)) (List.nodup_cons.mp nd).1
  | b :: l, n + 1, 0, a, nd, h1, h2 => by
    simp at h2
    subst h2
    exact absurd (List.mem_of_getElem? (by simpa using h1)) (List.nodup_cons.mp nd).1
  | b :: l, n + 1, k + 1, a, nd, h1, h2 => congrArg (· + 1) (nodup_ix (l := l) (a := a) (List.nodup_cons.mp nd).2 (by simpa using h1) (by simpa using h2))
theorem Szs.app (S : Szs H0 G H D as xss) {n : Nat} {a : Addr} {xs : List PyData} {vs : List V} {v : V} {d : PyData} (e1 : as[n]? = some a) (e2 : xss[n]? = some xs) (h : H a = some (.lst vs)) (i : IsA G vs xs) (iv : Is G v d) : Szs H0 G (upd H a (.lst (vs ++ [v]))) D as (xss.set n (xs ++ [d])) := by
  have ha : a ∈ as := List.mem_of_getElem? e1
  have nDa : D ≠ a := fun z => S.na (z ▸ ha)
  refine ⟨by rw [upd_ne nDa]; exact S.h, S.gD, S.nD, S.nd, S.na, by rw [List.length_set]; exact S.len, fun k b ys f1 f2 => ?_⟩
  by_cases c : n = k
  · subst c
    rw [e1] at f1
    cases f1
    rw [List.getElem?_set_self (List.getElem?_eq_some_iff.mp e2).1] at f2
    cases f2
    obtain ⟨q1, q2, _⟩ := S.it n a xs e1 e2
    exact ⟨q1, q2, _, upd_same, i.snoc iv⟩
  · rw [List.getElem?_set_ne c] at f2
    obtain ⟨q1, q2, us, q3, q4⟩ := S.it k b ys f1 f2
    have nb : b ≠ a := fun z => by
      subst z
      exact c (nodup_ix S.nd e1 f1)
    exact ⟨q1, q2, us, by rw [upd_ne nb]; exact q3, q4⟩
/-- new lists are locked -/
theorem Ext.addL (x : Ext pa G0 H0 G H) : ∀ bs : List Addr, (∀ b ∈ bs, Nw H0 b ∧ ∃ vs, H b = some (.lst vs)) → Ext pa G0 H0 (addT G H bs) H ∧ (∀ b ∈ bs, addT G H bs b = H b) ∧ Same G (addT G H bs)
  | [], _ => ⟨x, (fun _ h => nomatch h), Same.refl G⟩
  | b :: r, h => by
    obtain ⟨y, q, sm⟩ := Ext.addL x r fun c hc => h c (List.mem_cons_of_mem _ hc)
    obtain ⟨nb, xs, hb⟩ := h b List.mem_cons_self
    have at_ : ∀ c o, addT G H (b :: r) c = some o → addT G H r c = some o ∨ (c = b ∧ H b = some o) := fun c o e => by
      have e' : (match addT G H r c with | some o => some o | none => if c = b then H b else none) = some o := e
      cases e1 : addT G H r c with
      | some u => rw [e1] at e'; exact .inl e'
      | none =>
        rw [e1] at e'
        by_cases c1 : c = b
        · rw [if_pos c1] at e'; exact .inr ⟨c1, e'⟩
        · rw [if_neg c1] at e'; cases e'
    have keep : ∀ c o, addT G H r c = some o → addT G H (b :: r) c = some o := fun c o e => by
      show (match addT G H r c with | some o => some o | none => if c = b then H b else none) = some o
      rw [e]
    have hb' : addT G H (b :: r) b = H b := by
      show (match addT G H r b with | some o => some o | none => if b = b then H b else none) = H b
      cases e1 : addT G H r b with
      | some u => exact (y.gh b u e1).symm
      | none => exact if_pos rfl
    refine ⟨⟨fun c o e => keep c o (y.g c o e), fun c o e => ?_, y.h, fun c o e => ?_, y.pl, y.pn, fun n c o e => ?_, y.tb⟩, fun c hc => ?_, fun c o e => keep c o (sm c o e)⟩
    · rcases at_ c o e with e | ⟨rfl, e⟩
      · exact y.gh c o e
      · exact e
    · rcases at_ c o e with e | ⟨rfl, e⟩
      · exact y.f c o e
      · exact .inr nb.nf
    · rcases at_ c o e with e | ⟨rfl, e⟩
      · exact y.nt n c o e
      · rw [hb] at e; cases e; exact fun _ z => by cases z
    · rcases List.mem_cons.mp hc with rfl | hc
      · exact hb'
      · have e := q c hc
        cases e1 : addT G H r c with
        | some u => rw [keep c u e1, ← e, e1]
        | none =>
          obtain ⟨_, ws, hw⟩ := h c (List.mem_cons_of_mem _ hc)
          rw [e1, hw] at e
          cases e
theorem isA_lists {G : Hp} {as : List Addr} {xss : List (List PyData)} (hl : as.length = xss.length) (h : ∀ (k : Nat) (a : Addr) (xs : List PyData), as[k]? = some a → xss[k]? = some xs → ∃ vs, G a = some (.lst vs) ∧ IsA G vs xs) : IsA G (as.map V.ref) (xss.map .list) := by
  induction as generalizing xss with
  | nil =>
    cases xss with
    | nil => exact .nil
    | cons _ _ => simp at hl
  | cons a as ih =>
    cases xss with
    | nil => simp at hl
    | cons xs xss =>
      obtain ⟨vs, h1, h2⟩ := h 0 a xs rfl rfl
      exact .cons (.lst h1 h2) (ih (by simpa using hl) fun k b ys e1 e2 => h (k + 1) b ys (by simpa using e1) (by simpa using e2))
end
theorem all_set {ρ : List Sl} {i : Nat} {s : Sl} (h : ρ.all Sl.free = true) (hs : s.free = true) : (ρ.set i s).all Sl.free = true := by
  rw [List.all_eq_true] at h ⊢
  intro x hx
  rcases List.mem_or_eq_of_mem_set hx with q | q
  · exact h x q
  · rw [q]; exact hs
abbrev rLenS (K : PySem.W.Frag) : List V → Hp → VK → Prop := fun xs H Q => ∃ p ys, xs = [.ref p] ∧ (SqL K H p ys ∨ SqT K H p ys) ∧ Q (.int ys.length) H
theorem db_sizes {K : PySem.W.Frag} {wi wi2 : TI} {mi mi2 : ML} {i s j : Nat} (hi : DI wi mi) (hi2 : DIF wi2 mi2) :
    DB (tSeq (tAsg (tLc wi (gName s) tYes (tLst tNil) [s]) (gName i)) (tSeq (tFor wi2 (gName j) (tDrop (tBM K "list" rAppend (tOp (rIx2 K) (tVar i) (tCB (rLenS K) (tCons (tVar j) tNil))) (tCons (tVar j) tNil)))) (tRet (tVar i)))) (bSizes i j mi mi2) := by
  intro G0 H0 pa G H σ ρ pt o E R e q
  unfold bSizes at e
  split at e
  · rename_i hc
    obtain ⟨hfree, hij, hir, hjr⟩ := hc
    obtain ⟨⟨ds1, p1⟩, e1, e⟩ := bnd e
    split at e
    · rename_i hz
      obtain ⟨⟨ds2, p2⟩, e2, e⟩ := bnd e
      obtain ⟨fin, e3, e⟩ := mpd e
      cases e
      refine hi R e1 fun J G1 H1 x1 q1 w => ?_
      intro D nD
      have R1 := R.ext x1 q1
      have nP : pa.p ≠ some D := R1.pne' (Nw.of nD)
      have gD : G1 D = none := free_G x1.gh nD
      have nD0 : Nw H0 D := R1.ex.pn D (Nw.of nD)
      have b0 : Szs H0 G1 (upd H1 D (.lst [])) D [] [] := ⟨upd_same, gD, nD0, List.nodup_nil, (fun h => nomatch h), rfl, fun k a xs e => by simp at e⟩
      refine ⟨fun k m H' => m = ds1.length - k ∧ k ≤ ds1.length ∧ ∃ as G', Ext pa G1 H1 G' H' ∧ PotAt pa H' p1 ∧ as.length = k ∧ Szs H0 G' H' D as (List.replicate k []), ⟨ds1.length, rfl, Nat.zero_le _, [], G1, (Ext.refl x1.gh).put (Nw.of nD) gD (fun u z => by rw [nD] at z; cases z), q1.put nP, rfl, b0⟩, ?_⟩
      rintro k m H2 ⟨rfl, hk, as, G2, x2, q2, la, S2⟩
      have R2 := R1.ext x2 q2
      by_cases hlt : k < ds1.length
      · refine .inr ?_
        obtain ⟨go, yl⟩ := w.item k ds1[k] G2 H2 x2 R2.PG (List.getElem?_eq_getElem hlt)
        refine ⟨go, fun H' => k + 1 ≤ ds1.length ∧ ∃ as G', Ext pa G1 H1 G' H' ∧ PotAt pa H' p1 ∧ as.length = k + 1 ∧ Szs H0 G' H' D as (List.replicate (k + 1) []),
          fun H' hN => ⟨ds1.length - (k + 1), by omega, rfl, hN⟩, fun x H3 hx => ?_⟩
        obtain ⟨G3, x3, k3⟩ := yl x H3 hx
        have S3 := S2.ext (x3.any (pa := pa)) fun a n => R.pne n
        refine ⟨wipe_set _ List.mem_cons_self |>.trans (wipe_wipe _ _), ?_⟩
        unfold tYes
        simp only [if_true]
        refine ⟨by show 0 ≤ sizeLine; exact Nat.zero_le _, fun a na => ?_⟩
        have x4 := x2.trans x3.any
        have nDa : D ≠ a := fun z => by subst z; rw [S3.h] at na; cases na
        have own : Ext pa G3 H3 G3 (upd H3 a (.lst [])) := Ext.own x4.gh na
        have S4 := S3.ext own fun a n => R.pne n
        have x5 := x4.trans own
        have R5 := R1.ext x5 ((q2.ext x3).ext (Ext.own x4.gh na))
        have na0 : Nw H0 a := (R1.ex.trans x4).pn a (Nw.of na)
        have ga : G3 a = none := free_G x4.gh na
        have nas : a ∉ as := fun hm => by
          obtain ⟨t, ht⟩ := List.mem_iff_getElem?.mp hm
          have hlt' : t < as.length := (List.getElem?_eq_some_iff.mp ht).1
          obtain ⟨_, _, vs, hv, _⟩ := S3.it t a [] ht (by rw [List.getElem?_replicate, if_pos (by omega)])
          rw [na] at hv; cases hv
        have hD : upd H3 a (.lst []) D = some (.lst (as.map V.ref)) := S4.h
        refine ⟨as.map V.ref, hD, by rw [List.length_map, la]; exact Nat.lt_of_lt_of_le hlt hz, hlt, as ++ [a], G3, x5.put (Nw.of nD) S3.gD (fun u z => by rw [hD] at z; cases z; trivial), R5.pot.put (R.pne nD0), by rw [List.length_append, la]; rfl, ?_⟩
        refine ⟨by rw [upd_same, List.map_append]; rfl, S3.gD, nD0, List.nodup_append.mpr ⟨S3.nd, by simp, fun b hb c hc z => nas (by rw [List.mem_singleton.mp hc] at z; exact z ▸ hb)⟩, fun hm => ?_, by simp [la], fun t b ys f1 f2 => ?_⟩
        · rcases List.mem_append.mp hm with h | h
          · exact S3.na h
          · exact nDa (List.mem_singleton.mp h)
        · have hys : ys = [] := by
            rw [List.getElem?_replicate] at f2
            split at f2
            · cases f2; rfl
            · cases f2
          subst hys
          rcases Nat.lt_trichotomy t as.length with h1 | h1 | h1
          · rw [List.getElem?_append_left h1] at f1
            obtain ⟨r1, r2, vs, r3, r4⟩ := S4.it t b [] f1 (by rw [List.getElem?_replicate, if_pos (by omega)])
            have nb : b ≠ D := fun z => by subst z; exact S3.na (List.mem_of_getElem? f1)
            exact ⟨r1, r2, vs, by rw [upd_ne nb]; exact r3, r4⟩
          · subst h1
            have hb : a = b := by simpa using f1
            subst hb
            exact ⟨na0, ga, [], by rw [upd_ne (Ne.symm nDa), upd_same], .nil⟩
          · rw [List.getElem?_eq_none (by rw [List.length_append, List.length_singleton]; omega)] at f1; cases f1
      · have ei : k = ds1.length := by omega
        subst ei
        refine .inl ⟨w.done _ G2 H2 x2 R2.PG (Nat.le_refl _), ?_⟩
        -- found = ..
        have R3 := (R2.unset i (some (.ref D)))
        have f3 : (ρ.set i .un).all Sl.free = true := all_set hfree rfl
        have hσ : (σ.set i (some (V.ref D)))[i]? = some (some (.ref D)) := List.getElem?_set_self (by rw [R.len]; exact hir)
        refine hi2 R3 e2 fun J2 G4 H4 x4 q4 w4 => ?_
        have S4 := S2.ext x4 fun a n => R.pne n
        have R4 := R3.ext x4 q4
        refine ⟨fun k m σ' H' => m = ds2.length - k ∧ k ≤ ds2.length ∧ ∃ G' ρ' xss, Rep G0 H0 pa G' H' σ' ρ' p2 ∧ ρ'.all Sl.free = true ∧ ρ'.length = ρ.length ∧ Same G4 G' ∧ Szs H0 G' H' D as xss ∧ szGo (ds2.drop k) xss = some fin ∧ σ'[i]? = some (some (.ref D)),
          ⟨ds2.length, rfl, Nat.zero_le _, G4, _, _, R4, f3, by simp, Same.refl _, S4, e3, hσ⟩, ?_⟩
        rintro k m σ5 H5 ⟨rfl, hk5, G5, ρ5, xss5, R5, f5, l5, s5, S5, g5, hσ5⟩
        by_cases hlt : k < ds2.length
        · refine .inr ?_
          obtain ⟨go, yl⟩ := w4.item k ds2[k] G5 H5 s5 R5.PG (List.getElem?_eq_getElem hlt)
          rw [List.drop_eq_getElem_cons hlt] at g5
          refine ⟨go, fun σ' H' => ds2.length - (k + 1) = ds2.length - (k + 1) ∧ k + 1 ≤ ds2.length ∧ ∃ G' ρ' xss, Rep G0 H0 pa G' H' σ' ρ' p2 ∧ ρ'.all Sl.free = true ∧ ρ'.length = ρ.length ∧ Same G4 G' ∧ Szs H0 G' H' D as xss ∧ szGo (ds2.drop (k + 1)) xss = some fin ∧ σ'[i]? = some (some (.ref D)),
            fun σ' H' hN => ⟨ds2.length - (k + 1), by omega, hN⟩, fun x H6 hx => ?_⟩
          obtain ⟨G6, x6, k6⟩ := yl x H6 hx
          generalize ds2[k] = d at g5 k6
          match d, g5, k6 with
          | .tuple xs, g5, k6 =>
            obtain ⟨l, f1, g5⟩ := bnd (show (xss5[xs.length]?).bind _ = some fin from g5)
            split at g5
            · rename_i hl
              have R6 := R5.ext x6.any (R5.pot.ext x6)
              have R7 := R6.setD j k6
              have S6 := S5.ext (x6.any (pa := pa)) fun a n => R.pne n
              have hjσ : j < σ5.length := by rw [R5.len, l5]; exact hjr
              have hj : (σ5.set j (some x))[j]? = some (some x) := List.getElem?_set_self hjσ
              have hi' : (σ5.set j (some x))[i]? = some (some (.ref D)) := by rw [List.getElem?_set_ne (Ne.symm hij)]; exact hσ5
              obtain ⟨b, vs, rfl, hb, ib⟩ : ∃ b vs, x = .ref b ∧ G6 b = some (.tup vs) ∧ IsA G6 vs xs := by cases k6 with | tup h i => exact ⟨_, _, rfl, h, i⟩
              have hls : xs.length < as.length := by rw [S6.len]; exact (List.getElem?_eq_some_iff.mp f1).1
              have ea : as[xs.length]? = some as[xs.length] := List.getElem?_eq_getElem hls
              generalize as[xs.length] = a at ea
              obtain ⟨n1, n2, us, n3, n4⟩ := S6.it _ _ _ ea f1
              refine ⟨.ref D, hi', .ref b, hj, b, vs, rfl, .inr (SqT.of (x6.gh _ _ hb)), ?_⟩
              refine .inl ⟨D, as.map V.ref, (vs.length : Nat), .ref a, rfl, rfl, SqL.of S6.h, atI_nat (by rw [ib.length, List.getElem?_map, ea]; rfl), tyL n3, .ref b, hj, a, us, .ref b, rfl, rfl, n3, by rw [n4.length]; exact hl, ?_⟩
              have f7 : (ρ5.set j (.dat (.tuple xs))).all Sl.free = true := all_set f5 rfl
              exact ⟨rfl, hlt, G6, _, _, R7.putFree f7 n1 n2 (fun u hu => by rw [n3] at hu; cases hu; trivial), f7, by simp [l5], s5.trans x6.g, S6.app ea f1 n3 n4 k6, g5, hi'⟩
            · cases g5
          | .none, g5, _ | .bool _, g5, _ | .int _, g5, _ | .str _, g5, _ | .list _, g5, _ | .dict _, g5, _ => cases g5
        · have ei : k = ds2.length := by omega
          subst ei
          refine .inl ⟨w4.done _ G5 H5 s5 R5.PG (Nat.le_refl _), .ref D, hσ5, ?_⟩
          rw [List.drop_length] at g5
          cases g5
          obtain ⟨xx, qq, _⟩ := R5.ex.addL (D :: as) fun b hb => by
            rcases List.mem_cons.mp hb with rfl | hb
            · exact ⟨S5.nD, _, S5.h⟩
            · obtain ⟨t, ht⟩ := List.mem_iff_getElem?.mp hb
              have hlt' : t < fin.length := by rw [← S5.len]; exact (List.getElem?_eq_some_iff.mp ht).1
              obtain ⟨r1, _, vs, r3, _⟩ := S5.it t b _ ht (List.getElem?_eq_getElem hlt')
              exact ⟨r1, vs, r3⟩
          have sm : Same G5 (addT G5 H5 (D :: as)) := (R5.ex.addL (D :: as) fun b hb => by
            rcases List.mem_cons.mp hb with rfl | hb
            · exact ⟨S5.nD, _, S5.h⟩
            · obtain ⟨t, ht⟩ := List.mem_iff_getElem?.mp hb
              have hlt' : t < fin.length := by rw [← S5.len]; exact (List.getElem?_eq_some_iff.mp ht).1
              obtain ⟨r1, _, vs, r3, _⟩ := S5.it t b _ ht (List.getElem?_eq_getElem hlt')
              exact ⟨r1, vs, r3⟩).2.2
          refine q (.ref D) (addT G5 H5 (D :: as)) H5 xx R5.pot fun H0' => ?_
          refine .lst ((qq D List.mem_cons_self).trans S5.h) (isA_lists S5.len fun t b ys f1 f2 => ?_)
          obtain ⟨_, _, vs, r3, r4⟩ := S5.it t b ys f1 f2
          exact ⟨vs, (qq b (List.mem_cons_of_mem _ (List.mem_of_getElem? f1))).trans r3, r4.mono sm⟩
    · cases e
  · cases e
end Pd
end
section
set_option Elab.async false
set_option linter.all false
set_option maxRecDepth 100000
set_option maxHeartbeats 1000000
/-! Pd22: sum of lists; repr of a bool; powers; list.index. -/
namespace Pd
open PySem PySem.Spec PySem.Calls PySem.W PyProof.Rows L2
theorem args_sum2 (a b : Value) : argsOk "sum" ⟨[a, b], []⟩ := by unfold argsOk; kernel_rfl
abbrev LstAt (h : Heap) (a : Addr) (vs : List Value) : Prop := ∃ n, h.get? a = some { cls := .type "list", data := .seq vs.toArray n }
section
variable {prog : Program} {w : World} {A : Around} {E : Value → Shared → Prop} {s : Shared} {R : Result → Shared → Prop}
/-- the walk: T holds what is put together -/
theorem suml_loop (hh : A.handled = none) {I S l : Addr} {as : List Addr} {vss : List (List Value)} (hl : as.length = vss.length) (hIS : I ≠ S) (hlI : l ≠ I) (hlS : l ≠ S) (hIS2 : ∀ a ∈ as, a ≠ I ∧ a ≠ S) {h₀ : Heap}
    (hz : vss.flatten.length ≤ sizeLine) :
    ∀ (k i : Nat) (s : Shared) (T : Addr) (acc : List Value) (c : Nat) (fr : Bool), as.length - i = k → i ≤ as.length → s.heap.IsListIter I l i → s.heap.IsList l (as.map Value.ref).toArray →
      (∀ (j : Nat) (a : Addr) (vs : List Value), as[j]? = some a → vss[j]? = some vs → LstAt s.heap a vs) → s.heap.get? S = some { cls := .type "list", dict := none, data := .seq #[.ref T] c, slots := #[] } → LstAt s.heap T acc → T ≠ I → T ≠ S →
      acc = (vss.take i).flatten → (∀ b o, b ≠ I → b ≠ S → h₀.get? b = some o → s.heap.get? b = some o) → (fr = true → h₀.objs.size ≤ T) → (0 < i → fr = true) → h₀.objs.size ≤ s.heap.objs.size →
      (∀ s' T', (∀ b o, b ≠ I → b ≠ S → h₀.get? b = some o → s'.heap.get? b = some o) → s'.gens = s.gens → s'.os = s.os → s'.drawn = s.drawn → LstAt s'.heap T' vss.flatten → ((fr = true ∨ 0 < as.length) → h₀.objs.size ≤ T') → (T' = T ∨ h₀.objs.size ≤ T') → R (.ok (.ret (.ref T'))) s') →
      codeAny (model prog w) A (.builtin "sum.loop" ⟨[.ref I, .ref S, rawInt 2, rawInt 0], []⟩) R s := by
  intro k
  induction k with
  | zero =>
    intro i s T acc c fr hk hi hit hL hLs hS hT nTI nTS hacc hkeep hf hf2 hsz hR
    have hin : i = as.length := by omega
    subst hin
    refine codeAny_builtin F.entry_sum_loop ?_
    rw [Around.under_plainId F.plain_sum_loop _]
    show wpAny _ A.in1 (seqItems? (.ref S) >>= _) _ _ s
    refine wpAny_bind (wpAny_seqItems hS rfl ?_)
    show wpAny _ A.in1 (tryCatch (pyNext (.ref I)) _ >>= _) _ _ s
    refine wpAny_bind (wpAny_tryCatch (wpAny_pyNext_list_end (A := A.in1) hh hit hL (by simp) fun h' he => ?_))
    have hTn : ∃ o, s.heap.get? T = some o := let ⟨n, e⟩ := hT; ⟨_, e⟩
    refine wpAny_pure (hR _ T (fun b o h1 h2 e => he b o h1 (hkeep b o h1 h2 e)) rfl rfl rfl ?_ (fun z => ?_) (.inl rfl))
    · obtain ⟨n, e⟩ := hT
      refine ⟨n, ?_⟩
      have e2 : acc = vss.flatten := by rw [hacc, hl, List.take_length]
      rw [← e2]
      exact he T _ nTI e
    · rcases z with z | z
      · exact hf z
      · exact hf (hf2 z)
  | succ k ih =>
    intro i s T acc c fr hk hi hit hL hLs hS hT nTI nTS hacc hkeep hf hf2 hsz hR
    have hlt : i < as.length := by omega
    have ea : as[i]? = some as[i] := List.getElem?_eq_getElem hlt
    have ev : vss[i]? = some vss[i] := List.getElem?_eq_getElem (by omega)
    generalize as[i] = a at ea
    generalize hvs : vss[i] = vs at ev
    refine codeAny_builtin F.entry_sum_loop ?_
    rw [Around.under_plainId F.plain_sum_loop _]
    show wpAny _ A.in1 (seqItems? (.ref S) >>= _) _ _ s
    refine wpAny_bind (wpAny_seqItems hS rfl ?_)
    show wpAny _ A.in1 (tryCatch (pyNext (.ref I)) _ >>= _) _ _ s
    refine wpAny_bind (wpAny_tryCatch (wpAny_pyNext_list_item hit hL (x := .ref a) (by simp [ea]) fun h1 hit1 hs1 => ?_))
    have ham := List.mem_of_getElem? ea
    obtain ⟨naI, naS⟩ := hIS2 a ham
    obtain ⟨nT, eT⟩ := hT
    obtain ⟨na, eA⟩ := hLs i a vs ea ev
    have hS1 : h1.get? S = some _ := hs1.extBut S _ (Ne.symm hIS) hS
    have hT1 : h1.get? T = some _ := hs1.extBut T _ nTI eT
    have hA1 : h1.get? a = some _ := hs1.extBut a _ naI eA
    have ht1 : (vss.take (i + 1)).flatten = acc ++ vs := by
      rw [List.take_add_one, ev, List.flatten_append, hacc]
      simp
    have hlen : acc.length + vs.length ≤ sizeLine := by
      have h3 : (vss.take (i + 1)).flatten.length ≤ vss.flatten.length := by
        have e := congrArg List.flatten (List.take_append_drop (i + 1) vss)
        rw [List.flatten_append] at e
        rw [← e, List.length_append]
        omega
      rw [ht1, List.length_append] at h3
      omega
    show wpAny _ A.in1 ((holding [Value.ref a] (binaryOp .Add (.ref T) (.ref a))).attempt >>= _) _ _ _
    refine wpAny_bind (wpAny_attempt (wpAny_holding (PySem.P.add_list (s := { s with heap := h1 }) hT1 hA1 ?_ (by simpa using hlen))))
    have eap : acc.toArray ++ vs.toArray = (acc ++ vs).toArray := by simp
    rw [eap]
    have hn : ∀ b o, h1.get? b = some o → b ≠ h1.objs.size := fun b o e => Nat.ne_of_lt (Heap.lt_size e)
    have hS2 : (h1.push { cls := .type "list", data := .seq (acc ++ vs).toArray }).get? S = some _ := Heap.get?_push_of_some _ hS1
    have hN : (h1.push { cls := .type "list", data := .seq (acc ++ vs).toArray }).get? h1.objs.size = some { cls := .type "list", data := .seq (acc ++ vs).toArray } := Heap.get?_push_size _ rfl
    show wpAny _ A.in1 (updateSeq S (fun _ => #[Value.ref h1.objs.size]) >>= _) _ _ _
    refine wpAny_bind (wpAny_updateSeq hS2 rfl ?_)
    have hS3 := Heap.get?_update_self (Obj.mapSeq fun _ => #[Value.ref h1.objs.size]) hS2 rfl
    have up : ∀ b o, b ≠ S → (h1.push { cls := .type "list", data := .seq (acc ++ vs).toArray }).get? b = some o → ((h1.push { cls := .type "list", data := .seq (acc ++ vs).toArray }).update S (Obj.mapSeq fun _ => #[Value.ref h1.objs.size])).get? b = some o :=
      fun b o hb e => (Heap.get?_update_other _ _ (Ne.symm hb)).trans e
    refine wpAny_bind (wpAny_letGo ?_)
    show wpAny _ A.in1 (updateSeq S (fun _ => #[Value.ref h1.objs.size]) >>= _) _ _ _
    refine wpAny_bind (wpAny_updateSeq hS3 rfl ?_)
    have hS4 := Heap.get?_update_self (Obj.mapSeq fun _ => #[Value.ref h1.objs.size]) hS3 rfl
    have up2 : ∀ b o, b ≠ S → h1.get? b = some o → ((((h1.push { cls := .type "list", data := .seq (acc ++ vs).toArray }).update S (Obj.mapSeq fun _ => #[Value.ref h1.objs.size]))).update S (Obj.mapSeq fun _ => #[Value.ref h1.objs.size])).get? b = some o :=
      fun b o hb e => (Heap.get?_update_other _ _ (Ne.symm hb)).trans (up b o hb (Heap.get?_push_of_some _ e))
    have nSn : h1.objs.size ≠ S := Ne.symm (hn S _ hS1)
    have hN2 : ((((h1.push { cls := .type "list", data := .seq (acc ++ vs).toArray }).update S (Obj.mapSeq fun _ => #[Value.ref h1.objs.size]))).update S (Obj.mapSeq fun _ => #[Value.ref h1.objs.size])).get? h1.objs.size = some _ :=
      (Heap.get?_update_other _ _ (Ne.symm nSn)).trans (up _ _ nSn hN)
    have hI1 : ∃ o, h1.get? I = some o := let ⟨o, e, _⟩ := hit1; ⟨o, e⟩
    have hge : h₀.objs.size ≤ h1.objs.size := by rw [hs1.1]; exact hsz
    refine wpAny_pure ⟨plainId_quiet F.plain_sum_loop _, ih (i + 1) _ h1.objs.size (acc ++ vs) _ true (by omega) hlt (hit1.at fun o e => up2 I o hIS e) ((hL.at fun o e => hs1.extBut l o hlI e).at fun o e => up2 l o hlS e) (fun j b us e1 e2 => ?_) hS4 ⟨_, hN2⟩ ?_ nSn ht1.symm
      (fun b o q1 q2 e => up2 b o q2 (hs1.extBut b o q1 (hkeep b o q1 q2 e))) (fun _ => hge) (fun _ => rfl) ?_ fun s' T' k1 k2 k3 k4 k5 k6 k7 => ?_⟩
    · obtain ⟨n, e⟩ := hLs j b us e1 e2
      obtain ⟨nbI, nbS⟩ := hIS2 b (List.mem_of_getElem? e1)
      exact ⟨n, up2 b _ nbS (hs1.extBut b _ nbI e)⟩
    · obtain ⟨o, e⟩ := hI1
      exact Ne.symm (hn I o e)
    · exact Nat.le_trans hge (Nat.le_of_lt (Heap.lt_size hN2))
    · exact hR s' T' k1 k2 k3 k4 k5 (fun _ => k6 (.inl rfl)) (.inr (k6 (.inl rfl)))
/-- sum(l, []) of a list of lists -/
theorem suml_call (hh : A.handled = none) {l t : Addr} {as : List Addr} {vss : List (List Value)} {Q : Value → Shared → Prop} (hl : as.length = vss.length) (hL : s.heap.IsList l (as.map Value.ref).toArray)
    (hLs : ∀ (j : Nat) (a : Addr) (vs : List Value), as[j]? = some a → vss[j]? = some vs → LstAt s.heap a vs) (ht : LstAt s.heap t []) (hz : vss.flatten.length ≤ sizeLine)
    (h : ∀ s' T', (∀ b o, s.heap.get? b = some o → s'.heap.get? b = some o) → s'.gens = s.gens → s'.os = s.os → s'.drawn = s.drawn → LstAt s'.heap T' vss.flatten → (T' = t ∧ as = [] ∨ s.heap.objs.size ≤ T') → Q (.ref T') s') :
    wpAny (model prog w) A (call (.builtin "sum") [.ref l, .ref t]) Q E s := by
  refine call_function_tree F.kind_sum F.plain_sum F.entry_sum (args_sum2 _ _) ?_
  unfold Builtin.«sum»
  simp only [List.length_cons, List.length_nil]
  rw [if_neg (by decide)]
  refine wpAny_bind (wpAny_of_eq (show Builtin.Builtins.bindParams "sum" ["start"] 0 { pos := [Value.ref t] } = pure [some (.ref t)] from rfl) ?_)
  refine wpAny_bind (wpAny_pyIter_list hL ?_)
  refine wpAny_bind (wpAny_pure ?_)
  have k1 : ∀ b o, s.heap.get? b = some o → (s.heap.push { cls := .type "list_iterator", data := .fields #[.ref l, .int 0 0] }).get? b = some o := fun b o e => Heap.get?_push_of_some _ e
  obtain ⟨nt, et⟩ := ht
  have tT : Shared.TypeIs { s with heap := s.heap.push { cls := .type "list_iterator", data := .fields #[.ref l, .int 0 0] } } (.ref t) "list" := ⟨_, k1 _ _ et, rfl⟩
  simp only [List.forIn_cons, List.forIn_nil]
  refine wpAny_bind (wpAny_bind (wpAny_bind (wpAny_isInstance (b := false) tT PySem.F.sub_list_str ?_)))
  simp only [Bool.false_eq_true, if_false]
  refine wpAny_pure (wpAny_bind (wpAny_bind (wpAny_isInstance (b := false) tT PySem.F.sub_list_bytes ?_)))
  simp only [Bool.false_eq_true, if_false]
  refine wpAny_pure (wpAny_bind (wpAny_bind (wpAny_isInstance (b := false) tT PySem.F.sub_list_bytearray ?_)))
  simp only [Bool.false_eq_true, if_false]
  refine wpAny_pure (wpAny_pure ?_)
  refine wpAny_bind (wpAny_newObj_type ?_)
  have z1 : (s.heap.push { cls := .type "list_iterator", data := .fields #[.ref l, .int 0 0] }).objs.size = s.heap.objs.size + 1 := Heap.size_push ..
  generalize hp1 : s.heap.push { cls := .type "list_iterator", data := .fields #[.ref l, .int 0 0] } = h1 at k1 z1 ⊢
  have hI : h1.get? s.heap.objs.size = some { cls := .type "list_iterator", data := .fields #[.ref l, .int 0 0] } := by rw [← hp1]; exact Heap.get?_push_size _ rfl
  generalize hp2 : h1.push { cls := .type "list", data := .seq [Value.ref t].toArray } = h2
  have k2 : ∀ b o, h1.get? b = some o → h2.get? b = some o := fun b o e => by rw [← hp2]; exact Heap.get?_push_of_some _ e
  have hS : h2.get? h1.objs.size = some { cls := .type "list", data := .seq #[.ref t] } := by rw [← hp2]; exact Heap.get?_push_size _ rfl
  have lt : ∀ b o, s.heap.get? b = some o → b ≠ s.heap.objs.size ∧ b ≠ h1.objs.size := fun b o e => ⟨Nat.ne_of_lt (Heap.lt_size e), Nat.ne_of_lt (Heap.lt_size (k1 b o e))⟩
  have kk : ∀ b o, s.heap.get? b = some o → h2.get? b = some o := fun b o e => k2 b o (k1 b o e)
  have hle : s.heap.objs.size ≤ h2.objs.size := by rw [← hp2, Heap.size_push, z1]; exact Nat.le_trans (Nat.le_succ _) (Nat.le_succ _)
  obtain ⟨ol, hol, rl⟩ := id hL
  refine wpAny_pure ⟨plainId_quiet F.plain_sum_loop _, suml_loop (s := { s with heap := h2 }) (A := A) hh (I := s.heap.objs.size) (S := h1.objs.size) (l := l) (h₀ := s.heap) hl (by rw [z1]; exact Nat.ne_of_lt (Nat.lt_succ_self _)) (lt l ol hol).1 (lt l ol hol).2 (fun a ha => ?_) hz as.length 0 t [] 0 false (by simp) (Nat.zero_le _)
    ⟨_, k2 _ _ hI, rfl, rfl⟩ (hL.at fun o e => kk l o e) (fun j a vs e1 e2 => ?_) hS ⟨nt, kk _ _ et⟩ (lt t _ et).1 (lt t _ et).2 (by simp) (fun b o _ _ e => kk b o e) (fun z => nomatch z) (fun z => absurd z (Nat.lt_irrefl 0)) hle fun s' T' q1 q2 q3 q4 q5 q6 q7 => ?_⟩
  · obtain ⟨j, hj⟩ := List.mem_iff_getElem?.mp ha
    have hj2 : j < vss.length := by rw [← hl]; exact (List.getElem?_eq_some_iff.mp hj).1
    obtain ⟨n, e⟩ := hLs j a _ hj (List.getElem?_eq_getElem hj2)
    exact lt a _ e
  · obtain ⟨n, e⟩ := hLs j a vs e1 e2
    exact ⟨n, kk _ _ e⟩
  · refine h s' T' (fun b o e => q1 b o (lt b o e).1 (lt b o e).2 e) q2 q3 q4 q5 ?_
    by_cases h0 : 0 < as.length
    · exact .inr (q6 (.inr h0))
    · rcases q7 with rfl | q7
      · exact .inl ⟨rfl, List.length_eq_zero_iff.mp (by omega)⟩
      · exact .inr q7
end
end Pd
namespace Pd
open PySem PySem.Spec PySem.Calls PySem.W PyProof.Rows L2
section
variable {X : Cx}
/-- sum(l, []) -/
def rSumL (K : PySem.W.Frag) : List V → Hp → VK → Prop := fun xs H Q => ∃ (a b : Addr) (as : List Addr) (vss : List (List V)), xs = [V.ref a, .ref b] ∧ SqL K H a (as.map V.ref) ∧ H b = some (.lst []) ∧ as.length = vss.length ∧ as ≠ [] ∧ vss.flatten.length ≤ sizeLine ∧
  (∀ (j : Nat) (c : Addr) (vs : List V), as[j]? = some c → vss[j]? = some vs → H c = some (.lst vs)) ∧ ∀ q, H q = none → Q (.ref q) (upd H q (.lst vss.flatten))
theorem lists_at {pins : List (Addr × Obj)} {σ : L2.St} {H : Hp} {s : Shared} (I : Inv X pins σ H s) : ∀ (as : List Addr) (vss : List (List V)), as.length = vss.length → (∀ (j : Nat) (c : Addr) (vs : List V), as[j]? = some c → vss[j]? = some vs → H c = some (.lst vs)) →
    ∃ uss : List (List Value), uss.length = vss.length ∧ Vals vss.flatten uss.flatten ∧ ∀ (j : Nat) (c : Addr) (us : List Value), as[j]? = some c → uss[j]? = some us → LstAt s.heap c us
  | [], [], _, _ => ⟨[], rfl, .nil, fun j c us e => by simp at e⟩
  | a :: as, vs :: vss, hl, h => by
    obtain ⟨uss, h1, h2, h3⟩ := lists_at I as vss (by simpa using hl) fun j c us e1 e2 => h (j + 1) c us (by simpa using e1) (by simpa using e2)
    obtain ⟨z, its, n, r, e⟩ := (show ObjOk X.prog X.w H s.heap a (.lst vs) from I.hok a _ (h 0 a vs rfl rfl))
    refine ⟨its :: uss, by simp [h1], r.append h2, fun j c us e1 e2 => ?_⟩
    cases j with
    | zero =>
      simp at e1 e2
      subst e1 e2
      exact ⟨n, e⟩
    | succ j => exact h3 j c us (by simpa using e1) (by simpa using e2)
theorem cr_sumL (hc : X.calm = true) : CallR X (.builtin "sum") (rSumL X.K) := by
  intro pins s σ H xs us Q I r h
  obtain ⟨a, b, as, vss, rfl, ha, hb, hl, hne, hz, hls, q⟩ := h
  obtain ⟨u1, u2, rfl, r1, r2⟩ := vals2 r
  cases (show u1 = Value.ref a from r1)
  cases (show u2 = Value.ref b from r2)
  obtain ⟨its, rv, pl, _⟩ := I.list ha
  have ei := refs_at rv
  subst ei
  obtain ⟨uss, k1, k2, k3⟩ := lists_at I as vss hl hls
  obtain ⟨z, its, n, rr, eb⟩ := (show ObjOk X.prog X.w H s.heap b (.lst []) from I.hok b _ hb)
  cases rr
  have k4 := k2.length
  refine suml_call (I.ok.hd hc) (vss := uss) (by rw [k1]; exact hl) pl.isList k3 ⟨n, eb⟩ (by rw [← k4]; exact hz) fun s' T' g1 g2 g3 g4 g5 g6 => ?_
  rcases g6 with ⟨_, z⟩ | g6
  · exact absurd z hne
  · obtain ⟨m, e⟩ := g5
    have hsz : s.heap.objs.size ≤ s'.heap.objs.size := Nat.le_trans g6 (Nat.le_of_lt (Heap.lt_size e))
    exact ⟨.ref T', _, inv_growL (o := .lst vss.flatten) I g1 g2 g3 g6 ⟨hz, _, m, k2, e⟩, rfl, q _ (I.hok.fresh g6)⟩
end
section
variable [TB]
def lsO? : D → Option (List D)
  | .list xs => some xs
  | _ => none
def fSumL : Rv → Rv → Option Rv := fun a b => (a.ls?).bind fun l => (mapO lsO? l).bind fun xss => match b with
  | .lst [] => if xss ≠ [] ∧ xss.flatten.length ≤ sizeLine then some (.lst xss.flatten) else none
  | _ => none
theorem isA_lsO {G : Hp} : ∀ {vs : List V} {l : List D} {xss : List (List D)}, IsA G vs l → mapO lsO? l = some xss → ∃ (as : List Addr) (vss : List (List V)), vs = as.map V.ref ∧ as.length = xss.length ∧ as.length = vss.length ∧ IsA G vss.flatten xss.flatten ∧
    ∀ (j : Nat) (c : Addr) (vs : List V), as[j]? = some c → vss[j]? = some vs → G c = some (.lst vs)
  | _, [], xss, .nil, e => by cases e; exact ⟨[], [], rfl, rfl, rfl, .nil, fun j c vs e => by simp at e⟩
  | _, d :: l, xss, .cons h t, e => by
    obtain ⟨xs, e1, e⟩ := bnd e
    obtain ⟨rest, e2, rfl⟩ := mpd e
    obtain ⟨as, vss, rfl, h1, h2, h3, h4⟩ := isA_lsO t e2
    cases h with
    | @lst a ws _ hg i =>
      cases e1
      refine ⟨a :: as, ws :: vss, rfl, by simp [h1], by simp [h2], i.append h3, fun j c us f1 f2 => ?_⟩
      cases j with
      | zero => simp at f1 f2; subst f1 f2; exact hg
      | succ j => exact h4 j c us (by simpa using f1) (by simpa using f2)
    | _ => cases e1
theorem dc_sumL {K : PySem.W.Frag} : DC (rSumL K) (f2 fSumL) := by
  intro pa G H xs as z Q P k e q
  match as, k, e with
  | [a, b], k, e =>
    obtain ⟨v, u, rfl, kv, ku⟩ := k.two
    obtain ⟨l, e1, e⟩ := bnd (show (a.ls?).bind _ = some z from e)
    obtain ⟨xss, e2, e⟩ := bnd e
    match b, ku, e with
    | .lst [], ku, e =>
      simp only at e
      split at e
      · rename_i hz
        cases e
        obtain ⟨p, vs, rfl, _, h, i⟩ := kv.ls P e1
        obtain ⟨as, vss, rfl, h1, h2, h3, h4⟩ := isA_lsO i e2
        obtain ⟨b', ws, rfl, _, hb, ib⟩ := ku
        cases ib
        refine ⟨p, b', as, vss, rfl, SqL.of h, hb, h2, fun z => hz.1 (List.length_eq_zero_iff.mp (by rw [← h1, z]; rfl)), by rw [h3.length]; exact hz.2, fun j c ws f1 f2 => P.gh _ _ (h4 j c ws f1 f2), fun n hn => ?_⟩
        exact q _ _ _ (Ext.own P.gh hn) fun _ => ⟨n, _, rfl, Nw.of hn, free_G P.gh hn, upd_same, h3⟩
      · cases e
/-! ### repr of a bool -/
def rReprB : List V → Hp → VK → Prop := fun xs H Q => ∃ b : Bool, xs = [.bl b] ∧ Q (.str (if b then "True" else "False")) H
omit [TB] in
theorem call_reprB {X : Cx} : CallR X (.builtin "repr") rReprB := by
  intro pins s σ H xs us Q I r h
  obtain ⟨b, rfl, q⟩ := h
  obtain ⟨u, rfl, rx⟩ := vals1 r
  cases (show u = Value.bool b from rx)
  exact PySem.P.repr_of_bool ⟨.str _, H, I.tok _, ⟨_, rfl⟩, q⟩
def fReprB : Rv → Option Rv := fun a => (a.bool?).map fun b => .dat (.str (if b then "True" else "False"))
theorem dc_reprB : DC rReprB (f1 fReprB) := by
  intro pa G H xs as z Q P k e q
  match as, k, e with
  | [a], k, e =>
    obtain ⟨v, rfl, kv⟩ := k.one
    obtain ⟨b, e1, e⟩ := mpd (show (a.bool?).map _ = some z from e)
    cases e
    have hv := kv.bool e1
    subst hv
    exact ⟨b, rfl, OK0.mk P.gh q (.str _)⟩
/-! ### powers -/
def CPowW (i j : Int) : Prop := 0 ≤ j ∧ (Builtin.Int.intBits i : Int) * j ≤ 2 ^ 27
omit [TB] in
theorem op_powW {X : Cx} : OpR X (binaryOp .Pow) (rI CPowW fun i j => .int (i ^ j.toNat)) := opI fun _ _ _ _ _ _ _ hc q => pow_int hc.1 hc.2 q
def cPowW (i j : Int) : Bool := decide (0 ≤ j) && decide ((Builtin.Int.intBits i : Int) * j ≤ 2 ^ 27)
theorem dr_powW : DR (rI CPowW fun i j => .int (i ^ j.toNat)) (fIc cPowW fun i j => i ^ j.toNat) := dr_Ic fun i j h => by
  unfold cPowW at h
  rw [Bool.and_eq_true] at h
  exact ⟨of_decide_eq_true h.1, of_decide_eq_true h.2⟩
/-! ### list.index -/
/-- the place of the first that is alike -/
def ixOf (x : D) : List D → Option Nat
  | [] => none
  | y :: r => if PyData.eqv y x = true then some 0 else (ixOf x r).map (· + 1)
theorem ixOf_spec {x : D} : ∀ {l : List D} {j : Nat}, ixOf x l = some j → ∃ z, l[j]? = some z ∧ PyData.eqv z x = true ∧ ∀ (m : Nat) (z' : D), m < j → l[m]? = some z' → PyData.eqv z' x = false
  | [], j, h => by cases h
  | y :: r, j, h => by
    unfold ixOf at h
    split at h
    · rename_i c
      cases h
      exact ⟨y, rfl, c, fun m z' hm => absurd hm (Nat.not_lt_zero _)⟩
    · rename_i c
      obtain ⟨i, e, rfl⟩ := mpd h
      obtain ⟨z, h1, h2, h3⟩ := ixOf_spec e
      refine ⟨z, by simpa using h1, h2, fun m z' hm hz => ?_⟩
      cases m with
      | zero => simp at hz; subst hz; exact Bool.eq_false_iff.mpr c
      | succ m => exact h3 m z' (by omega) (by simpa using hz)
def fIndex : Rv → Rv → Option Rv := fun a b => (a.ls?).bind fun l => (b.pd?).bind fun x => if SeqAt.shaped (.list l) = true ∧ SeqAt.shaped x = true then (ixOf x l).map fun j => .dat (.int (j : Nat)) else none
theorem de_index {K : PySem.W.Frag} {ta tb : TE} {ma mb : MV} (ha : DE ta ma) (hb : DE tb mb) : DE (tBM K "list" (rIndexD K) ta (tCons tb tNil)) (mOp fIndex ma mb) := by
  intro G0 H0 pa G H σ ρ pt z pt' Q R e q
  obtain ⟨⟨a, p1⟩, e1, e⟩ := bnd e
  obtain ⟨⟨b, p2⟩, e2, e⟩ := bnd e
  obtain ⟨c, e3, e⟩ := mpd e
  cases e
  obtain ⟨l, e4, e3⟩ := bnd e3
  obtain ⟨x, e5, e3⟩ := bnd e3
  split at e3
  · rename_i hsh
    obtain ⟨j, e6, rfl⟩ := mpd e3
    refine ha R e1 fun v G1 H1 x1 q1 k1 => ?_
    have R1 := R.ext x1 q1
    have kv := Res.vw R k1
    obtain ⟨a', vs, rfl, na, hla, ia⟩ := kv.ls R1.PG e4
    refine ⟨tyL hla, hb R1 e2 fun w G2 H2 x2 q2 k2 => ?_⟩
    have R2 := R1.ext x2 q2
    obtain ⟨z', h1, h2, h3⟩ := ixOf_spec e6
    have hl2 : H2 a' = some (.lst vs) := x2.hv a' _ hla na
    have dl : Dp K H2 (.ref a') (.list l) := .lst (SqL.of hl2) (((ia.mono x2.g).mono R2.PG.gh).dp (by simpa only [PyData.canLay0] using SeqAt.canLay_of_shaped hsh.1))
    exact ⟨a', w, x, l, j, z', rfl, rfl, dl, (Res.vw R1 k2).dp R2.PG e5 hsh.2, hsh.1, hsh.2, h1, h2, h3, q _ _ _ (x1.trans x2) q2 (.int _)⟩
  · cases e3
end
end Pd
end
section
set_option Elab.async false
set_option linter.all false
set_option maxRecDepth 100000
set_option maxHeartbeats 1000000
/-! Pd23: what the printed derivations lean on. -/
namespace Pd
open PySem PySem.Spec PySem.W L2 RZ
/-- built-ins that the module's globals don't hide -/
structure Bn (mg : Str → Option Value) : Prop where
  isinstance_ : mg "isinstance" = none
  len_ : mg "len" = none
  all_ : mg "all" = none
  any_ : mg "any" = none
  sum_ : mg "sum" = none
  max_ : mg "max" = none
  min_ : mg "min" = none
  abs_ : mg "abs" = none
  int_ : mg "int" = none
  bool_ : mg "bool" = none
  list_ : mg "list" = none
  tuple_ : mg "tuple" = none
  sorted_ : mg "sorted" = none
  repr_ : mg "repr" = none
  set_ : mg "set" = none
  dict_ : mg "dict" = none
  range_ : mg "range" = none
  enumerate_ : mg "enumerate" = none
  zip_ : mg "zip" = none
variable [TB]
def mYes : MT := fun _ pt => some (true, pt)
def bFrz (i : Nat) (m : MB) : MB := fun ρ pt => m (frz i ρ) pt
theorem db_frzB (i : Nat) {t : TS} {m : MB} (h : DB t m) : DB t (bFrz i m) := db_frz i h
def mZipA (mw : MW) : ML := fun ρ pt => match mZip mw ρ pt with
  | some r => some r
  | none => mZipT mw ρ pt
theorem di_zipA {K : PySem.W.Frag} {ta : TA} {mw : MW} (h : DW ta mw) : DI (iZipA K ta) (mZipA mw) := by
  intro G0 H0 pa G H σ ρ pt ds pt' Q R e q
  unfold mZipA at e
  cases e1 : mZip mw ρ pt with
  | some r => rw [e1] at e; cases e; exact di_zip h R e1 q
  | none => rw [e1] at e; exact di_zipT h R e q
/-- a def with the pot, called with a new list in the pot's place -/
def mCallPN (g : List D → List Int → Option (Rv × List Int)) (me : MV) : MV := fun ρ pt => (me ρ pt).bind fun x => match x.1 with
  | .lst xs => (intsA? xs).bind fun ns => (g [] ns).map fun r => (r.1, x.2)
  | _ => none
theorem Ext.fresh {pa : Mu} {G H G1 H1 G2 H2 : Hp} {p : Addr} (hp : pa.st = false) (x : Ext pa G H G1 H1) (n : Nw H p) (y : Ext (muP p) G1 H1 G2 H2) : Ext pa G H G2 H2 := by
  have ne : ∀ b o, H b = some o → NTb o → b ≠ p := fun b o e k z => by subst z; exact n o e k
  refine ⟨x.g.trans y.g, y.gh, fun b o e f => ?_, fun b o e => ?_, fun b o e k => ?_, fun b e => x.pn b (y.pn b e), fun t => y.nt (x.nt t), fun t => y.tb (x.tb t)⟩
  · have nt : NTb o := f.2.elim (fun z => by rw [hp] at z; cases z) id
    exact y.h b o (x.h b o e f) ⟨fun z => ne b o e nt (Option.some.inj z).symm, .inr nt⟩
  · rcases y.f b o e with q | q
    · exact x.f b o q
    · exact .inr fun u eu pu => by
        obtain ⟨w, e1, e2⟩ := x.pl b u eu pu
        exact q w e1 e2
  · obtain ⟨w, e1, e2⟩ := x.pl b o e k
    exact y.pl b w e1 e2
theorem de_callPN {g : List D → List Int → Option (Rv × List Int)} {te : TE} {me : MV} {E : XK} (h : DE te me) : DE (tCall (spP g) [] E (tCons te tNil)) (mCallPN g me) := by
  intro G0 H0 pa G H σ ρ pt z pt' Q R e q
  obtain ⟨⟨r, p1⟩, e1, e⟩ := bnd e
  match r, e with
  | .lst xs, e =>
    obtain ⟨ns, e2, e⟩ := bnd (show (intsA? xs).bind _ = some (z, pt') from e)
    obtain ⟨⟨r2, p2⟩, e3, e⟩ := mpd e
    cases e
    refine h R e1 fun v G1 H1 x1 q1 k1 => ?_
    obtain ⟨a, vs, rfl, nw, ga, ha, i⟩ := k1
    have R1 := R.ext x1 q1
    obtain rfl := intsA_eq e2
    rw [i.ints] at ha
    refine ⟨G1, a, [], ns, [], r2, p2, by simp, e3, R1.gs, ga, ha, .nil, fun v G2 H2 x2 q2 k2 => ?_⟩
    refine q v G2 H2 (x1.fresh R.ns nw x2) (fun p' e' => ?_) ((k2 H0).back fun b hb => x1.pn b hb)
    have np : a ≠ p' := fun z => by
      subst z
      exact (R1.potH e') (fun o eo k => by
        rw [ha] at eo; cases eo
        exact R.potH e' nw)
    exact x2.hv p' _ (q1 p' e') (fun z => np (Option.some.inj z))
/-! ### a def with a lambda: its code object -/
def HasL (K : PySem.W.Frag) (mg : Str → Option Value) (x : Str) (st : Stmt) (c : Addr) : Prop :=
  ∃ (f : Addr) (oc : Value) (od : Option Addr) (dV kV doc pm : Value) (an : Option Addr) (ct : Value) (osl : Array (Option Value)), K.lookup f = some ⟨oc, od, .func (PySem.W.fnOf x x (defArgs st) (defBody st) (defScope st) dV kV doc pm an (.ref c) ct), osl⟩ ∧
    PySem.W.codeIn K (.ref c) x = true ∧ DflV K dV [] ∧ KwdV K kV [] ∧ PySem.W.keepIn K (.ref f) = true ∧ mg x = some (.ref f)
section
variable {P : Program} {w : World} {K : PySem.W.Frag} {mg : Str → Option Value} {base : Heap}
theorem knFL {x : Str} {st : Stmt} {c : Addr} {N ps : List Str} {k : Nat} {g : List D → Option Rv} {mb : MB} (h : HasL K mg x st c) (S : FnScope N ps (defScope st)) (hb : BindH x st ps)
    (hbody : ∀ (f : Addr) (A : Around) (outer : List Env) (s : Shared) (H : Hp) (E : XK), Room k (A.deeper (PyProof.Rows.envOfC x (defScope st) s.heap.objs.size f (.ref c))) → ∃ t, PSs (cxOf CX0 P w K mg base N x (defScope st) f (.ref c) A outer s H E).nox (defBody st) t ∧ DB t mb)
    (hg : ∀ ds r, g ds = some r → ds.length = ps.length ∧ ∃ o pt', mb (startR N ds) [] = some o ∧ o.back = some (r, pt')) : Kn P w K mg base (k + 1) x ps (spF g) := by
  obtain ⟨f, oc, od, dV, kV, doc, pm, an, ct, osl, lk, hcd, hd, hk, kp, hm⟩ := h
  have F : FunD K x x (defArgs st) (defBody st) (defScope st) [] [] f _ := ⟨⟨oc, od, dV, kV, doc, pm, an, .ref c, ct, osl, rfl, lk, hcd, hd, hk⟩, kp⟩
  refine ⟨f, _, fn_of lk hcd S (fun vs H Q E h => ?_) fun A outer s H vs Q E hr h => ?_, hm, F.kp, F.bindsN hb⟩
  · obtain ⟨G, ds, r, e, _, k, _⟩ := h
    rw [k.length]
    exact (hg ds r e).1
  · obtain ⟨G, ds, r, e, sG, k, q⟩ := h
    obtain ⟨t, ps', db⟩ := hbody f A outer s H E hr
    obtain ⟨_, o, pt', e1, e2⟩ := hg ds r e
    refine ⟨t, ps'.nox, db (Rep.start N sG k) e1 ?_⟩
    cases o with
    | rt r' p => cases e2; exact fun v G' H' x _ k' => q v G' H' x k'
    | nx ρ p => cases e2; exact fun σ' G' H' R' _ => q .non G' H' R'.ex fun _ => .non
    | bk ρ p => cases e2
    | ct ρ p => cases e2
end
/-- a def by its meaning -/
def gOf (n : Nat) (N : List Str) (mb : MB) : List D → Option Rv := fun ds => if ds.length = n then (mb (startR N ds) []).bind fun o => o.back.map (·.1) else none
theorem gOf_ok {n : Nat} {N : List Str} {mb : MB} : ∀ ds r, gOf n N mb ds = some r → ds.length = n ∧ ∃ o pt', mb (startR N ds) [] = some o ∧ o.back = some (r, pt') := fun ds r h => by
  unfold gOf at h
  split at h
  · rename_i hn
    obtain ⟨o, e1, h⟩ := bnd h
    obtain ⟨⟨r', p⟩, e2, rfl⟩ := mpd h
    exact ⟨hn, o, p, e1, e2⟩
  · cases h
/-- .. with the pot: n parameters behind it -/
def gOfP (n : Nat) (N : List Str) (mb : MB) : List D → List Int → Option (Rv × List Int) := fun ds pt => if ds.length + 1 = n then (mb (startP N ds) pt).bind Out.back else none
theorem gOfP_ok {n : Nat} {N : List Str} {mb : MB} : ∀ ds pt r pt', gOfP n N mb ds pt = some (r, pt') → ds.length + 1 = n ∧ ∃ o, mb (startP N ds) pt = some o ∧ o.back = some (r, pt') := fun ds pt r pt' h => by
  unfold gOfP at h
  split at h
  · rename_i hn
    obtain ⟨o, e1, h⟩ := bnd h
    exact ⟨hn, o, e1, h⟩
  · cases h
end Pd
end
section
set_option Elab.async false
set_option linter.all false
set_option maxRecDepth 100000
set_option autoImplicit true
set_option relaxedAutoImplicit true
/-! Pd24: the rules in structures. -/
namespace Pd
open PySem PySem.Spec PySem.W L2 RZ
variable [TB] {mt mu : MT} {tt tu : TT} {m n : MB}
structure SE (t : TE) (m : MV) : Prop where
  d : DE t m
structure ST (t : TT) (m : MT) : Prop where
  d : DT t m
structure SA (t : TA) (m : MA) : Prop where
  d : DA t m
structure SW (t : TA) (m : MW) : Prop where
  d : DW t m
structure SI (t : TI) (m : ML) : Prop where
  d : DI t m
structure SIF (t : TI) (m : ML) : Prop where
  d : DIF t m
structure SB (t : TS) (m : MB) : Prop where
  d : DB t m
structure SG (t : TG) (m : MG) : Prop where
  d : DG t m
structure SC (t : List V → Hp → VK → Prop) (m : List Rv → Option Rv) : Prop where
  d : DC t m
structure SR (t : R2) (m : Rv → Rv → Option Rv) : Prop where
  d : DR t m
structure SU (t : V → Hp → VK → Prop) (m : Rv → Option Rv) : Prop where
  d : DU t m
structure SGv (t : TG) (vs : List Nat) (m : MG) : Prop where
  d : DGv t vs m
structure SO (t : TO) (m : List Sl → List Int → Option (Option Int × List Int)) : Prop where
  d : DO t m
structure SRg (t : L2.St → Hp → (Int → Int → Hp → Prop) → Prop) (m : List Sl → List Int → Option ((Int × Int) × List Int)) : Prop where
  d : DRg t m
theorem SIF.i {wi : TI} {mm : ML} (h : SIF wi mm) : SI wi mm := ⟨DIF.i h.d⟩
theorem SGv.g {gg : TG} {vs : List Nat} {mm : MG} (h : SGv gg vs mm) : SG gg mm := ⟨DGv.g h.d⟩
theorem sde_var {i : Nat} : SE (tVar i) (mVar i) := ⟨de_var ⟩
theorem sde_c {v : V} {d : D} (h : ∀ G : Hp, Is G v d) : SE (tC v) (mC d) := ⟨de_c h⟩
theorem sde_int {i : Int} : SE (tC (.int i)) (mC (.int i)) := ⟨de_int ⟩
theorem sde_bl {b : Bool} : SE (tC (.bl b)) (mC (.bool b)) := ⟨de_bl ⟩
theorem sde_non  : SE (tC .non) (mC .none) := ⟨de_non ⟩
theorem sde_str {x : Str} : SE (tC (.str x)) (mC (.str x)) := ⟨de_str ⟩
theorem sde_op {r : R2} {f : Rv → Rv → Option Rv} (hr : SR r f) (ha : SE ta ma) (hb : SE tb mb) : SE (tOp r ta tb) (mOp f ma mb) := ⟨de_op hr.d ha.d hb.d⟩
theorem sde_un {r : V → Hp → VK → Prop} {f : Rv → Option Rv} (hr : SU r f) (ha : SE ta ma) : SE (tUn r ta) (mUn f ma) := ⟨de_un hr.d ha.d⟩
theorem sdw_nil  : SW tNil wNil := ⟨dw_nil ⟩
theorem sdw_cons (ha : SE te me) (hr : SW tl mw) : SW (tCons te tl) (wCons me mw) := ⟨dw_cons ha.d hr.d⟩
theorem sde_cb {r : List V → Hp → VK → Prop} {f : List Rv → Option Rv} (hr : SC r f) (ha : SW tl mw) : SE (tCB r tl) (mCB f mw) := ⟨de_cb hr.d ha.d⟩
theorem sda_nil  : SA tNil mNil := ⟨da_nil ⟩
theorem sda_cons (ha : SE te me) (hr : SA tl ml) : SA (tCons te tl) (mCons me ml) := ⟨da_cons ha.d hr.d⟩
theorem sde_tup (ha : SA tl ml) : SE (tTup tl) (mTup ml) := ⟨de_tup ha.d⟩
theorem sde_lst (ha : SA tl ml) : SE (tLst tl) (mLst ml) := ⟨de_lst ha.d⟩
theorem sde_dic  : SE tDNewT mDic := ⟨de_dic ⟩
theorem sdt_val (h : SE te me) : ST (tTest te) (mVal me) := ⟨dt_val h.d⟩
theorem sdt_B (h : SE te me) : ST (tB te) (mVal me) := ⟨dt_B h.d⟩
theorem sdt_and (h : ST tt mt) (k : ST tu mu) : ST (tAnd tt tu) (mAnd mt mu) := ⟨dt_and h.d k.d⟩
theorem sdt_or (h : ST tt mt) (k : ST tu mu) : ST (tOr tt tu) (mOr mt mu) := ⟨dt_or h.d k.d⟩
theorem sdt_not (h : ST tt mt) : ST (tNot tt) (mNot mt) := ⟨dt_not h.d⟩
theorem sdt_yes  : ST tYes fun _ pt => some (true, pt) := ⟨dt_yes ⟩
theorem sde_and (h : SE ta ma) (k : SE tb mb) : SE (tAndV ta tb) (mAndV ma mb) := ⟨de_and h.d k.d⟩
theorem sde_or (h : SE ta ma) (k : SE tb mb) : SE (tOrV ta tb) (mOrV ma mb) := ⟨de_or h.d k.d⟩
theorem sde_not (h : SE ta ma) : SE (tNotV ta) (mNotV ma) := ⟨de_not h.d⟩
theorem sde_if (h : ST tt mt) (ha : SE ta ma) (hb : SE tb mb) : SE (tIf tt ta tb) (mIfE mt ma mb) := ⟨de_if h.d ha.d hb.d⟩
theorem sde_call {g : List D → Option Rv} {tl : TA} {ml : MA} {E : XK} (h : SA tl ml) : SE (tCall (spF g) [] E tl) (mCall g ml) := ⟨de_call h.d⟩
theorem sde_callP {i : Nat} {g : List D → List Int → Option (Rv × List Int)} {tl : TA} {ml : MA} {E : XK} (h : SA tl ml) : SE (tCall (spP g) [] E (tCons (tVar i) tl)) (mCallP i g ml) := ⟨de_callP h.d⟩
theorem sde_potix {K : PySem.W.Frag} {i k : Nat} : SE (tOp (rIxL K) (tVar i) (tC (.int (k : Int)))) (mPotIx i k) := ⟨de_potix ⟩
theorem sdi_list (h : SE te me) : SI (iList K te) (mIt me) := ⟨di_list h.d⟩
theorem sdif_list (h : SE te me) : SIF (iList K te) (mItF me) := ⟨dif_list h.d⟩
theorem sdif_tup (h : SE te me) : SIF (iTup K te) (mItT me) := ⟨dif_tup h.d⟩
theorem sdif_rng1 (h : SW ta mw) : SIF (iRng1 ta) (mRg1 mw) := ⟨dif_rng1 h.d⟩
theorem sdif_rng2 (h : SW ta mw) : SIF (iRng2 ta) (mRg2 mw) := ⟨dif_rng2 h.d⟩
theorem sdi_enum (h : SW ta mw) : SI (iEnum K ta) (mEn mw) := ⟨di_enum h.d⟩
theorem sdi_zip (h : SW ta mw) : SI (iZipA K ta) (mZip mw) := ⟨di_zip h.d⟩
theorem sdi_zipT (h : SW ta mw) : SI (iZipA K ta) (mZipT mw) := ⟨di_zipT h.d⟩
theorem sdg_name {i : Nat} : SGv (gName i) [i] (gN i) := ⟨dg_name ⟩
theorem sdg_two {i j : Nat} : SGv (gTup K 2 (gCons (gName i) (gCons (gName j) gNil))) [i, j] (gN2 i j) := ⟨dg_two ⟩
theorem sdg_three {i j l : Nat} : SGv (gTup K 3 (gCons (gName i) (gCons (gName j) (gCons (gName l) gNil)))) [i, j, l] (gN3 i j l) := ⟨dg_three ⟩
theorem sde_lc {wi : TI} {g : TG} {tt : TT} {te : TE} {vs : List Nat} {mi : ML} {mg : MG} {mt : MT} {me : MV} (hi : SI wi mi) (hg : SGv g vs mg) (ht : ST tt mt) (he : SE te me) : SE (tLc wi g tt te vs) (mLc mi mg mt me vs) := ⟨de_lc hi.d hg.d ht.d he.d⟩
theorem sdb_next  : SB tNext bNext := ⟨db_next ⟩
theorem sdb_break  : SB tBreak bBreak := ⟨db_break ⟩
theorem sdb_cont  : SB tCont bCont := ⟨db_cont ⟩
theorem sdb_never  : SB t bNever := ⟨db_never ⟩
theorem sdb_seq (h : SB t m) (k : SB u n) : SB (tSeq t u) (bSeq m n) := ⟨db_seq h.d k.d⟩
theorem sdb_ret (h : SE te me) : SB (tRet te) (bRet me) := ⟨db_ret h.d⟩
theorem sdb_retN  : SB tRetN (fun _ pt => some (.rt (.dat .none) pt)) := ⟨db_retN ⟩
theorem sdb_if (h : ST tt mt) (k : SB t m) (l : SB u n) : SB (tIfS tt t u) (bIf mt m n) := ⟨db_if h.d k.d l.d⟩
theorem sdb_set {i : Nat} (h : SE te me) : SB (tAsg te (gName i)) (bSet i me) := ⟨db_set h.d⟩
theorem sdb_asg (h : SE te me) (k : SG g mg) : SB (tAsg te g) (bAsg mg me) := ⟨db_asg h.d k.d⟩
theorem sdb_par {i j : Nat} {ta tb : TE} {ma mb : MV} (ha : SE ta ma) (hb : SE tb mb) : SB (tPar i j (tCons ta (tCons tb tNil))) (bPar i j ma mb) := ⟨db_par ha.d hb.d⟩
theorem sdb_frz (i : Nat) (h : SB t m) : SB t (fun ρ pt => m (frz i ρ) pt) := ⟨db_frz i h.d⟩
theorem sdb_for {wi : TI} {g : TG} {tb : TS} {mi : ML} {mg : MG} {mb : MB} (hi : SIF wi mi) (hg : SG g mg) (hb : SB tb mb) : SB (tFor wi g tb) (bFor mi mg mb) := ⟨db_for hi.d hg.d hb.d⟩
theorem sdb_while (N : List Sl → Nat) {c : TT} {tb : TS} {mt : MT} {mb : MB} (hc : ST c mt) (hb : SB tb mb) : SB (tWhile c tb) (bWhile N mt mb) := ⟨db_while N hc.d hb.d⟩
theorem sdr_I {g : Int → Int → Int} : SR (rI0 fun i j => .int (g i j)) (fI g) := ⟨dr_I ⟩
theorem sdr_B {g : Int → Int → Bool} : SR (rI0 fun i j => .bl (g i j)) (fB g) := ⟨dr_B ⟩
theorem sdr_Ic {C : Int → Int → Prop} {c : Int → Int → Bool} {g : Int → Int → Int} (h : ∀ i j, c i j = true → C i j) : SR (rI C fun i j => .int (g i j)) (fIc c g) := ⟨dr_Ic h⟩
theorem sdr_mul  : SR (rI CMul fun i j => .int (i * j)) (fIc cMul fun i j => i * j) := ⟨dr_mul ⟩
theorem sdr_fdiv  : SR (rI CDiv fun i j => .int (i / j)) (fIc cDiv fun i j => i / j) := ⟨dr_fdiv ⟩
theorem sdr_mod  : SR (rI (fun _ j => 0 < j) fun i j => .int (i % j)) (fIc cMod fun i j => i % j) := ⟨dr_mod ⟩
theorem sdr_pow  : SR (rI CPow fun i j => .int (i ^ j.toNat)) (fIc cPow fun i j => i ^ j.toNat) := ⟨dr_pow ⟩
theorem sdr_or {r r' : R2} {f f' : Rv → Rv → Option Rv} (h : SR r f) (h' : SR r' f') : SR (fun x y H Q => r x y H Q ∨ r' x y H Q) fun a b => match f a b with | some z => some z | none => f' a b := ⟨dr_or h.d h'.d⟩
theorem sdu_neg  : SU (rU fun i => .int (-i)) fNeg := ⟨du_neg ⟩
theorem sdr_eq {K : PySem.W.Frag} : SR (rEqD K) (fEq false) := ⟨dr_eq ⟩
theorem sdr_ne {K : PySem.W.Frag} : SR (rNeD K) (fEq true) := ⟨dr_ne ⟩
theorem sdr_ltT {K : PySem.W.Frag} : SR (rLtT K) fLtT := ⟨dr_ltT ⟩
theorem sdr_in {K : PySem.W.Frag} (neg : Bool) : SR (rIn K neg) (fIn neg) := ⟨dr_in neg⟩
theorem sdr_catL  : SR rCat fCatL := ⟨dr_catL ⟩
theorem sdr_catT {K : PySem.W.Frag} : SR (rCatA K) fCatT := ⟨dr_catT ⟩
theorem sdr_add {K : PySem.W.Frag} : SR (rAdd3 K) fAdd3 := ⟨dr_add ⟩
theorem sdr_ix {K : PySem.W.Frag} : SR (rIx2 K) fIx := ⟨dr_ix ⟩
theorem sde_ix {r : R2} {f : Rv → Rv → Option Rv} {ta tb : TE} {ma mb : MV} (hr : SR r f) (ha : SE ta ma) (hb : SE tb mb) : SE (tOp r ta tb) (mOp f ma mb) := ⟨de_ix hr.d ha.d hb.d⟩
theorem sdo_none  : SO tNoPart mNoP := ⟨do_none ⟩
theorem sdo_some {te : TE} {me : MV} (h : SE te me) : SO (tPart te) (mPart me) := ⟨do_some h.d⟩
theorem sde_sl {K : PySem.W.Frag} {te : TE} {me : MV} {tl th : TO} {ml mh : MO} (he : SE te me) (hl : SO tl ml) (hh : SO th mh) : SE (tSl (rSl2 K) te tl th) (mSl me ml mh) := ⟨de_sl he.d hl.d hh.d⟩
theorem sdc_len {K : PySem.W.Frag} : SC (fun xs H Q => ∃ p ys, xs = [.ref p] ∧ (SqL K H p ys ∨ SqT K H p ys) ∧ Q (.int ys.length) H) (f1 fLen) := ⟨dc_len ⟩
theorem sdc_sum {K : PySem.W.Frag} : SC (rSum K) (f1 fSum) := ⟨dc_sum ⟩
theorem sdc_all {K : PySem.W.Frag} : SC (rAll K) (f1 fAll) := ⟨dc_all ⟩
theorem sdc_any {K : PySem.W.Frag} : SC (rAny K) (f1 fAny) := ⟨dc_any ⟩
theorem sdc_maxL {K : PySem.W.Frag} : SC (rMax K) (f1 fMaxL) := ⟨dc_maxL ⟩
theorem sdc_minL {K : PySem.W.Frag} : SC (rMin K) (f1 fMinL) := ⟨dc_minL ⟩
theorem sdc_max2  : SC rMx2 (f2 (fI fun i j => if j > i then j else i)) := ⟨dc_max2 ⟩
theorem sdc_min2  : SC rMn2 (f2 (fI fun i j => if j < i then j else i)) := ⟨dc_min2 ⟩
theorem sdc_abs  : SC (fun xs H Q => ∃ i : Int, xs = [.int i] ∧ Q (.int (if i < 0 then -i else i)) H) (f1 fAbs) := ⟨dc_abs ⟩
theorem sdc_int  : SC (fun xs H Q => (∃ i, xs = [.int i] ∧ Q (.int i) H) ∨ ∃ k, xs = [.bl k] ∧ Q (.int (if k then 1 else 0)) H) (f1 fInt) := ⟨dc_int ⟩
theorem sdc_list {K : PySem.W.Frag} : SC (fun xs H Q => ∃ p ys, xs = [.ref p] ∧ (SqL K H p ys ∨ SqT K H p ys) ∧ ∀ l, H l = none → Q (.ref l) (upd H l (.lst ys))) (f1 fList) := ⟨dc_list ⟩
theorem sdc_tuple {K : PySem.W.Frag} : SC (fun xs H Q => ∃ p ys, xs = [.ref p] ∧ ((SqL K H p ys ∧ ∀ l, H l = none → Q (.ref l) (upd H l (.tup ys))) ∨ (SqT K H p ys ∧ Q (.ref p) H))) (f1 fTuple) := ⟨dc_tuple ⟩
theorem sdrg_1 {te : TE} {me : MV} (h : SE te me) : SRg (tRg1 te) (mRr1 me) := ⟨drg_1 h.d⟩
theorem sde_lstRg {t : L2.St → Hp → (Int → Int → Hp → Prop) → Prop} {mr : List Sl → List Int → Option ((Int × Int) × List Int)} (h : SRg t mr) : SE (tLstRg t) (mLstRg mr) := ⟨de_lstRg h.d⟩
theorem sde_isi {K : PySem.W.Frag} {n : String} {te : TE} {me : MV} (h : SE te me) : SE (tCB (rIsi K) (tCons te (tCons (tC (.ty n)) tNil))) (mUn (fIsi n) me) := ⟨de_isi h.d⟩
theorem sdb_app {K : PySem.W.Frag} {i : Nat} {te : TE} {me : MV} (h : SE te me) : SB (tDrop (tBM K "list" rAppend (tVar i) (tCons te tNil))) (bApp i me) := ⟨db_app h.d⟩
theorem sdb_ext {K : PySem.W.Frag} {i : Nat} {te : TE} {me : MV} (h : SE te me) : SB (tDrop (tBM K "list" rExtend (tVar i) (tCons te tNil))) (bExt i me) := ⟨db_ext h.d⟩
theorem sdb_pop {K : PySem.W.Frag} {i j : Nat} : SB (tAsg (tBM0 K "list" rPop (tVar j)) (gName i)) (bPop i j) := ⟨db_pop ⟩
theorem sdb_appPop {K K' : PySem.W.Frag} {i j : Nat} {te : TE} {me : MV} (h : SE te me) : SB (tDrop (tBM K "list" rAppend (tVar i) (tCons (tBM K' "list" rPopAt (tVar j) (tCons te tNil)) tNil))) (bAppPop i j me) := ⟨db_appPop h.d⟩
theorem sde_dget {td tk : TE} {md mk : MV} (hd : SE td md) (hk : SE tk mk) : SE (tDGet td tk) (mDGet md mk) := ⟨de_dget hd.d hk.d⟩
theorem sde_din {td tk : TE} {md mk : MV} (hk : SE tk mk) (hd : SE td md) : SE (tDIn tk td) (mDIn false mk md) := ⟨de_din hk.d hd.d⟩
theorem sde_dnotin {td tk : TE} {md mk : MV} (hk : SE tk mk) (hd : SE td md) : SE (tDNotIn tk td) (mDIn true mk md) := ⟨de_dnotin hk.d hd.d⟩
theorem sdb_dput {i : Nat} {tk tv : TE} {mk mv : MV} (hk : SE tk mk) (hv : SE tv mv) : SB (sDPut (tVar i) tk tv) (bDPut i mk mv) := ⟨db_dput hk.d hv.d⟩
theorem sdb_potset {i k : Nat} {te : TE} {me : MV} (h : SE te me) : SB (tAsg te (gSub (tVar i) (tC (.int (k : Int))) rSetL)) (bPotSet i k me) := ⟨db_potset h.d⟩
theorem sdi_seq (h : SE te me) : SI (iSeq K te) (mSeq me) := ⟨di_seq h.d⟩
theorem sdif_seq (h : SE te me) : SIF (iSeq K te) (mSeqF me) := ⟨dif_seq h.d⟩
theorem sde_chain {r s : R2} {f g : Rv → Rv → Option Rv} (hr : SR r f) (hs : SR s g) (ha : SE ta ma) (hb : SE tb mb) (hc : SE tc mc) : SE (tChain r s ta tb tc) (mChain f g ma mb mc) := ⟨de_chain hr.d hs.d ha.d hb.d hc.d⟩
theorem sdc_sorted {K : PySem.W.Frag} : SC (rSrt K) (f1 fSorted) := ⟨dc_sorted ⟩
theorem sdc_sortedD  : SC rSrtD (f1 fSortedD) := ⟨dc_sortedD ⟩
theorem sdc_listD  : SC (fun xs H Q => ∃ d kvs, xs = [V.ref d] ∧ Rd H d (.dT kvs) ∧ ∀ p bs, H p = none → IsKeys H kvs bs → Q (.ref p) (upd H p (.lst (bs.map V.ref)))) (f1 fListD) := ⟨dc_listD ⟩
theorem sde_srtLam (h : SE te me) (hb : SE t mb) : SE (tCKw (rSrtK K (lamStep q params body scope N t)) (tCons te tNil) (tCons (tLamV TB.T q params body scope) tNil)) (mSrtK (lamKey N mb) me) := ⟨de_srtLam h.d hb.d⟩
theorem sde_srtLamD (h : SE te me) (hb : SE t mb) : SE (tCKw (rSrtKD K (lamStep q params body scope N t)) (tCons te tNil) (tCons (tLamV TB.T q params body scope) tNil)) (mSrtKD (lamKey N mb) me) := ⟨de_srtLamD h.d hb.d⟩
theorem sde_srtDef (h : SE te me) : SE (tCKw (rSrtK K (defStep f (spF g))) (tCons te tNil) (tCons (tC (.ref f)) tNil)) (mSrtK (defKey g) me) := ⟨de_srtDef h.d⟩
theorem sde_srtDefD (h : SE te me) : SE (tCKw (rSrtKD K (defStep f (spF g))) (tCons te tNil) (tCons (tC (.ref f)) tNil)) (mSrtKD (defKey g) me) := ⟨de_srtDefD h.d⟩
theorem sde_srtSet {K : PySem.W.Frag} {P : Program} {w : World} {te : TE} {me : MV} (h : SE te me) : SE (tCB (rSrtS K P w) (tCons (tCB (rSetQ K P w) (tCons te tNil)) tNil)) (mSrtSet me) := ⟨de_srtSet h.d⟩
theorem sdb_lockS (i : Nat) {t : TS} {m : MB} (h : SB t m) : SB (tLockS t) (bLock i m) := ⟨db_lockS i h.d⟩
theorem sde_lock (i : Nat) {t : TE} {m : MV} (h : SE t m) : SE (tLockE t) (mLock i m) := ⟨de_lock i h.d⟩
theorem sdif_keys (h : SE td md) : SIF (iKeys td) (mKeys md) := ⟨dif_keys h.d⟩
theorem sdif_itemsL (h : SE td md) : SIF (iItemsL td) (mItemsL md) := ⟨dif_itemsL h.d⟩
theorem sdif_itemsN (h : SE td md) : SIF (iItemsN td) (mItemsN md) := ⟨dif_itemsN h.d⟩
theorem sde_dictL {K : PySem.W.Frag} {te : TE} {me : MV} (h : SE te me) : SE (tCB (rDictL K) (tCons te tNil)) (mDictL me) := ⟨de_dictL h.d⟩
theorem sde_dzip {K : PySem.W.Frag} {ta : TA} {mw : MW} (h : SW ta mw) : SE (tDZip K ta) (mDZip mw) := ⟨de_dzip h.d⟩
theorem sde_lzip {K : PySem.W.Frag} {ta : TA} {mw : MW} (h : SW ta mw) : SE (tLZip K ta) (mLZip mw) := ⟨de_lzip h.d⟩
theorem sde_dc {wi : TI} {g : TG} {tt : TT} {tk tv : TE} {vs : List Nat} {mi : ML} {mg : MG} {mt : MT} {mk mv : MV} (hi : SI wi mi) (hg : SGv g vs mg) (ht : ST tt mt) (hk : SE tk mk) (hv : SE tv mv) : SE (tDcT wi g tt tk tv vs) (mDc mi mg mt mk mv vs) := ⟨de_dc hi.d hg.d ht.d hk.d hv.d⟩
theorem sdb_upd {K : PySem.W.Frag} {X : Cx} {i : Nat} {te : TE} {me : MV} (h : SE te me) : SB (tDrop (tBM K "dict" (rUpdT X) (tVar i) (tCons te tNil))) (bUpd i me) := ⟨db_upd h.d⟩
theorem sda_star {K : PySem.W.Frag} {te : TE} {me : MV} {tl : TA} {ml : MA} (h : SE te me) (hr : SA tl ml) : SA (StX.tStar K te tl) (mStar me ml) := ⟨da_star h.d hr.d⟩
theorem sdb_drop {te : TE} {me : MV} (h : SE te me) : SB (tDrop te) (bDrop me) := ⟨db_drop h.d⟩
theorem sdb_sizes {K : PySem.W.Frag} {wi wi2 : TI} {mi mi2 : ML} {i s j : Nat} (hi : SI wi mi) (hi2 : SIF wi2 mi2) : SB (tSeq (tAsg (tLc wi (gName s) tYes (tLst tNil) [s]) (gName i)) (tSeq (tFor wi2 (gName j) (tDrop (tBM K "list" rAppend (tOp (rIx2 K) (tVar i) (tCB (rLenS K) (tCons (tVar j) tNil))) (tCons (tVar j) tNil)))) (tRet (tVar i)))) (bSizes i j mi mi2) := ⟨db_sizes hi.d hi2.d⟩
theorem sdc_sumL {K : PySem.W.Frag} : SC (rSumL K) (f2 fSumL) := ⟨dc_sumL ⟩
theorem sdc_reprB  : SC rReprB (f1 fReprB) := ⟨dc_reprB ⟩
theorem sdr_powW  : SR (rI CPowW fun i j => .int (i ^ j.toNat)) (fIc cPowW fun i j => i ^ j.toNat) := ⟨dr_powW ⟩
theorem sde_index {K : PySem.W.Frag} {ta tb : TE} {ma mb : MV} (ha : SE ta ma) (hb : SE tb mb) : SE (tBM K "list" (rIndexD K) ta (tCons tb tNil)) (mOp fIndex ma mb) := ⟨de_index ha.d hb.d⟩
theorem sdb_frzB (i : Nat) {t : TS} {m : MB} (h : SB t m) : SB t (bFrz i m) := ⟨db_frzB i h.d⟩
theorem sdi_zipA {K : PySem.W.Frag} {ta : TA} {mw : MW} (h : SW ta mw) : SI (iZipA K ta) (mZipA mw) := ⟨di_zipA h.d⟩
theorem sde_callPN {g : List D → List Int → Option (Rv × List Int)} {te : TE} {me : MV} {E : XK} (h : SE te me) : SE (tCall (spP g) [] E (tCons te tNil)) (mCallPN g me) := ⟨de_callPN h.d⟩
end Pd
end
section
set_option Elab.async false
set_option linter.all false
set_option maxRecDepth 100000
/-! Pd25: a block under a lock; where a lambda stands. -/
namespace Pd
open PySem PySem.Spec PySem.W L2
theorem pss_lockS {X : Cx} {sts : List Stmt} {t : TS} (h : PSs X sts t) : PSs X sts (tLockS t) := by
  refine ⟨fun pins s σ H D I hw => ?_⟩
  obtain ⟨d, u, hd, mu, hw⟩ := hw
  obtain ⟨od, J⟩ := I.lock hd mu
  exact h.run pins s σ _ D J (hw od)
theorem hu65 {A : Around} {k : Nat} (hr : Room k A) : A.units + 65 < cLine := by have := hr.un; omega
def callKw : Expr → Expr
  | .Call _ _ (k :: _) _ => k.value
  | e => e
def retE : Stmt → Expr
  | .Return (some e) _ => e
  | _ => .Name "" ⟨0, 0, 0, 0⟩
def forIt : Stmt → Expr
  | .For _ e _ _ _ => e
  | _ => .Name "" ⟨0, 0, 0, 0⟩
def forBd : Stmt → List Stmt
  | .For _ _ b _ _ => b
  | _ => []
def lamP : Expr → Arguments
  | .Lambda p _ _ _ => p
  | _ => ⟨[], [], none, [], [], none, []⟩
def lamB : Expr → Expr
  | .Lambda _ b _ _ => b
  | e => e
def lamS : Expr → Scope
  | .Lambda _ _ s _ => s
  | _ => { kind := .function, names := [], isGenerator := false, isCoroutine := false }
end Pd
end
section
set_option Elab.async false
set_option linter.all false
set_option maxRecDepth 100000
/-! Pd26: sum of a tuple of ints. -/
namespace Pd
open PySem PySem.Spec PySem.Calls PySem.W PyProof.Rows L2
section
variable {X : Cx}
def rSumT (K : PySem.W.Frag) : List V → Hp → VK → Prop := fun vs H Q => ∃ (a : Addr) (ns : List Int), vs = [V.ref a] ∧ SqT K H a (ns.map V.int) ∧ Q (.int ns.sum) H
theorem cr_sumT (hc : X.calm = true) : CallR X (.builtin "sum") (rSumT X.K) := by
  intro pins s σ H vs us Q I r h
  obtain ⟨a, ns, rfl, hs, q⟩ := h
  obtain ⟨its, rv, hl, _⟩ := I.tuple hs
  rw [Vals.ref1 r]
  have hi := rv.ints
  have hl2 : s.heap.IsTuple a its.toArray := hl
  obtain ⟨xs, e⟩ := hi.allInts.items
  have hn : numsOf (intItems xs).toList = ns := by rw [← e]; exact hi.numsOf
  rw [nums_intItems] at hn
  rw [e] at hl2
  refine ktm_sumG (I.ok.hd hc) hl2 fun h' tk t' hk => ?_
  have e2 : preSum (numAt xs) xs.size = ns.sum := by rw [preSum_eq, List.take_of_length_le (by simp), hn]
  rw [e2]
  exact ⟨.int _, H, I.kept hk, ⟨_, rfl⟩, q⟩
end
section
variable [TB]
def fSumT : Rv → Option Rv := fun a => (a.tp?).bind fun l => (intsA? l).map fun ns => .dat (.int ns.sum)
theorem dc_sumT {K : PySem.W.Frag} : DC (rSumT K) (f1 fSumT) := by
  intro pa G H xs as z Q P k e q
  obtain ⟨a, rfl, e⟩ := f1_of e
  obtain ⟨l, e1, e⟩ := bnd e
  obtain ⟨ns, e2, e⟩ := mpd e
  cases e
  obtain ⟨v, rfl, kv⟩ := k.one
  obtain ⟨p, vs, rfl, h, i⟩ := kv.tp e1
  have := intsA_eq e2
  subst this
  rw [i.ints] at h
  exact ⟨p, ns, rfl, SqT.of (P.gh _ _ h), q.mk P.gh (.int _)⟩
end
theorem sdc_sumT [TB] {K : PySem.W.Frag} : SC (rSumT K) (f1 fSumT) := ⟨dc_sumT⟩
end Pd
end
section
set_option Elab.async false
set_option linter.all false
set_option maxRecDepth 100000
set_option maxHeartbeats 4000000
namespace K15
open PySem PySem.Spec PyProof.Rows PySem.W L2 Pd
section
variable [TB]
def m_is_tuple : MB :=
    (bRet (mAndV (mUn (fIsi "tuple") (mVar 0)) (mChain (fB fun i j => decide (i ≤ j)) (fB fun i j => decide (i ≤ j)) (mVar 1) (mCB (f1 fLen) (wCons (mVar 0) wNil)) (mVar 2))))
def g_is_tuple : List D → Option Rv := gOf 3 ["value", "least", "most"] m_is_tuple

def m_is_whole : MB :=
    (bRet (mAndV (mUn (fIsi "int") (mVar 0)) (mNotV (mUn (fIsi "bool") (mVar 0)))))
def g_is_whole : List D → Option Rv := gOf 1 ["value"] m_is_whole

def m_is_rising : MB :=
    (bRet (mCB (f1 fAll) (wCons (mLc (mZipA (wCons (mVar 0) (wCons (mSl (mVar 0) (mPart (mC (.int 1))) mNoP) wNil))) (gN2 1 2) mYes (mOp (fB fun i j => decide (i < j)) (mVar 1) (mVar 2)) [1, 2]) wNil)))
def g_is_rising : List D → Option Rv := gOf 1 ["values", "one", "other"] m_is_rising

def m_lot_place : MB :=
    (bRet (mTup (mCons (mCB (f1 fLen) (wCons (mVar 0) wNil)) (mCons (mVar 0) mNil))))
def g_lot_place : List D → Option Rv := gOf 1 ["lot"] m_lot_place

def m_is_within : MB :=
    (bRet (mCB (f1 fAll) (wCons (mLc (mSeq (mVar 0)) (gN 2) mYes (mOp (fIn false) (mVar 2) (mVar 1)) [2]) wNil)))
def g_is_within : List D → Option Rv := gOf 2 ["one", "other", "guest"] m_is_within

def m_parts_of : MB :=
    (bSeq (bSet 1 (mLst (mCons (mTup mNil) mNil)))
      (bSeq (bFor (mSeqF (mVar 0)) (gN 2)
      (bExt 1 (mLc (mSeq (mCB (f1 fList) (wCons (mVar 1) wNil))) (gN 3) mYes (mTup (mStar (mVar 3) (mCons (mVar 2) mNil))) [3])))
      (bRet (mVar 1))))
def g_parts_of : List D → Option Rv := gOf 1 ["lot", "found", "guest", "part"] m_parts_of

def m_law_take : MB :=
    (bSeq (bIf (mVal (mOp (fB fun i j => decide (j < i)) (mPotIx 0 0) (mC (.int 0)))) (bSeq (bSet 4 (mOp (fIc cMod fun i j => i % j) (mCB (f1 fInt) (wCons (mPotIx 0 0) wNil)) (mVar 1)))
      (bSeq (bPotSet 0 0 (mOp (fIc cDiv fun i j => i / j) (mPotIx 0 0) (mVar 1)))
      (bRet (mVar 4)))) bNext)
      (bSeq (bPotSet 0 2 (mOp fAdd3 (mPotIx 0 2) (mC (.int 1))))
      (bSeq (bSet 2 (mOp fIx (mLst (mCons (mC (.int 2147483647)) (mCons (mC (.int 2147483629)) (mCons (mC (.int 2147483587)) (mCons (mC (.int 2147483579)) (mCons (mC (.int 2147483563)) mNil)))))) (mOp (fIc cMod fun i j => i % j) (mCB (f1 fInt) (wCons (mPotIx 0 2) wNil)) (mC (.int 5)))))
      (bSeq (bSet 3 (mOp (fIc cMod fun i j => i % j) (mOp (fIc cPowW fun i j => i ^ j.toNat) (mCB (f1 fInt) (wCons (mOp fAdd3 (mOp fAdd3 (mPotIx 0 1) (mOp (fIc cMul fun i j => i * j) (mOp (fIc cMul fun i j => i * j) (mC (.int 63899)) (mPotIx 0 2)) (mPotIx 0 2))) (mC (.int 61))) wNil)) (mC (.int 3))) (mVar 2)))
      (bRet (mOp (fIc cMod fun i j => i % j) (mOp (fIc cDiv fun i j => i / j) (mOp (fIc cMod fun i j => i % j) (mCB (f1 fInt) (wCons (mOp (fIc cMul fun i j => i * j) (mVar 3) (mOp fAdd3 (mOp (fIc cMod fun i j => i % j) (mCB (f1 fInt) (wCons (mVar 3) wNil)) (mC (.int 10007))) (mOp (fIc cMul fun i j => i * j) (mC (.int 161)) (mPotIx 0 2)))) wNil)) (mC (.int 2305843009213693951))) (mC (.int 97))) (mVar 1)))))))
def g_law_take : List D → List Int → Option (Rv × List Int) := gOfP 2 ["pot", "upto", "prime", "mixed", "digit"] m_law_take

def m_law_parts : MB :=
    (bSeq (bSet 1 (mLst (mCons (mTup mNil) mNil)))
      (bSeq (bFor (mSeqF (mVar 0)) (gN 2)
      (bSet 1 (mOp fAdd3 (mVar 1) (mLc (mSeq (mVar 1)) (gN 3) mYes (mOp fAdd3 (mVar 3) (mTup (mCons (mVar 2) mNil))) [3]))))
      (bRet (mVar 1))))
def g_law_parts : List D → Option Rv := gOf 1 ["lot", "found", "guest", "part"] m_law_parts

def m_law_is_part : MB :=
    (bRet (mCB (f1 fAll) (wCons (mLc (mSeq (mVar 0)) (gN 2) mYes (mOp (fIn false) (mVar 2) (mVar 1)) [2]) wNil)))
def g_law_is_part : List D → Option Rv := gOf 2 ["one", "other", "guest"] m_law_is_part

def m_law_product : MB :=
    (bSeq (bSet 2 (mC (.int 1)))
      (bSeq (bFor (mSeqF (mVar 0)) (gN 3)
      (bSet 2 (mOp (fIc cMul fun i j => i * j) (mVar 2) (mOp fIx (mVar 1) (mVar 3)))))
      (bRet (mVar 2))))
def g_law_product : List D → Option Rv := gOf 2 ["lot", "worths", "found", "guest"] m_law_product

def m_is_integer : MB :=
    (bRet (mAndV (mCall g_is_whole (mCons (mVar 0) mNil)) (mChain (fB fun i j => decide (i ≤ j)) (fB fun i j => decide (i ≤ j)) (mVar 1) (mVar 0) (mVar 2))))
def g_is_integer : List D → Option Rv := gOf 3 ["value", "low", "high"] m_is_integer

def m_greatest_of : MB :=
    (bSeq (bSet 1 (mSrtSet (mVar 0)))
      (bRet (mCB (f1 fTuple) (wCons (mLc (mSeq (mVar 1)) (gN 2) (mNot (mVal (mCB (f1 fAny) (wCons (mLc (mSeq (mVar 1)) (gN 3) mYes (mAndV (mOp (fEq true) (mVar 2) (mVar 3)) (mCall g_is_within (mCons (mVar 2) (mCons (mVar 3) mNil)))) [3]) wNil)))) (mVar 2) [2]) wNil))))
def g_greatest_of : List D → Option Rv := gOf 1 ["lots", "some", "lot", "other"] m_greatest_of

def m_is_asked : MB :=
    (bRet (mCB (f1 fAny) (wCons (mLc (mSeq (mOp fIx (mVar 0) (mC (.int 1)))) (gN 2) mYes (mCall g_is_within (mCons (mVar 1) (mCons (mVar 2) mNil))) [2]) wNil)))
def g_is_asked : List D → Option Rv := gOf 2 ["company", "lot", "other"] m_is_asked

def m_law_of : MB :=
    (bRet (mOp fIx (mVar 1) (mCallP 0 g_law_take (mCons (mCB (f1 fLen) (wCons (mVar 1) wNil)) mNil))))
def g_law_of : List D → List Int → Option (Rv × List Int) := gOfP 2 ["pot", "some"] m_law_of

def m_law_stir : MB :=
    (bSeq (bPar 3 4 (mCB (f1 fList) (wCons (mVar 1) wNil)) (mLst mNil))
      (bSeq (bFor (mRg1 (wCons (mCB (f1 fLen) (wCons (mVar 3) wNil)) wNil)) (gN 2)
      (bAppPop 4 3 (mCallP 0 g_law_take (mCons (mCB (f1 fLen) (wCons (mVar 3) wNil)) mNil))))
      (bRet (mVar 4))))
def g_law_stir : List D → List Int → Option (Rv × List Int) := gOfP 2 ["pot", "some", "turn", "left", "found"] m_law_stir

def m_law_company : MB :=
    (bSeq (bPar 3 4 (mSrtSet (mVar 1)) (mLst mNil))
      (bSeq (bFrz 3 (bFor (mSeqF (mVar 3)) (gN 2)
      (bIf (mNot (mVal (mCB (f1 fAny) (wCons (mLc (mSeq (mVar 3)) (gN 5) mYes (mAndV (mOp (fEq true) (mVar 2) (mVar 5)) (mCall g_law_is_part (mCons (mVar 2) (mCons (mVar 5) mNil)))) [5]) wNil)))) (bApp 4 (mVar 2)) bNext)))
      (bRet (mTup (mCons (mVar 0) (mCons (mCB (f1 fTuple) (wCons (mVar 4) wNil)) mNil))))))
def g_law_company : List D → Option Rv := gOf 2 ["guests", "lots", "lot", "some", "found", "other"] m_law_company

def m_law_lots : MB :=
    (bSeq (bSet 1 mDic)
      (bSeq (bFor (mSeqF (mOp fIx (mVar 0) (mC (.int 1)))) (gN 2)
      (bFor (mSeqF (mCall g_law_parts (mCons (mVar 2) mNil))) (gN 4)
      (bDPut 1 (mVar 4) (mC (.bool true)))))
      (bLock 1 (bSizes 3 2 (mRg1 (wCons (mOp fAdd3 (mCB (f1 fMaxL) (wCons (mOp fAdd3 (mLst (mCons (mUn fNeg (mC (.int 1))) mNil)) (mLc (mSeq (mOp fIx (mVar 0) (mC (.int 1)))) (gN 2) mYes (mCB (f1 fLen) (wCons (mVar 2) wNil)) [2])) wNil)) (mC (.int 1))) wNil)) (mSeqF (mCB (f1 fSortedD) (wCons (mVar 1) wNil)))))))
def g_law_lots : List D → Option Rv := gOf 1 ["company", "known", "lot", "found", "part", "size"] m_law_lots

def m_is_lot : MB :=
    (bRet (mAndV (mUn (fIsi "tuple") (mVar 1)) (mAndV (mCB (f1 fAll) (wCons (mLc (mSeq (mVar 1)) (gN 2) mYes (mCall g_is_integer (mCons (mVar 2) (mCons (mC (.int 0)) (mCons (mOp (fI fun i j => i - j) (mVar 0) (mC (.int 1))) mNil)))) [2]) wNil)) (mCall g_is_rising (mCons (mVar 1) mNil)))))
def g_is_lot : List D → Option Rv := gOf 2 ["guests", "value", "guest"] m_is_lot

def m_company_by : MB :=
    (bRet (mTup (mCons (mVar 0) (mCons (mCall g_greatest_of (mCons (mVar 1) mNil)) mNil))))
def g_company_by : List D → Option Rv := gOf 2 ["guests", "lots"] m_company_by

def m_law_drawn : MB :=
    (bSeq (bPar 5 6 (mOp fAdd3 (mVar 1) (mCallP 0 g_law_take (mCons (mOp fAdd3 (mOp (fI fun i j => i - j) (mVar 2) (mVar 1)) (mC (.int 1))) mNil))) (mCallP 0 g_law_of (mCons (mLst (mCons (mC (.int 2)) (mCons (mC (.int 3)) (mCons (mC (.int 3)) (mCons (mC (.int 4)) mNil))))) mNil)))
      (bSeq (bSet 3 (mLst mNil))
      (bSeq (bFor (mRg1 (wCons (mOp fAdd3 (mC (.int 1)) (mCallP 0 g_law_take (mCons (mOp (fIc cMul fun i j => i * j) (mC (.int 3)) (mVar 5)) mNil))) wNil)) (gN 4)
      (bSeq (bSet 7 (mCB (f2 (fI fun i j => if j < i then j else i)) (wCons (mVar 5) (wCons (mOp (fI fun i j => i - j) (mVar 6) (mCB (f1 fInt) (wCons (mOp (fEq false) (mCallP 0 g_law_take (mCons (mC (.int 4)) mNil)) (mC (.int 0))) wNil))) wNil))))
      (bApp 3 (mCB (f1 fTuple) (wCons (mCB (f1 fSorted) (wCons (mSl (mCallP 0 g_law_stir (mCons (mLstRg (mRr1 (mVar 5))) mNil)) mNoP (mPart (mVar 7))) wNil)) wNil)))))
      (bFrz 3 (bRet (mCall g_law_company (mCons (mVar 5) (mCons (mVar 3) mNil))))))))
def g_law_drawn : List D → List Int → Option (Rv × List Int) := gOfP 3 ["pot", "least", "most", "lots", "turn", "guests", "size", "many"] m_law_drawn

def m_law_link : MB :=
    (bSeq (bSet 2 (mLc (mSeq (mOp fIx (mVar 0) (mC (.int 1)))) (gN 3) (mVal (mCall g_law_is_part (mCons (mVar 1) (mCons (mVar 3) mNil)))) (mCB (f1 fTuple) (wCons (mLc (mSeq (mVar 3)) (gN 4) (mVal (mOp (fIn true) (mVar 4) (mVar 1))) (mVar 4) [4]) wNil)) [3]))
      (bFrz 2 (bRet (mCall g_law_company (mCons (mOp fIx (mVar 0) (mC (.int 0))) (mCons (mVar 2) mNil))))))
def g_law_link : List D → Option Rv := gOf 2 ["company", "lot", "rest", "one", "guest"] m_law_link

def m_law_known_lots : MB :=
    (bRet (mDictL (mLc (mSeq (mCB (f2 fSumL) (wCons (mCall g_law_lots (mCons (mVar 0) mNil)) (wCons (mLst mNil) wNil)))) (gN 1) mYes (mTup (mCons (mVar 1) (mCons (mC (.bool true)) mNil))) [1])))
def g_law_known_lots : List D → Option Rv := gOf 1 ["company", "lot"] m_law_known_lots

def m_law_signed : MB :=
    (bRet (mCB (f1 fSum) (wCons (mLc (mSeq (mCB (f2 fSumL) (wCons (mCall g_law_lots (mCons (mVar 0) mNil)) (wCons (mLst mNil) wNil)))) (gN 1) mYes (mIfE (mVal (mOp (fEq false) (mOp (fIc cMod fun i j => i % j) (mCB (f1 fLen) (wCons (mVar 1) wNil)) (mC (.int 2))) (mC (.int 0)))) (mC (.int 1)) (mUn fNeg (mC (.int 1)))) [1]) wNil)))
def g_law_signed : List D → Option Rv := gOf 1 ["company", "lot"] m_law_signed

def m_lots_of : MB :=
    (bSeq (bSet 1 mDic)
      (bSeq (bFor (mSeqF (mOp fIx (mVar 0) (mC (.int 1)))) (gN 2)
      (bUpd 1 (mDc (mSeq (mCall g_parts_of (mCons (mVar 2) mNil))) (gN 3) mYes (mVar 3) (mC (.bool true)) [3])))
      (bRet (mSrtKD (defKey g_lot_place) (mVar 1)))))
def g_lots_of : List D → Option Rv := gOf 1 ["company", "found", "lot", "part"] m_lots_of

def m_is_company : MB :=
    (bSeq (bIf (mOr (mNot (mVal (mCall g_is_tuple (mCons (mVar 0) (mCons (mC (.int 2)) (mCons (mC (.int 2)) mNil)))))) (mNot (mVal (mCall g_is_integer (mCons (mOp fIx (mVar 0) (mC (.int 0))) (mCons (mC (.int 1)) (mCons (mC (.int 10)) mNil))))))) (bRet (mC (.bool false))) bNext)
      (bSeq (bIf (mOr (mNot (mVal (mUn (fIsi "tuple") (mOp fIx (mVar 0) (mC (.int 1)))))) (mNot (mVal (mCB (f1 fAll) (wCons (mLc (mSeq (mOp fIx (mVar 0) (mC (.int 1)))) (gN 1) mYes (mCall g_is_lot (mCons (mOp fIx (mVar 0) (mC (.int 0))) (mCons (mVar 1) mNil))) [1]) wNil))))) (bRet (mC (.bool false))) bNext)
      (bRet (mOp (fEq false) (mCall g_greatest_of (mCons (mOp fIx (mVar 0) (mC (.int 1))) mNil)) (mOp fIx (mVar 0) (mC (.int 1)))))))
def g_is_company : List D → Option Rv := gOf 1 ["value", "lot"] m_is_company

def m_check_lot : MB :=
    (bIf (mNot (mVal (mCall g_is_lot (mCons (mOp fIx (mVar 0) (mC (.int 0))) (mCons (mVar 1) mNil))))) bNever bNext)
def g_check_lot : List D → Option Rv := gOf 2 ["company", "value"] m_check_lot

def m_link_of : MB :=
    (bSeq (bSet 2 (mLc (mSeq (mOp fIx (mVar 0) (mC (.int 1)))) (gN 3) (mVal (mCall g_is_within (mCons (mVar 1) (mCons (mVar 3) mNil)))) (mCB (f1 fTuple) (wCons (mLc (mSeq (mVar 3)) (gN 4) (mVal (mOp (fIn true) (mVar 4) (mVar 1))) (mVar 4) [4]) wNil)) [3]))
      (bFrz 2 (bRet (mCall g_company_by (mCons (mOp fIx (mVar 0) (mC (.int 0))) (mCons (mVar 2) mNil))))))
def g_link_of : List D → Option Rv := gOf 2 ["company", "lot", "rest", "other", "guest"] m_link_of

def m_without_of : MB :=
    (bSeq (bSet 2 (mLc (mSeq (mOp fIx (mVar 0) (mC (.int 1)))) (gN 3) (mNot (mVal (mCall g_is_within (mCons (mVar 1) (mCons (mVar 3) mNil))))) (mVar 3) [3]))
      (bSeq (bFor (mSeqF (mOp fIx (mVar 0) (mC (.int 1)))) (gN 3)
      (bIf (mVal (mCall g_is_within (mCons (mVar 1) (mCons (mVar 3) mNil)))) (bExt 2 (mLc (mSeq (mVar 1)) (gN 4) mYes (mCB (f1 fTuple) (wCons (mLc (mSeq (mVar 3)) (gN 5) (mVal (mOp (fEq true) (mVar 5) (mVar 4))) (mVar 5) [5]) wNil)) [4])) bNext))
      (bFrz 2 (bRet (mCall g_company_by (mCons (mOp fIx (mVar 0) (mC (.int 0))) (mCons (mVar 2) mNil)))))))
def g_without_of : List D → Option Rv := gOf 2 ["company", "lot", "found", "other", "guest", "one"] m_without_of

def m_meets_of : MB :=
    (bSeq (bPar 1 2 mDic (mCB (f1 fList) (wCons (mVar 0) wNil)))
      (bSeq (bWhile (fun _ => 20000) (mVal (mOp (fEq true) (mVar 2) (mLst mNil))) (bSeq (bPop 3 2)
      (bIf (mVal (mDIn true (mVar 3) (mVar 1))) (bSeq (bDPut 1 (mVar 3) (mC (.bool true)))
      (bExt 2 (mLc (mSeq (mVar 0)) (gN 4) mYes (mCB (f1 fTuple) (wCons (mLc (mSeq (mVar 3)) (gN 5) (mVal (mOp (fIn false) (mVar 5) (mVar 4))) (mVar 5) [5]) wNil)) [4]))) bNext)))
      (bRet (mSrtKD (lamKey ["lot"] (mTup (mCons (mUn fNeg (mCB (f1 fLen) (wCons (mVar 0) wNil))) (mCons (mVar 0) mNil)))) (mVar 1)))))
def g_meets_of : List D → Option Rv := gOf 1 ["lots", "found", "waiting", "lot", "other", "guest"] m_meets_of

def m_is_row : MB :=
    (bSeq (bIf (mOr (mNot (mVal (mCall g_is_tuple (mCons (mVar 1) (mCons (mC (.int 2)) (mCons (mC (.int 2)) mNil)))))) (mOr (mNot (mVal (mCall g_is_lot (mCons (mOp fIx (mVar 0) (mC (.int 0))) (mCons (mOp fIx (mVar 1) (mC (.int 0))) mNil))))) (mNot (mVal (mCall g_is_whole (mCons (mOp fIx (mVar 1) (mC (.int 1))) mNil)))))) (bRet (mC (.bool false))) bNext)
      (bRet (mAndV (mOp (fEq true) (mOp fIx (mVar 1) (mC (.int 1))) (mC (.int 0))) (mCall g_is_asked (mCons (mVar 0) (mCons (mOp fIx (mVar 1) (mC (.int 0))) mNil))))))
def g_is_row : List D → Option Rv := gOf 2 ["company", "value"] m_is_row

def m_along : MB :=
    (bSeq (bSet 4 (mDZip (wCons (mVar 0) (wCons (mVar 1) wNil))))
      (bSeq (bFor (mRg1 (wCons (mVar 3) wNil)) (gN 5)
      (bFor (mSeqF (mSrtK (lamKey ["one"] (mUn fNeg (mCB (f1 fLen) (wCons (mVar 0) wNil)))) (mVar 0))) (gN 6)
      (bIf (mVal (mOp (fIn false) (mVar 5) (mVar 6))) (bDPut 4 (mVar 6) (mOp fAdd3 (mDGet (mVar 4) (mVar 6)) (mOp (fIc cMul fun i j => i * j) (mVar 2) (mDGet (mVar 4) (mCB (f1 fTuple) (wCons (mLc (mSeq (mVar 6)) (gN 7) (mVal (mOp (fEq true) (mVar 7) (mVar 5))) (mVar 7) [7]) wNil)))))) bNext)))
      (bRet (mCB (f1 fTuple) (wCons (mLc (mSeq (mVar 0)) (gN 6) mYes (mDGet (mVar 4) (mVar 6)) [6]) wNil)))))
def g_along : List D → Option Rv := gOf 4 ["lots", "numbers", "sign", "guests", "found", "guest", "lot", "one"] m_along

def m_law_meets : MB :=
    (bSeq (bSet 1 mDic)
      (bSeq (bFor (mSeqF (mVar 0)) (gN 2)
      (bFor (mSeqF (mOp fAdd3 (mLst (mCons (mVar 2) mNil)) (mCB (f1 fListD) (wCons (mVar 1) wNil)))) (gN 3)
      (bDPut 1 (mCB (f1 fTuple) (wCons (mLc (mSeq (mVar 3)) (gN 4) (mVal (mOp (fIn false) (mVar 4) (mVar 2))) (mVar 4) [4]) wNil)) (mC (.bool true)))))
      (bRet (mSrtKD (lamKey ["lot"] (mTup (mCons (mUn fNeg (mCB (f1 fLen) (wCons (mVar 0) wNil))) (mCons (mVar 0) mNil)))) (mVar 1)))))
def g_law_meets : List D → Option Rv := gOf 1 ["lots", "found", "lot", "other", "guest"] m_law_meets

def m_law_is_sums : MB :=
    (bSeq (bSet 2 (mLc (mSeq (mVar 1)) (gN2 4 5) mYes (mVar 4) [4, 5]))
      (bSeq (bSet 3 (mCall g_law_known_lots (mCons (mVar 0) mNil)))
      (bSeq (bIf (mOr (mVal (mOp (fEq true) (mVar 2) (mSrtSet (mVar 2)))) (mNot (mVal (mCB (f1 fAll) (wCons (mLc (mSeq (mVar 2)) (gN 4) mYes (mDIn false (mVar 4) (mVar 3)) [4]) wNil))))) (bRet (mC (.bool false))) bNext)
      (bSeq (bIf (mVal (mCB (f1 fAny) (wCons (mLc (mSeq (mVar 1)) (gN2 4 5) mYes (mOp (fEq false) (mVar 5) (mC (.int 0))) [4, 5]) wNil))) (bRet (mC (.bool false))) bNext)
      (bSeq (bLock 3 (bFor (mKeys (mVar 3)) (gN 4)
      (bIf (mVal (mOp (fEq true) (mCB (f1 fSum) (wCons (mLc (mSeq (mVar 1)) (gN2 6 5) (mVal (mCall g_law_is_part (mCons (mVar 4) (mCons (mVar 6) mNil)))) (mVar 5) [6, 5]) wNil)) (mC (.int 1)))) (bRet (mC (.bool false))) bNext)))
      (bRet (mC (.bool true))))))))
def g_law_is_sums : List D → Option Rv := gOf 2 ["company", "value", "lots", "known", "lot", "number", "other"] m_law_is_sums

def m_law_all_sums : MB :=
    (bSeq (bSet 1 (mLst mNil))
      (bSeq (bFor (mSeqF (mCB (f1 fSortedD) (wCons (mCall g_law_known_lots (mCons (mVar 0) mNil)) wNil))) (gN 2)
      (bSeq (bSet 3 (mCall g_law_signed (mCons (mCall g_law_link (mCons (mVar 0) (mCons (mVar 2) mNil))) mNil)))
      (bExt 1 (mIfE (mVal (mOp (fEq true) (mVar 3) (mC (.int 0)))) (mLst (mCons (mTup (mCons (mVar 2) (mCons (mVar 3) mNil))) mNil)) (mLst mNil)))))
      (bRet (mCB (f1 fTuple) (wCons (mVar 1) wNil)))))
def g_law_all_sums : List D → Option Rv := gOf 1 ["company", "found", "lot", "number"] m_law_all_sums

def m_by_sizes : MB :=
    (bSizes 1 2 (mRg1 (wCons (mOp fAdd3 (mCB (f1 fMaxL) (wCons (mLst (mCons (mUn fNeg (mC (.int 1))) (mStar (mLc (mSeq (mOp fIx (mVar 0) (mC (.int 1)))) (gN 2) mYes (mCB (f1 fLen) (wCons (mVar 2) wNil)) [2]) mNil))) wNil)) (mC (.int 1))) wNil)) (mSeqF (mCall g_lots_of (mCons (mVar 0) mNil))))
def g_by_sizes : List D → Option Rv := gOf 1 ["company", "found", "lot", "size"] m_by_sizes

def m_check_company : MB :=
    (bIf (mNot (mVal (mCall g_is_company (mCons (mVar 0) mNil)))) bNever bNext)
def g_check_company : List D → Option Rv := gOf 1 ["value"] m_check_company

def m_least_rows : MB :=
    (bSeq (bSet 1 mDic)
      (bSeq (bFor (mSeqF (mCall g_meets_of (mCons (mOp fIx (mVar 0) (mC (.int 1))) mNil))) (gN 2)
      (bSeq (bSet 3 (mOp (fI fun i j => i - j) (mC (.int 1)) (mCB (f1 fSum) (wCons (mLock 1 (mLc (mItemsL (mVar 1)) (gN2 4 5) (mVal (mCall g_is_within (mCons (mVar 2) (mCons (mVar 4) mNil)))) (mVar 5) [4, 5])) wNil))))
      (bIf (mVal (mOp (fEq true) (mVar 3) (mC (.int 0)))) (bDPut 1 (mVar 2) (mVar 3)) bNext)))
      (bRet (mVar 1))))
def g_least_rows : List D → Option Rv := gOf 1 ["company", "found", "lot", "number", "other", "one"] m_least_rows

def m_law_least_sums : MB :=
    (bSeq (bSet 1 mDic)
      (bSeq (bFor (mSeqF (mCall g_law_meets (mCons (mOp fIx (mVar 0) (mC (.int 1))) mNil))) (gN 2)
      (bSeq (bSet 3 (mOp (fI fun i j => i - j) (mC (.int 1)) (mCB (f1 fSum) (wCons (mLock 1 (mLc (mKeys (mVar 1)) (gN 4) (mVal (mCall g_law_is_part (mCons (mVar 2) (mCons (mVar 4) mNil)))) (mDGet (mVar 1) (mVar 4)) [4])) wNil))))
      (bIf (mVal (mOp (fEq true) (mVar 3) (mC (.int 0)))) (bDPut 1 (mVar 2) (mVar 3)) bNext)))
      (bRet (mCB (f1 fTuple) (wCons (mLc (mSeq (mCB (f1 fSortedD) (wCons (mVar 1) wNil))) (gN 2) mYes (mTup (mCons (mVar 2) (mCons (mDGet (mVar 1) (mVar 2)) mNil))) [2]) wNil)))))
def g_law_least_sums : List D → Option Rv := gOf 1 ["company", "found", "lot", "number", "other"] m_law_least_sums

def m_link : MB :=
    (bSeq (bDrop (mCall g_check_company (mCons (mVar 0) mNil)))
      (bSeq (bDrop (mCall g_check_lot (mCons (mVar 0) (mCons (mVar 1) mNil))))
      (bRet (mCall g_link_of (mCons (mVar 0) (mCons (mVar 1) mNil))))))
def g_link : List D → Option Rv := gOf 2 ["company", "lot"] m_link

def m_without : MB :=
    (bSeq (bDrop (mCall g_check_company (mCons (mVar 0) mNil)))
      (bSeq (bDrop (mCall g_check_lot (mCons (mVar 0) (mCons (mVar 1) mNil))))
      (bRet (mCall g_without_of (mCons (mVar 0) (mCons (mVar 1) mNil))))))
def g_without : List D → Option Rv := gOf 2 ["company", "lot"] m_without

def m_check_same : MB :=
    (bSeq (bDrop (mCall g_check_company (mCons (mVar 0) mNil)))
      (bIf (mOr (mNot (mVal (mCall g_is_company (mCons (mVar 1) mNil)))) (mVal (mOp (fEq true) (mOp fIx (mVar 1) (mC (.int 0))) (mOp fIx (mVar 0) (mC (.int 0)))))) bNever bNext))
def g_check_same : List D → Option Rv := gOf 2 ["one", "other"] m_check_same

def m_signed_of : MB :=
    (bRet (mCB (f1 fSum) (wCons (mLc (mEn (wCons (mCall g_by_sizes (mCons (mVar 0) mNil)) wNil)) (gN2 1 2) mYes (mOp (fIc cMul fun i j => i * j) (mOp (fI fun i j => i - j) (mC (.int 1)) (mOp (fIc cMul fun i j => i * j) (mC (.int 2)) (mOp (fIc cMod fun i j => i % j) (mVar 1) (mC (.int 2))))) (mCB (f1 fLen) (wCons (mVar 2) wNil))) [1, 2]) wNil)))
def g_signed_of : List D → Option Rv := gOf 1 ["company", "size", "lots"] m_signed_of

def m_least_sums : MB :=
    (bSeq (bDrop (mCall g_check_company (mCons (mVar 0) mNil)))
      (bSeq (bSet 1 (mCall g_least_rows (mCons (mVar 0) mNil)))
      (bRet (mCB (f1 fTuple) (wCons (mLc (mSeq (mCB (f1 fSortedD) (wCons (mVar 1) wNil))) (gN 2) mYes (mTup (mCons (mVar 2) (mCons (mDGet (mVar 1) (mVar 2)) mNil))) [2]) wNil)))))
def g_least_sums : List D → Option Rv := gOf 1 ["company", "found", "lot"] m_least_sums

def m_shows_sums : MB :=
    (bSeq (bDrop (mCall g_check_company (mCons (mVar 0) mNil)))
      (bSeq (bIf (mOr (mNot (mVal (mUn (fIsi "tuple") (mVar 1)))) (mNot (mVal (mCB (f1 fAll) (wCons (mLc (mSeq (mVar 1)) (gN 3) mYes (mCall g_is_row (mCons (mVar 0) (mCons (mVar 3) mNil))) [3]) wNil))))) (bRet (mC (.bool false))) bNext)
      (bSeq (bIf (mNot (mVal (mCB (f1 fAll) (wCons (mLc (mZipA (wCons (mVar 1) (wCons (mSl (mVar 1) (mPart (mC (.int 1))) mNoP) wNil))) (gN2 4 5) mYes (mOp fLtT (mOp fIx (mVar 4) (mC (.int 0))) (mOp fIx (mVar 5) (mC (.int 0)))) [4, 5]) wNil)))) (bRet (mC (.bool false))) bNext)
      (bRet (mCB (f1 fAll) (wCons (mLc (mSeq (mCall g_lots_of (mCons (mVar 0) mNil))) (gN 2) mYes (mOp (fEq false) (mCB (f1 fSum) (wCons (mLc (mSeq (mVar 1)) (gN2 5 6) (mVal (mCall g_is_within (mCons (mVar 2) (mCons (mVar 5) mNil)))) (mVar 6) [5, 6]) wNil)) (mC (.int 1))) [2]) wNil))))))
def g_shows_sums : List D → Option Rv := gOf 2 ["company", "value", "lot", "row", "one", "other", "number"] m_shows_sums

def m_sum_by : MB :=
    (bSeq (bDrop (mCall g_check_company (mCons (mVar 0) mNil)))
      (bSeq (bSet 2 (mOp fIx (mVar 0) (mC (.int 0))))
      (bSeq (bIf (mOr (mNot (mVal (mCall g_is_tuple (mCons (mVar 1) (mCons (mVar 2) (mCons (mVar 2) mNil)))))) (mNot (mVal (mCB (f1 fAll) (wCons (mLc (mSeq (mVar 1)) (gN 7) mYes (mCall g_is_integer (mCons (mVar 7) (mCons (mUn fNeg (mC (.int 1000))) (mCons (mC (.int 1000)) mNil)))) [7]) wNil))))) bNever bNext)
      (bSeq (bSet 3 (mC (.int 0)))
      (bSeq (bFor (mItemsN (mCall g_least_rows (mCons (mVar 0) mNil))) (gN2 4 5)
      (bSeq (bFrz 4 (bFor (mSeqF (mVar 4)) (gN 6)
      (bSet 5 (mOp (fIc cMul fun i j => i * j) (mVar 5) (mOp fAdd3 (mC (.int 1)) (mOp fIx (mVar 1) (mVar 6)))))))
      (bSet 3 (mOp fAdd3 (mVar 3) (mVar 5)))))
      (bRet (mVar 3)))))))
def g_sum_by : List D → Option Rv := gOf 2 ["company", "worths", "many", "total", "lot", "number", "guest", "one"] m_sum_by

def m_check_numbers : MB :=
    (bSeq (bDrop (mCall g_check_company (mCons (mVar 0) mNil)))
      (bSeq (bSet 2 (mCall g_lots_of (mCons (mVar 0) mNil)))
      (bSeq (bIf (mOr (mNot (mVal (mCall g_is_tuple (mCons (mVar 1) (mCons (mCB (f1 fLen) (wCons (mVar 2) wNil)) (mCons (mCB (f1 fLen) (wCons (mVar 2) wNil)) mNil)))))) (mNot (mVal (mCB (f1 fAll) (wCons (mLc (mSeq (mVar 1)) (gN 3) mYes (mCall g_is_whole (mCons (mVar 3) mNil)) [3]) wNil))))) bNever bNext)
      (bRet (mVar 2)))))
def g_check_numbers : List D → Option Rv := gOf 2 ["company", "value", "lots", "one"] m_check_numbers

def m_either : MB :=
    (bSeq (bDrop (mCall g_check_same (mCons (mVar 0) (mCons (mVar 1) mNil))))
      (bRet (mCall g_company_by (mCons (mOp fIx (mVar 0) (mC (.int 0))) (mCons (mLst (mStar (mOp fIx (mVar 0) (mC (.int 1))) (mStar (mOp fIx (mVar 1) (mC (.int 1))) mNil))) mNil)))))
def g_either : List D → Option Rv := gOf 2 ["one", "other"] m_either

def m_both : MB :=
    (bSeq (bDrop (mCall g_check_same (mCons (mVar 0) (mCons (mVar 1) mNil))))
      (bSeq (bSet 2 (mLst mNil))
      (bSeq (bFor (mSeqF (mOp fIx (mVar 0) (mC (.int 1)))) (gN 3)
      (bExt 2 (mLc (mSeq (mOp fIx (mVar 1) (mC (.int 1)))) (gN 4) mYes (mCB (f1 fTuple) (wCons (mLc (mSeq (mVar 3)) (gN 5) (mVal (mOp (fIn false) (mVar 5) (mVar 4))) (mVar 5) [5]) wNil)) [4])))
      (bFrz 2 (bRet (mCall g_company_by (mCons (mOp fIx (mVar 0) (mC (.int 0))) (mCons (mVar 2) mNil))))))))
def g_both : List D → Option Rv := gOf 2 ["one", "other", "found", "lot", "its", "guest"] m_both

def m_signed : MB :=
    (bSeq (bDrop (mCall g_check_company (mCons (mVar 0) mNil)))
      (bRet (mCall g_signed_of (mCons (mVar 0) mNil))))
def g_signed : List D → Option Rv := gOf 1 ["company"] m_signed

def m_sign_above : MB :=
    (bSeq (bDrop (mCall g_check_company (mCons (mVar 0) mNil)))
      (bSeq (bDrop (mCall g_check_lot (mCons (mVar 0) (mCons (mVar 1) mNil))))
      (bSeq (bIf (mNot (mVal (mCall g_is_asked (mCons (mVar 0) (mCons (mVar 1) mNil))))) bNever bNext)
      (bRet (mUn fNeg (mCall g_signed_of (mCons (mCall g_link_of (mCons (mVar 0) (mCons (mVar 1) mNil))) mNil)))))))
def g_sign_above : List D → Option Rv := gOf 2 ["company", "lot"] m_sign_above

def m_summed : MB :=
    (bRet (mCall g_along (mCons (mCall g_check_numbers (mCons (mVar 0) (mCons (mVar 1) mNil))) (mCons (mVar 1) (mCons (mC (.int 1)) (mCons (mOp fIx (mVar 0) (mC (.int 0))) mNil))))))
def g_summed : List D → Option Rv := gOf 2 ["company", "numbers"] m_summed

def m_unsummed : MB :=
    (bRet (mCall g_along (mCons (mCall g_check_numbers (mCons (mVar 0) (mCons (mVar 1) mNil))) (mCons (mVar 1) (mCons (mUn fNeg (mC (.int 1))) (mCons (mOp fIx (mVar 0) (mC (.int 0))) mNil))))))
def g_unsummed : List D → Option Rv := gOf 2 ["company", "numbers"] m_unsummed

def m_law_right : MB :=
    (bSeq (bSet 1 (mCallP 0 g_law_drawn (mCons (mC (.int 1)) (mCons (mC (.int 7)) mNil))))
      (bSeq (bFrz 1 (bSet 2 (mCB (f2 fSumL) (wCons (mCall g_law_lots (mCons (mVar 1) mNil)) (wCons (mLst mNil) wNil)))))
      (bSeq (bFrz 1 (bIf (mVal (mOp (fEq true) (mCall g_signed (mCons (mVar 1) mNil)) (mCall g_law_signed (mCons (mVar 1) mNil)))) (bRet (mC (.bool false))) bNext))
      (bSeq (bSet 3 (mCB (f1 fTuple) (wCons (mLc (mRg1 (wCons (mOp fIx (mVar 1) (mC (.int 0))) wNil)) (gN 17) mYes (mCallP 0 g_law_of (mCons (mLst (mCons (mC (.int 0)) (mCons (mC (.int 1)) (mCons (mUn fNeg (mC (.int 1))) (mCons (mC (.int 1000)) (mCons (mUn fNeg (mC (.int 1000))) (mCons (mC (.int 7)) mNil))))))) mNil)) [17]) wNil)))
      (bSeq (bFrz 1 (bIf (mVal (mOp (fEq true) (mCall g_sum_by (mCons (mVar 1) (mCons (mVar 3) mNil))) (mCB (f1 fSum) (wCons (mLc (mSeq (mVar 2)) (gN 4) mYes (mCall g_law_product (mCons (mVar 4) (mCons (mVar 3) mNil))) [4]) wNil)))) (bRet (mC (.bool false))) bNext))
      (bSeq (bFor (mSeqF (mSl (mVar 2) mNoP (mPart (mCallP 0 g_law_take (mCons (mC (.int 12)) mNil))))) (gN 4)
      (bFrz 1 (bIf (mVal (mOp (fEq true) (mCall g_sign_above (mCons (mVar 1) (mCons (mVar 4) mNil))) (mUn fNeg (mCall g_law_signed (mCons (mCall g_law_link (mCons (mVar 1) (mCons (mVar 4) mNil))) mNil))))) (bRet (mC (.bool false))) bNext)))
      (bSeq (bFrz 1 (bSet 5 (mCall g_least_sums (mCons (mVar 1) mNil))))
      (bSeq (bFrz 5 (bFrz 1 (bIf (mOr (mVal (mOp (fEq true) (mVar 5) (mCall g_law_least_sums (mCons (mVar 1) mNil)))) (mNot (mVal (mCall g_law_is_sums (mCons (mVar 1) (mCons (mVar 5) mNil)))))) (bRet (mC (.bool false))) bNext)))
      (bSeq (bSet 6 (mCallP 0 g_law_take (mCons (mCB (f1 fLen) (wCons (mVar 5) wNil)) mNil)))
      (bSeq (bAsg (gN2 4 19) (mOp fIx (mVar 5) (mVar 6)))
      (bSeq (bFrz 2 (bSet 7 (mCallP 0 g_law_of (mCons (mVar 2) mNil))))
      (bSeq (bFrz 1 (bSet 8 (mLst (mCons (mVar 5) (mCons (mCall g_law_all_sums (mCons (mVar 1) mNil)) (mCons (mOp fAdd3 (mSl (mVar 5) mNoP (mPart (mVar 6))) (mSl (mVar 5) (mPart (mOp fAdd3 (mVar 6) (mC (.int 1)))) mNoP)) (mCons (mOp fAdd3 (mOp fAdd3 (mSl (mVar 5) mNoP (mPart (mVar 6))) (mTup (mCons (mTup (mCons (mVar 4) (mCons (mOp fAdd3 (mVar 19) (mC (.int 1))) mNil))) mNil))) (mSl (mVar 5) (mPart (mOp fAdd3 (mVar 6) (mC (.int 1)))) mNoP)) mNil)))))))
      (bSeq (bApp 8 (mCB (f1 fTuple) (wCons (mCB (f1 fSorted) (wCons (mOp fAdd3 (mLc (mSeq (mVar 5)) (gN 21) (mVal (mOp (fEq true) (mOp fIx (mVar 21) (mC (.int 0))) (mVar 7))) (mVar 21) [21]) (mLst (mCons (mTup (mCons (mVar 7) (mCons (mOp (fI fun i j => i - j) (mCallP 0 g_law_take (mCons (mC (.int 5)) mNil)) (mC (.int 2))) mNil))) mNil))) wNil)) wNil)))
      (bSeq (bFrz 8 (bFor (mSeqF (mVar 8)) (gN 9)
      (bFrz 1 (bIf (mVal (mOp (fEq true) (mCB (f1 fReprB) (wCons (mCall g_shows_sums (mCons (mVar 1) (mCons (mVar 9) mNil))) wNil)) (mCB (f1 fReprB) (wCons (mCall g_law_is_sums (mCons (mVar 1) (mCons (mVar 9) mNil))) wNil)))) (bRet (mC (.bool false))) bNext))))
      (bSeq (bSet 10 (mCB (f1 fTuple) (wCons (mLc (mSeq (mVar 2)) (gN 4) mYes (mCallP 0 g_law_of (mCons (mLst (mCons (mC (.int 0)) (mCons (mC (.int 1)) (mCons (mUn fNeg (mC (.int 3))) (mCons (mOp (fIc cPowW fun i j => i ^ j.toNat) (mC (.int 10)) (mC (.int 30))) (mCons (mCallP 0 g_law_take (mCons (mC (.int 50)) mNil)) mNil)))))) mNil)) [4]) wNil)))
      (bSeq (bSet 11 (mDictL (mLZip (wCons (mVar 2) (wCons (mVar 10) wNil)))))
      (bSeq (bSet 12 (mCB (f1 fTuple) (wCons (mLc (mSeq (mVar 2)) (gN 4) mYes (mCB (f1 fSum) (wCons (mLc (mSeq (mCall g_law_parts (mCons (mVar 4) mNil))) (gN 20) mYes (mDGet (mVar 11) (mVar 20)) [20]) wNil)) [4]) wNil)))
      (bSeq (bFrz 1 (bIf (mOr (mVal (mOp (fEq true) (mCall g_summed (mCons (mVar 1) (mCons (mVar 10) mNil))) (mVar 12))) (mVal (mOp (fEq true) (mCall g_unsummed (mCons (mVar 1) (mCons (mVar 12) mNil))) (mVar 10)))) (bRet (mC (.bool false))) bNext))
      (bSeq (bSet 13 (mLst mNil))
      (bSeq (bFrz 2 (bFor (mSeqF (mVar 2)) (gN 4)
      (bApp 13 (mCB (f1 fSum) (wCons (mLc (mSeq (mCall g_law_parts (mCons (mVar 4) mNil))) (gN 20) mYes (mOp (fIc cMul fun i j => i * j) (mDGet (mVar 11) (mVar 20)) (mIfE (mVal (mOp (fEq false) (mOp (fIc cMod fun i j => i % j) (mOp (fI fun i j => i - j) (mCB (f1 fLen) (wCons (mVar 4) wNil)) (mCB (f1 fLen) (wCons (mVar 20) wNil))) (mC (.int 2))) (mC (.int 0)))) (mC (.int 1)) (mUn fNeg (mC (.int 1))))) [20]) wNil)))))
      (bSeq (bFrz 1 (bIf (mOr (mVal (mOp (fEq true) (mCall g_unsummed (mCons (mVar 1) (mCons (mVar 10) mNil))) (mCB (f1 fTuple) (wCons (mVar 13) wNil)))) (mVal (mOp (fEq true) (mCall g_summed (mCons (mVar 1) (mCons (mCB (f1 fTuple) (wCons (mVar 13) wNil)) mNil))) (mVar 10)))) (bRet (mC (.bool false))) bNext))
      (bSeq (bSet 14 (mCB (f1 fSum) (wCons (mLc (mSeq (mVar 5)) (gN2 4 19) mYes (mOp (fIc cMul fun i j => i * j) (mVar 19) (mOp fIx (mVar 12) (mOp fIndex (mVar 2) (mVar 4)))) [4, 19]) wNil)))
      (bSeq (bIf (mVal (mOp (fEq true) (mVar 14) (mCB (f1 fSumT) (wCons (mVar 10) wNil)))) (bRet (mC (.bool false))) bNext)
      (bSeq (bSet 15 (mCall g_law_company (mCons (mOp fIx (mVar 1) (mC (.int 0))) (mCons (mOp fIx (mCallP 0 g_law_drawn (mCons (mOp fIx (mVar 1) (mC (.int 0))) (mCons (mOp fIx (mVar 1) (mC (.int 0))) mNil))) (mC (.int 1))) mNil))))
      (bSeq (bFrz 15 (bFrz 1 (bSet 16 (mOp fAdd3 (mCall g_sum_by (mCons (mCall g_either (mCons (mVar 1) (mCons (mVar 15) mNil))) (mCons (mVar 3) mNil))) (mCall g_sum_by (mCons (mCall g_both (mCons (mVar 1) (mCons (mVar 15) mNil))) (mCons (mVar 3) mNil)))))))
      (bSeq (bFrz 15 (bFrz 1 (bIf (mVal (mOp (fEq true) (mVar 16) (mOp fAdd3 (mCall g_sum_by (mCons (mVar 1) (mCons (mVar 3) mNil))) (mCall g_sum_by (mCons (mVar 15) (mCons (mVar 3) mNil)))))) (bRet (mC (.bool false))) bNext)))
      (bSeq (bSet 17 (mCallP 0 g_law_take (mCons (mOp fIx (mVar 1) (mC (.int 0))) mNil)))
      (bSeq (bFrz 1 (bSet 18 (mOp fAdd3 (mCall g_sum_by (mCons (mCall g_without (mCons (mVar 1) (mCons (mTup (mCons (mVar 17) mNil)) mNil))) (mCons (mVar 3) mNil))) (mOp (fIc cMul fun i j => i * j) (mOp fIx (mVar 3) (mVar 17)) (mCall g_sum_by (mCons (mCall g_link (mCons (mVar 1) (mCons (mTup (mCons (mVar 17) mNil)) mNil))) (mCons (mVar 3) mNil)))))))
      (bFrz 1 (bRet (mOp (fEq false) (mCall g_sum_by (mCons (mVar 1) (mCons (mVar 3) mNil))) (mVar 18))))))))))))))))))))))))))))))))
def g_law_right : List D → List Int → Option (Rv × List Int) := gOfP 1 ["pot", "company", "lots", "worths", "lot", "told", "at", "other", "values", "value", "numbers", "known", "sums", "back", "whole", "second", "both_sum", "guest", "parts", "number", "part", "row"] m_law_right
end
end K15
end
section
set_option Elab.async false
set_option linter.all false
set_option maxRecDepth 100000
/-! Pe0: meanings worked out: comprehensions, loops. -/
namespace Pd
open PySem PySem.Spec PySem.W L2
variable [TB]
section
variable {α β : Type} {mg : MG} {mt : MT} {me mk mv : MV} {mi : ML} {mb : MB} {ρ : List Sl} {pt p : List Int} {vs : List Nat}
theorem lcGo_pure (e : α → D) (b : α → Bool) (z : α → D) : ∀ (ks : List α) (acc : List D), (∀ k ∈ ks, ∃ ρ2, mg (e k) ρ = some ρ2 ∧ mt ρ2 p = some (b k, p) ∧ (b k = true → ∃ r, me ρ2 p = some (r, p) ∧ r.fix? = some (z k))) →
    acc.length + ks.length ≤ sizeLine → lcGo mg mt me ρ (ks.map e) acc p = some (acc ++ (ks.filter b).map z, p)
  | [], acc, _, _ => by simp [lcGo]
  | k :: ks, acc, h, hz => by
    obtain ⟨ρ2, h1, h2, h3⟩ := h k List.mem_cons_self
    rw [List.length_cons] at hz
    have h' := fun j hj => h j (List.mem_cons_of_mem _ hj)
    rw [List.map_cons]
    unfold lcGo
    rw [h1, Option.bind_some, h2, Option.bind_some]
    cases hb : b k with
    | false =>
      rw [List.filter_cons_of_neg (by rw [hb]; exact Bool.false_ne_true)]
      simp only [Bool.false_eq_true, if_false]
      exact lcGo_pure e b z ks acc h' (by omega)
    | true =>
      obtain ⟨r, h4, h5⟩ := h3 hb
      rw [List.filter_cons_of_pos hb, List.map_cons]
      simp only [if_true]
      rw [h4, Option.bind_some, h5, Option.bind_some, if_pos (by omega)]
      rw [lcGo_pure e b z ks (acc ++ [z k]) h' (by rw [List.length_append, List.length_singleton]; omega)]
      simp
theorem lc_map (e : α → D) (b : α → Bool) (z : α → D) (ks : List α) (hi : mi ρ pt = some (ks.map e, p)) (h : ∀ k ∈ ks, ∃ ρ2, mg (e k) (wipeR ρ vs) = some ρ2 ∧ mt ρ2 p = some (b k, p) ∧ (b k = true → ∃ r, me ρ2 p = some (r, p) ∧ r.fix? = some (z k)))
    (hz : ks.length ≤ sizeLine) : mLc mi mg mt me vs ρ pt = some (.lst ((ks.filter b).map z), p) := by
  unfold mLc
  rw [hi, Option.bind_some, lcGo_pure e b z ks [] h (by simpa using hz)]
  simp
theorem lc_all (e : α → D) (z : α → D) (ks : List α) (hi : mi ρ pt = some (ks.map e, p)) (h : ∀ k ∈ ks, ∃ ρ2, mg (e k) (wipeR ρ vs) = some ρ2 ∧ ∃ r, me ρ2 p = some (r, p) ∧ r.fix? = some (z k))
    (hz : ks.length ≤ sizeLine) : mLc mi mg mYes me vs ρ pt = some (.lst (ks.map z), p) := by
  rw [lc_map e (fun _ => true) z ks hi (fun k hk => ?_) hz, List.filter_eq_self.mpr (fun _ _ => rfl)]
  obtain ⟨ρ2, h1, h2⟩ := h k hk
  exact ⟨ρ2, h1, rfl, fun _ => h2⟩
/-- a loop whose body keeps a relation to plain states -/
theorem forGo_rel (e : α → D) (Rel : β → List Sl → Prop) (step : β → α → β) : ∀ (ks : List α) (x : β) (ρ : List Sl), Rel x ρ → (∀ (y : β) (ρ' : List Sl) (k : α), k ∈ ks → Rel y ρ' → ∃ ρ1 ρ2, mg (e k) ρ' = some ρ1 ∧ mb ρ1 p = some (.nx ρ2 p) ∧ Rel (step y k) ρ2) →
    ∃ ρ2, forGo mg mb (ks.map e) ρ p = some (.nx ρ2 p) ∧ Rel (ks.foldl step x) ρ2
  | [], x, ρ, hR, _ => ⟨ρ, rfl, hR⟩
  | k :: ks, x, ρ, hR, h => by
    obtain ⟨ρ1, ρ2, h1, h2, h3⟩ := h x ρ k List.mem_cons_self hR
    obtain ⟨ρ3, h4, h5⟩ := forGo_rel e Rel step ks (step x k) ρ2 h3 fun y ρ' j hj => h y ρ' j (List.mem_cons_of_mem _ hj)
    refine ⟨ρ3, ?_, h5⟩
    rw [List.map_cons]
    unfold forGo
    rw [h1, Option.bind_some, h2, Option.bind_some]
    exact h4
theorem dcGo_pure (e : α → D) (kk : α → List Int) (z : α → D) : ∀ (ks : List α) (acc : List (List Int × D)), (∀ k ∈ ks, ∃ ρ2 r s, mg (e k) ρ = some ρ2 ∧ mk ρ2 p = some (r, p) ∧ r.key? = some (kk k) ∧ mv ρ2 p = some (s, p) ∧ s.fix? = some (z k)) →
    acc.length + ks.length ≤ sizeLine → dcGo mg mYes mk mv ρ (ks.map e) acc p = some (ks.foldl (fun a k => kPut a (kk k) (z k)) acc, p)
  | [], acc, _, _ => rfl
  | k :: ks, acc, h, hz => by
    obtain ⟨ρ2, r, s, h1, h2, h3, h4, h5⟩ := h k List.mem_cons_self
    rw [List.length_cons] at hz
    have hl : (kPut acc (kk k) (z k)).length ≤ acc.length + 1 := by
      unfold kPut
      split
      · rw [List.length_map]; omega
      · simp
    rw [List.map_cons]
    unfold dcGo
    rw [h1, Option.bind_some]
    show ((some (true, p) : Option (Bool × List Int)).bind _) = _
    rw [Option.bind_some]
    simp only [if_true]
    rw [h2, Option.bind_some, h3, Option.bind_some, h4, Option.bind_some, h5, Option.bind_some, if_pos (by omega)]
    exact dcGo_pure e kk z ks _ (fun j hj => h j (List.mem_cons_of_mem _ hj)) (by omega)
end
/-! ### statements, one behind another -/
section
variable {m n : MB} {me ma mb : MV} {mt : MT} {ρ : List Sl} {pt p : List Int} {o : Option Out}
theorem ev_set {i : Nat} {r : Rv} {s : Sl} (h : me ρ pt = some (r, p)) (hs : r.sl = some s) : bSet i me ρ pt = some (.nx (ρ.set i s) p) := by
  unfold bSet
  rw [h, Option.bind_some, hs]
  rfl
theorem ev_seq {ρ' : List Sl} (h : m ρ pt = some (.nx ρ' p)) (k : n ρ' p = o) : bSeq m n ρ pt = o := by
  unfold bSeq
  rw [h, Option.bind_some]
  exact k
theorem ev_seqR {r : Rv} (h : m ρ pt = some (.rt r p)) : bSeq m n ρ pt = some (.rt r p) := by
  unfold bSeq
  rw [h, Option.bind_some]
theorem ev_ret {r : Rv} (h : me ρ pt = some (r, p)) : bRet me ρ pt = some (.rt r.out p) := by
  unfold bRet
  rw [h]
  rfl
theorem ev_ifT (h : mt ρ pt = some (true, p)) (k : m ρ p = o) : bIf mt m n ρ pt = o := by
  unfold bIf
  rw [h, Option.bind_some, if_pos rfl]
  exact k
theorem ev_ifF (h : mt ρ pt = some (false, p)) (k : n ρ p = o) : bIf mt m n ρ pt = o := by
  unfold bIf
  rw [h, Option.bind_some, if_neg Bool.false_ne_true]
  exact k
theorem ev_if {b : Bool} (h : mt ρ pt = some (b, p)) (kT : b = true → m ρ p = o) (kF : b = false → n ρ p = o) : bIf mt m n ρ pt = o := by
  cases b with
  | true => exact ev_ifT h (kT rfl)
  | false => exact ev_ifF h (kF rfl)
theorem ev_for {mi : ML} {mg : MG} {ds : List D} (h : mi ρ pt = some (ds, p)) (k : forGo mg m ds ρ p = o) : bFor mi mg m ρ pt = o := by
  unfold bFor
  rw [h, Option.bind_some]
  exact k
theorem ev_drop {r : Rv} (h : me ρ pt = some (r, p)) : bDrop me ρ pt = some (.nx ρ p) := by
  unfold bDrop
  rw [h]
  rfl
/-- a def's result -/
theorem gOf_eq {k : Nat} {N : List Str} {ds : List D} {r : Rv} (hn : ds.length = k) {o : Out} {p : List Int} (h : m (startR N ds) [] = some o) (hb : o.back = some (r, p)) : gOf k N m ds = some r := by
  unfold gOf
  rw [if_pos hn, h, Option.bind_some, hb]
  rfl
theorem gOfP_eq {k : Nat} {N : List Str} {ds : List D} {r : Rv} {pt p : List Int} (hn : ds.length + 1 = k) {o : Out} (h : m (startP N ds) pt = some o) (hb : o.back = some (r, p)) : gOfP k N m ds pt = some (r, p) := by
  unfold gOfP
  rw [if_pos hn, h, Option.bind_some, hb]
end
/-- what walks and reads are made of -/
theorem seq_is {me : MV} {ρ : List Sl} {pt p : List Int} {r : Rv} {l : List D} (h : me ρ pt = some (r, p)) (hl : r.sq? = some l) : mSeq me ρ pt = some (l, p) := by
  unfold mSeq
  rw [h, Option.bind_some, hl]
  rfl
theorem seqF_is {me : MV} {ρ : List Sl} {pt p : List Int} {r : Rv} {d : D} {l : List D} (h : me ρ pt = some (r, p)) (hd : r.fix? = some d) (hl : seqD d = some l) : mSeqF me ρ pt = some (l, p) := by
  unfold mSeqF
  rw [h, Option.bind_some, hd, Option.bind_some, hl]
  rfl
theorem cb1_is {f : Rv → Option Rv} {me : MV} {ρ : List Sl} {pt p : List Int} {r z : Rv} (h : me ρ pt = some (r, p)) (hf : f r = some z) : mCB (f1 f) (wCons me wNil) ρ pt = some (z, p) := by
  unfold mCB wCons wNil
  rw [h, Option.bind_some]
  show (f1 f [r]).map _ = _
  show (f r).map _ = _
  rw [hf]
  rfl
theorem boolsA_mapb {α : Type} (f : α → Bool) : ∀ l : List α, boolsA? (l.map fun k => .bool (f k)) = some (l.map f)
  | [] => rfl
  | k :: l => by
    show (boolsA? (l.map fun k => PyData.bool (f k))).map (fun l => f k :: l) = _
    rw [boolsA_mapb f l]
    rfl
theorem all_is {α : Type} (f : α → Bool) (l : List α) : fAll (.lst (l.map fun k => .bool (f k))) = some (.dat (.bool (l.all f))) := by
  show (boolsA? (l.map fun k => PyData.bool (f k))).map _ = _
  rw [boolsA_mapb]
  simp [List.all_map]
theorem any_is {α : Type} (f : α → Bool) (l : List α) : fAny (.lst (l.map fun k => .bool (f k))) = some (.dat (.bool (l.any f))) := by
  show (boolsA? (l.map fun k => PyData.bool (f k))).map _ = _
  rw [boolsA_mapb]
  simp [List.any_map]
theorem sum_is {α : Type} (f : α → Int) (l : List α) : fSum (.lst (l.map fun k => .int (f k))) = some (.dat (.int (l.map f).sum)) := by
  show (intsA? (l.map fun k => PyData.int (f k))).map _ = _
  have e : (l.map fun k => PyData.int (f k)) = (l.map f).map .int := by rw [List.map_map]; rfl
  rw [e, intsA_map]
  rfl
end Pd
end
section
set_option Elab.async false
set_option linter.all false
set_option maxRecDepth 100000
/-! Pe1: the small defs worked out. -/
namespace K15
open PySem PySem.Spec PySem.W L2 Pd
variable [TB]
abbrev tD (l : List (List Int)) : D := .tuple (l.map tI)
abbrev cD (n : Int) (F : List (List Int)) : D := .tuple [.int n, tD F]
section
variable {ma mb : MV} {f : Rv → Rv → Option Rv} {ρ : List Sl} {pt p q : List Int} {x y z : Rv}
theorem op_is (ha : ma ρ pt = some (x, p)) (hb : mb ρ p = some (y, q)) (h : f x y = some z) : mOp f ma mb ρ pt = some (z, q) := by
  unfold mOp
  rw [ha, Option.bind_some, hb, Option.bind_some, h]
  rfl
theorem un_is {f : Rv → Option Rv} (ha : ma ρ pt = some (x, p)) (h : f x = some z) : mUn f ma ρ pt = some (z, p) := by
  unfold mUn
  rw [ha, Option.bind_some, h]
  rfl
theorem val_is {b : Bool} (ha : ma ρ pt = some (.dat (.bool b), p)) : mVal ma ρ pt = some (b, p) := by
  unfold mVal
  rw [ha]
  rfl
theorem not_is {mt : MT} {b : Bool} (h : mt ρ pt = some (b, p)) : mNot mt ρ pt = some (!b, p) := by
  unfold mNot
  rw [h]
  rfl
theorem andV_is {a b : Bool} (ha : ma ρ pt = some (.dat (.bool a), p)) (hb : a = true → mb ρ p = some (.dat (.bool b), p)) : mAndV ma mb ρ pt = some (.dat (.bool (a && b)), p) := by
  unfold mAndV
  rw [ha, Option.bind_some]
  show ((some a).bind _) = _
  rw [Option.bind_some]
  cases a with
  | true => rw [if_pos rfl, hb rfl]; rfl
  | false => rw [if_neg Bool.false_ne_true]; rfl
theorem or_is {ma mb : MT} {a b : Bool} (ha : ma ρ pt = some (a, p)) (hb : a = false → mb ρ p = some (b, p)) : mOr ma mb ρ pt = some (a || b, p) := by
  unfold mOr
  rw [ha, Option.bind_some]
  cases a with
  | true => rfl
  | false => exact hb rfl
theorem w2_is (ha : ma ρ pt = some (x, p)) (hb : mb ρ p = some (y, q)) : wCons ma (wCons mb wNil) ρ pt = some ([x, y], q) := by
  unfold wCons wNil
  rw [ha, Option.bind_some, hb]
  rfl
theorem w1_is (ha : ma ρ pt = some (x, p)) : wCons ma wNil ρ pt = some ([x], p) := by
  unfold wCons wNil
  rw [ha]
  rfl
theorem sl_from {k : Int} (ha : ma ρ pt = some (x, p)) (h : fSl x (some k) none = some z) : mSl ma (mPart (mC (.int k))) mNoP ρ pt = some (z, p) := by
  unfold mSl
  rw [ha, Option.bind_some]
  show (fSl x (some k) none).map _ = _
  rw [h]
  rfl
theorem call1_is {g : List D → Option Rv} {d : D} (ha : ma ρ pt = some (x, p)) (hd : x.fix? = some d) (h : g [d] = some z) : mCall g (mCons ma mNil) ρ pt = some (z, p) := by
  unfold mCall mCons mNil
  rw [ha, Option.bind_some, hd, Option.bind_some]
  show (g [d]).map _ = _
  rw [h]
  rfl
theorem call2_is {g : List D → Option Rv} {d e : D} (ha : ma ρ pt = some (x, p)) (hd : x.fix? = some d) (hb : mb ρ p = some (y, q)) (he : y.fix? = some e) (h : g [d, e] = some z) : mCall g (mCons ma (mCons mb mNil)) ρ pt = some (z, q) := by
  unfold mCall mCons mNil
  rw [ha, Option.bind_some, hd, Option.bind_some, hb, Option.bind_some, he, Option.bind_some]
  show (g [d, e]).map _ = _
  rw [h]
  rfl
end
theorem in_is (neg : Bool) (k : Int) (b : List Int) : fIn neg (.dat (.int k)) (.dat (tI b)) = some (.dat (.bool (if neg then !b.contains k else b.contains k))) := by
  show ((intsA? (b.map .int)).map _) = _
  rw [intsA_map]
  rfl
theorem chain_int {i j k : Int} {ma mb mc : MV} {ρ : List Sl} {pt : List Int} (ha : ma ρ pt = some (.dat (.int i), pt)) (hb : mb ρ pt = some (.dat (.int j), pt)) (hc : mc ρ pt = some (.dat (.int k), pt)) :
    mChain (fB fun i j => decide (i ≤ j)) (fB fun i j => decide (i ≤ j)) ma mb mc ρ pt = some (.dat (.bool (decide (i ≤ j) && decide (j ≤ k))), pt) := by
  unfold mChain
  rw [ha, Option.bind_some, hb, Option.bind_some]
  rw [show fB (fun i j => decide (i ≤ j)) (Rv.dat (PyData.int i), pt).fst (Rv.dat (PyData.int j), pt).fst = some (.dat (.bool (decide (i ≤ j)))) from rfl, Option.bind_some]
  rw [show (Rv.dat (PyData.bool (decide (i ≤ j)))).bool? = some (decide (i ≤ j)) from rfl, Option.bind_some]
  cases decide (i ≤ j) with
  | true =>
    rw [if_pos rfl, hc]
    rfl
  | false => rw [if_neg Bool.false_ne_true]; rfl
theorem c_is_tuple (l : List D) (a b : Int) : g_is_tuple [.tuple l, .int a, .int b] = some (.dat (.bool (decide (a ≤ l.length) && decide ((l.length : Int) ≤ b)))) := by
  refine gOf_eq rfl (ev_ret (andV_is (a := true) (un_is rfl rfl) fun _ => chain_int (j := (l.length : Int)) rfl (cb1_is rfl rfl) rfl)) rfl
theorem c_is_whole (i : Int) : g_is_whole [.int i] = some (.dat (.bool true)) := by
  refine gOf_eq rfl (ev_ret (andV_is (a := true) (b := true) (un_is rfl rfl) fun _ => ?_)) rfl
  rfl
theorem c_is_integer (i a b : Int) : g_is_integer [.int i, .int a, .int b] = some (.dat (.bool (decide (a ≤ i) && decide (i ≤ b)))) := by
  refine gOf_eq rfl (ev_ret (andV_is (a := true) (call1_is rfl rfl (c_is_whole i)) fun _ => chain_int rfl rfl rfl)) rfl
theorem c_is_within (a b : List Int) (h : a.length ≤ sizeLine) : g_is_within [tI a, tI b] = some (.dat (.bool (a.all fun x => b.contains x))) :=
  gOf_eq rfl (ev_ret (cb1_is (lc_all (fun x => .int x) (fun x => .bool (b.contains x)) a (seq_is rfl rfl) (fun k _ => ⟨_, rfl, _, op_is rfl rfl (in_is false k b), rfl⟩) h) (all_is _ _))) rfl
theorem c_law_is_part (a b : List Int) (h : a.length ≤ sizeLine) : g_law_is_part [tI a, tI b] = some (.dat (.bool (a.all fun x => b.contains x))) :=
  gOf_eq rfl (ev_ret (cb1_is (lc_all (fun x => .int x) (fun x => .bool (b.contains x)) a (seq_is rfl rfl) (fun k _ => ⟨_, rfl, _, op_is rfl rfl (in_is false k b), rfl⟩) h) (all_is _ _))) rfl
/-- each number below the next one -/
def risb (l : List Int) : Bool := (l.zip (l.drop 1)).all fun p => decide (p.1 < p.2)
theorem cut_from1 (l : List D) : cutD l (some 1) none = l.drop 1 := by
  unfold cutD HT.sIx
  simp
  cases l with
  | nil => rfl
  | cons a r => simp
theorem c_is_rising (l : List Int) (h : l.length ≤ sizeLine) : g_is_rising [tI l] = some (.dat (.bool (risb l))) := by
  have hw : (wCons (mVar 0) (wCons (mSl (mVar 0) (mPart (mC (.int 1))) mNoP) wNil) : MW) (startR ["values", "one", "other"] [tI l]) [] = some ([.dat (tI l), .dat (tI (l.drop 1))], []) := by
    have e : fSl (.dat (tI l)) (some 1) none = some (.dat (tI (l.drop 1))) := by
      show some (Rv.dat (.tuple (cutD (l.map .int) (some 1) none))) = _
      rw [cut_from1, tI, List.map_drop]
    exact w2_is rfl (sl_from rfl e)
  have hi : mZipA (wCons (mVar 0) (wCons (mSl (mVar 0) (mPart (mC (.int 1))) mNoP) wNil)) (startR ["values", "one", "other"] [tI l]) [] = some ((l.zip (l.drop 1)).map (fun p => .tuple [.int p.1, .int p.2]), []) := by
    have e1 : mZip (wCons (mVar 0) (wCons (mSl (mVar 0) (mPart (mC (.int 1))) mNoP) wNil)) (startR ["values", "one", "other"] [tI l]) [] = none := by
      unfold mZip; rw [hw]; rfl
    have e2 : mZipT (wCons (mVar 0) (wCons (mSl (mVar 0) (mPart (mC (.int 1))) mNoP) wNil)) (startR ["values", "one", "other"] [tI l]) [] = some ((l.zip (l.drop 1)).map (fun p => .tuple [.int p.1, .int p.2]), []) := by
      unfold mZipT; rw [hw]
      show some (zipD (l.map .int) ((l.drop 1).map .int), ([] : List Int)) = _
      unfold zipD
      rw [List.zipWith_map, List.zip, List.map_zipWith]
    unfold mZipA
    rw [e1]
    exact e2
  refine gOf_eq rfl (ev_ret (cb1_is (lc_all (fun p : Int × Int => .tuple [.int p.1, .int p.2]) (fun p => .bool (decide (p.1 < p.2))) (l.zip (l.drop 1)) hi (fun k _ => ⟨_, rfl, _, op_is rfl rfl rfl, rfl⟩) ?_) (all_is _ _))) rfl
  rw [List.length_zip]
  exact Nat.le_trans (Nat.min_le_left _ _) h
end K15
end
section
set_option Elab.async false
set_option linter.all false
set_option maxRecDepth 100000
/-! Pe2: parts, lots, greatest lots. -/
namespace K15
open PySem PySem.Spec PySem.W L2 Pd
variable [TB]
section
variable {α : Type} {mg : MG} {mt : MT} {me ma mb mc : MV} {m : MB} {ρ : List Sl} {pt p q q' : List Int} {x y z w : Rv}
/-- a loop by what has been walked -/
theorem forGo_pre (e : α → D) (Rel : List α → List Sl → Prop) (ks : List α) (h0 : Rel [] ρ) (h : ∀ (done : List α) (k : α) (rest : List α) (ρ' : List Sl), ks = done ++ k :: rest → Rel done ρ' → ∃ ρ1 ρ2, mg (e k) ρ' = some ρ1 ∧ m ρ1 p = some (.nx ρ2 p) ∧ Rel (done ++ [k]) ρ2) :
    ∃ ρ2, forGo mg m (ks.map e) ρ p = some (.nx ρ2 p) ∧ Rel ks ρ2 := by
  have key : ∀ (rest done : List α) (ρ : List Sl), ks = done ++ rest → Rel done ρ → ∃ ρ2, forGo mg m (rest.map e) ρ p = some (.nx ρ2 p) ∧ Rel ks ρ2 := by
    intro rest
    induction rest with
    | nil =>
      intro done ρ hk hR
      rw [List.append_nil] at hk
      subst hk
      exact ⟨ρ, rfl, hR⟩
    | cons k rest ih =>
      intro done ρ hk hR
      obtain ⟨ρ1, ρ2, h1, h2, h3⟩ := h done k rest ρ hk hR
      obtain ⟨ρ3, h4, h5⟩ := ih (done ++ [k]) ρ2 (by simp [hk]) h3
      refine ⟨ρ3, ?_, h5⟩
      rw [List.map_cons]
      unfold forGo
      rw [h1, Option.bind_some, h2, Option.bind_some]
      exact h4
  exact key ks [] ρ rfl h0
theorem ev_ext {i : Nat} {xs ys : List D} (hs : ρ[i]? = some (.lst xs)) (h : me ρ pt = some (x, p)) (hl : x.ls? = some ys) (hz : xs.length + ys.length ≤ sizeLine) : bExt i me ρ pt = some (.nx (ρ.set i (.lst (xs ++ ys))) p) := by
  unfold bExt
  rw [hs]
  show (me ρ pt).bind _ = _
  rw [h, Option.bind_some, hl, Option.bind_some, if_pos hz]
theorem ev_app {i : Nat} {xs : List D} {d : D} (hs : ρ[i]? = some (.lst xs)) (h : me ρ pt = some (x, p)) (hl : x.fix? = some d) (hz : xs.length < sizeLine) : bApp i me ρ pt = some (.nx (ρ.set i (.lst (xs ++ [d]))) p) := by
  unfold bApp
  rw [hs]
  show (me ρ pt).bind _ = _
  rw [h, Option.bind_some, hl, Option.bind_some, if_pos hz]
theorem ev_par {i j : Nat} {s u : Sl} (ha : ma ρ pt = some (x, p)) (hb : mb ρ p = some (y, q)) (h1 : x.sl = some s) (h2 : y.sl = some u) : bPar i j ma mb ρ pt = some (.nx ((ρ.set i s).set j u) q) := by
  unfold bPar
  rw [ha, Option.bind_some, hb, Option.bind_some, h1, Option.bind_some, h2]
  rfl
theorem call3_is {g : List D → Option Rv} {d e f : D} (ha : ma ρ pt = some (x, p)) (hd : x.fix? = some d) (hb : mb ρ p = some (y, q)) (he : y.fix? = some e) (hc : mc ρ q = some (w, q')) (hf : w.fix? = some f) (h : g [d, e, f] = some z) :
    mCall g (mCons ma (mCons mb (mCons mc mNil))) ρ pt = some (z, q') := by
  unfold mCall mCons mNil
  rw [ha, Option.bind_some, hd, Option.bind_some, hb, Option.bind_some, he, Option.bind_some, hc, Option.bind_some, hf, Option.bind_some]
  show (g [d, e, f]).map _ = _
  rw [h]
  rfl
theorem tup1_is {d : D} (ha : ma ρ pt = some (x, p)) (hd : x.fix? = some d) : mTup (mCons ma mNil) ρ pt = some (.dat (.tuple [d]), p) := by
  unfold mTup mCons mNil
  rw [ha, Option.bind_some, hd, Option.bind_some]
  rfl
theorem tup2_is {d e : D} (ha : ma ρ pt = some (x, p)) (hd : x.fix? = some d) (hb : mb ρ p = some (y, q)) (he : y.fix? = some e) : mTup (mCons ma (mCons mb mNil)) ρ pt = some (.dat (.tuple [d, e]), q) := by
  unfold mTup mCons mNil
  rw [ha, Option.bind_some, hd, Option.bind_some, hb, Option.bind_some, he, Option.bind_some]
  rfl
end
theorem sizeBig : 1000000 ≤ sizeLine := by rw [sizeLine_eq]; decide
/-! ### lots -/
def inR (n : Int) (l : List Int) : Bool := l.all fun x => decide (0 ≤ x) && decide (x ≤ n - 1)
theorem c_is_lot (n : Int) (l : List Int) (h : l.length ≤ sizeLine) : g_is_lot [.int n, tI l] = some (.dat (.bool (inR n l && risb l))) := by
  refine gOf_eq (o := .rt (.dat (.bool (true && (inR n l && risb l)))) []) rfl (ev_ret (r := .dat (.bool (true && (inR n l && risb l)))) ?_) rfl
  refine andV_is (a := true) (un_is rfl rfl) fun _ => andV_is (a := inR n l) (cb1_is (lc_all (fun x => .int x) (fun x => .bool (decide (0 ≤ x) && decide (x ≤ n - 1))) l (seq_is rfl rfl) (fun k _ => ⟨_, rfl, .dat (.bool (decide (0 ≤ k) && decide (k ≤ n - 1))), ?_, rfl⟩) h) (all_is _ _)) fun _ => call1_is rfl rfl (c_is_rising l h)
  exact call3_is rfl rfl rfl rfl (op_is rfl rfl rfl) rfl (c_is_integer k 0 (n - 1))
/-! ### parts -/
def parts (l : List Int) : List (List Int) := l.foldl (fun f g => f ++ f.map (· ++ [g])) [[]]
theorem parts_snoc (l : List Int) (g : Int) : parts (l ++ [g]) = parts l ++ (parts l).map (· ++ [g]) := by
  unfold parts
  rw [List.foldl_append]
  rfl
theorem snoc_ind {α : Type} {P : List α → Prop} (h0 : P []) (h1 : ∀ l g, P l → P (l ++ [g])) (l : List α) : P l := by
  have key : ∀ r : List α, P r.reverse := by
    intro r
    induction r with
    | nil => exact h0
    | cons a r ih => rw [List.reverse_cons]; exact h1 _ _ ih
  have q := key l.reverse
  rwa [List.reverse_reverse] at q
theorem parts_len {a : List Int} : ∀ {l : List Int}, a ∈ parts l → a.length ≤ l.length := fun {l} => by
  induction l using snoc_ind generalizing a with
  | h0 => intro h; have : a = [] := by simpa [parts] using h
          rw [this]; exact Nat.le_refl _
  | h1 l g ih =>
    intro h
    rw [parts_snoc, List.mem_append] at h
    rw [List.length_append, List.length_singleton]
    rcases h with h | h
    · have := ih h; omega
    · obtain ⟨b, hb, rfl⟩ := List.mem_map.mp h
      have := ih hb
      rw [List.length_append, List.length_singleton]; omega
theorem parts_length (l : List Int) : (parts l).length = 2 ^ l.length := by
  induction l using snoc_ind with
  | h0 => rfl
  | h1 l g ih => rw [parts_snoc, List.length_append, List.length_map, ih, List.length_append, List.length_singleton, Nat.pow_succ]; omega
theorem pow_small {a b : Nat} (h : a ≤ b) (hb : b ≤ 10) : 2 ^ a ≤ 1024 := Nat.le_trans (Nat.pow_le_pow_right (by decide) (Nat.le_trans h hb)) (by decide)
theorem tI_snoc (a : List Int) (g : Int) : PyData.tuple (a.map .int ++ [.int g]) = tI (a ++ [g]) := by rw [tI, List.map_append]; rfl
theorem c_parts_of (l : List Int) (h : l.length ≤ 10) : g_parts_of [tI l] = some (.lst ((parts l).map tI)) := by
  obtain ⟨ρ2, h1, s2, rfl⟩ := forGo_pre (α := Int) (mg := gN 2) (p := []) (m := bExt 1 (mLc (mSeq (mCB (f1 fList) (wCons (mVar 1) wNil))) (gN 3) mYes (mTup (mStar (mVar 3) (mCons (mVar 2) mNil))) [3]))
    (ρ := [.dat (tI l), .lst [tI []], .un, .un]) (fun x => .int x) (fun done ρ => ∃ s2, ρ = [.dat (tI l), .lst ((parts done).map tI), s2, .un]) l ⟨_, rfl⟩ fun done k rest ρ' hl ⟨s2, hρ⟩ => by
      subst hρ
      have hd : done.length ≤ 10 := by rw [hl, List.length_append] at h; omega
      have hd2 : done.length + 1 ≤ 10 := by rw [hl, List.length_append, List.length_cons] at h; omega
      have hz : (parts done).length ≤ 1024 := by rw [parts_length]; exact pow_small (Nat.le_refl _) hd
      refine ⟨_, _, rfl, ev_ext rfl (lc_all tI (fun a => tI (a ++ [k])) (parts done) (seq_is (cb1_is rfl rfl) rfl) (fun a ha => ⟨_, rfl, .dat (tI (a ++ [k])), ?_, rfl⟩) ?_) rfl ?_, .dat (.int k), ?_⟩
      · show (if (a.map PyData.int ++ [PyData.int k]).length ≤ sizeLine then some (Rv.dat (.tuple (a.map PyData.int ++ [PyData.int k])), ([] : List Int)) else none) = _
        have := parts_len ha
        have := sizeBig
        rw [if_pos (by rw [List.length_append, List.length_map, List.length_singleton]; omega), tI_snoc]
      · have := sizeBig; omega
      · have := sizeBig; rw [List.length_map, List.length_map]; omega
      · rw [parts_snoc, List.map_append, List.map_map]
        rfl
  refine gOf_eq rfl (ev_seq (ev_set rfl rfl) (ev_seq (ev_for (seqF_is rfl rfl rfl) h1) (ev_ret rfl))) rfl
end K15
end
section
set_option Elab.async false
set_option linter.all false
set_option maxRecDepth 100000
/-! Pe3: data that encode plain values: == is equality. -/
namespace K15
open PySem PySem.Spec PySem.W L2 Pd
variable [TB]
structure Enc {α : Type} [DecidableEq α] (e : α → D) (k : Nat) : Prop where
  eqv : ∀ x y, PyData.eqv (e x) (e y) = decide (x = y)
  lay : ∀ x, (e x).canLay0 = true
  dep : ∀ x, (e x).depth ≤ k
section
variable {α β : Type} [DecidableEq α] [DecidableEq β] {e : α → D} {f : β → D} {k j : Nat}
theorem Enc.eqvAll (h : Enc e k) : ∀ xs ys : List α, PyData.eqvAll (xs.map e) (ys.map e) = decide (xs = ys)
  | [], [] => by rw [List.map_nil, PyData.eqvAll]; rfl
  | [], y :: ys => by rw [List.map_nil, List.map_cons, PyData.eqvAll]; all_goals rfl
  | x :: xs, [] => by rw [List.map_nil, List.map_cons, PyData.eqvAll]; all_goals rfl
  | x :: xs, y :: ys => by
    rw [List.map_cons, List.map_cons, PyData.eqvAll, h.eqv, Enc.eqvAll h xs ys]
    by_cases h1 : x = y <;> by_cases h2 : xs = ys <;> simp [h1, h2]
theorem Enc.layAll (h : Enc e k) : ∀ xs : List α, PyData.canLayAll0 (xs.map e) = true
  | [] => by simp [PyData.canLayAll0]
  | x :: xs => by
    rw [List.map_cons]
    simp only [PyData.canLayAll0, h.lay x, Enc.layAll h xs, Bool.and_self]
theorem Enc.depAll (h : Enc e k) : ∀ xs : List α, PyData.depthAll (xs.map e) ≤ k
  | [] => Nat.zero_le _
  | x :: xs => by
    rw [List.map_cons]
    simp only [PyData.depthAll]
    exact Nat.max_le.mpr ⟨h.dep x, Enc.depAll h xs⟩
theorem enc_int : Enc (fun i : Int => PyData.int i) 0 := ⟨fun x y => by rw [PyData.eqv]; by_cases h : x = y <;> simp [h], fun x => by simp [PyData.canLay0], fun x => by simp [PyData.depth]⟩
theorem Enc.tup (h : Enc e k) : Enc (fun xs : List α => .tuple (xs.map e)) (k + 1) :=
  ⟨fun x y => by rw [PyData.eqv]; exact h.eqvAll x y, fun x => by simp only [PyData.canLay0]; exact h.layAll x, fun x => by simp only [PyData.depth]; exact Nat.succ_le_succ (h.depAll x)⟩
theorem Enc.lst (h : Enc e k) : Enc (fun xs : List α => .list (xs.map e)) (k + 1) :=
  ⟨fun x y => by rw [PyData.eqv]; exact h.eqvAll x y, fun x => by simp only [PyData.canLay0]; exact h.layAll x, fun x => by simp only [PyData.depth]; exact Nat.succ_le_succ (h.depAll x)⟩
theorem Enc.pair (h : Enc e k) (h' : Enc f k) : Enc (fun p : α × β => .tuple [e p.1, f p.2]) (k + 1) := by
  refine ⟨fun x y => ?_, fun x => ?_, fun x => ?_⟩
  · rw [PyData.eqv, PyData.eqvAll, PyData.eqvAll, PyData.eqvAll, h.eqv, h'.eqv]
    obtain ⟨x1, x2⟩ := x
    obtain ⟨y1, y2⟩ := y
    by_cases h1 : x1 = y1 <;> by_cases h2 : x2 = y2 <;> simp [h1, h2]
  · simp only [PyData.canLay0, PyData.canLayAll0, h.lay, h'.lay, Bool.and_self]
  · simp only [PyData.depth, PyData.depthAll]
    have := h.dep x.1
    have := h'.dep x.2
    omega
theorem Enc.mono (h : Enc e k) (hk : k ≤ j) : Enc e j := ⟨h.eqv, h.lay, fun x => Nat.le_trans (h.dep x) hk⟩
theorem Enc.shaped (h : Enc e k) (hk : k ≤ 64) (x : α) : SeqAt.shaped (e x) = true := by
  unfold SeqAt.shaped
  rw [h.lay x, decide_eq_true (Nat.le_trans (h.dep x) hk)]
  rfl
theorem Enc.eq (h : Enc e k) (hk : k ≤ 64) {r s : Rv} {x y : α} (hr : r.pd? = some (e x)) (hs : s.pd? = some (e y)) : fEq false r s = some (.dat (.bool (decide (x = y)))) := by
  unfold fEq
  rw [hr, Option.bind_some, hs, Option.bind_some, if_pos ⟨h.shaped hk x, h.shaped hk y⟩, h.eqv]
  rfl
theorem Enc.ne (h : Enc e k) (hk : k ≤ 64) {r s : Rv} {x y : α} (hr : r.pd? = some (e x)) (hs : s.pd? = some (e y)) : fEq true r s = some (.dat (.bool (!decide (x = y)))) := by
  unfold fEq
  rw [hr, Option.bind_some, hs, Option.bind_some, if_pos ⟨h.shaped hk x, h.shaped hk y⟩, h.eqv]
  rfl
end
theorem enc_tI : Enc tI 1 := enc_int.tup
theorem enc_tD : Enc tD 2 := enc_tI.tup
abbrev rD (p : List Int × Int) : D := .tuple [tI p.1, .int p.2]
abbrev rsD (l : List (List Int × Int)) : D := .tuple (l.map rD)
theorem enc_rD : Enc rD 2 := enc_tI.pair (enc_int.mono (Nat.zero_le 1))
theorem enc_rsD : Enc rsD 3 := enc_rD.tup
theorem enc_rb : Enc (fun b : Bool => PyData.str (if b then "True" else "False")) 0 :=
  ⟨fun x y => by cases x <;> cases y <;> decide +kernel, fun x => by cases x <;> decide +kernel, fun x => by cases x <;> decide +kernel⟩
end K15
end
section
set_option Elab.async false
set_option linter.all false
set_option maxRecDepth 100000
/-! Pe4: greatest lots, companies, what is asked. -/
namespace K15
open PySem PySem.Spec PySem.W L2 Pd
variable [TB]
abbrev sub (a b : List Int) : Bool := a.all fun x => b.contains x
theorem cat_is {r s : Rv} {xs ys : List D} (h1 : fI (fun i j => i + j) r s = none) (hr : r.ls? = some xs) (hs : s.ls? = some ys) (hz : xs.length + ys.length ≤ sizeLine) : fAdd3 r s = some (.lst (xs ++ ys)) := by
  unfold fAdd3
  rw [h1]
  have e : fCatL r s = some (.lst (xs ++ ys)) := by
    unfold fCatL
    rw [hr, Option.bind_some, hs, Option.bind_some, if_pos hz]
  rw [e]
theorem catT_is {xs ys : List D} (hz : xs.length + ys.length ≤ sizeLine) : fAdd3 (.dat (.tuple xs)) (.dat (.tuple ys)) = some (.dat (.tuple (xs ++ ys))) := by
  show (if xs.length + ys.length ≤ sizeLine then some (Rv.dat (.tuple (xs ++ ys))) else none) = _
  rw [if_pos hz]
theorem c_law_parts (l : List Int) (h : l.length ≤ 10) : g_law_parts [tI l] = some (.lst ((parts l).map tI)) := by
  obtain ⟨ρ2, h1, s2, rfl⟩ := forGo_pre (α := Int) (mg := gN 2) (p := []) (m := bSet 1 (mOp fAdd3 (mVar 1) (mLc (mSeq (mVar 1)) (gN 3) mYes (mOp fAdd3 (mVar 3) (mTup (mCons (mVar 2) mNil))) [3])))
    (ρ := [.dat (tI l), .lst [tI []], .un, .un]) (fun x => .int x) (fun done ρ => ∃ s2, ρ = [.dat (tI l), .lst ((parts done).map tI), s2, .un]) l ⟨_, rfl⟩ fun done k rest ρ' hl ⟨s2, hρ⟩ => by
      subst hρ
      have hd : done.length ≤ 10 := by rw [hl, List.length_append] at h; omega
      have hz : (parts done).length ≤ 1024 := by rw [parts_length]; exact pow_small (Nat.le_refl _) hd
      have big := sizeBig
      refine ⟨_, _, rfl, ev_set (op_is rfl (lc_all tI (fun a => tI (a ++ [k])) (parts done) (seq_is rfl rfl) (fun a ha => ⟨_, rfl, .dat (tI (a ++ [k])), op_is rfl (tup1_is rfl rfl) ?_, rfl⟩) (by omega)) (cat_is rfl rfl rfl ?_)) rfl, .dat (.int k), ?_⟩
      · have := parts_len ha
        rw [show fAdd3 (.dat (tI a)) (.dat (.tuple [.int k])) = _ from catT_is (by rw [List.length_map, List.length_singleton]; omega), tI_snoc]
      · rw [List.length_map, List.length_map]; omega
      · rw [parts_snoc, List.map_append, List.map_map]
        rfl
  refine gOf_eq rfl (ev_seq (ev_set rfl rfl) (ev_seq (ev_for (seqF_is rfl rfl rfl) h1) (ev_ret rfl))) rfl
theorem sq_dat {d : D} {l : List D} (h : seqD d = some l) : (Rv.dat d).sq? = some l := by
  cases d with
  | list xs => cases h; rfl
  | tuple xs => cases h; rfl
  | _ => cases h
/-- the lots that are part of no other one, ascending -/
def grb (S : List (List Int)) (l : List Int) : Bool := !S.any fun o => !decide (l = o) && sub l o
def great (lots : List (List Int)) : List (List Int) := (setI lots).filter (grb (setI lots))
theorem srtSet_is {me : MV} {ρ : List Sl} {pt p : List Int} {r : Rv} {ks : List (List Int)} (h : me ρ pt = some (r, p)) (hl : r.sq? = some (ks.map tI)) (hz : ks.length ≤ 1200) : mSrtSet me ρ pt = some (.lst ((setI ks).map tI), p) := by
  unfold mSrtSet
  rw [h, Option.bind_some, hl, Option.bind_some, tupsI_map, Option.bind_some, if_pos hz]
theorem setI_mem {x : List Int} {l : List (List Int)} : x ∈ setI l ↔ x ∈ l := by
  unfold setI Pd.sortI
  rw [(List.mergeSort_perm _ _).mem_iff, ddI_mem]
theorem setI_len (l : List (List Int)) : (setI l).length ≤ l.length := by
  unfold setI Pd.sortI
  rw [(List.mergeSort_perm _ _).length_eq]
  induction l with
  | nil => exact Nat.le_refl _
  | cons a l ih =>
    unfold ddI
    split
    · rw [List.length_cons]; omega
    · rw [List.length_cons, List.length_cons]; omega
theorem c_greatest_of {d : D} (lots : List (List Int)) (hd : seqD d = some (lots.map tI)) (hz : lots.length ≤ 1200) (hs : ∀ l ∈ lots, l.length ≤ 1000) : g_greatest_of [d] = some (.dat (tD (great lots))) := by
  have big := sizeBig
  have hl := setI_len lots
  refine gOf_eq rfl (ev_seq (ev_set (srtSet_is rfl (sq_dat hd) hz) rfl) (ev_ret (cb1_is (z := .dat (tD (great lots))) (lc_map tI (grb (setI lots)) tI (setI lots) (seq_is rfl rfl) (fun l hm => ⟨_, rfl, ?_, fun _ => ⟨_, rfl, rfl⟩⟩) (by omega)) rfl))) rfl
  have hl2 := hs l (setI_mem.mp hm)
  exact not_is (val_is (cb1_is (lc_all tI (fun o => .bool (!decide (l = o) && sub l o)) (setI lots) (seq_is rfl rfl) (fun o ho => ⟨_, rfl, _, andV_is (op_is rfl rfl (enc_tI.ne (by decide) rfl rfl)) (fun _ => call2_is rfl rfl rfl rfl (c_is_within l o (by omega))), rfl⟩) (by omega)) (any_is _ _)))
theorem c_company_by {d : D} (n : Int) (lots : List (List Int)) (hd : seqD d = some (lots.map tI)) (hz : lots.length ≤ 1200) (hs : ∀ l ∈ lots, l.length ≤ 1000) : g_company_by [.int n, d] = some (.dat (cD n (great lots))) :=
  gOf_eq rfl (ev_ret (tup2_is rfl rfl (call1_is rfl rfl (c_greatest_of lots hd hz hs)) rfl)) rfl
theorem c_law_company {d : D} (n : Int) (lots : List (List Int)) (hd : seqD d = some (lots.map tI)) (hz : lots.length ≤ 1200) (hs : ∀ l ∈ lots, l.length ≤ 1000) : g_law_company [.int n, d] = some (.dat (cD n (great lots))) := by
  have big := sizeBig
  have hl := setI_len lots
  obtain ⟨ρ2, h1, s2, rfl⟩ := forGo_pre (α := List Int) (mg := gN 2) (p := []) (m := bIf (mNot (mVal (mCB (f1 fAny) (wCons (mLc (mSeq (mVar 3)) (gN 5) mYes (mAndV (mOp (fEq true) (mVar 2) (mVar 5)) (mCall g_law_is_part (mCons (mVar 2) (mCons (mVar 5) mNil)))) [5]) wNil)))) (bApp 4 (mVar 2)) bNext)
    (ρ := [.dat (.int n), .dat d, .un, .dat (.list ((setI lots).map tI)), .lst [], .un]) tI
    (fun done ρ => ∃ s2, ρ = [.dat (.int n), .dat d, s2, .dat (.list ((setI lots).map tI)), .lst ((done.filter (grb (setI lots))).map tI), .un]) (setI lots) ⟨_, rfl⟩ fun done k rest ρ' hk ⟨s2, hρ⟩ => by
      subst hρ
      have hkm : k ∈ setI lots := by rw [hk]; simp
      have hl2 := hs k (setI_mem.mp hkm)
      have ht : (mNot (mVal (mCB (f1 fAny) (wCons (mLc (mSeq (mVar 3)) (gN 5) mYes (mAndV (mOp (fEq true) (mVar 2) (mVar 5)) (mCall g_law_is_part (mCons (mVar 2) (mCons (mVar 5) mNil)))) [5]) wNil))) : MT)
          [.dat (.int n), .dat d, .dat (tI k), .dat (.list ((setI lots).map tI)), .lst ((done.filter (grb (setI lots))).map tI), .un] [] = some (grb (setI lots) k, []) :=
        not_is (val_is (cb1_is (lc_all tI (fun o => .bool (!decide (k = o) && sub k o)) (setI lots) (seq_is rfl rfl) (fun o ho => ⟨_, rfl, _, andV_is (op_is rfl rfl (enc_tI.ne (by decide) rfl rfl)) (fun _ => call2_is rfl rfl rfl rfl (c_law_is_part k o (by omega))), rfl⟩) (by omega)) (any_is _ _)))
      have hdl : (done.filter (grb (setI lots))).length ≤ (setI lots).length := by
        refine Nat.le_trans (List.length_filter_le _ _) ?_
        rw [hk, List.length_append]; omega
      cases hb : grb (setI lots) k with
      | true =>
        refine ⟨_, _, rfl, ev_ifT (ht.trans (by rw [hb])) (ev_app rfl rfl rfl (by rw [List.length_map]; omega)), .dat (tI k), ?_⟩
        rw [List.filter_append, List.map_append, List.filter_cons_of_pos hb]
        rfl
      | false =>
        refine ⟨_, _, rfl, ev_ifF (ht.trans (by rw [hb])) rfl, .dat (tI k), ?_⟩
        rw [List.filter_append, List.filter_cons_of_neg (by rw [hb]; exact Bool.false_ne_true), List.filter_nil, List.append_nil]
        rfl
  refine gOf_eq rfl (ev_seq (ev_par (srtSet_is rfl (sq_dat hd) hz) rfl rfl rfl) (ev_seq (show bFrz 3 _ _ _ = _ from ev_for (seqF_is rfl rfl rfl) h1) (ev_ret (r := .dat (cD n (great lots))) (tup2_is rfl rfl (cb1_is (z := .dat (tD (great lots))) rfl rfl) rfl)))) rfl
theorem c_is_asked (n : Int) (F : List (List Int)) (l : List Int) (hF : F.length ≤ sizeLine) (hl : l.length ≤ sizeLine) : g_is_asked [cD n F, tI l] = some (.dat (.bool (F.any fun o => sub l o))) :=
  gOf_eq rfl (ev_ret (cb1_is (lc_all tI (fun o => .bool (sub l o)) F (seq_is (op_is rfl rfl rfl) rfl) (fun o ho => ⟨_, rfl, _, call2_is rfl rfl rfl rfl (c_is_within l o hl), rfl⟩) hF) (any_is _ _))) rfl
end K15
end
section
set_option Elab.async false
set_option linter.all false
set_option maxRecDepth 100000
/-! Pe5: sorted by (a number, the lot); dicts whose values are all True. -/
namespace K15
open PySem PySem.Spec PySem.W L2 Pd
variable [TB]
def leK (f : List Int → Int) (a b : List Int) : Bool := decide (f a < f b ∨ (f a = f b ∧ a ≤ b))
theorem leK_trans (f : List Int → Int) (a b c : List Int) (h : leK f a b = true) (k : leK f b c = true) : leK f a c = true := by
  unfold leK at *
  have h := of_decide_eq_true h
  have k := of_decide_eq_true k
  refine decide_eq_true ?_
  rcases h with h | ⟨h, h'⟩
  · rcases k with k | ⟨k, k'⟩
    · exact .inl (by omega)
    · exact .inl (by omega)
  · rcases k with k | ⟨k, k'⟩
    · exact .inl (by omega)
    · exact .inr ⟨by omega, List.le_trans h' k'⟩
theorem leK_total (f : List Int → Int) (a b : List Int) : (leK f a b || leK f b a) = true := by
  unfold leK
  rw [Bool.or_eq_true, decide_eq_true_eq, decide_eq_true_eq]
  rcases Int.lt_trichotomy (f a) (f b) with h | h | h
  · exact .inl (.inl h)
  · rcases List.le_total a b with h' | h'
    · exact .inl (.inr ⟨h, h'⟩)
    · exact .inr (.inr ⟨h.symm, h'⟩)
  · exact .inr (.inl h)
theorem leK_anti (f : List Int → Int) {a b : List Int} (h : leK f a b = true) (k : leK f b a = true) : a = b := by
  unfold leK at *
  have h := of_decide_eq_true h
  have k := of_decide_eq_true k
  rcases h with h | ⟨h, h'⟩
  · rcases k with k | ⟨k, k'⟩ <;> omega
  · rcases k with k | ⟨k, k'⟩
    · omega
    · exact List.le_antisymm h' k'
abbrev kD (f : List Int → Int) (a : List Int) : D := .tuple [.int (f a), tI a]
theorem lt_kD (f : List Int → Int) (a b : List Int) : dataLt (kD f a) (kD f b) = decide (f a < f b ∨ (f a = f b ∧ a < b)) := by
  rw [dataLt_pair (by simp [alike]) (by simp only [alike]; exact alike_ints a b)]
  have e1 : PyData.eqv (.int (f a)) (.int (f b)) = decide (f a = f b) := enc_int.eqv _ _
  have e2 : PyData.eqv (tI a) (tI b) = decide (a = b) := enc_tI.eqv _ _
  have e3 : dataLt (tI a) (tI b) = decide (a < b) := by
    rw [dataLt_tuple]
    show rowLt (a.map .int) (b.map .int) = _
    rw [dataLt_ints]
  rw [e1, e2, e3, dataLt_int]
  by_cases h1 : f a = f b
  · by_cases h2 : a = b
    · simp [h1, h2, List.lt_irrefl]
    · simp [h1, h2]
  · simp [h1]
theorem le_kD (f : List Int → Int) (a b : List Int) : dataLe false id (kD f a) (kD f b) = leK f a b := by
  rw [dataLe_eq]
  show (!dataLt (kD f b) (kD f a)) = leK f a b
  rw [lt_kD]
  unfold leK
  rw [← decide_not]
  congr 1
  refine propext ⟨fun h => ?_, fun h => ?_⟩
  · rcases Int.lt_trichotomy (f a) (f b) with q | q | q
    · exact .inl q
    · refine .inr ⟨q, ?_⟩
      intro z
      exact h (.inr ⟨q.symm, z⟩)
    · exact absurd (.inl q) h
  · intro z
    rcases z with z | ⟨z, z'⟩
    · rcases h with h | ⟨h, h'⟩ <;> omega
    · rcases h with h | ⟨h, h'⟩
      · omega
      · exact h' z'
def srtBy (f : List Int → Int) (l : List (List Int)) : List (List Int) := l.mergeSort (leK f)
theorem srtBy_perm (f : List Int → Int) (l : List (List Int)) : (srtBy f l).Perm l := List.mergeSort_perm l _
/-- sorted lists with the same members are the same -/
theorem srtBy_of (f : List Int → Int) {l m : List (List Int)} (hp : m.Pairwise fun a b => leK f a b = true) (h : l.Perm m) : srtBy f l = m :=
  List.Perm.eq_of_pairwise (le := fun a b => leK f a b = true) (fun a b _ _ => leK_anti f) (List.pairwise_mergeSort (leK_trans f) (leK_total f) l) hp ((srtBy_perm f l).trans h)
theorem srtBy_sorted (f : List Int → Int) (l : List (List Int)) : (srtBy f l).Pairwise fun a b => leK f a b = true := List.pairwise_mergeSort (leK_trans f) (leK_total f) l
theorem srtKD_kD (f : List Int → Int) (l : List (List Int)) : srtKD (l.map tI) (l.map (kD f)) = (srtBy f l).map tI := by
  unfold srtKD srtBy
  have z : (l.map tI).zip (l.map (kD f)) = l.map fun k => (tI k, kD f k) := by
    rw [List.zip, List.zipWith_map]
    induction l with
    | nil => rfl
    | cons a l ih => rw [List.zipWith_cons_cons, ih]; rfl
  rw [z, ← List.map_mergeSort (r := leK f) (s := dataLe false fun p : D × D => p.2) (f := fun k => (tI k, kD f k)) fun a _ b _ => (le_kD f a b).symm, List.map_map]
  rfl
theorem okSort_kD (f : List Int → Int) (l : List (List Int)) : okSort (l.map (kD f)) = true := by
  have lay : ∀ l : List (List Int), PyData.canLayAll0 (l.map (kD f)) = true := fun l => by
    induction l with
    | nil => simp [PyData.canLayAll0]
    | cons a l ih =>
      rw [List.map_cons]
      simp only [PyData.canLayAll0, PyData.canLay0, lay_ints a, ih, Bool.and_self]
  unfold okSort
  simp only [Bool.and_eq_true, Bool.or_eq_true, List.all_eq_true, List.mem_map, forall_exists_index, and_imp, forall_apply_eq_imp_iff₂, decide_eq_true_eq]
  refine ⟨⟨⟨lay l, fun a _ b _ => ?_⟩, fun a _ => ?_⟩, .inl fun a _ => rfl⟩
  · show alike (kD f a) (kD f b) = true
    simp only [alike, alikeAll, alike_ints a b, Bool.and_self]
  · show (PyData.depthAll [.int (f a), tI a]) + 1 ≤ 60
    have h1 := depth_tI a
    simp only [PyData.depthAll]
    rw [h1]
    simp only [PyData.depth]
    decide
/-! ### dicts of True -/
abbrev tt (l : List (List Int)) : List (List Int × D) := l.map fun k => (k, .bool true)
def insK (l : List (List Int)) (k : List Int) : List (List Int) := if l.contains k = true then l else l ++ [k]
theorem kPut_tt (l : List (List Int)) (k : List Int) : kPut (tt l) k (.bool true) = tt (insK l k) := by
  have e : ((tt l).any fun p => decide (p.1 = k)) = l.contains k := by
    rw [List.any_map]
    induction l with
    | nil => rfl
    | cons a l ih =>
      rw [List.any_cons, ih, List.contains_cons]
      congr 1
      show decide (a = k) = (k == a)
      by_cases h : a = k <;> simp [h]
      exact fun z => h z.symm
  unfold kPut insK
  rw [e]
  by_cases h : l.contains k = true
  · rw [if_pos h, if_pos h, List.map_map]
    apply List.map_congr_left
    intro a _
    show (if a = k then (a, PyData.bool true) else (a, .bool true)) = _
    split <;> rfl
  · rw [if_neg h, if_neg h, tt, tt, List.map_append]
    rfl
theorem foldl_tt : ∀ (ks l : List (List Int)), ks.foldl (fun a k => kPut a k (.bool true)) (tt l) = tt (ks.foldl insK l)
  | [], l => rfl
  | k :: ks, l => by rw [List.foldl_cons, List.foldl_cons, kPut_tt, foldl_tt ks]
theorem merge_tt (l m : List (List Int)) : mergeP (tt l) (tt m) = tt (m.foldl insK l) := by
  unfold mergeP
  rw [List.foldl_map]
  exact foldl_tt m l
theorem keyD_tt (l : List (List Int)) : Pd.keyD (tt l) = l.map tI := by
  unfold Pd.keyD
  rw [List.map_map]
  rfl
theorem insK_mem {l : List (List Int)} {k x : List Int} : x ∈ insK l k ↔ x ∈ l ∨ x = k := by
  unfold insK
  split
  · rename_i h
    have hk : k ∈ l := List.contains_iff_mem.mp h
    exact ⟨.inl, fun z => z.elim id fun e => e ▸ hk⟩
  · simp
theorem insK_nodup {l : List (List Int)} {k : List Int} (h : l.Nodup) : (insK l k).Nodup := by
  unfold insK
  split
  · exact h
  · rename_i hk
    refine List.nodup_append.mpr ⟨h, by simp, fun a ha b hb e => hk (List.contains_iff_mem.mpr ?_)⟩
    rw [List.mem_singleton.mp hb] at e
    exact e ▸ ha
theorem foldl_insK_mem : ∀ {ks l : List (List Int)} {x : List Int}, x ∈ ks.foldl insK l ↔ x ∈ l ∨ x ∈ ks
  | [], l, x => by simp
  | k :: ks, l, x => by
    rw [List.foldl_cons, foldl_insK_mem (ks := ks), insK_mem, List.mem_cons, or_assoc]
theorem foldl_insK_nodup : ∀ {ks l : List (List Int)}, l.Nodup → (ks.foldl insK l).Nodup
  | [], l, h => h
  | k :: ks, l, h => by rw [List.foldl_cons]; exact foldl_insK_nodup (insK_nodup h)
theorem foldl_insK_len : ∀ (ks l : List (List Int)), (ks.foldl insK l).length ≤ l.length + ks.length
  | [], l => Nat.le_refl _
  | k :: ks, l => by
    have h1 := foldl_insK_len ks (insK l k)
    have h2 : (insK l k).length ≤ l.length + 1 := by unfold insK; split <;> simp
    rw [List.foldl_cons, List.length_cons]
    omega
theorem foldl_insK_fresh : ∀ (ks l : List (List Int)), ks.Nodup → (∀ k ∈ ks, k ∉ l) → ks.foldl insK l = l ++ ks
  | [], l, _, _ => by simp
  | k :: ks, l, nd, h => by
    rw [List.nodup_cons] at nd
    have hk : insK l k = l ++ [k] := by
      unfold insK
      rw [if_neg fun z => h k List.mem_cons_self (List.contains_iff_mem.mp z)]
    rw [List.foldl_cons, hk, foldl_insK_fresh ks _ nd.2 fun j hj hm => ?_]
    · simp
    · rcases List.mem_append.mp hm with q | q
      · exact h j (List.mem_cons_of_mem _ hj) q
      · rw [List.mem_singleton.mp q] at hj
        exact nd.1 hj
end K15
end
section
set_option Elab.async false
set_option linter.all false
set_option maxRecDepth 100000
/-! Pe6: parts as sublists; their hashes. -/
namespace K15
open PySem PySem.Spec PySem.W L2 Pd
variable [TB]
abbrev Asc (l : List Int) : Prop := l.Pairwise (· < ·)
theorem mem_parts {a : List Int} : ∀ {l : List Int}, a ∈ parts l ↔ a.Sublist l := fun {l} => by
  induction l using snoc_ind generalizing a with
  | h0 => simp [parts]
  | h1 l g ih =>
    rw [parts_snoc, List.mem_append, ih, List.sublist_append_iff]
    refine ⟨fun h => ?_, fun h => ?_⟩
    · rcases h with h | h
      · exact ⟨a, [], by simp, h, List.nil_sublist _⟩
      · obtain ⟨b, hb, rfl⟩ := List.mem_map.mp h
        exact ⟨b, [g], rfl, ih.mp hb, List.Sublist.refl _⟩
    · obtain ⟨l1, l2, rfl, h1, h2⟩ := h
      cases h2 with
      | cons _ h => cases h; exact .inl (by simpa using h1)
      | cons_cons _ h => cases h; exact .inr (List.mem_map.mpr ⟨l1, ih.mpr h1, rfl⟩)
theorem parts_nodup {l : List Int} (h : l.Nodup) : (parts l).Nodup := by
  induction l using snoc_ind with
  | h0 => simp [parts]
  | h1 l g ih =>
    rw [List.nodup_append] at h
    obtain ⟨h1, _, h3⟩ := h
    rw [parts_snoc]
    refine List.nodup_append.mpr ⟨ih h1, ?_, fun a ha b hb e => ?_⟩
    · refine List.pairwise_map.mpr ((ih h1).imp fun hne e => hne ?_)
      exact List.append_cancel_right e
    · obtain ⟨c, _, rfl⟩ := List.mem_map.mp hb
      have hg : g ∈ l := (mem_parts.mp ha).subset (by rw [e]; simp)
      exact h3 g hg g (by simp) rfl
theorem asc_nodup {l : List Int} (h : Asc l) : l.Nodup := h.imp fun h => by omega
theorem asc_sub : ∀ {l a : List Int}, Asc a → Asc l → (∀ x ∈ a, x ∈ l) → a.Sublist l
  | [], [], _, _, _ => List.nil_sublist _
  | [], x :: a, _, _, h => absurd (h x List.mem_cons_self) (by simp)
  | y :: l, [], _, _, _ => List.nil_sublist _
  | y :: l, x :: a, ha, hl, h => by
    have ha := List.pairwise_cons.mp ha
    have hl := List.pairwise_cons.mp hl
    by_cases e : x = y
    · subst e
      refine List.Sublist.cons_cons _ (asc_sub ha.2 hl.2 fun z hz => ?_)
      rcases List.mem_cons.mp (h z (List.mem_cons_of_mem _ hz)) with q | q
      · have := ha.1 z hz; omega
      · exact q
    · have hx : x ∈ l := (List.mem_cons.mp (h x List.mem_cons_self)).resolve_left e
      have hyx := hl.1 x hx
      refine List.Sublist.cons _ (asc_sub (List.pairwise_cons.mpr ha) hl.2 fun z hz => ?_)
      rcases List.mem_cons.mp (h z hz) with q | q
      · rcases List.mem_cons.mp hz with q' | q'
        · omega
        · have := ha.1 z q'; omega
      · exact q
theorem mem_parts_asc {a l : List Int} (hl : Asc l) : a ∈ parts l ↔ Asc a ∧ ∀ x ∈ a, x ∈ l := by
  rw [mem_parts]
  exact ⟨fun h => ⟨hl.sublist h, fun x hx => h.subset hx⟩, fun h => asc_sub h.1 hl h.2⟩
theorem sub_iff {a b : List Int} : sub a b = true ↔ ∀ x ∈ a, x ∈ b := by
  unfold sub
  rw [List.all_eq_true]
  exact ⟨fun h x hx => List.contains_iff_mem.mp (h x hx), fun h x hx => List.contains_iff_mem.mpr (h x hx)⟩
/-- all lots of seven guests -/
def all7 : List (List Int) := parts [0, 1, 2, 3, 4, 5, 6]
theorem hash7 : (all7.map hashI).Nodup := by decide +kernel
theorem inj_of {α β : Type} {f : α → β} : ∀ {l : List α}, (l.map f).Nodup → ∀ {a b : α}, a ∈ l → b ∈ l → f a = f b → a = b
  | [], _, a, b, h, _, _ => by simp at h
  | x :: l, nd, a, b, ha, hb, e => by
    rw [List.map_cons, List.nodup_cons] at nd
    rcases List.mem_cons.mp ha with h1 | h1 <;> rcases List.mem_cons.mp hb with h2 | h2
    · rw [h1, h2]
    · rw [h1] at e; exact absurd (List.mem_map.mpr ⟨b, h2, e.symm⟩) nd.1
    · rw [h2] at e; exact absurd (List.mem_map.mpr ⟨a, h1, e⟩) nd.1
    · exact inj_of nd.2 h1 h2 e
/-- a lot of at most seven guests -/
structure Lot (n : Int) (l : List Int) : Prop where
  asc : Asc l
  lo : ∀ x ∈ l, 0 ≤ x
  hi : ∀ x ∈ l, x < n
theorem Lot.all7 {n : Int} {l : List Int} (h : Lot n l) (hn : n ≤ 7) : l ∈ all7 := by
  refine (mem_parts_asc (by decide)).mpr ⟨h.asc, fun x hx => ?_⟩
  have h1 := h.lo x hx
  have h2 := h.hi x hx
  have : x = 0 ∨ x = 1 ∨ x = 2 ∨ x = 3 ∨ x = 4 ∨ x = 5 ∨ x = 6 := by omega
  simp only [List.mem_cons, List.not_mem_nil, or_false]
  exact this
theorem Lot.sub {n : Int} {a l : List Int} (h : Lot n l) (ha : a.Sublist l) : Lot n a := ⟨h.asc.sublist ha, fun x hx => h.lo x (ha.subset hx), fun x hx => h.hi x (ha.subset hx)⟩
theorem hash_parts {n : Int} {l : List Int} (h : Lot n l) (hn : n ≤ 7) : ((parts l).map hashI).Nodup := by
  refine List.pairwise_map.mpr ((parts_nodup (asc_nodup h.asc)).imp_of_mem fun {a b} ha hb hne e => hne ?_)
  exact inj_of hash7 ((h.sub (mem_parts.mp ha)).all7 hn) ((h.sub (mem_parts.mp hb)).all7 hn) e
theorem parts_fresh {l : List Int} (h : Asc l) : (parts l).foldl insK [] = parts l := by
  rw [foldl_insK_fresh _ _ (parts_nodup (asc_nodup h)) (fun _ _ z => by simp at z), List.nil_append]
theorem Lot.risb {n : Int} {l : List Int} (h : Lot n l) : risb l = true := by
  have key : ∀ l : List Int, Asc l → K15.risb l = true := by
    intro l
    induction l with
    | nil => intro _; rfl
    | cons x l ih =>
      intro hl
      have hl := List.pairwise_cons.mp hl
      cases l with
      | nil => rfl
      | cons y l =>
        have := ih hl.2
        unfold K15.risb at this ⊢
        rw [List.drop_succ_cons, List.drop_zero, List.zip_cons_cons, List.all_cons]
        rw [List.drop_succ_cons, List.drop_zero] at this
        rw [this, decide_eq_true (hl.1 y List.mem_cons_self)]
        rfl
  exact key l h.asc
theorem Lot.inR {n : Int} {l : List Int} (h : Lot n l) : inR n l = true := by
  unfold K15.inR
  rw [List.all_eq_true]
  intro x hx
  have h1 := h.lo x hx
  have h2 := h.hi x hx
  rw [decide_eq_true h1, decide_eq_true (by omega)]
  rfl
/-! ### all parts of some lots -/
def allK (F : List (List Int)) : List (List Int) := F.foldl (fun acc l => (parts l).foldl insK acc) []
theorem allK_snoc (F : List (List Int)) (l : List Int) : allK (F ++ [l]) = (parts l).foldl insK (allK F) := by
  unfold allK
  rw [List.foldl_append]
  rfl
theorem allK_mem {F : List (List Int)} {x : List Int} : x ∈ allK F ↔ ∃ l ∈ F, x.Sublist l := by
  induction F using snoc_ind with
  | h0 => simp [allK]
  | h1 F l ih =>
    rw [allK_snoc, foldl_insK_mem, ih, mem_parts]
    simp only [List.mem_append, List.mem_singleton]
    refine ⟨fun h => ?_, fun ⟨m, hm, hx⟩ => ?_⟩
    · rcases h with ⟨m, hm, hx⟩ | h
      · exact ⟨m, .inl hm, hx⟩
      · exact ⟨l, .inr rfl, h⟩
    · rcases hm with hm | rfl
      · exact .inl ⟨m, hm, hx⟩
      · exact .inr hx
theorem allK_nodup (F : List (List Int)) : (allK F).Nodup := by
  induction F using snoc_ind with
  | h0 => exact List.nodup_nil
  | h1 F l ih => rw [allK_snoc]; exact foldl_insK_nodup ih
/-- all lots of a company, in sequence: fewer guests ahead -/
def lotLen (l : List Int) : Int := l.length
def lots (F : List (List Int)) : List (List Int) := srtBy lotLen (allK F)
theorem lots_mem {F : List (List Int)} {x : List Int} : x ∈ lots F ↔ ∃ l ∈ F, x.Sublist l := by
  unfold lots
  rw [(srtBy_perm _ _).mem_iff, allK_mem]
theorem lots_nodup (F : List (List Int)) : (lots F).Nodup := ((srtBy_perm _ _).nodup_iff).mpr (allK_nodup F)
theorem allK_len (F : List (List Int)) (h : ∀ l ∈ F, l.length ≤ 10) : (allK F).length ≤ 1024 * F.length := by
  induction F using snoc_ind with
  | h0 => simp [allK]
  | h1 F l ih =>
    rw [allK_snoc]
    have h1 := foldl_insK_len (parts l) (allK F)
    have h2 := ih fun m hm => h m (List.mem_append_left _ hm)
    have h3 : (parts l).length ≤ 1024 := by rw [parts_length]; exact pow_small (Nat.le_refl _) (h l (by simp))
    rw [List.length_append, List.length_singleton]
    omega
end K15
end
section
set_option Elab.async false
set_option linter.all false
set_option maxRecDepth 100000
/-! Pe7: all lots, by sizes. -/
namespace K15
open PySem PySem.Spec PySem.W L2 Pd
variable [TB]
structure Fam (n : Int) (F : List (List Int)) : Prop where
  lot : ∀ l ∈ F, Lot n l
  n7 : n ≤ 7
  n1 : 1 ≤ n
  few : F.length ≤ 1000
theorem Lot.len {n : Int} {l : List Int} (h : Lot n l) (hn : n ≤ 7) : l.length ≤ 7 := parts_len (h.all7 hn)
theorem Fam.len {n : Int} {F : List (List Int)} (h : Fam n F) {l : List Int} (hl : l ∈ F) : l.length ≤ 7 := (h.lot l hl).len h.n7
theorem Fam.small {n : Int} {F : List (List Int)} (h : Fam n F) : (allK F).length ≤ 1024000 ∧ (allK F).length + 1024 ≤ sizeLine := by
  have h1 := allK_len F fun l hl => Nat.le_trans (h.len hl) (by decide)
  have h2 := h.few
  have h3 : 1024 * 1000 + 1024 * 1024 ≤ sizeLine := by rw [sizeLine_eq]; decide
  omega
theorem lots_len_eq (F : List (List Int)) : (lots F).length = (allK F).length := (srtBy_perm _ _).length_eq
theorem mapO_map {g : D → Option D} {e k : List Int → D} : ∀ (l : List (List Int)), (∀ a ∈ l, g (e a) = some (k a)) → mapO g (l.map e) = some (l.map k)
  | [], _ => rfl
  | a :: l, h => by
    show (g (e a)).bind _ = _
    rw [h a List.mem_cons_self, Option.bind_some]
    show (mapO g (l.map e)).map _ = _
    rw [mapO_map l fun b hb => h b (List.mem_cons_of_mem _ hb)]
    rfl
theorem c_lot_place (l : List Int) : g_lot_place [tI l] = some (.dat (kD lotLen l)) := by
  refine gOf_eq rfl (ev_ret (tup2_is (cb1_is (z := .dat (.int (lotLen l))) rfl ?_) rfl rfl rfl)) rfl
  show some (Rv.dat (.int ((l.map PyData.int).length : Nat))) = _
  rw [List.length_map]
  rfl
theorem ev_upd {i : Nat} {me : MV} {ρ : List Sl} {pt p : List Int} {l m : List (List Int × D)} (hs : ρ[i]? = some (.dic l)) (h : me ρ pt = some (.dic m, p)) (hz : (l.isEmpty = false ∨ hashOk m = true) ∧ l.length + m.length ≤ sizeLine) : bUpd i me ρ pt = some (.nx (ρ.set i (.dic (mergeP l m))) p) := by
  unfold bUpd
  rw [hs]
  show (me ρ pt).bind _ = _
  rw [h, Option.bind_some]
  show (if _ then _ else _) = _
  rw [if_pos hz]
theorem c_lots_of {n : Int} {F : List (List Int)} (h : Fam n F) : g_lots_of [cD n F] = some (.lst ((lots F).map tI)) := by
  obtain ⟨ρ2, h1, s2, rfl⟩ := forGo_pre (α := List Int) (mg := gN 2) (p := []) (m := bUpd 1 (mDc (mSeq (mCall g_parts_of (mCons (mVar 2) mNil))) (gN 3) mYes (mVar 3) (mC (.bool true)) [3]))
    (ρ := [.dat (cD n F), .dic [], .un, .un]) tI (fun done ρ => ∃ s2, ρ = [.dat (cD n F), .dic (tt (allK done)), s2, .un]) F ⟨_, rfl⟩ fun done k rest ρ' hk ⟨s2, hρ⟩ => by
      subst hρ
      have hkm : k ∈ F := by rw [hk]; simp
      have hl := h.lot k hkm
      have hk7 := h.len hkm
      have hd : done.length ≤ 1000 := by have := h.few; rw [hk, List.length_append] at this; omega
      have hdz : (allK done).length ≤ 1024 * done.length := allK_len done fun l hl => Nat.le_trans (h.len (by rw [hk]; simp [hl])) (by decide)
      have hpl : (parts k).length ≤ 1024 := by rw [parts_length]; exact pow_small (Nat.le_refl _) (by omega)
      have big : 2000000 ≤ sizeLine := by rw [sizeLine_eq]; decide
      have hdc : mDc (mSeq (mCall g_parts_of (mCons (mVar 2) mNil))) (gN 3) mYes (mVar 3) (mC (.bool true)) [3] [.dat (cD n F), .dic (tt (allK done)), .dat (tI k), .un] [] = some (.dic (tt (parts k)), []) := by
        unfold mDc
        rw [seq_is (l := (parts k).map tI) (p := []) (call1_is (ρ := [.dat (cD n F), .dic (tt (allK done)), .dat (tI k), .un]) (pt := []) (p := []) rfl rfl (c_parts_of k (by omega))) rfl, Option.bind_some]
        rw [dcGo_pure (p := []) tI (fun a => a) (fun _ => .bool true) (parts k) [] (fun a ha => ⟨_, .dat (tI a), .dat (.bool true), rfl, rfl, ?_, rfl, rfl⟩) (by simp; omega)]
        · have e := foldl_tt (parts k) []
          rw [show (parts k).foldl (fun a k => kPut a k (.bool true)) [] = _ from e, parts_fresh hl.asc]
          rfl
        · show (some (a.map PyData.int)).bind intsA? = some a
          exact intsA_map a
      refine ⟨_, _, rfl, ev_upd rfl hdc ⟨.inr ?_, by rw [List.length_map, List.length_map]; omega⟩, .dat (tI k), ?_⟩
      · unfold hashOk
        rw [List.map_map]
        exact decide_eq_true (hash_parts hl h.n7)
      · rw [merge_tt, allK_snoc]
        rfl
  have hd : mSrtKD (defKey g_lot_place) (mVar 1) [.dat (cD n F), .dic (tt (allK F)), s2, .un] [] = some (.lst ((lots F).map tI), []) := by
    unfold mSrtKD
    show ((mapO (defKey g_lot_place) (Pd.keyD (tt (allK F)))).bind _) = _
    rw [keyD_tt, mapO_map (k := kD lotLen) (allK F) fun a _ => by unfold defKey; rw [c_lot_place]; rfl]
    rw [Option.bind_some, if_pos (okSort_kD _ _), srtKD_kD]
    rfl
  exact gOf_eq rfl (ev_seq (ev_set rfl rfl) (ev_seq (ev_for (seqF_is (op_is rfl rfl rfl) rfl rfl) h1) (ev_ret hd))) rfl
/-! ### by sizes -/
abbrev lenIs (k : Nat) (l : List Int) : Bool := decide (l.length = k)
def szs (L : List (List Int)) (n : Nat) : List (List (List Int)) := (List.range n).map fun k => L.filter (lenIs k)
theorem szs_get (L : List (List Int)) (n k : Nat) (h : k < n) : ((szs L n).map fun ls => ls.map tI)[k]? = some ((L.filter (lenIs k)).map tI) := by
  unfold szs
  rw [List.map_map, List.getElem?_map, List.getElem?_range h]
  rfl
theorem szs_put (L : List (List Int)) (n : Nat) (l : List Int) : ((szs L n).map fun ls => ls.map tI).set l.length ((L.filter (lenIs l.length)).map tI ++ [tI l]) = (szs (L ++ [l]) n).map fun ls => ls.map tI := by
  apply List.ext_getElem?
  intro k
  unfold szs
  rw [List.map_map, List.map_map]
  by_cases hk : k < n
  · by_cases e : l.length = k
    · subst e
      rw [List.getElem?_set_self (by simpa using hk), List.getElem?_map, List.getElem?_range hk]
      show _ = some (((L ++ [l]).filter (lenIs l.length)).map tI)
      rw [List.filter_append, List.filter_cons_of_pos (by simp), List.map_append]
      rfl
    · rw [List.getElem?_set_ne e, List.getElem?_map, List.getElem?_map, List.getElem?_range hk]
      show some ((L.filter (lenIs k)).map tI) = some (((L ++ [l]).filter (lenIs k)).map tI)
      rw [List.filter_append, List.filter_cons_of_neg (by simp [e]), List.filter_nil, List.append_nil]
  · rw [List.getElem?_eq_none (by simp; omega), List.getElem?_eq_none (by simp; omega)]
theorem szGo_is (n : Nat) : ∀ (ks acc : List (List Int)), (∀ k ∈ ks, k.length < n) → acc.length + ks.length ≤ sizeLine →
    szGo (ks.map tI) ((szs acc n).map fun ls => ls.map tI) = some ((szs (acc ++ ks) n).map fun ls => ls.map tI)
  | [], acc, _, _ => by rw [List.append_nil]; rfl
  | k :: ks, acc, h, hz => by
    rw [List.length_cons] at hz
    have hk := h k List.mem_cons_self
    have e0 : (k.map PyData.int).length = k.length := List.length_map ..
    rw [List.map_cons]
    show ((((szs acc n).map fun ls => ls.map tI)[(k.map PyData.int).length]?).bind fun l => if l.length < sizeLine then szGo (ks.map tI) (((szs acc n).map fun ls => ls.map tI).set (k.map PyData.int).length (l ++ [tI k])) else none) = _
    rw [e0, szs_get _ _ _ hk, Option.bind_some]
    have hl : (acc.filter (lenIs k.length)).length ≤ acc.length := List.length_filter_le _ _
    rw [if_pos (by rw [List.length_map]; omega), szs_put, szGo_is n ks (acc ++ [k]) (fun j hj => h j (List.mem_cons_of_mem _ hj)) (by rw [List.length_append, List.length_singleton]; omega)]
    rw [List.append_assoc]
    rfl
theorem szs_nil (n : Nat) : (szs [] n).map (fun ls => ls.map tI) = List.replicate n ([] : List D) := by
  apply List.ext_getElem?
  intro k
  unfold szs
  rw [List.map_map, List.getElem?_map, List.getElem?_replicate]
  by_cases hk : k < n
  · rw [List.getElem?_range hk, if_pos hk]; rfl
  · rw [List.getElem?_eq_none (by simp; omega), if_neg hk]; rfl
theorem ev_sizes {i j : Nat} {mi mi2 : ML} {ρ : List Sl} {pt p q : List Int} {ds : List D} {ks : List (List Int)} {n : Nat} (hc : ρ.all Sl.free = true ∧ i ≠ j ∧ i < ρ.length ∧ j < ρ.length) (h1 : mi ρ pt = some (ds, p)) (hn : ds.length = n) (hz : n ≤ sizeLine)
    (h2 : mi2 (ρ.set i .un) p = some (ks.map tI, q)) (hk : ∀ k ∈ ks, k.length < n) (hks : ks.length ≤ sizeLine) : bSizes i j mi mi2 ρ pt = some (.rt (.dat (.list ((szs ks n).map fun ls => .list (ls.map tI)))) q) := by
  unfold bSizes
  rw [if_pos hc, h1, Option.bind_some]
  show (if ds.length ≤ sizeLine then _ else _) = _
  rw [if_pos (by rw [hn]; exact hz), h2, Option.bind_some]
  show ((szGo (ks.map tI) (List.replicate ds.length [])).map _) = _
  rw [hn, ← szs_nil, szGo_is n ks [] hk (by simpa using hks), List.nil_append, Option.map_some, List.map_map]
  rfl
/-- one more than the greatest size -/
def szN (F : List (List Int)) : Nat := (maxI (-1 :: F.map lotLen) + 1).toNat
theorem szN_gt {F : List (List Int)} {l : List Int} (h : l ∈ F) : l.length < szN F := by
  have h1 : lotLen l ≤ maxI (-1 :: F.map lotLen) := maxI_ge (List.mem_cons_of_mem _ (List.mem_map.mpr ⟨l, h, rfl⟩))
  unfold szN
  unfold lotLen at h1
  unfold lotLen
  omega
theorem szN_le {F : List (List Int)} {m : Nat} (h : ∀ l ∈ F, l.length ≤ m) : szN F ≤ m + 1 := by
  have h1 : maxI (-1 :: F.map lotLen) ≤ m := by
    have := maxI_mem (l := -1 :: F.map lotLen) (by simp)
    rcases List.mem_cons.mp this with e | e
    · omega
    · obtain ⟨l, hl, e⟩ := List.mem_map.mp e
      have := h l hl
      rw [← e]
      unfold lotLen
      omega
  unfold szN
  omega
theorem rg_len (a b : Int) : (rgD a b).length = (b - a).toNat := by unfold rgD; simp
theorem max_ints {ns : List Int} (h : ns ≠ []) : fMaxL (.lst (ns.map .int)) = some (.dat (.int (maxI ns))) := by
  show ((intsA? (ns.map .int)).bind _) = _
  rw [intsA_map, Option.bind_some, if_neg h]
theorem rg1_is {me : MV} {ρ : List Sl} {pt p : List Int} {j : Int} (h : me ρ pt = some (.dat (.int j), p)) (hj : small62 j = true) : mRg1 (wCons me wNil) ρ pt = some (rgD 0 j, p) := by
  unfold mRg1
  rw [w1_is h, Option.bind_some]
  show ((some j).bind _) = _
  rw [Option.bind_some, if_pos hj]
theorem szN_small {F : List (List Int)} (h : ∀ l ∈ F, l.length ≤ 7) : small62 (maxI (-1 :: F.map lotLen) + 1) = true := by
  have h1 := szN_le h
  have h2 : (-1 : Int) ≤ maxI (-1 :: F.map lotLen) := maxI_ge List.mem_cons_self
  unfold szN at h1
  unfold small62
  rw [Bool.and_eq_true]
  exact ⟨decide_eq_true (by omega), decide_eq_true (by omega)⟩
def bySz (F : List (List Int)) : List (List (List Int)) := szs (lots F) (szN F)
theorem lots_lt {F : List (List Int)} {l : List Int} (h : l ∈ lots F) : l.length < szN F := by
  obtain ⟨m, hm, hs⟩ := lots_mem.mp h
  exact Nat.lt_of_le_of_lt hs.length_le (szN_gt hm)
abbrev szD (l : List (List (List Int))) : D := .list (l.map fun ls => .list (ls.map tI))
theorem lensI {me : MV} {ρ : List Sl} {pt p : List Int} {n : Int} {F : List (List Int)} (hm : mOp fIx (mVar 0) (mC (.int 1)) ρ pt = some (.dat (tD F), p)) (hF : F.length ≤ sizeLine) (hv : ∀ l ∈ F, ((wipeR ρ [2]).set 2 (.dat (tI l)))[2]? = some (.dat (tI l))) :
    mLc (mSeq (mOp fIx (mVar 0) (mC (.int 1)))) (gN 2) mYes (mCB (f1 fLen) (wCons (mVar 2) wNil)) [2] ρ pt = some (.lst (F.map fun l => .int (lotLen l)), p) := by
  refine lc_all tI (fun l => .int (lotLen l)) F (seq_is hm rfl) (fun l hl => ⟨_, rfl, .dat (.int (lotLen l)), cb1_is (r := .dat (tI l)) ?_ ?_, rfl⟩) hF
  · unfold mVar
    rw [hv l hl]
  · show some (Rv.dat (.int ((l.map PyData.int).length : Nat))) = _
    rw [List.length_map]
    rfl
theorem c_by_sizes {n : Int} {F : List (List Int)} (h : Fam n F) : g_by_sizes [cD n F] = some (.dat (szD (bySz F))) := by
  have hs := h.small
  have hfew := h.few
  have big : 2000000 ≤ sizeLine := by rw [sizeLine_eq]; decide
  have hN : szN F ≤ 8 := szN_le fun l hl => h.len hl
  have hmax : (mOp fAdd3 (mCB (f1 fMaxL) (wCons (mLst (mCons (mUn fNeg (mC (.int 1))) (mStar (mLc (mSeq (mOp fIx (mVar 0) (mC (.int 1)))) (gN 2) mYes (mCB (f1 fLen) (wCons (mVar 2) wNil)) [2]) mNil))) wNil)) (mC (.int 1)) : MV) [.dat (cD n F), .un, .un, .un] [] = some (.dat (.int (maxI (-1 :: F.map lotLen) + 1)), []) := by
    refine op_is (x := .dat (.int (maxI (-1 :: F.map lotLen)))) (cb1_is (r := .lst ((-1 :: F.map lotLen).map .int)) ?_ (max_ints (by simp))) rfl rfl
    unfold mLst mCons mStar mNil
    rw [un_is (x := .dat (.int 1)) (z := .dat (.int (-1))) (p := []) rfl rfl, Option.bind_some]
    show ((((mLc (mSeq (mOp fIx (mVar 0) (mC (.int 1)))) (gN 2) mYes (mCB (f1 fLen) (wCons (mVar 2) wNil)) [2] [.dat (cD n F), .un, .un, .un] []).bind _).map _).bind _) = _
    rw [lensI (n := n) (F := F) (me := mVar 0) (op_is rfl rfl rfl) (by omega) (fun l _ => rfl), Option.bind_some]
    show (if ((.int (-1) :: ((F.map fun l => PyData.int (lotLen l)) ++ [])) : List D).length ≤ sizeLine then some (Rv.lst (.int (-1) :: ((F.map fun l => PyData.int (lotLen l)) ++ [])), ([] : List Int)) else none) = _
    rw [if_pos (by simp; omega), List.append_nil, List.map_cons, List.map_map]
    rfl
  refine gOf_eq rfl (ev_sizes (ks := lots F) (n := szN F) ⟨rfl, by decide, by show 1 < 4; decide, by show 2 < 4; decide⟩ (rg1_is hmax (szN_small fun l hl => h.len hl)) ?_ (by omega) (seqF_is (call1_is rfl rfl (c_lots_of h)) rfl rfl) (fun k hk => lots_lt hk) (by rw [lots_len_eq]; omega)) rfl
  rw [rg_len, Int.sub_zero]
  rfl
end K15
end
section
set_option Elab.async false
set_option linter.all false
set_option maxRecDepth 100000
/-! Pe8: the law's own lots are the same. -/
namespace K15
open PySem PySem.Spec PySem.W L2 Pd
variable [TB]
/-- lots of one size, sorted either way -/
theorem lots_sortI (F : List (List Int)) (k : Nat) : (Pd.sortI (allK F)).filter (lenIs k) = (lots F).filter (lenIs k) := by
  refine List.Perm.eq_of_pairwise (le := fun a b => leI a b = true) (fun a b _ _ => leI_anti) ?_ ?_ ?_
  · exact (List.pairwise_mergeSort leI_trans leI_total _).filter _
  · refine List.Pairwise.imp_of_mem ?_ ((srtBy_sorted lotLen (allK F)).filter _)
    intro a b ha hb hab
    have h1 : a.length = k := of_decide_eq_true (List.mem_filter.mp ha).2
    have h2 : b.length = k := of_decide_eq_true (List.mem_filter.mp hb).2
    unfold leK at hab
    have hab := of_decide_eq_true hab
    unfold lotLen at hab
    rcases hab with h | ⟨_, h⟩
    · omega
    · exact decide_eq_true h
  · refine List.Perm.filter _ ?_
    exact (List.mergeSort_perm _ _).trans (srtBy_perm _ _).symm
theorem szs_lots (F : List (List Int)) (n : Nat) : szs (Pd.sortI (allK F)) n = szs (lots F) n := by
  unfold szs
  apply List.map_congr_left
  intro k _
  exact lots_sortI F k
theorem ev_dput {i : Nat} {mk mv : MV} {ρ : List Sl} {pt p q : List Int} {r s : Rv} {d : D} {k : List Int} {l : List (List Int × D)} (hv : mv ρ pt = some (r, p)) (hd : r.fix? = some d) (hk : mk ρ p = some (s, q)) (hkk : s.key? = some k) (hs : ρ[i]? = some (.dic l)) (hz : l.length < sizeLine) :
    bDPut i mk mv ρ pt = some (.nx (ρ.set i (.dic (kPut l k d))) q) := by
  unfold bDPut
  rw [hv, Option.bind_some, hd, Option.bind_some, hk, Option.bind_some, hkk, Option.bind_some, hs]
  show (if _ then _ else _) = _
  rw [if_pos hz]
theorem key_tI (k : List Int) : (Rv.dat (tI k)).key? = some k := intsA_map k
theorem okSort_D (l : List (List Int)) : okSort (l.map tI) = true := okSort_tI l
theorem c_law_lots {n : Int} {F : List (List Int)} (h : Fam n F) : g_law_lots [cD n F] = some (.dat (szD (bySz F))) := by
  have hs := h.small
  have hfew := h.few
  have big : 2000000 ≤ sizeLine := by rw [sizeLine_eq]; decide
  have hN : szN F ≤ 8 := szN_le fun l hl => h.len hl
  -- known
  obtain ⟨ρ2, h1, s2, s4, fr2, fr4, rfl⟩ := forGo_pre (α := List Int) (mg := gN 2) (p := []) (m := bFor (mSeqF (mCall g_law_parts (mCons (mVar 2) mNil))) (gN 4) (bDPut 1 (mVar 4) (mC (.bool true))))
    (ρ := [.dat (cD n F), .dic [], .un, .un, .un, .un]) tI (fun done ρ => ∃ s2 s4, s2.free = true ∧ s4.free = true ∧ ρ = [.dat (cD n F), .dic (tt (allK done)), s2, .un, s4, .un]) F ⟨_, _, rfl, rfl, rfl⟩ fun done k rest ρ' hk ⟨s2, s4, fr2, fr4, hρ⟩ => by
      subst hρ
      have hkm : k ∈ F := by rw [hk]; simp
      have hk7 := h.len hkm
      have hd : done.length ≤ 1000 := by have := h.few; rw [hk, List.length_append] at this; omega
      have hdz : (allK done).length ≤ 1024 * done.length := allK_len done fun l hl => Nat.le_trans (h.len (by rw [hk]; simp [hl])) (by decide)
      have hpl : (parts k).length ≤ 1024 := by rw [parts_length]; exact pow_small (Nat.le_refl _) (by omega)
      obtain ⟨ρ3, g1, s5, fr5, rfl⟩ := forGo_pre (α := List Int) (mg := gN 4) (p := []) (m := bDPut 1 (mVar 4) (mC (.bool true)))
        (ρ := [.dat (cD n F), .dic (tt (allK done)), .dat (tI k), .un, s4, .un]) tI (fun dn ρ => ∃ s5, s5.free = true ∧ ρ = [.dat (cD n F), .dic (tt (dn.foldl insK (allK done))), .dat (tI k), .un, s5, .un]) (parts k) ⟨_, fr4, rfl⟩ fun dn a rs ρ' ha ⟨s5, fr5, hρ⟩ => by
          subst hρ
          have hz := foldl_insK_len dn (allK done)
          have hdn : dn.length ≤ 1024 := by
            have : dn.length ≤ (parts k).length := by rw [ha, List.length_append]; omega
            omega
          refine ⟨_, _, rfl, ev_dput rfl rfl rfl (key_tI a) rfl (by rw [List.length_map]; omega), .dat (tI a), rfl, ?_⟩
          rw [kPut_tt, List.foldl_append]
          rfl
      refine ⟨_, _, rfl, ev_for (seqF_is (call1_is rfl rfl (c_law_parts k (by omega))) rfl rfl) g1, .dat (tI k), s5, rfl, fr5, ?_⟩
      rw [allK_snoc]
  have hmax : (mOp fAdd3 (mCB (f1 fMaxL) (wCons (mOp fAdd3 (mLst (mCons (mUn fNeg (mC (.int 1))) mNil)) (mLc (mSeq (mOp fIx (mVar 0) (mC (.int 1)))) (gN 2) mYes (mCB (f1 fLen) (wCons (mVar 2) wNil)) [2])) wNil)) (mC (.int 1)) : MV)
      [.dat (cD n F), .dat (.dict (dD (tt (allK F)))), s2, .un, s4, .un] [] = some (.dat (.int (maxI (-1 :: F.map lotLen) + 1)), []) := by
    refine op_is (x := .dat (.int (maxI (-1 :: F.map lotLen)))) (cb1_is (r := .lst ((-1 :: F.map lotLen).map .int)) ?_ (max_ints (by simp))) rfl rfl
    refine op_is (x := .lst [.int (-1)]) rfl (lensI (n := n) (F := F) (me := mVar 0) (op_is rfl rfl rfl) (by omega) (fun l _ => rfl)) ?_
    rw [show fAdd3 (.lst [.int (-1)]) (.lst (F.map fun l => .int (lotLen l))) = _ from cat_is rfl rfl rfl (by simp; omega), List.map_cons, List.map_map]
    rfl
  have hsort : (mSeqF (mCB (f1 fSortedD) (wCons (mVar 1) wNil)) : ML) [.dat (cD n F), .dat (.dict (dD (tt (allK F)))), s2, .un, s4, .un] [] = some ((Pd.sortI (allK F)).map tI, []) := by
    refine seqF_is (r := .lst ((Pd.sortI (allK F)).map tI)) (cb1_is (r := .dat (.dict (dD (tt (allK F))))) rfl ?_) rfl rfl
    show ((undD (dD (tt (allK F)))).bind _) = _
    rw [undD_dD, Option.bind_some, keyD_tt, if_pos (okSort_D _), srtD_tI]
  have e := ev_sizes (i := 3) (j := 2) (ks := Pd.sortI (allK F)) (n := szN F) (ρ := [.dat (cD n F), .dat (.dict (dD (tt (allK F)))), s2, .un, s4, .un]) (pt := []) (p := []) (q := [])
    ⟨?_, by decide, by show 3 < 6; decide, by show 2 < 6; decide⟩ (rg1_is hmax (szN_small fun l hl => h.len hl)) ?_ (by omega) hsort (fun k hk => ?_) ?_
  · rw [szs_lots] at e
    exact gOf_eq rfl (ev_seq (ev_set rfl rfl) (ev_seq (ev_for (seqF_is (op_is rfl rfl rfl) rfl rfl) h1) (show bLock 1 _ _ _ = _ from e))) rfl
  · simp [Sl.free, fr2, fr4]
    simp only [Sl.free] at fr2 fr4
    exact ⟨fr2, fr4⟩
  · rw [rg_len, Int.sub_zero]
    rfl
  · refine lots_lt ?_
    unfold lots
    rw [(srtBy_perm _ _).mem_iff]
    exact (List.mergeSort_perm _ _).mem_iff.mp hk
  · have : (Pd.sortI (allK F)).length = (allK F).length := (List.mergeSort_perm _ _).length_eq
    omega
end K15
end
section
set_option Elab.async false
set_option linter.all false
set_option maxRecDepth 100000
/-! Pe9: sums of signs over all lots. -/
namespace K15
open PySem PySem.Spec PySem.W L2 Pd
variable [TB]
/-! ### a list by sizes, flat again -/
theorem szs_succ (L : List (List Int)) (n : Nat) : szs L (n + 1) = szs L n ++ [L.filter (lenIs n)] := by
  unfold szs
  rw [List.range_succ, List.map_append]
  rfl
theorem split_sorted (n : Nat) : ∀ (L : List (List Int)), (L.Pairwise fun a b => a.length ≤ b.length) → (∀ l ∈ L, l.length < n + 1) → L = (L.filter fun l => decide (l.length < n)) ++ L.filter (lenIs n)
  | [], _, _ => rfl
  | a :: L, hp, h => by
    rw [List.pairwise_cons] at hp
    have ha := h a List.mem_cons_self
    have h' := fun l hl => h l (List.mem_cons_of_mem _ hl)
    by_cases c : a.length < n
    · rw [List.filter_cons_of_pos (by simpa using c), List.filter_cons_of_neg (by simp; omega), List.cons_append]
      exact congrArg (a :: ·) (split_sorted n L hp.2 h')
    · have e : a.length = n := by omega
      have all : ∀ l ∈ L, l.length = n := fun l hl => by
        have := hp.1 l hl
        have := h' l hl
        omega
      rw [List.filter_eq_nil_iff.mpr, List.nil_append, List.filter_eq_self.mpr]
      · intro l hl
        rcases List.mem_cons.mp hl with rfl | hl
        · simpa using e
        · simpa using all l hl
      · intro l hl
        rcases List.mem_cons.mp hl with rfl | hl
        · simpa using c
        · have := all l hl
          simp; omega
theorem szs_flat (n : Nat) : ∀ (L : List (List Int)), (L.Pairwise fun a b => a.length ≤ b.length) → (∀ l ∈ L, l.length < n) → (szs L n).flatten = L := by
  induction n with
  | zero =>
    intro L _ h
    cases L with
    | nil => rfl
    | cons a L => exact absurd (h a List.mem_cons_self) (Nat.not_lt_zero _)
  | succ n ih =>
    intro L hp h
    rw [szs_succ, List.flatten_append, List.flatten_singleton]
    have e : szs L n = szs (L.filter fun l => decide (l.length < n)) n := by
      unfold szs
      apply List.map_congr_left
      intro k hk
      have hk := List.mem_range.mp hk
      rw [List.filter_filter]
      apply List.filter_congr
      intro l _
      by_cases c : l.length = k
      · simp [lenIs, c, hk]
      · simp [lenIs, c]
    rw [e, ih _ (hp.filter _) fun l hl => by simpa using (List.mem_filter.mp hl).2]
    exact (split_sorted n L hp h).symm
theorem lots_byLen (F : List (List Int)) : (lots F).Pairwise fun a b => a.length ≤ b.length := by
  refine (srtBy_sorted lotLen (allK F)).imp fun {a b} h => ?_
  have h := of_decide_eq_true h
  unfold lotLen at h
  omega
theorem bySz_flat (F : List (List Int)) : (bySz F).flatten = lots F := szs_flat _ _ (lots_byLen F) fun l hl => lots_lt hl
theorem bySz_len (F : List (List Int)) : (bySz F).length = szN F := by unfold bySz szs; simp
theorem bySz_ne {F : List (List Int)} (h : F ≠ []) : bySz F ≠ [] := fun e => by
  have h1 := bySz_len F
  rw [e] at h1
  cases F with
  | nil => exact h rfl
  | cons a F =>
    have := szN_gt (F := a :: F) (l := a) List.mem_cons_self
    rw [← h1] at this
    exact Nat.not_lt_zero _ this
theorem lsO_map : ∀ X : List (List (List Int)), mapO lsO? (X.map fun ls => .list (ls.map tI)) = some (X.map fun ls => ls.map tI)
  | [] => rfl
  | a :: X => by
    show (mapO lsO? (X.map fun ls => PyData.list (ls.map tI))).map (fun l => a.map tI :: l) = _
    rw [lsO_map X]
    rfl
theorem sumL_is {X : List (List (List Int))} (hX : X ≠ []) (hz : X.flatten.length ≤ sizeLine) : fSumL (.dat (szD X)) (.lst []) = some (.lst (X.flatten.map tI)) := by
  have e : (X.map fun ls => ls.map tI).flatten = X.flatten.map tI := by rw [List.map_flatten]
  show ((mapO lsO? (X.map fun ls => PyData.list (ls.map tI))).bind _) = _
  rw [lsO_map, Option.bind_some]
  show (if (X.map fun ls => ls.map tI) ≠ [] ∧ (X.map fun ls => ls.map tI).flatten.length ≤ sizeLine then some (Rv.lst (X.map fun ls => ls.map tI).flatten) else none) = _
  rw [e, if_pos ⟨fun z => hX (List.map_eq_nil_iff.mp z), by rw [List.length_map]; exact hz⟩]
theorem cb2_is {f : Rv → Rv → Option Rv} {ma mb : MV} {ρ : List Sl} {pt p q : List Int} {x y z : Rv} (ha : ma ρ pt = some (x, p)) (hb : mb ρ p = some (y, q)) (h : f x y = some z) : mCB (f2 f) (wCons ma (wCons mb wNil)) ρ pt = some (z, q) := by
  unfold mCB
  rw [w2_is ha hb, Option.bind_some]
  show (f x y).map _ = _
  rw [h]
  rfl
/-- sum(_law_lots(company), []) -/
theorem flat_is {me : MV} {ρ : List Sl} {pt p : List Int} {r : Rv} {n : Int} {F : List (List Int)} (h : Fam n F) (hF : F ≠ []) (hm : me ρ pt = some (r, p)) (hr : r.fix? = some (cD n F)) :
    mCB (f2 fSumL) (wCons (mCall g_law_lots (mCons me mNil)) (wCons (mLst mNil) wNil)) ρ pt = some (.lst ((lots F).map tI), p) := by
  have e := cb2_is (f := fSumL) (call1_is hm hr (c_law_lots h)) (mb := mLst mNil) (y := .lst []) (q := p) rfl (sumL_is (bySz_ne hF) ?_)
  · rw [bySz_flat] at e
    exact e
  · rw [bySz_flat, lots_len_eq]
    have := h.small
    omega
def sgn (l : List Int) : Int := if l.length % 2 = 0 then 1 else -1
def sgnSum (L : List (List Int)) : Int := (L.map sgn).sum
theorem len_tI (l : List Int) : fLen (.dat (tI l)) = some (.dat (.int (l.length : Nat))) := by
  show some (Rv.dat (.int ((l.map PyData.int).length : Nat))) = _
  rw [List.length_map]
theorem c_law_signed {n : Int} {F : List (List Int)} (h : Fam n F) (hF : F ≠ []) : g_law_signed [cD n F] = some (.dat (.int (sgnSum (lots F)))) := by
  have hs := h.small
  refine gOf_eq rfl (ev_ret (cb1_is (lc_all tI (fun l => .int (sgn l)) (lots F) (seq_is (flat_is h hF rfl rfl) rfl) (fun l hl => ⟨_, rfl, .dat (.int (sgn l)), ?_, rfl⟩) (by rw [lots_len_eq]; omega)) (sum_is sgn _))) rfl
  have e1 : (mVal (mOp (fEq false) (mOp (fIc cMod fun i j => i % j) (mCB (f1 fLen) (wCons (mVar 1) wNil)) (mC (.int 2))) (mC (.int 0))) : MT) [.dat (cD n F), .dat (tI l)] [] = some (decide (((l.length : Nat) : Int) % 2 = 0), []) :=
    val_is (op_is (op_is (cb1_is rfl (len_tI l)) rfl rfl) rfl (enc_int.eq (by decide) rfl rfl))
  show mIfE _ _ _ [.dat (cD n F), .dat (tI l)] [] = _
  unfold mIfE
  rw [e1, Option.bind_some]
  unfold sgn
  by_cases c : l.length % 2 = 0
  · rw [if_pos (decide_eq_true (by omega)), if_pos c]; rfl
  · rw [if_neg (by simp; omega), if_neg c]; rfl
theorem enD_range (g : Nat → D) (n : Nat) : enD ((List.range n).map g) = (List.range n).map fun (i : Nat) => .tuple [.int (i : Int), g i] := by
  unfold enD
  rw [List.length_map, List.length_range]
  apply List.ext_getElem
  · simp
  · intro i h1 h2
    simp
theorem sum_const {α : Type} (c : Int) : ∀ l : List α, (l.map fun _ => c).sum = c * (l.length : Int)
  | [] => by simp
  | a :: l => by rw [List.map_cons, List.sum_cons, sum_const c l, List.length_cons]; push_cast; rw [Int.mul_add]; omega
theorem sum_flat {α : Type} (f : α → Int) : ∀ X : List (List α), (X.flatten.map f).sum = (X.map fun l => (l.map f).sum).sum
  | [] => rfl
  | a :: X => by rw [List.flatten_cons, List.map_append, List.sum_append, sum_flat f X, List.map_cons, List.sum_cons]
theorem signs_flat (F : List (List Int)) : ((List.range (szN F)).map fun (k : Nat) => (1 - 2 * ((k : Int) % 2)) * (((lots F).filter (lenIs k)).length : Int)).sum = sgnSum (lots F) := by
  unfold sgnSum
  have e : ((lots F).map sgn).sum = ((bySz F).flatten.map sgn).sum := by rw [bySz_flat]
  rw [e, sum_flat]
  unfold bySz szs
  rw [List.map_map]
  congr 1
  apply List.map_congr_left
  intro k _
  show _ = (((lots F).filter (lenIs k)).map sgn).sum
  rw [← sum_const]
  congr 1
  apply List.map_congr_left
  intro l hl
  have hk : l.length = k := of_decide_eq_true (List.mem_filter.mp hl).2
  unfold sgn
  rw [hk]
  split <;> omega
theorem c_signed_of {n : Int} {F : List (List Int)} (h : Fam n F) : g_signed_of [cD n F] = some (.dat (.int (sgnSum (lots F)))) := by
  have hs := h.small
  have hN : szN F ≤ 8 := szN_le fun l hl => h.len hl
  have big : 2000000 ≤ sizeLine := by rw [sizeLine_eq]; decide
  have hi : (mEn (wCons (mCall g_by_sizes (mCons (mVar 0) mNil)) wNil) : ML) [.dat (cD n F), .un, .un] [] = some ((List.range (szN F)).map fun (k : Nat) => .tuple [.int (k : Int), .list (((lots F).filter (lenIs k)).map tI)], []) := by
    unfold mEn
    rw [w1_is (call1_is rfl rfl (c_by_sizes h)), Option.bind_some]
    show some (enD ((bySz F).map fun ls => PyData.list (ls.map tI)), ([] : List Int)) = _
    unfold bySz szs
    rw [List.map_map]
    show some (enD ((List.range (szN F)).map fun k => PyData.list (((lots F).filter (lenIs k)).map tI)), ([] : List Int)) = _
    rw [enD_range]
  rw [← signs_flat]
  refine gOf_eq rfl (ev_ret (cb1_is (lc_all (fun (k : Nat) => .tuple [.int (k : Int), .list (((lots F).filter (lenIs k)).map tI)]) (fun (k : Nat) => .int ((1 - 2 * ((k : Int) % 2)) * (((lots F).filter (lenIs k)).length : Int))) (List.range (szN F)) hi (fun k hk => ⟨_, rfl, .dat (.int ((1 - 2 * ((k : Int) % 2)) * (((lots F).filter (lenIs k)).length : Int))), ?_, rfl⟩) (by simp; omega)) (sum_is _ _))) rfl
  refine op_is (x := .dat (.int (1 - 2 * ((k : Int) % 2)))) (y := .dat (.int (((lots F).filter (lenIs k)).length : Int))) (p := []) (op_is (y := .dat (.int (2 * ((k : Int) % 2)))) (q := []) rfl (op_is (x := .dat (.int 2)) (y := .dat (.int ((k : Int) % 2))) (p := []) rfl (op_is rfl rfl rfl) ?_) rfl) (cb1_is (r := .dat (.list (((lots F).filter (lenIs k)).map tI))) rfl ?_) ?_
  · rfl
  · show some (Rv.dat (.int ((((lots F).filter (lenIs k)).map tI).length : Nat))) = _
    rw [List.length_map]
  · show (if cMul _ _ = true then _ else _) = _
    rw [if_pos]
    unfold cMul s64
    rw [Bool.or_eq_true, Bool.and_eq_true]
    exact .inl ⟨decide_eq_true (by omega), decide_eq_true (by omega)⟩
end K15
end
section
set_option Elab.async false
set_option linter.all false
set_option maxRecDepth 100000
/-! Pe10: companies made of others. -/
namespace K15
open PySem PySem.Spec PySem.W L2 Pd
variable [TB]
theorem is_tuple2 (a b : D) : g_is_tuple [.tuple [a, b], .int 2, .int 2] = some (.dat (.bool true)) := by rw [c_is_tuple]; rfl
/-- a company: its greatest lots as they stand -/
structure Com (n : Int) (F : List (List Int)) : Prop extends Fam n F where
  gr : great F = F
  little : F.length ≤ 128
theorem c_is_company {n : Int} {F : List (List Int)} (h : Com n F) : g_is_company [cD n F] = some (.dat (.bool true)) := by
  have hl := h.little
  have big : 2000000 ≤ sizeLine := by rw [sizeLine_eq]; decide
  have h7 := h.n7
  have h1 := h.n1
  have e1 : (mOr (mNot (mVal (mCall g_is_tuple (mCons (mVar 0) (mCons (mC (.int 2)) (mCons (mC (.int 2)) mNil)))))) (mNot (mVal (mCall g_is_integer (mCons (mOp fIx (mVar 0) (mC (.int 0))) (mCons (mC (.int 1)) (mCons (mC (.int 10)) mNil)))))) : MT) [.dat (cD n F), .un] [] = some (false, []) := by
    refine or_is (a := false) (b := false) (not_is (b := true) (val_is (call3_is rfl rfl rfl rfl rfl rfl (is_tuple2 _ _)))) fun _ => not_is (b := true) (val_is (call3_is (op_is (z := .dat (.int n)) rfl rfl rfl) rfl rfl rfl rfl rfl ?_))
    rw [c_is_integer, decide_eq_true (by omega), decide_eq_true (by omega)]
    rfl
  have e2 : (mOr (mNot (mVal (mUn (fIsi "tuple") (mOp fIx (mVar 0) (mC (.int 1)))))) (mNot (mVal (mCB (f1 fAll) (wCons (mLc (mSeq (mOp fIx (mVar 0) (mC (.int 1)))) (gN 1) mYes (mCall g_is_lot (mCons (mOp fIx (mVar 0) (mC (.int 0))) (mCons (mVar 1) mNil))) [1]) wNil)))) : MT) [.dat (cD n F), .un] [] = some (false, []) := by
    refine or_is (a := false) (b := false) (not_is (b := true) (val_is (un_is (op_is (z := .dat (tD F)) rfl rfl rfl) rfl))) fun _ => not_is (b := true) (val_is (cb1_is (lc_all tI (fun l => .bool ((fun _ => true) l)) F (seq_is (op_is (z := .dat (tD F)) rfl rfl rfl) rfl) (fun l hlm => ⟨_, rfl, .dat (.bool true), call2_is (op_is (z := .dat (.int n)) rfl rfl rfl) rfl rfl rfl ?_, rfl⟩) (by omega)) ?_))
    · have hlen := h.toFam.len hlm
      rw [c_is_lot n l (by omega), (h.lot l hlm).inR, (h.lot l hlm).risb]
      rfl
    · rw [all_is]
      simp
  have e3 : g_greatest_of [tD F] = some (.dat (tD F)) := by
    have := c_greatest_of (d := tD F) F rfl (by omega) fun l hlm => Nat.le_trans (h.toFam.len hlm) (by decide)
    rw [h.gr] at this
    exact this
  refine gOf_eq rfl (ev_seq (ev_ifF e1 rfl) (ev_seq (ev_ifF e2 rfl) (ev_ret (r := .dat (.bool true)) (op_is (call1_is (op_is (z := .dat (tD F)) rfl rfl rfl) rfl e3) (op_is (z := .dat (tD F)) rfl rfl rfl) ?_)))) rfl
  rw [enc_tD.eq (by decide) rfl rfl, decide_eq_true rfl]
theorem c_check_company {n : Int} {F : List (List Int)} (h : Com n F) : g_check_company [cD n F] = some (.dat .none) :=
  gOf_eq rfl (ev_ifF (not_is (b := true) (val_is (call1_is rfl rfl (c_is_company h)))) rfl) rfl
theorem c_check_lot {n : Int} {F : List (List Int)} {l : List Int} (h : Lot n l) (hn : n ≤ 7) : g_check_lot [cD n F, tI l] = some (.dat .none) := by
  have big : 2000000 ≤ sizeLine := by rw [sizeLine_eq]; decide
  have hl := h.len hn
  refine gOf_eq rfl (ev_ifF (not_is (b := true) (val_is (call2_is (op_is (z := .dat (.int n)) rfl rfl rfl) rfl rfl rfl ?_))) rfl) rfl
  rw [c_is_lot n l (by omega), h.inR, h.risb]
  rfl
/-! ### beside a lot -/
def linkR (F : List (List Int)) (l : List Int) : List (List Int) := (F.filter (sub l)).map fun o => o.filter fun x => !l.contains x
theorem tup_is {me : MV} {ρ : List Sl} {pt p : List Int} {ns : List Int} (h : me ρ pt = some (.lst (ns.map .int), p)) : mCB (f1 fTuple) (wCons me wNil) ρ pt = some (.dat (tI ns), p) := cb1_is h rfl
theorem linkR_len (F : List (List Int)) (l : List Int) : (linkR F l).length ≤ F.length := by unfold linkR; rw [List.length_map]; exact List.length_filter_le _ _
theorem linkR_small {n : Int} {F : List (List Int)} (h : Fam n F) (l : List Int) : ∀ o ∈ linkR F l, o.length ≤ 1000 := fun o ho => by
  obtain ⟨m, hm, rfl⟩ := List.mem_map.mp ho
  have := h.len (List.mem_filter.mp hm).1
  have := List.length_filter_le (fun x => !l.contains x) m
  omega
theorem c_link_of {n : Int} {F : List (List Int)} (h : Fam n F) {l : List Int} (hl : l.length ≤ 1000) : g_link_of [cD n F, tI l] = some (.dat (cD n (great (linkR F l)))) := by
  have hf := h.few
  have big : 2000000 ≤ sizeLine := by rw [sizeLine_eq]; decide
  refine gOf_eq rfl (ev_seq (ev_set (lc_map tI (sub l) (fun o => tI (o.filter fun x => !l.contains x)) F (seq_is (op_is (z := .dat (tD F)) rfl rfl rfl) rfl) (fun o ho => ⟨_, rfl, val_is (call2_is rfl rfl rfl rfl (c_is_within l o (by omega))), fun _ => ⟨.dat (tI (o.filter fun x => !l.contains x)), tup_is ?_, rfl⟩⟩) (by omega)) rfl) (show bFrz 2 _ _ _ = _ from ev_ret (call2_is (op_is (z := .dat (.int n)) rfl rfl rfl) rfl rfl rfl (c_company_by n (linkR F l) ?_ (by have := linkR_len F l; omega) (linkR_small h l))))) rfl
  · have := h.len ho
    exact lc_map (fun x => .int x) (fun x => !l.contains x) (fun x => .int x) o (seq_is rfl rfl) (fun x _ => ⟨_, rfl, val_is (op_is rfl rfl (in_is true x l)), fun _ => ⟨_, rfl, rfl⟩⟩) (by omega)
  · show some ((F.filter (sub l)).map fun o => tI (o.filter fun x => !l.contains x)) = _
    unfold linkR
    rw [List.map_map]
    rfl
theorem c_law_link {n : Int} {F : List (List Int)} (h : Fam n F) {l : List Int} (hl : l.length ≤ 1000) : g_law_link [cD n F, tI l] = some (.dat (cD n (great (linkR F l)))) := by
  have hf := h.few
  have big : 2000000 ≤ sizeLine := by rw [sizeLine_eq]; decide
  refine gOf_eq rfl (ev_seq (ev_set (lc_map tI (sub l) (fun o => tI (o.filter fun x => !l.contains x)) F (seq_is (op_is (z := .dat (tD F)) rfl rfl rfl) rfl) (fun o ho => ⟨_, rfl, val_is (call2_is rfl rfl rfl rfl (c_law_is_part l o (by omega))), fun _ => ⟨.dat (tI (o.filter fun x => !l.contains x)), tup_is ?_, rfl⟩⟩) (by omega)) rfl) (show bFrz 2 _ _ _ = _ from ev_ret (call2_is (op_is (z := .dat (.int n)) rfl rfl rfl) rfl rfl rfl (c_law_company n (linkR F l) ?_ (by have := linkR_len F l; omega) (linkR_small h l))))) rfl
  · have := h.len ho
    exact lc_map (fun x => .int x) (fun x => !l.contains x) (fun x => .int x) o (seq_is rfl rfl) (fun x _ => ⟨_, rfl, val_is (op_is rfl rfl (in_is true x l)), fun _ => ⟨_, rfl, rfl⟩⟩) (by omega)
  · show some ((F.filter (sub l)).map fun o => tI (o.filter fun x => !l.contains x)) = _
    unfold linkR
    rw [List.map_map]
    rfl
theorem c_link {n : Int} {F : List (List Int)} (h : Com n F) {l : List Int} (hl : Lot n l) : g_link [cD n F, tI l] = some (.dat (cD n (great (linkR F l)))) := by
  have := hl.len h.n7
  exact gOf_eq rfl (ev_seq (ev_drop (call1_is rfl rfl (c_check_company h))) (ev_seq (ev_drop (call2_is rfl rfl rfl rfl (c_check_lot hl h.n7))) (ev_ret (call2_is rfl rfl rfl rfl (c_link_of h.toFam (by omega)))))) rfl
theorem c_signed {n : Int} {F : List (List Int)} (h : Com n F) : g_signed [cD n F] = some (.dat (.int (sgnSum (lots F)))) :=
  gOf_eq rfl (ev_seq (ev_drop (call1_is rfl rfl (c_check_company h))) (ev_ret (call1_is rfl rfl (c_signed_of h.toFam)))) rfl
end K15
end
section
set_option Elab.async false
set_option linter.all false
set_option maxRecDepth 100000
/-! Pe11: greatest lots: the same lots in all. -/
namespace K15
open PySem PySem.Spec PySem.W L2 Pd
variable [TB]
theorem sub_sl {a b : List Int} (ha : Asc a) (hb : Asc b) : sub a b = true ↔ a.Sublist b :=
  sub_iff.trans ⟨fun h => asc_sub ha hb h, fun h x hx => h.subset hx⟩
theorem great_mem {F : List (List Int)} {l : List Int} : l ∈ great F ↔ l ∈ F ∧ ∀ o ∈ F, l ≠ o → sub l o = false := by
  unfold great
  rw [List.mem_filter, setI_mem]
  refine and_congr_right fun hl => ?_
  unfold grb
  rw [Bool.not_eq_true', List.any_eq_false]
  refine ⟨fun h o ho hne => ?_, fun h o ho => ?_⟩
  · have := h o (setI_mem.mpr ho)
    cases hs : sub l o with
    | false => rfl
    | true => rw [hs, decide_eq_false hne] at this; exact absurd rfl this
  · by_cases e : l = o
    · simp [e]
    · rw [h o (setI_mem.mp ho) e]; simp
theorem setI_nodup (l : List (List Int)) : (setI l).Nodup := by
  unfold setI Pd.sortI
  rw [(List.mergeSort_perm _ _).nodup_iff]
  induction l with
  | nil => exact List.nodup_nil
  | cons a l ih =>
    unfold ddI
    split
    · exact ih
    · rename_i h
      exact List.nodup_cons.mpr ⟨fun z => h (by simpa [ddI_mem] using z), ih⟩
theorem great_nodup (F : List (List Int)) : (great F).Nodup := (setI_nodup F).filter _
theorem le_sumN {x : Nat} : ∀ {l : List Nat}, x ∈ l → x ≤ l.sum
  | a :: l, h => by
    rw [List.sum_cons]
    rcases List.mem_cons.mp h with e | h
    · omega
    · have := le_sumN h; omega
/-- some lot of F that is as long as can be, above l -/
theorem great_above {F : List (List Int)} (hA : ∀ l ∈ F, Asc l) {l : List Int} (hl : l ∈ F) : ∃ o ∈ great F, l.Sublist o := by
  have key : ∀ (m : Nat) (l : List Int), l ∈ F → (F.map List.length).sum - l.length < m → ∃ o ∈ great F, l.Sublist o := by
    intro m
    induction m with
    | zero => intro l _ h; exact absurd h (Nat.not_lt_zero _)
    | succ m ih =>
      intro l hl hm
      by_cases c : ∀ o ∈ F, l ≠ o → sub l o = false
      · exact ⟨l, great_mem.mpr ⟨hl, c⟩, List.Sublist.refl _⟩
      · have ⟨o, ho⟩ := Classical.not_forall.mp c
        have ⟨hoF, ho⟩ := Classical.not_imp.mp ho
        have ⟨hne, ho⟩ := Classical.not_imp.mp ho
        have hs : l.Sublist o := (sub_sl (hA l hl) (hA o hoF)).mp (by simpa using ho)
        have hlen : l.length < o.length := by
          rcases Nat.lt_or_ge l.length o.length with q | q
          · exact q
          · exact absurd (hs.eq_of_length_le q) hne
        have hsum : o.length ≤ (F.map List.length).sum := le_sumN (List.mem_map.mpr ⟨o, hoF, rfl⟩)
        obtain ⟨g, hg, hs2⟩ := ih o hoF (by omega)
        exact ⟨g, hg, hs.trans hs2⟩
  exact key _ l hl (Nat.lt_succ_self _)
theorem lots_ext {F G : List (List Int)} (h : ∀ x, x ∈ lots F ↔ x ∈ lots G) : lots F = lots G := by
  refine srtBy_of lotLen (srtBy_sorted lotLen (allK G)) ?_
  refine ((srtBy_perm lotLen (allK F)).symm.trans ?_)
  exact (List.perm_ext_iff_of_nodup (lots_nodup F) (lots_nodup G)).mpr h
theorem great_lots {F : List (List Int)} (hA : ∀ l ∈ F, Asc l) : lots (great F) = lots F :=
  lots_ext fun x => lots_mem.trans ⟨fun ⟨l, hl, hx⟩ => lots_mem.mpr ⟨l, (great_mem.mp hl).1, hx⟩, fun h => by
    obtain ⟨l, hl, hx⟩ := lots_mem.mp h
    obtain ⟨o, ho, hs⟩ := great_above hA hl
    exact ⟨o, ho, hx.trans hs⟩⟩
theorem setI_sorted (l : List (List Int)) : (setI l).Pairwise fun a b => a ≤ b := by
  unfold setI Pd.sortI
  exact (List.pairwise_mergeSort leI_trans leI_total _).imp fun h => of_decide_eq_true h
theorem setI_of {l m : List (List Int)} (hs : m.Pairwise fun a b => a ≤ b) (hn : m.Nodup) (h : ∀ x, x ∈ l ↔ x ∈ m) : setI l = m :=
  List.Perm.eq_of_pairwise (le := fun a b => a ≤ b) (fun a b _ _ h1 h2 => List.le_antisymm h1 h2) (setI_sorted l) hs ((List.perm_ext_iff_of_nodup (setI_nodup l) hn).mpr fun x => setI_mem.trans (h x))
theorem great_great (F : List (List Int)) : great (great F) = great F := by
  have e : setI (great F) = great F := setI_of ((setI_sorted F).filter _) (great_nodup F) fun x => Iff.rfl
  have e2 : great (great F) = (great F).filter (grb (great F)) := by
    show (setI (great F)).filter (grb (setI (great F))) = _
    rw [e]
  rw [e2, List.filter_eq_self]
  intro l hl
  have := (great_mem.mp hl).2
  unfold grb
  rw [Bool.not_eq_true', List.any_eq_false]
  intro o ho
  by_cases c : l = o
  · simp [c]
  · rw [this o (great_mem.mp ho).1 c]; simp
theorem all7_len : all7.length = 128 := by unfold all7; rw [parts_length]; rfl
theorem nodup_len {α : Type} [DecidableEq α] {l m : List α} (h : l.Nodup) (hs : ∀ x ∈ l, x ∈ m) : l.length ≤ m.length := by
  induction l generalizing m with
  | nil => exact Nat.zero_le _
  | cons a l ih =>
    have hn := List.nodup_cons.mp h
    have ham := hs a List.mem_cons_self
    have := ih (m := m.erase a) hn.2 fun x hx => (List.mem_erase_of_ne fun e => hn.1 (by rw [← e]; exact hx)).mpr (hs x (List.mem_cons_of_mem _ hx))
    rw [List.length_erase_of_mem ham] at this
    have := List.length_pos_of_mem ham
    rw [List.length_cons]
    omega
theorem lots7 {n : Int} {L : List (List Int)} (h : ∀ l ∈ L, Lot n l) (hn : n ≤ 7) (nd : L.Nodup) : L.length ≤ 128 := by
  rw [← all7_len]
  exact nodup_len nd fun l hl => (h l hl).all7 hn
theorem great_com {n : Int} {F : List (List Int)} (hF : ∀ l ∈ F, Lot n l) (h1 : 1 ≤ n) (h7 : n ≤ 7) : Com n (great F) where
  lot := fun l hl => hF l (great_mem.mp hl).1
  n7 := h7
  n1 := h1
  few := Nat.le_trans (lots7 (fun l hl => hF l (great_mem.mp hl).1) h7 (great_nodup F)) (by decide)
  gr := great_great F
  little := lots7 (fun l hl => hF l (great_mem.mp hl).1) h7 (great_nodup F)
end K15
end
section
set_option Elab.async false
set_option linter.all false
set_option maxRecDepth 100000
/-! Pe12: signs above, one company and another. -/
namespace K15
open PySem PySem.Spec PySem.W L2 Pd
variable [TB]
theorem linkR_fam {n : Int} {F : List (List Int)} (h : Fam n F) (l : List Int) : ∀ o ∈ linkR F l, Lot n o := fun o ho => by
  obtain ⟨m, hm, rfl⟩ := List.mem_map.mp ho
  exact (h.lot m (List.mem_filter.mp hm).1).sub List.filter_sublist
theorem c_sign_above {n : Int} {F : List (List Int)} (h : Com n F) {l : List Int} (hl : Lot n l) (ha : (F.any fun o => sub l o) = true) :
    g_sign_above [cD n F, tI l] = some (.dat (.int (-sgnSum (lots (great (linkR F l)))))) := by
  have h7 := hl.len h.n7
  have hf := h.few
  have big : 2000000 ≤ sizeLine := by rw [sizeLine_eq]; decide
  exact gOf_eq rfl (ev_seq (ev_drop (call1_is rfl rfl (c_check_company h))) (ev_seq (ev_drop (call2_is rfl rfl rfl rfl (c_check_lot hl h.n7))) (ev_seq (ev_ifF (not_is (b := true) (val_is (call2_is rfl rfl rfl rfl ((c_is_asked n F l (by omega) (by omega)).trans (by rw [ha]))))) rfl)
    (ev_ret (un_is (call1_is (call2_is rfl rfl rfl rfl (c_link_of h.toFam (by omega))) rfl (c_signed_of (great_com (linkR_fam h.toFam l) h.n1 h.n7).toFam)) rfl))))) rfl
theorem c_check_same {n : Int} {F G : List (List Int)} (h : Com n F) (k : Com n G) : g_check_same [cD n F, cD n G] = some (.dat .none) :=
  gOf_eq rfl (ev_seq (ev_drop (call1_is rfl rfl (c_check_company h))) (ev_ifF (or_is (a := false) (b := false) (not_is (b := true) (val_is (call1_is rfl rfl (c_is_company k)))) fun _ => val_is (op_is (op_is (z := .dat (.int n)) rfl rfl rfl) (op_is (z := .dat (.int n)) rfl rfl rfl) ((enc_int.ne (by decide) rfl rfl).trans (by simp)))) rfl)) rfl
theorem star2_is {ma mb : MV} {ρ : List Sl} {pt p q : List Int} {x y : Rv} {xs ys : List D} (ha : ma ρ pt = some (x, p)) (hx : x.sq? = some xs) (hb : mb ρ p = some (y, q)) (hy : y.sq? = some ys) (hz : (xs ++ (ys ++ [])).length ≤ sizeLine) :
    mLst (mStar ma (mStar mb mNil)) ρ pt = some (.lst (xs ++ ys), q) := by
  unfold mLst mStar mNil
  rw [ha, Option.bind_some, hx, Option.bind_some, hb, Option.bind_some, hy, Option.bind_some]
  show (if (xs ++ (ys ++ [])).length ≤ sizeLine then some (Rv.lst (xs ++ (ys ++ [])), q) else none) = _
  rw [if_pos hz, List.append_nil]
theorem lots_small {n : Int} {F : List (List Int)} (h : ∀ l ∈ F, Lot n l) (hn : n ≤ 7) : ∀ l ∈ F, l.length ≤ 1000 := fun l hl => Nat.le_trans ((h l hl).len hn) (by decide)
theorem c_either {n : Int} {F G : List (List Int)} (h : Com n F) (k : Com n G) : g_either [cD n F, cD n G] = some (.dat (cD n (great (F ++ G)))) := by
  have hF := h.little
  have hG := k.little
  have big : 2000000 ≤ sizeLine := by rw [sizeLine_eq]; decide
  have e := star2_is (ma := mOp fIx (mVar 0) (mC (.int 1))) (mb := mOp fIx (mVar 1) (mC (.int 1))) (ρ := [.dat (cD n F), .dat (cD n G)]) (pt := []) (p := []) (q := []) (x := .dat (tD F)) (y := .dat (tD G)) (xs := F.map tI) (ys := G.map tI)
    (op_is rfl rfl rfl) rfl (op_is rfl rfl rfl) rfl (by simp; omega)
  rw [← List.map_append] at e
  refine gOf_eq rfl (ev_seq (ev_drop (call2_is rfl rfl rfl rfl (c_check_same h k))) (ev_ret (call2_is (op_is (z := .dat (.int n)) rfl rfl rfl) rfl e rfl (c_company_by n (F ++ G) rfl (by simp; omega) (lots_small (n := n) (fun l hl => ?_) h.n7))))) rfl
  rcases List.mem_append.mp hl with q | q
  · exact h.lot l q
  · exact k.lot l q
/-- what two lots hold in common -/
abbrev meet (a b : List Int) : List Int := a.filter fun x => b.contains x
def bothR (F G : List (List Int)) : List (List Int) := F.flatMap fun a => G.map (meet a)
theorem bothR_len (F G : List (List Int)) : (bothR F G).length = F.length * G.length := by
  unfold bothR
  induction F with
  | nil => simp
  | cons a F ih => rw [List.flatMap_cons, List.length_append, ih, List.length_map, List.length_cons, Nat.add_mul]; omega
theorem bothR_snoc (F G : List (List Int)) (a : List Int) : bothR (F ++ [a]) G = bothR F G ++ G.map (meet a) := by
  unfold bothR
  rw [List.flatMap_append]
  simp
theorem c_both {n : Int} {F G : List (List Int)} (h : Com n F) (k : Com n G) (hz : F.length * G.length ≤ 1000) : g_both [cD n F, cD n G] = some (.dat (cD n (great (bothR F G)))) := by
  have hF := h.little
  have hG := k.little
  have big : 2000000 ≤ sizeLine := by rw [sizeLine_eq]; decide
  obtain ⟨ρ2, h1, s3, rfl⟩ := forGo_pre (α := List Int) (mg := gN 3) (p := []) (m := bExt 2 (mLc (mSeq (mOp fIx (mVar 1) (mC (.int 1)))) (gN 4) mYes (mCB (f1 fTuple) (wCons (mLc (mSeq (mVar 3)) (gN 5) (mVal (mOp (fIn false) (mVar 5) (mVar 4))) (mVar 5) [5]) wNil)) [4]))
    (ρ := [.dat (cD n F), .dat (cD n G), .lst [], .un, .un, .un]) tI (fun done ρ => ∃ s3, ρ = [.dat (cD n F), .dat (cD n G), .lst ((bothR done G).map tI), s3, .un, .un]) F ⟨_, rfl⟩ fun done a rest ρ' hk ⟨s3, hρ⟩ => by
      subst hρ
      have ha : a ∈ F := by rw [hk]; simp
      have ha7 := h.toFam.len ha
      have hd : done.length ≤ F.length := by rw [hk, List.length_append]; omega
      have hb : (bothR done G).length ≤ 16384 := by rw [bothR_len]; exact Nat.mul_le_mul (Nat.le_trans hd hF) hG
      refine ⟨_, _, rfl, ev_ext rfl (lc_all tI (fun b => tI (meet a b)) G (seq_is (op_is (z := .dat (tD G)) rfl rfl rfl) rfl) (fun b _ => ⟨_, rfl, .dat (tI (meet a b)), tup_is ?_, rfl⟩) (by omega)) rfl (by rw [List.length_map, List.length_map]; omega), .dat (tI a), ?_⟩
      · exact lc_map (fun x => .int x) (fun x => b.contains x) (fun x => .int x) a (seq_is rfl rfl) (fun x _ => ⟨_, rfl, val_is (op_is rfl rfl (in_is false x b)), fun _ => ⟨_, rfl, rfl⟩⟩) (by omega)
      · rw [bothR_snoc, List.map_append, List.map_map]
        rfl
  refine gOf_eq rfl (ev_seq (ev_drop (call2_is rfl rfl rfl rfl (c_check_same h k))) (ev_seq (ev_set rfl rfl) (ev_seq (ev_for (seqF_is (op_is rfl rfl rfl) rfl rfl) h1) (show bFrz 2 _ _ _ = _ from ev_ret (call2_is (op_is (z := .dat (.int n)) rfl rfl rfl) rfl rfl rfl (c_company_by n (bothR F G) rfl (by rw [bothR_len]; omega) (lots_small (n := n) (fun l hl => ?_) h.n7))))))) rfl
  obtain ⟨a, ha, hl⟩ := List.mem_flatMap.mp hl
  obtain ⟨b, hb, rfl⟩ := List.mem_map.mp hl
  exact (h.lot a ha).sub List.filter_sublist
/-- a lot without one guest -/
abbrev less (l : List Int) (g : Int) : List Int := l.filter fun x => !decide (x = g)
def withoutR (F : List (List Int)) (g : Int) : List (List Int) := (F.filter fun o => !sub [g] o) ++ (F.filter (sub [g])).map fun o => less o g
theorem c_without {n : Int} {F : List (List Int)} (h : Com n F) {g : Int} (hl : Lot n [g]) : g_without [cD n F, tI [g]] = some (.dat (cD n (great (withoutR F g)))) := by
  have hF := h.little
  have big : 2000000 ≤ sizeLine := by rw [sizeLine_eq]; decide
  have hout : g_without_of [cD n F, tI [g]] = some (.dat (cD n (great (withoutR F g)))) := by
    obtain ⟨ρ2, h1, s3, rfl⟩ := forGo_pre (α := List Int) (mg := gN 3) (p := []) (m := bIf (mVal (mCall g_is_within (mCons (mVar 1) (mCons (mVar 3) mNil)))) (bExt 2 (mLc (mSeq (mVar 1)) (gN 4) mYes (mCB (f1 fTuple) (wCons (mLc (mSeq (mVar 3)) (gN 5) (mVal (mOp (fEq true) (mVar 5) (mVar 4))) (mVar 5) [5]) wNil)) [4])) bNext)
      (ρ := [.dat (cD n F), .dat (tI [g]), .lst ((F.filter fun o => !sub [g] o).map tI), .un, .un, .un]) tI (fun done ρ => ∃ s3, ρ = [.dat (cD n F), .dat (tI [g]), .lst (((F.filter fun o => !sub [g] o) ++ (done.filter (sub [g])).map fun o => less o g).map tI), s3, .un, .un]) F ⟨.un, by rw [List.filter_nil, List.map_nil, List.append_nil]⟩ fun done a rest ρ' hk ⟨s3, hρ⟩ => by
        subst hρ
        have ha : a ∈ F := by rw [hk]; simp
        have ha7 := h.toFam.len ha
        have hd : done.length ≤ F.length := by rw [hk, List.length_append]; omega
        have q1 := List.length_filter_le (fun o => !sub [g] o) F
        have q2 := List.length_filter_le (sub [g]) done
        have ht : (mVal (mCall g_is_within (mCons (mVar 1) (mCons (mVar 3) mNil))) : MT) [.dat (cD n F), .dat (tI [g]), .lst (((F.filter fun o => !sub [g] o) ++ (done.filter (sub [g])).map fun o => less o g).map tI), .dat (tI a), .un, .un] [] = some (sub [g] a, []) :=
          val_is (call2_is rfl rfl rfl rfl (c_is_within [g] a (by simp; omega)))
        cases hb : sub [g] a with
        | true =>
          refine ⟨_, _, rfl, ev_ifT (ht.trans (by rw [hb])) (ev_ext rfl (lc_all (fun x => .int x) (fun x => tI (less a x)) [g] (seq_is rfl rfl) (fun b _ => ⟨_, rfl, .dat (tI (less a b)), tup_is ?_, rfl⟩) (by simp; omega)) rfl (by rw [List.length_map, List.length_append, List.length_map, List.length_map, List.length_singleton]; omega)), .dat (tI a), ?_⟩
          · exact lc_map (fun x => .int x) (fun x => !decide (x = b)) (fun x => .int x) a (seq_is rfl rfl) (fun x _ => ⟨_, rfl, val_is (op_is rfl rfl (enc_int.ne (by decide) rfl rfl)), fun _ => ⟨_, rfl, rfl⟩⟩) (by omega)
          · rw [List.filter_append, List.filter_cons_of_pos hb, List.filter_nil, List.map_append (f := fun o => less o g), ← List.append_assoc, List.map_append (f := tI) (l₂ := List.map (fun o => less o g) [a])]
            rfl
        | false =>
          refine ⟨_, _, rfl, ev_ifF (ht.trans (by rw [hb])) rfl, .dat (tI a), ?_⟩
          rw [List.filter_append, List.filter_cons_of_neg (by rw [hb]; exact Bool.false_ne_true), List.filter_nil, List.append_nil]
          rfl
    have q1 := List.length_filter_le (fun o => !sub [g] o) F
    have q2 := List.length_filter_le (sub [g]) F
    refine gOf_eq rfl (ev_seq (ev_set (lc_map tI (fun o => !sub [g] o) tI F (seq_is (op_is (z := .dat (tD F)) rfl rfl rfl) rfl) (fun o ho => ⟨_, rfl, not_is (val_is (call2_is rfl rfl rfl rfl (c_is_within [g] o (by simp; omega)))), fun _ => ⟨_, rfl, rfl⟩⟩) (by omega)) rfl) (ev_seq (ev_for (seqF_is (op_is rfl rfl rfl) rfl rfl) h1) (show bFrz 2 _ _ _ = _ from ev_ret (call2_is (op_is (z := .dat (.int n)) rfl rfl rfl) rfl rfl rfl (c_company_by n (withoutR F g) rfl (by unfold withoutR; rw [List.length_append, List.length_map]; omega) (lots_small (n := n) (fun l hl => ?_) h.n7)))))) rfl
    unfold withoutR at hl
    rcases List.mem_append.mp hl with q | q
    · exact h.lot l (List.mem_filter.mp q).1
    · obtain ⟨m, hm, rfl⟩ := List.mem_map.mp q
      exact (h.lot m (List.mem_filter.mp hm).1).sub List.filter_sublist
  exact gOf_eq rfl (ev_seq (ev_drop (call1_is rfl rfl (c_check_company h))) (ev_seq (ev_drop (call2_is rfl rfl rfl rfl (c_check_lot hl h.n7))) (ev_ret (call2_is rfl rfl rfl rfl hout)))) rfl
end K15
end
section
set_option Elab.async false
set_option linter.all false
set_option maxRecDepth 100000
/-! Pe13: all meets of some lots. -/
namespace K15
open PySem PySem.Spec PySem.W L2 Pd
variable [TB]
theorem meet_comm3 (k l f : List Int) : meet (meet k l) f = meet (meet k f) l := by
  unfold meet
  rw [List.filter_filter, List.filter_filter]
  apply List.filter_congr
  intro x _
  exact Bool.and_comm _ _
theorem meet_mem {a b : List Int} {x : Int} : x ∈ meet a b ↔ x ∈ a ∧ x ∈ b := by
  unfold meet
  rw [List.mem_filter, List.contains_iff_mem]
theorem asc_ext {a b : List Int} (ha : Asc a) (hb : Asc b) (h : ∀ x, x ∈ a ↔ x ∈ b) : a = b :=
  (asc_sub ha hb fun x hx => (h x).mp hx).eq_of_length_le (asc_sub hb ha fun x hx => (h x).mpr hx).length_le
theorem meet_asc {a b : List Int} (ha : Asc a) : Asc (meet a b) := ha.filter _
theorem meet_comm {a b : List Int} (ha : Asc a) (hb : Asc b) : meet a b = meet b a :=
  asc_ext (meet_asc ha) (meet_asc hb) fun x => by rw [meet_mem, meet_mem]; exact And.comm
theorem meet_self (a : List Int) : meet a a = a := by
  unfold meet
  rw [List.filter_eq_self]
  exact fun x hx => List.contains_iff_mem.mpr hx
theorem meet_dup (k l : List Int) : meet (meet k l) l = meet k l := by
  unfold meet
  rw [List.filter_filter]
  apply List.filter_congr
  intro x _
  exact Bool.and_self _
inductive Mt (F : List (List Int)) : List Int → Prop
  | base {f} : f ∈ F → Mt F f
  | step {k f} : Mt F k → f ∈ F → Mt F (meet k f)
theorem Mt.lot {n : Int} {F : List (List Int)} (hF : ∀ l ∈ F, Lot n l) {k : List Int} (h : Mt F k) : Lot n k := by
  induction h with
  | base hf => exact hF _ hf
  | step _ _ ih => exact ih.sub List.filter_sublist
theorem Mt.mono {F G : List (List Int)} (hs : ∀ l ∈ F, l ∈ G) {k : List Int} (h : Mt F k) : Mt G k := by
  induction h with
  | base hf => exact .base (hs _ hf)
  | step _ hf ih => exact .step ih (hs _ hf)
def lawK (F : List (List Int)) : List (List Int) := F.foldl (fun acc l => ((l :: acc).map fun o => meet o l).foldl insK acc) []
theorem lawK_snoc (F : List (List Int)) (l : List Int) : lawK (F ++ [l]) = ((l :: lawK F).map fun o => meet o l).foldl insK (lawK F) := by
  unfold lawK
  rw [List.foldl_append]
  rfl
theorem lawK_nodup (F : List (List Int)) : (lawK F).Nodup := by
  induction F using snoc_ind with
  | h0 => exact List.nodup_nil
  | h1 F l ih => rw [lawK_snoc]; exact foldl_insK_nodup ih
theorem lawK_mem {n : Int} {F : List (List Int)} (hF : ∀ l ∈ F, Lot n l) {x : List Int} : x ∈ lawK F ↔ Mt F x := by
  induction F using snoc_ind generalizing x with
  | h0 =>
    refine ⟨fun h => absurd h (by simp [lawK]), fun h => ?_⟩
    induction h with
    | base h => simp at h
    | step _ h => simp at h
  | h1 F l ih =>
    have ih := fun x => ih (x := x) fun m hm => hF m (List.mem_append_left _ hm)
    have hl : l ∈ F ++ [l] := by simp
    rw [lawK_snoc, foldl_insK_mem, List.mem_map]
    refine ⟨fun h => ?_, fun h => ?_⟩
    · rcases h with h | ⟨o, ho, rfl⟩
      · exact ((ih x).mp h).mono fun m hm => List.mem_append_left _ hm
      · rcases List.mem_cons.mp ho with rfl | ho
        · exact .step (.base hl) hl
        · exact .step (((ih o).mp ho).mono fun m hm => List.mem_append_left _ hm) hl
    · induction h with
      | base hf =>
        rcases List.mem_append.mp hf with hf | hf
        · exact .inl ((ih _).mpr (.base hf))
        · rw [List.mem_singleton.mp hf]
          exact .inr ⟨l, List.mem_cons_self, meet_self l⟩
      | step hk hf ihk =>
        rename_i k f
        have hfF := hf
        rcases List.mem_append.mp hf with hg | hg
        · rcases ihk with ihk | ⟨o, ho, rfl⟩
          · exact .inl ((ih _).mpr (.step ((ih _).mp ihk) hg))
          · rcases List.mem_cons.mp ho with rfl | ho
            · rw [meet_self, meet_comm (hF _ hl).asc (hF f hfF).asc]
              exact .inr ⟨f, List.mem_cons_of_mem _ ((ih _).mpr (.base hg)), rfl⟩
            · rw [meet_comm3]
              exact .inr ⟨meet o f, List.mem_cons_of_mem _ ((ih _).mpr (.step ((ih _).mp ho) hg)), rfl⟩
        · rw [List.mem_singleton.mp hg]
          rcases ihk with ihk | ⟨o, ho, rfl⟩
          · exact .inr ⟨k, List.mem_cons_of_mem _ ihk, rfl⟩
          · rw [meet_dup]
            exact .inr ⟨o, ho, rfl⟩
def negLen (l : List Int) : Int := -lotLen l
def meets (F : List (List Int)) : List (List Int) := srtBy negLen (lawK F)
theorem meets_mem {n : Int} {F : List (List Int)} (hF : ∀ l ∈ F, Lot n l) {x : List Int} : x ∈ meets F ↔ Mt F x := by
  unfold meets
  rw [(srtBy_perm _ _).mem_iff, lawK_mem hF]
theorem meets_nodup (F : List (List Int)) : (meets F).Nodup := ((srtBy_perm _ _).nodup_iff).mpr (lawK_nodup F)
theorem meets_len {n : Int} {F : List (List Int)} (hF : ∀ l ∈ F, Lot n l) (h7 : n ≤ 7) : (meets F).length ≤ 128 := lots7 (n := n) (fun l hl => ((meets_mem hF).mp hl).lot hF) h7 (meets_nodup F)
theorem lawK_len {n : Int} {F : List (List Int)} (hF : ∀ l ∈ F, Lot n l) (h7 : n ≤ 7) : (lawK F).length ≤ 128 := lots7 (n := n) (fun l hl => ((lawK_mem hF).mp hl).lot hF) h7 (lawK_nodup F)
/-- sorted by (-size, lot): any sequence of the same ones -/
theorem srt_meets {n : Int} {F K : List (List Int)} (hF : ∀ l ∈ F, Lot n l) (hn : K.Nodup) (h : ∀ x, x ∈ K ↔ Mt F x) : srtBy negLen K = meets F := by
  refine srtBy_of negLen (srtBy_sorted negLen (lawK F)) ?_
  refine List.Perm.trans ?_ (srtBy_perm negLen (lawK F)).symm
  exact (List.perm_ext_iff_of_nodup hn (lawK_nodup F)).mpr fun x => (h x).trans (lawK_mem hF).symm
theorem key_negLen (l : List Int) : lamKey ["lot"] (mTup (mCons (mUn fNeg (mCB (f1 fLen) (wCons (mVar 0) wNil))) (mCons (mVar 0) mNil))) (tI l) = some (kD negLen l) := by
  unfold lamKey
  rw [show (mTup (mCons (mUn fNeg (mCB (f1 fLen) (wCons (mVar 0) wNil))) (mCons (mVar 0) mNil)) : MV) (startR ["lot"] [tI l]) [] = some (.dat (kD negLen l), []) from tup2_is (un_is (cb1_is rfl (len_tI l)) rfl) rfl rfl rfl]
  rfl
theorem srtK_is {K : List (List Int)} {ρ : List Sl} {p : List Int} (h : ρ[1]? = some (.dic (tt K))) : mSrtKD (lamKey ["lot"] (mTup (mCons (mUn fNeg (mCB (f1 fLen) (wCons (mVar 0) wNil))) (mCons (mVar 0) mNil)))) (mVar 1) ρ p = some (.lst ((srtBy negLen K).map tI), p) := by
  unfold mSrtKD mVar
  rw [h]
  show ((mapO (lamKey ["lot"] (mTup (mCons (mUn fNeg (mCB (f1 fLen) (wCons (mVar 0) wNil))) (mCons (mVar 0) mNil)))) (Pd.keyD (tt K))).bind _) = _
  rw [keyD_tt, mapO_map (k := kD negLen) K fun a _ => key_negLen a]
  rw [Option.bind_some, if_pos (okSort_kD _ _), srtKD_kD]
theorem kGet_tt (K : List (List Int)) (k : List Int) : (kGet (tt K) k).isSome = K.contains k := by
  unfold kGet
  induction K with
  | nil => rfl
  | cons a K ih =>
    rw [List.contains_cons]
    show (Option.map (fun x => x.snd) (List.find? (fun p => decide (p.1 = k)) ((a, PyData.bool true) :: tt K))).isSome = _
    rw [List.find?_cons]
    by_cases e : a = k
    · subst e; simp
    · have e' : ¬ k = a := fun z => e z.symm
      have e2 : (k == a) = false := by simp [e']
      simp only [e, decide_false, e2, Bool.false_or]
      exact ih
theorem c_law_meets {n : Int} {F : List (List Int)} (h : Fam n F) : g_law_meets [tD F] = some (.lst ((meets F).map tI)) := by
  have hf := h.few
  have big : 2000000 ≤ sizeLine := by rw [sizeLine_eq]; decide
  obtain ⟨ρ2, h1, s2, s3, rfl⟩ := forGo_pre (α := List Int) (mg := gN 2) (p := []) (m := bFor (mSeqF (mOp fAdd3 (mLst (mCons (mVar 2) mNil)) (mCB (f1 fListD) (wCons (mVar 1) wNil)))) (gN 3) (bDPut 1 (mCB (f1 fTuple) (wCons (mLc (mSeq (mVar 3)) (gN 4) (mVal (mOp (fIn false) (mVar 4) (mVar 2))) (mVar 4) [4]) wNil)) (mC (.bool true))))
    (ρ := [.dat (tD F), .dic [], .un, .un, .un]) tI (fun done ρ => ∃ s2 s3, ρ = [.dat (tD F), .dic (tt (lawK done)), s2, s3, .un]) F ⟨_, _, rfl⟩ fun done l rest ρ' hk ⟨s2, s3, hρ⟩ => by
      subst hρ
      have hsub : ∀ m ∈ done ++ [l], m ∈ F := fun m hm => by rw [hk]; rcases List.mem_append.mp hm with q | q <;> simp_all
      have hdL : ∀ m ∈ done, Lot n m := fun m hm => h.lot m (hsub m (List.mem_append_left _ hm))
      have hlm : l ∈ F := hsub l (by simp)
      have hKlen := lawK_len hdL h.n7
      have hcat : (mOp fAdd3 (mLst (mCons (mVar 2) mNil)) (mCB (f1 fListD) (wCons (mVar 1) wNil)) : MV) [.dat (tD F), .dic (tt (lawK done)), .dat (tI l), s3, .un] [] = some (.lst ((l :: lawK done).map tI), []) := by
        refine op_is (x := .lst [tI l]) (y := .lst ((lawK done).map tI)) (p := []) ?_ (cb1_is (r := .vdc (tt (lawK done))) rfl ?_) (cat_is (xs := [tI l]) (ys := (lawK done).map tI) rfl rfl rfl (by rw [List.length_map, List.length_singleton]; omega))
        · unfold mLst mCons mNil
          rfl
        · show some (Rv.lst (Pd.keyD (tt (lawK done)))) = _
          rw [keyD_tt]
      obtain ⟨ρ3, h2, s3, rfl⟩ := forGo_pre (α := List Int) (mg := gN 3) (p := []) (m := bDPut 1 (mCB (f1 fTuple) (wCons (mLc (mSeq (mVar 3)) (gN 4) (mVal (mOp (fIn false) (mVar 4) (mVar 2))) (mVar 4) [4]) wNil)) (mC (.bool true)))
        (ρ := [.dat (tD F), .dic (tt (lawK done)), .dat (tI l), s3, .un]) tI (fun don2 ρ => ∃ s3, ρ = [.dat (tD F), .dic (tt ((don2.map fun o => meet o l).foldl insK (lawK done))), .dat (tI l), s3, .un]) (l :: lawK done) ⟨_, rfl⟩ fun don2 o rest2 ρ'' hk2 ⟨s3, hρ⟩ => by
          subst hρ
          have ho : o ∈ l :: lawK done := by rw [hk2]; simp
          have hlo : Lot n o := by
            rcases List.mem_cons.mp ho with rfl | ho
            · exact h.lot _ hlm
            · exact ((lawK_mem hdL).mp ho).lot hdL
          have h7 := hlo.len h.n7
          have hd2 : don2.length ≤ 129 := by
            have := congrArg List.length hk2
            rw [List.length_cons, List.length_append, List.length_cons] at this
            omega
          refine ⟨_, _, rfl, ev_dput (r := .dat (.bool true)) (s := .dat (tI (meet o l))) (p := []) (q := []) rfl rfl (tup_is ?_) (key_tI _) rfl ?_, .dat (tI o), ?_⟩
          · exact lc_map (fun x => .int x) (fun x => l.contains x) (fun x => .int x) o (seq_is rfl rfl) (fun x _ => ⟨_, rfl, val_is (op_is rfl rfl (in_is false x l)), fun _ => ⟨_, rfl, rfl⟩⟩) (by omega)
          · have := foldl_insK_len (don2.map fun o => meet o l) (lawK done)
            rw [List.length_map] at this ⊢
            omega
          · rw [kPut_tt, List.map_append, List.foldl_append]
            rfl
      refine ⟨_, _, rfl, ev_for (seqF_is hcat rfl rfl) h2, .dat (tI l), s3, ?_⟩
      rw [lawK_snoc]
  exact gOf_eq rfl (ev_seq (ev_set rfl rfl) (ev_seq (ev_for (seqF_is rfl rfl rfl) h1) (ev_ret (srtK_is rfl)))) rfl
end K15
end
section
set_option Elab.async false
set_option linter.all false
set_option maxRecDepth 100000
/-! Pe14: the meets by a waiting list. -/
namespace K15
open PySem PySem.Spec PySem.W L2 Pd
variable [TB]
theorem whGo_T {mt : MT} {mb : MB} {ρ ρ1 : List Sl} {p : List Int} {n : Nat} {o : Option Out} (ht : mt ρ p = some (true, p)) (hb : mb ρ p = some (.nx ρ1 p)) (h : whGo mt mb n ρ1 p = o) : whGo mt mb (n + 1) ρ p = o := by
  unfold whGo
  rw [ht, Option.bind_some]
  show (if true = true then _ else _) = _
  rw [if_pos rfl, hb, Option.bind_some]
  exact h
theorem whGo_F {mt : MT} {mb : MB} {ρ : List Sl} {p : List Int} {n : Nat} (ht : mt ρ p = some (false, p)) : whGo mt mb (n + 1) ρ p = some (.nx ρ p) := by
  unfold whGo
  rw [ht, Option.bind_some]
  show (if false = true then _ else _) = _
  rw [if_neg Bool.false_ne_true]
def mtW : MT := mVal (mOp (fEq true) (mVar 2) (mLst mNil))
def mbW : MB := bSeq (bPop 3 2)
      (bIf (mVal (mDIn true (mVar 3) (mVar 1))) (bSeq (bDPut 1 (mVar 3) (mC (.bool true)))
      (bExt 2 (mLc (mSeq (mVar 0)) (gN 4) mYes (mCB (f1 fTuple) (wCons (mLc (mSeq (mVar 3)) (gN 5) (mVal (mOp (fIn false) (mVar 5) (mVar 4))) (mVar 5) [5]) wNil)) [4]))) bNext)
abbrev stW (F K W : List (List Int)) (s : Sl) : List Sl := [.dat (tD F), .dic (tt K), .lst (W.map tI), s, .un, .un]
theorem mtW_is (F K W : List (List Int)) (s : Sl) : mtW (stW F K W s) [] = some (!decide (W = []), []) :=
  val_is (op_is (y := .lst []) (q := []) rfl rfl (enc_tI.lst.ne (x := W) (y := []) (by decide) rfl rfl))
theorem ev_pop {i j : Nat} {ρ : List Sl} {p : List Int} {xs : List D} {d : D} (hs : ρ[j]? = some (.lst (xs ++ [d]))) : bPop i j ρ p = some (.nx ((ρ.set j (.lst xs)).set i (.dat d)) p) := by
  unfold bPop
  rw [hs]
  show (((xs ++ [d])[(xs ++ [d]).length - 1]?).map _) = _
  rw [show (xs ++ [d])[(xs ++ [d]).length - 1]? = some d by simp]
  rw [List.dropLast_concat]
  rfl
theorem din_is {K : List (List Int)} {k : List Int} {ρ : List Sl} {p : List Int} (h3 : ρ[3]? = some (.dat (tI k))) (h1 : ρ[1]? = some (.dic (tt K))) : mVal (mDIn true (mVar 3) (mVar 1)) ρ p = some (!K.contains k, p) := by
  refine val_is ?_
  unfold mDIn mVar
  rw [h3, Option.bind_some, h1]
  show (((Rv.dat (tI k)).key?).map fun k => (Rv.dat (PyData.bool (!(kGet (tt K) k).isSome)), p)) = _
  rw [key_tI, Option.map_some, kGet_tt]
theorem mbW_old {F K W : List (List Int)} {k : List Int} {s : Sl} (hk : K.contains k = true) : mbW (stW F K (W ++ [k]) s) [] = some (.nx (stW F K W (.dat (tI k))) []) := by
  refine ev_seq (ev_pop (xs := W.map tI) (d := tI k) (by rw [← List.map_singleton (f := tI), ← List.map_append]; rfl)) ?_
  exact ev_ifF ((din_is (K := K) (k := k) rfl rfl).trans (by rw [hk]; rfl)) rfl
theorem mbW_new {F K W : List (List Int)} {k : List Int} {s : Sl} (hk : K.contains k = false) (hF : F.length ≤ 1000) (hK : K.length ≤ 1000) (hW : W.length ≤ 100000) (hk7 : k.length ≤ 7) : mbW (stW F K (W ++ [k]) s) [] = some (.nx (stW F (K ++ [k]) (W ++ F.map (meet k)) (.dat (tI k))) []) := by
  have big : 2000000 ≤ sizeLine := by rw [sizeLine_eq]; decide
  refine ev_seq (ev_pop (xs := W.map tI) (d := tI k) (by rw [← List.map_singleton (f := tI), ← List.map_append]; rfl)) ?_
  refine ev_ifT ((din_is (K := K) (k := k) rfl rfl).trans (by rw [hk]; rfl)) (ev_seq (ev_dput (r := .dat (.bool true)) (s := .dat (tI k)) (p := []) (q := []) (k := k) rfl rfl rfl (key_tI _) rfl (by rw [List.length_map]; omega)) ?_)
  rw [kPut_tt, show insK K k = K ++ [k] by unfold insK; rw [if_neg (by rw [hk]; exact Bool.false_ne_true)]]
  refine (ev_ext (xs := W.map tI) rfl (lc_all tI (fun b => tI (meet k b)) F (seq_is rfl rfl) (fun b _ => ⟨_, rfl, .dat (tI (meet k b)), tup_is ?_, rfl⟩) (by omega)) rfl (by rw [List.length_map, List.length_map]; omega)).trans ?_
  · exact lc_map (fun x => .int x) (fun x => b.contains x) (fun x => .int x) k (seq_is rfl rfl) (fun x _ => ⟨_, rfl, val_is (op_is rfl rfl (in_is false x b)), fun _ => ⟨_, rfl, rfl⟩⟩) (by omega)
  · unfold stW
    rw [List.map_append (f := tI) (l₁ := W) (l₂ := F.map (meet k)), List.map_map]
    rfl
structure InvW (F K W : List (List Int)) : Prop where
  nd : K.Nodup
  k : ∀ k ∈ K, Mt F k
  w : ∀ k ∈ W, Mt F k
  f : ∀ f ∈ F, f ∈ K ∨ f ∈ W
  cl : ∀ k ∈ K, ∀ f ∈ F, meet k f ∈ K ∨ meet k f ∈ W
theorem whW {n : Int} {F : List (List Int)} (h : Fam n F) (hl : F.length ≤ 128) : ∀ (N : Nat) (K W : List (List Int)) (s : Sl), InvW F K W → N ≤ 20000 → W.length + (128 - K.length) * (F.length + 1) < N → ∃ K' s', K'.Nodup ∧ (∀ x, x ∈ K' ↔ Mt F x) ∧ whGo mtW mbW N (stW F K W s) [] = some (.nx (stW F K' [] s') [])
  | 0, K, W, s, _, _, hN => absurd hN (Nat.not_lt_zero _)
  | N + 1, K, W, s, I, h2, hN => by
    rcases List.eq_nil_or_concat W with rfl | ⟨W', k, rfl⟩
    · refine ⟨K, s, I.nd, fun x => ⟨I.k x, fun hx => ?_⟩, whGo_F (mtW_is F K [] s)⟩
      induction hx with
      | base hf => exact (I.f _ hf).resolve_right (by simp)
      | step _ hf ih => exact (I.cl _ ih _ hf).resolve_right (by simp)
    · rw [List.concat_eq_append] at *
      have hmk : Mt F k := I.w k (by simp)
      have ht : mtW (stW F K (W' ++ [k]) s) [] = some (true, []) := by rw [mtW_is]; simp
      rw [List.length_append, List.length_singleton] at hN
      have hK128 : K.length ≤ 128 := lots7 (n := n) (fun l hl => (I.k l hl).lot h.lot) h.n7 I.nd
      cases hc : K.contains k with
      | true =>
        have hkK : k ∈ K := List.contains_iff_mem.mp hc
        have I' : InvW F K W' := by
         refine ⟨I.nd, I.k, fun x hx => I.w x (List.mem_append_left _ hx), fun f hf => ?_, fun x hx f hf => ?_⟩
         · rcases I.f f hf with q | q
           · exact .inl q
           · rcases List.mem_append.mp q with q | q
             · exact .inr q
             · rw [List.mem_singleton.mp q]; exact .inl hkK
         · rcases I.cl x hx f hf with q | q
           · exact .inl q
           · rcases List.mem_append.mp q with q | q
             · exact .inr q
             · rw [List.mem_singleton.mp q]; exact .inl hkK
        obtain ⟨K', s', h1, h2, h3⟩ := whW h hl N K W' (.dat (tI k)) I' (by omega) (by omega)
        exact ⟨K', s', h1, h2, whGo_T ht (mbW_old hc) h3⟩
      | false =>
        have hkK : k ∉ K := fun z => by rw [List.contains_iff_mem.mpr z] at hc; cases hc
        have nd : (K ++ [k]).Nodup := List.nodup_append.mpr ⟨I.nd, by simp, fun a ha b hb e => hkK (by rw [List.mem_singleton.mp hb] at e; exact e ▸ ha)⟩
        have hKM : ∀ x ∈ K ++ [k], Mt F x := fun x hx => by
          rcases List.mem_append.mp hx with q | q
          · exact I.k x q
          · rw [List.mem_singleton.mp q]; exact hmk
        have hK1 : (K ++ [k]).length ≤ 128 := lots7 (n := n) (fun l hl => (hKM l hl).lot h.lot) h.n7 nd
        rw [List.length_append, List.length_singleton] at hK1
        have I' : InvW F (K ++ [k]) (W' ++ F.map (meet k)) := by
          refine ⟨nd, hKM, fun x hx => ?_, fun f hf => ?_, fun x hx f hf => ?_⟩
          · rcases List.mem_append.mp hx with q | q
            · exact I.w x (List.mem_append_left _ q)
            · obtain ⟨f, hf, rfl⟩ := List.mem_map.mp q
              exact .step hmk hf
          · rcases I.f f hf with q | q
            · exact .inl (List.mem_append_left _ q)
            · rcases List.mem_append.mp q with q | q
              · exact .inr (List.mem_append_left _ q)
              · exact .inl (List.mem_append_right _ q)
          · rcases List.mem_append.mp hx with q | q
            · rcases I.cl x q f hf with q | q
              · exact .inl (List.mem_append_left _ q)
              · rcases List.mem_append.mp q with q | q
                · exact .inr (List.mem_append_left _ q)
                · exact .inl (List.mem_append_right _ q)
            · rw [List.mem_singleton.mp q]
              exact .inr (List.mem_append_right _ (List.mem_map.mpr ⟨f, hf, rfl⟩))
        have hmul : (128 - K.length) * (F.length + 1) = (128 - (K.length + 1)) * (F.length + 1) + (F.length + 1) := by
          rw [← Nat.succ_mul]
          congr 1
          omega
        have hb1 : (128 - K.length) * (F.length + 1) ≤ 128 * 129 := Nat.mul_le_mul (by omega) (by omega)
        obtain ⟨K', s', h1, h2, h3⟩ := whW h hl N (K ++ [k]) (W' ++ F.map (meet k)) (.dat (tI k)) I' (by omega) (by rw [List.length_append, List.length_append, List.length_map, List.length_singleton]; omega)
        exact ⟨K', s', h1, h2, whGo_T ht (mbW_new hc (by omega) (by omega) (by omega) (((hmk.lot h.lot).len h.n7))) h3⟩
theorem c_meets_of {n : Int} {F : List (List Int)} (h : Fam n F) (hl : F.length ≤ 128) : g_meets_of [tD F] = some (.lst ((meets F).map tI)) := by
  have I0 : InvW F [] F := ⟨List.nodup_nil, fun k hk => by simp at hk, fun k hk => .base hk, fun f hf => .inr hf, fun k hk => by simp at hk⟩
  have hb1 : 128 * (F.length + 1) ≤ 128 * 129 := Nat.mul_le_mul (by omega) (by omega)
  obtain ⟨K, s, h1, h2, h3⟩ := whW h hl 20000 [] F .un I0 (by omega) (by rw [List.length_nil]; omega)
  have e : g_meets_of [tD F] = some (.lst ((srtBy negLen K).map tI)) := gOf_eq rfl (ev_seq (ev_par (x := .dic []) (y := .lst (F.map tI)) (p := []) (q := []) rfl (cb1_is (r := .dat (tD F)) rfl rfl) rfl rfl) (ev_seq (show bWhile (fun _ => 20000) mtW mbW _ _ = _ from h3) (ev_ret (srtK_is rfl)))) rfl
  rw [e, srt_meets h.lot h1 h2]
end K15
end
section
set_option Elab.async false
set_option linter.all false
set_option maxRecDepth 100000
/-! Pe15: the rows of numbers by lots. -/
namespace K15
open PySem PySem.Spec PySem.W L2 Pd
variable [TB]
abbrev Row := List Int × Int
abbrev iD (R : List Row) : List (List Int × D) := R.map fun p => (p.1, .int p.2)
theorem itemD_iD (R : List Row) : itemD (iD R) = R.map rD := by
  unfold itemD
  rw [List.map_map]
  rfl
theorem keyD_iD (R : List Row) : Pd.keyD (iD R) = R.map fun p => tI p.1 := by
  unfold Pd.keyD
  rw [List.map_map]
  rfl
def getI (R : List Row) (k : List Int) : Int := ((R.find? fun p => decide (p.1 = k)).map (·.2)).getD 0
theorem kGet_iD : ∀ {R : List Row} {k : List Int}, k ∈ R.map (·.1) → kGet (iD R) k = some (.int (getI R k))
  | [], k, h => by simp at h
  | p :: R, k, h => by
    unfold kGet getI
    show (((p.1, PyData.int p.2) :: iD R).find? _).map _ = _
    rw [List.find?_cons, List.find?_cons]
    by_cases e : p.1 = k
    · simp only [e, decide_true]
      rfl
    · simp only [e, decide_false]
      rw [List.map_cons, List.mem_cons] at h
      exact kGet_iD (h.resolve_left fun z => e z.symm)
theorem getI_mem : ∀ {R : List Row}, (R.map (·.1)).Nodup → ∀ {p : Row}, p ∈ R → getI R p.1 = p.2
  | [], _, p, h => by simp at h
  | q :: R, nd, p, h => by
    rw [List.map_cons, List.nodup_cons] at nd
    unfold getI
    rw [List.find?_cons]
    rcases List.mem_cons.mp h with rfl | h
    · simp
    · have e : ¬ q.1 = p.1 := fun z => nd.1 (by rw [z]; exact List.mem_map.mpr ⟨p, h, rfl⟩)
      simp only [e, decide_false]
      exact getI_mem nd.2 h
theorem kPut_iD {R : List Row} {k : List Int} {v : Int} (h : k ∉ R.map (·.1)) : kPut (iD R) k (.int v) = iD (R ++ [(k, v)]) := by
  unfold kPut
  have e : ((iD R).any fun p => decide (p.1 = k)) = false := by
    rw [List.any_eq_false]
    intro p hp
    obtain ⟨q, hq, rfl⟩ := List.mem_map.mp hp
    simp only [decide_eq_true_eq]
    exact fun z => h (List.mem_map.mpr ⟨q, hq, z⟩)
  rw [e, if_neg Bool.false_ne_true]
  show _ = (R ++ [(k, v)]).map _
  rw [List.map_append]
  rfl
def newN (R : List Row) (l : List Int) : Int := 1 - ((R.filter fun p => sub l p.1).map (·.2)).sum
def muStep (R : List Row) (l : List Int) : List Row := if newN R l = 0 then R else R ++ [(l, newN R l)]
def rows (F : List (List Int)) : List Row := (meets F).foldl muStep []
theorem muStep_0 {R : List Row} {l : List Int} (h : newN R l = 0) : muStep R l = R := by unfold muStep; rw [if_pos h]
theorem muStep_1 {R : List Row} {l : List Int} (h : ¬ newN R l = 0) : muStep R l = R ++ [(l, newN R l)] := by unfold muStep; rw [if_neg h]
theorem muStep_keys {R : List Row} {l k : List Int} (h : k ∈ (muStep R l).map (·.1)) : k ∈ R.map (·.1) ∨ k = l := by
  unfold muStep at h
  split at h
  · exact .inl h
  · rw [List.map_append, List.mem_append] at h
    exact h.imp id fun z => by simpa using z
theorem muFold_keys {R : List Row} {ls : List (List Int)} {k : List Int} (h : k ∈ (ls.foldl muStep R).map (·.1)) : k ∈ R.map (·.1) ∨ k ∈ ls := by
  induction ls generalizing R with
  | nil => exact .inl h
  | cons l ls ih =>
    rcases ih h with q | q
    · exact (muStep_keys q).imp id fun z => by rw [z]; exact List.mem_cons_self
    · exact .inr (List.mem_cons_of_mem _ q)
theorem muStep_nodup {R : List Row} {l : List Int} (nd : (R.map (·.1)).Nodup) (h : l ∉ R.map (·.1)) : ((muStep R l).map (·.1)).Nodup := by
  unfold muStep
  split
  · exact nd
  · rw [List.map_append]
    exact List.nodup_append.mpr ⟨nd, by simp, fun a ha b hb e => h (by rw [List.map_singleton, List.mem_singleton] at hb; subst hb; subst e; exact ha)⟩
theorem muFold_nodup {R : List Row} {ls : List (List Int)} (nd : (R.map (·.1)).Nodup) (hn : ls.Nodup) (h : ∀ l ∈ ls, l ∉ R.map (·.1)) : ((ls.foldl muStep R).map (·.1)).Nodup := by
  induction ls generalizing R with
  | nil => exact nd
  | cons l ls ih =>
    have hn := List.nodup_cons.mp hn
    refine ih (muStep_nodup nd (h l List.mem_cons_self)) hn.2 fun m hm z => ?_
    rcases muStep_keys z with q | q
    · exact h m (List.mem_cons_of_mem _ hm) q
    · exact hn.1 (by rw [← q]; exact hm)
theorem rows_keys {F : List (List Int)} {k : List Int} (h : k ∈ (rows F).map (·.1)) : k ∈ meets F := (muFold_keys h).resolve_left (by simp)
theorem rows_nodup (F : List (List Int)) : ((rows F).map (·.1)).Nodup := muFold_nodup List.nodup_nil (meets_nodup F) fun l _ => by simp
theorem muFold_len (R : List Row) (ls : List (List Int)) : (ls.foldl muStep R).length ≤ R.length + ls.length := by
  induction ls generalizing R with
  | nil => exact Nat.le_refl _
  | cons l ls ih =>
    have h1 := ih (muStep R l)
    have h2 : (muStep R l).length ≤ R.length + 1 := by unfold muStep; split <;> simp
    rw [List.foldl_cons, List.length_cons]
    omega
theorem lay_intsL : ∀ l : List Int, PyData.canLayAll0 (l.map .int) = true
  | [] => by simp [PyData.canLayAll0]
  | a :: l => by
    rw [List.map_cons]
    simp only [PyData.canLayAll0, PyData.canLay0, lay_intsL l, Bool.and_self]
theorem lock_is {i : Nat} {m : MV} {ρ : List Sl} {pt p : List Int} {l : List (List Int × D)} {r : Rv} (hs : ρ[i]? = some (.dic l)) (h : m (ρ.set i (.dat (.dict (dD l)))) pt = some (r, p)) (hc : r.clean = true) : mLock i m ρ pt = some (r, p) := by
  unfold mLock
  rw [hs]
  show (m _ pt).bind _ = _
  rw [h, Option.bind_some]
  show (if r.clean = true then _ else _) = _
  rw [if_pos hc]
def mNum : MV := mOp (fI fun i j => i - j) (mC (.int 1)) (mCB (f1 fSum) (wCons (mLock 1 (mLc (mItemsL (mVar 1)) (gN2 4 5) (mVal (mCall g_is_within (mCons (mVar 2) (mCons (mVar 4) mNil)))) (mVar 5) [4, 5])) wNil))
theorem sumR_is (b : Row → Bool) (R : List Row) : fSum (.lst ((R.filter b).map fun p => .int p.2)) = some (.dat (.int ((R.filter b).map (·.2)).sum)) := sum_is (fun p : Row => p.2) (R.filter b)
theorem mNum_is {c s3 : Sl} {R : List Row} {l : List Int} (hR : R.length ≤ 1000) (hl : l.length ≤ 7) : mNum [c, .dic (iD R), .dat (tI l), s3, .un, .un] [] = some (.dat (.int (newN R l)), []) := by
  have big : 2000000 ≤ sizeLine := by rw [sizeLine_eq]; decide
  have e : (mLock 1 (mLc (mItemsL (mVar 1)) (gN2 4 5) (mVal (mCall g_is_within (mCons (mVar 2) (mCons (mVar 4) mNil)))) (mVar 5) [4, 5]) : MV) [c, .dic (iD R), .dat (tI l), s3, .un, .un] [] = some (.lst ((R.filter fun p => sub l p.1).map fun p => .int p.2), []) := by
    refine lock_is (l := iD R) rfl (lc_map rD (fun p => sub l p.1) (fun p => .int p.2) R ?_ (fun p _ => ⟨_, rfl, val_is (call2_is rfl rfl rfl rfl (c_is_within l p.1 (by omega))), fun _ => ⟨_, rfl, rfl⟩⟩) (by omega)) ?_
    · show ((undD (dD (iD R))).map _) = _
      rw [undD_dD, Option.map_some, itemD_iD]
    · show PyData.canLayAll0 _ = true
      rw [show ((R.filter fun p => sub l p.1).map fun p => PyData.int p.2) = ((R.filter fun p => sub l p.1).map (·.2)).map .int by rw [List.map_map]; rfl]
      exact lay_intsL _
  exact op_is rfl (cb1_is e (sumR_is (fun p => sub l p.1) R)) rfl
theorem c_least_rows {n : Int} {F : List (List Int)} (h : Fam n F) (hl : F.length ≤ 128) : g_least_rows [cD n F] = some (.dic (iD (rows F))) := by
  have big : 2000000 ≤ sizeLine := by rw [sizeLine_eq]; decide
  have hm := meets_len h.lot h.n7
  obtain ⟨ρ2, h1, s2, s3, rfl⟩ := forGo_pre (α := List Int) (mg := gN 2) (p := []) (m := bSeq (bSet 3 mNum) (bIf (mVal (mOp (fEq true) (mVar 3) (mC (.int 0)))) (bDPut 1 (mVar 2) (mVar 3)) bNext))
    (ρ := [.dat (cD n F), .dic [], .un, .un, .un, .un]) tI (fun done ρ => ∃ s2 s3, ρ = [.dat (cD n F), .dic (iD (done.foldl muStep [])), s2, s3, .un, .un]) (meets F) ⟨_, _, rfl⟩ fun done l rest ρ' hk ⟨s2, s3, hρ⟩ => by
      subst hρ
      have hlm : l ∈ meets F := by rw [hk]; simp
      have h7 := (((meets_mem h.lot).mp hlm).lot h.lot).len h.n7
      have hdl : done.length ≤ 128 := by have := congrArg List.length hk; rw [List.length_append] at this; omega
      have hRl := muFold_len [] done
      rw [List.length_nil] at hRl
      have hfresh : l ∉ (done.foldl muStep []).map (·.1) := fun z => by
        have q := (muFold_keys z).resolve_left (by simp)
        have nd := meets_nodup F
        rw [hk] at nd
        exact (List.nodup_append.mp nd).2.2 l q l (by simp) rfl
      refine ⟨_, _, rfl, ev_seq (ev_set (mNum_is (by omega) h7) rfl) ?_, .dat (tI l), .dat (.int (newN (done.foldl muStep []) l)), rfl⟩
      have ht : (mVal (mOp (fEq true) (mVar 3) (mC (.int 0))) : MT) [.dat (cD n F), .dic (iD (done.foldl muStep [])), .dat (tI l), .dat (.int (newN (done.foldl muStep []) l)), .un, .un] [] = some (!decide (newN (done.foldl muStep []) l = 0), []) :=
        val_is (op_is rfl rfl (enc_int.ne (by decide) rfl rfl))
      rw [List.foldl_append]
      show bIf _ _ _ _ _ = some (.nx [_, .dic (iD (muStep (done.foldl muStep []) l)), _, _, _, _] [])
      by_cases hz : newN (done.foldl muStep []) l = 0
      · rw [muStep_0 hz]
        exact ev_ifF (ht.trans (by rw [decide_eq_true hz]; rfl)) rfl
      · rw [muStep_1 hz]
        refine ev_ifT (ht.trans (by rw [decide_eq_false hz]; rfl)) ((ev_dput rfl rfl rfl (key_tI l) rfl (by rw [List.length_map]; omega)).trans ?_)
        rw [kPut_iD hfresh]
        rfl
  exact gOf_eq rfl (ev_seq (ev_set rfl rfl) (ev_seq (ev_for (seqF_is (call1_is (op_is (z := .dat (tD F)) rfl rfl rfl) rfl (c_meets_of h hl)) rfl rfl) h1) (ev_ret rfl))) rfl
/-- the rows by lots ascending -/
def told (F : List (List Int)) : List Row := (Pd.sortI ((rows F).map (·.1))).map fun k => (k, getI (rows F) k)
theorem sortedD_is {R : List Row} {r : Rv} (h : r.dc? = some (iD R)) : fSortedD r = some (.lst ((Pd.sortI (R.map (·.1))).map tI)) := by
  unfold fSortedD
  rw [h, Option.bind_some, keyD_iD]
  have e : (R.map fun p => tI p.1) = (R.map (·.1)).map tI := by rw [List.map_map]; rfl
  rw [e, if_pos (okSort_tI _), srtD_tI]
theorem dget_is {R : List Row} {k : List Int} {md mk : MV} {ρ : List Sl} {pt p q : List Int} {r s : Rv} (hd : md ρ pt = some (r, p)) (hr : r.dc? = some (iD R)) (hk : mk ρ p = some (s, q)) (hs : s.key? = some k) (hm : k ∈ R.map (·.1)) : mDGet md mk ρ pt = some (.dat (.int (getI R k)), q) := by
  unfold mDGet
  rw [hd, Option.bind_some, hk, Option.bind_some, hr, Option.bind_some, hs, Option.bind_some, kGet_iD hm]
  rfl
def mTold : MV := mCB (f1 fTuple) (wCons (mLc (mSeq (mCB (f1 fSortedD) (wCons (mVar 1) wNil))) (gN 2) mYes (mTup (mCons (mVar 2) (mCons (mDGet (mVar 1) (mVar 2)) mNil))) [2]) wNil)
theorem mTold_is {c s2 : Sl} {rest : List Sl} {R : List Row} (hR : R.length ≤ 1000) : mTold (c :: .dic (iD R) :: s2 :: rest) [] = some (.dat (rsD ((Pd.sortI (R.map (·.1))).map fun k => (k, getI R k))), []) := by
  have big : 2000000 ≤ sizeLine := by rw [sizeLine_eq]; decide
  have hlen : (Pd.sortI (R.map (·.1))).length = R.length := by unfold Pd.sortI; rw [List.length_mergeSort, List.length_map]
  refine cb1_is (r := .lst ((Pd.sortI (R.map (·.1))).map fun k => rD (k, getI R k))) (lc_all tI (fun k => rD (k, getI R k)) (Pd.sortI (R.map (·.1))) (seq_is (cb1_is rfl (sortedD_is (R := R) rfl)) rfl) (fun k hk => ⟨_, rfl, .dat (rD (k, getI R k)), ?_, rfl⟩) (by omega)) ?_
  · have hm : k ∈ R.map (·.1) := by
      unfold Pd.sortI at hk
      exact (List.mergeSort_perm _ _).mem_iff.mp hk
    exact tup2_is rfl rfl (dget_is (R := R) rfl rfl rfl (key_tI k) hm) rfl
  · show some (Rv.dat (.tuple ((Pd.sortI (R.map (·.1))).map fun k => rD (k, getI R k)))) = _
    unfold rsD
    rw [List.map_map]
    rfl
theorem rows_len {n : Int} {F : List (List Int)} (h : ∀ l ∈ F, Lot n l) (h7 : n ≤ 7) : (rows F).length ≤ 128 := by
  have h1 := muFold_len [] (meets F)
  rw [List.length_nil] at h1
  have h2 := meets_len h h7
  unfold rows
  omega
theorem c_least_sums {n : Int} {F : List (List Int)} (h : Com n F) : g_least_sums [cD n F] = some (.dat (rsD (told F))) := by
  have hR := rows_len h.lot h.n7
  exact gOf_eq rfl (ev_seq (ev_drop (call1_is rfl rfl (c_check_company h))) (ev_seq (ev_set (call1_is rfl rfl (c_least_rows h.toFam h.little)) rfl) (ev_ret (show mTold _ _ = _ from mTold_is (by omega))))) rfl
def mNumL : MV := mOp (fI fun i j => i - j) (mC (.int 1)) (mCB (f1 fSum) (wCons (mLock 1 (mLc (mKeys (mVar 1)) (gN 4) (mVal (mCall g_law_is_part (mCons (mVar 2) (mCons (mVar 4) mNil)))) (mDGet (mVar 1) (mVar 4)) [4])) wNil))
theorem mNumL_is {c s3 : Sl} {R : List Row} {l : List Int} (hR : R.length ≤ 1000) (nd : (R.map (·.1)).Nodup) (hl : l.length ≤ 7) : mNumL [c, .dic (iD R), .dat (tI l), s3, .un] [] = some (.dat (.int (newN R l)), []) := by
  have big : 2000000 ≤ sizeLine := by rw [sizeLine_eq]; decide
  have e : (mLock 1 (mLc (mKeys (mVar 1)) (gN 4) (mVal (mCall g_law_is_part (mCons (mVar 2) (mCons (mVar 4) mNil)))) (mDGet (mVar 1) (mVar 4)) [4]) : MV) [c, .dic (iD R), .dat (tI l), s3, .un] [] = some (.lst ((R.filter fun p => sub l p.1).map fun p => .int p.2), []) := by
    refine lock_is (l := iD R) rfl (lc_map (fun p => tI p.1) (fun p => sub l p.1) (fun p => .int p.2) R ?_ (fun p hp => ⟨_, rfl, val_is (call2_is rfl rfl rfl rfl (c_law_is_part l p.1 (by omega))), fun _ => ⟨.dat (.int (getI R p.1)), dget_is (R := R) (r := .dat (.dict (dD (iD R)))) rfl (undD_dD _) rfl (key_tI p.1) (List.mem_map.mpr ⟨p, hp, rfl⟩), ?_⟩⟩) (by omega)) ?_
    · show ((undD (dD (iD R))).map _) = _
      rw [undD_dD, Option.map_some, keyD_iD]
    · rw [getI_mem nd hp]
      rfl
    · show PyData.canLayAll0 _ = true
      rw [show ((R.filter fun p => sub l p.1).map fun p => PyData.int p.2) = ((R.filter fun p => sub l p.1).map (·.2)).map .int by rw [List.map_map]; rfl]
      exact lay_intsL _
  exact op_is rfl (cb1_is e (sumR_is (fun p => sub l p.1) R)) rfl
theorem c_law_least_sums {n : Int} {F : List (List Int)} (h : Fam n F) : g_law_least_sums [cD n F] = some (.dat (rsD (told F))) := by
  have big : 2000000 ≤ sizeLine := by rw [sizeLine_eq]; decide
  have hm := meets_len h.lot h.n7
  have hR := rows_len h.lot h.n7
  obtain ⟨ρ2, h1, s2, s3, rfl⟩ := forGo_pre (α := List Int) (mg := gN 2) (p := []) (m := bSeq (bSet 3 mNumL) (bIf (mVal (mOp (fEq true) (mVar 3) (mC (.int 0)))) (bDPut 1 (mVar 2) (mVar 3)) bNext))
    (ρ := [.dat (cD n F), .dic [], .un, .un, .un]) tI (fun done ρ => ∃ s2 s3, ρ = [.dat (cD n F), .dic (iD (done.foldl muStep [])), s2, s3, .un]) (meets F) ⟨_, _, rfl⟩ fun done l rest ρ' hk ⟨s2, s3, hρ⟩ => by
      subst hρ
      have hlm : l ∈ meets F := by rw [hk]; simp
      have h7 := (((meets_mem h.lot).mp hlm).lot h.lot).len h.n7
      have hdl : done.length ≤ 128 := by have := congrArg List.length hk; rw [List.length_append] at this; omega
      have hRl := muFold_len [] done
      rw [List.length_nil] at hRl
      have ndm := meets_nodup F
      rw [hk] at ndm
      have hfresh : l ∉ (done.foldl muStep []).map (·.1) := fun z => by
        have q := (muFold_keys z).resolve_left (by simp)
        exact (List.nodup_append.mp ndm).2.2 l q l (by simp) rfl
      have nd : ((done.foldl muStep []).map (·.1)).Nodup := muFold_nodup List.nodup_nil (List.nodup_append.mp ndm).1 fun l _ => by simp
      refine ⟨_, _, rfl, ev_seq (ev_set (mNumL_is (by omega) nd h7) rfl) ?_, .dat (tI l), .dat (.int (newN (done.foldl muStep []) l)), rfl⟩
      have ht : (mVal (mOp (fEq true) (mVar 3) (mC (.int 0))) : MT) [.dat (cD n F), .dic (iD (done.foldl muStep [])), .dat (tI l), .dat (.int (newN (done.foldl muStep []) l)), .un] [] = some (!decide (newN (done.foldl muStep []) l = 0), []) :=
        val_is (op_is rfl rfl (enc_int.ne (by decide) rfl rfl))
      rw [List.foldl_append]
      show bIf _ _ _ _ _ = some (.nx [_, .dic (iD (muStep (done.foldl muStep []) l)), _, _, _] [])
      by_cases hz : newN (done.foldl muStep []) l = 0
      · rw [muStep_0 hz]
        exact ev_ifF (ht.trans (by rw [decide_eq_true hz]; rfl)) rfl
      · rw [muStep_1 hz]
        refine ev_ifT (ht.trans (by rw [decide_eq_false hz]; rfl)) ((ev_dput rfl rfl rfl (key_tI l) rfl (by rw [List.length_map]; omega)).trans ?_)
        rw [kPut_iD hfresh]
        rfl
  exact gOf_eq rfl (ev_seq (ev_set rfl rfl) (ev_seq (ev_for (seqF_is (call1_is (op_is (z := .dat (tD F)) rfl rfl rfl) rfl (c_law_meets h)) rfl rfl) h1) (ev_ret (show mTold _ _ = _ from mTold_is (R := rows F) (by omega))))) rfl
end K15
end
section
set_option Elab.async false
set_option linter.all false
set_option maxRecDepth 100000
/-! Pe16: sums by worths. -/
namespace K15
open PySem PySem.Spec PySem.W L2 Pd
variable [TB]
def wAt (ws : List Int) (g : Int) : Int := ws.getD g.toNat 0
theorem atI_get {α : Type} {l : List α} {g : Int} {x : α} (h0 : 0 ≤ g) (h : l[g.toNat]? = some x) : atI l g = some x := by
  have e : g = (g.toNat : Int) := by omega
  rw [e]
  exact atI_nat h
theorem ixT_is {ws : List Int} {g : Int} (h0 : 0 ≤ g) (h : g < ws.length) : fIx (.dat (tI ws)) (.dat (.int g)) = some (.dat (.int (wAt ws g))) := by
  have e : (ws.map PyData.int)[g.toNat]? = some (.int (wAt ws g)) := by
    rw [List.getElem?_map, List.getElem?_eq_getElem (by omega), Option.map_some]
    unfold wAt
    rw [List.getD_eq_getElem?_getD, List.getElem?_eq_getElem (by omega)]
    rfl
  show ((atI (ws.map PyData.int) g).map Rv.dat) = _
  rw [atI_get h0 e]
  rfl
theorem wAt_mem {ws : List Int} {g : Int} (h0 : 0 ≤ g) (h : g < ws.length) : wAt ws g ∈ ws := by
  unfold wAt
  rw [List.getD_eq_getElem?_getD, List.getElem?_eq_getElem (by omega), Option.getD_some]
  exact List.getElem_mem _
/-- as many worths as guests, none too great -/
structure Ws (n : Int) (ws : List Int) : Prop where
  len : (ws.length : Int) = n
  lo : ∀ w ∈ ws, -1000 ≤ w
  hi : ∀ w ∈ ws, w ≤ 1000
theorem c_law_product {n : Int} {ws l : List Int} (hw : Ws n ws) (hl : Lot n l) : g_law_product [tI l, tI ws] = some (.dat (.int (l.foldl (fun a g => a * wAt ws g) 1))) := by
  obtain ⟨ρ2, h1, s3, rfl⟩ := forGo_pre (α := Int) (mg := gN 3) (p := []) (m := bSet 2 (mOp (fIc cMul fun i j => i * j) (mVar 2) (mOp fIx (mVar 1) (mVar 3))))
    (ρ := [.dat (tI l), .dat (tI ws), .dat (.int 1), .un]) (fun x => .int x) (fun done ρ => ∃ s3, ρ = [.dat (tI l), .dat (tI ws), .dat (.int (done.foldl (fun a g => a * wAt ws g) 1)), s3]) l ⟨_, rfl⟩ fun done g rest ρ' hk ⟨s3, hρ⟩ => by
      subst hρ
      have hg : g ∈ l := by rw [hk]; simp
      have h0 := hl.lo g hg
      have h2 : g < ws.length := by have := hl.hi g hg; have := hw.len; omega
      have h3 := hw.lo _ (wAt_mem h0 h2)
      have h4 := hw.hi _ (wAt_mem h0 h2)
      refine ⟨_, _, rfl, ev_set (op_is rfl (op_is rfl rfl (ixT_is h0 h2)) (z := .dat (.int (done.foldl (fun a g => a * wAt ws g) 1 * wAt ws g))) ?_) rfl, .dat (.int g), ?_⟩
      · show (if cMul _ _ = true then _ else _) = _
        rw [if_pos]
        unfold cMul s64
        rw [Bool.or_eq_true, Bool.and_eq_true, Bool.and_eq_true]
        exact .inr ⟨decide_eq_true (by omega), decide_eq_true (by omega)⟩
      · rw [List.foldl_append]
        rfl
  exact gOf_eq rfl (ev_seq (ev_set rfl rfl) (ev_seq (ev_for (seqF_is rfl rfl rfl) h1) (ev_ret rfl))) rfl
def prodP (ws : List Int) (a : Int) (l : List Int) : Int := l.foldl (fun a g => a * (1 + wAt ws g)) a
def sumBy (ws : List Int) (R : List Row) : Int := (R.map fun p => prodP ws p.2 p.1).sum
theorem c_sum_by {n : Int} {F : List (List Int)} {ws : List Int} (h : Com n F) (hw : Ws n ws) : g_sum_by [cD n F, tI ws] = some (.dat (.int (sumBy ws (rows F)))) := by
  have big : 2000000 ≤ sizeLine := by rw [sizeLine_eq]; decide
  have h7 := h.n7
  have hwl := hw.len
  have hR := rows_len h.lot h.n7
  obtain ⟨ρ2, h1, s4, s5, s6, rfl⟩ := forGo_pre (α := Row) (mg := gN2 4 5) (p := []) (m := bSeq (bFrz 4 (bFor (mSeqF (mVar 4)) (gN 6) (bSet 5 (mOp (fIc cMul fun i j => i * j) (mVar 5) (mOp fAdd3 (mC (.int 1)) (mOp fIx (mVar 1) (mVar 6))))))) (bSet 3 (mOp fAdd3 (mVar 3) (mVar 5))))
    (ρ := [.dat (cD n F), .dat (tI ws), .dat (.int n), .dat (.int 0), .un, .un, .un, .un]) rD (fun done ρ => ∃ s4 s5 s6, ρ = [.dat (cD n F), .dat (tI ws), .dat (.int n), .dat (.int (sumBy ws done)), s4, s5, s6, .un]) (rows F) ⟨_, _, _, rfl⟩ fun done r rest ρ' hk ⟨s4, s5, s6, hρ⟩ => by
      subst hρ
      obtain ⟨l, v⟩ := r
      have hlm : l ∈ (rows F).map (·.1) := List.mem_map.mpr ⟨(l, v), by rw [hk]; simp, rfl⟩
      have hl := ((meets_mem h.lot).mp (rows_keys hlm)).lot h.lot
      obtain ⟨ρ3, h2, s6, rfl⟩ := forGo_pre (α := Int) (mg := gN 6) (p := []) (m := bSet 5 (mOp (fIc cMul fun i j => i * j) (mVar 5) (mOp fAdd3 (mC (.int 1)) (mOp fIx (mVar 1) (mVar 6)))))
        (ρ := [.dat (cD n F), .dat (tI ws), .dat (.int n), .dat (.int (sumBy ws done)), .dat (tI l), .dat (.int v), s6, .un]) (fun x => .int x) (fun don2 ρ => ∃ s6, ρ = [.dat (cD n F), .dat (tI ws), .dat (.int n), .dat (.int (sumBy ws done)), .dat (tI l), .dat (.int (prodP ws v don2)), s6, .un]) l ⟨_, rfl⟩ fun don2 g rest2 ρ'' hk2 ⟨s6, hρ⟩ => by
          subst hρ
          have hg : g ∈ l := by rw [hk2]; simp
          have h0 := hl.lo g hg
          have h2 : g < ws.length := by have := hl.hi g hg; omega
          have h3 := hw.lo _ (wAt_mem h0 h2)
          have h4 := hw.hi _ (wAt_mem h0 h2)
          refine ⟨_, _, rfl, ev_set (op_is rfl (op_is (y := .dat (.int (wAt ws g))) (z := .dat (.int (1 + wAt ws g))) (q := []) rfl (op_is rfl rfl (ixT_is h0 h2)) rfl) (z := .dat (.int (prodP ws v don2 * (1 + wAt ws g)))) ?_) rfl, .dat (.int g), ?_⟩
          · show (if cMul _ _ = true then _ else _) = _
            rw [if_pos]
            unfold cMul s64
            rw [Bool.or_eq_true, Bool.and_eq_true, Bool.and_eq_true]
            exact .inr ⟨decide_eq_true (by omega), decide_eq_true (by omega)⟩
          · unfold prodP
            rw [List.foldl_append]
            rfl
      refine ⟨_, _, rfl, ev_seq (show bFrz 4 _ _ _ = _ from ev_for (seqF_is rfl rfl rfl) h2) (ev_set (op_is rfl rfl (z := .dat (.int (sumBy ws done + prodP ws v l))) rfl) rfl), .dat (tI l), .dat (.int (prodP ws v l)), s6, ?_⟩
      have e : sumBy ws (done ++ [(l, v)]) = sumBy ws done + prodP ws v l := by
        unfold sumBy
        rw [List.map_append, List.sum_append, List.map_singleton, List.sum_singleton]
      rw [e]
      rfl
  have e1 : (mOr (mNot (mVal (mCall g_is_tuple (mCons (mVar 1) (mCons (mVar 2) (mCons (mVar 2) mNil)))))) (mNot (mVal (mCB (f1 fAll) (wCons (mLc (mSeq (mVar 1)) (gN 7) mYes (mCall g_is_integer (mCons (mVar 7) (mCons (mUn fNeg (mC (.int 1000))) (mCons (mC (.int 1000)) mNil)))) [7]) wNil)))) : MT) [.dat (cD n F), .dat (tI ws), .dat (.int n), .un, .un, .un, .un, .un] [] = some (false, []) := by
    refine or_is (a := false) (b := false) (not_is (b := true) (val_is (call3_is rfl rfl rfl rfl rfl rfl ?_))) fun _ => not_is (b := true) (val_is (cb1_is (lc_all (fun x => .int x) (fun x => .bool ((fun _ => true) x)) ws (seq_is rfl rfl) (fun x hx => ⟨_, rfl, .dat (.bool true), call3_is rfl rfl (un_is (x := .dat (.int 1000)) (z := .dat (.int (-1000))) (p := []) rfl rfl) rfl rfl rfl ?_, rfl⟩) (by omega)) ?_))
    · rw [c_is_tuple, List.length_map, decide_eq_true (by omega), decide_eq_true (by omega)]
      rfl
    · rw [c_is_integer, decide_eq_true (hw.lo x hx), decide_eq_true (hw.hi x hx)]
      rfl
    · rw [all_is]
      simp
  refine gOf_eq rfl (ev_seq (ev_drop (call1_is rfl rfl (c_check_company h))) (ev_seq (ev_set (op_is (z := .dat (.int n)) rfl rfl rfl) rfl) (ev_seq (ev_ifF e1 rfl) (ev_seq (ev_set rfl rfl) (ev_seq (ev_for ?_ h1) (ev_ret rfl)))))) rfl
  unfold mItemsN
  rw [call1_is (x := .dat (cD n F)) (z := .dic (iD (rows F))) (p := []) rfl rfl (c_least_rows h.toFam h.little), Option.bind_some]
  show some (itemD (iD (rows F)), ([] : List Int)) = _
  rw [itemD_iD]
end K15
end
section
set_option Elab.async false
set_option linter.all false
set_option maxRecDepth 100000
/-! Pe17: rows told, and whether they are the sums. -/
namespace K15
open PySem PySem.Spec PySem.W L2 Pd
variable [TB]
section
variable {α : Type} {mg : MG} {m : MB} {p : List Int}
/-- a loop that may end its def -/
theorem forGo_ret (e : α → D) (b : α → Bool) (r : Rv) (Rel : List Sl → Prop) : ∀ (ks : List α) (ρ : List Sl), Rel ρ → (∀ k ∈ ks, ∀ ρ', Rel ρ' → ∃ ρ1, mg (e k) ρ' = some ρ1 ∧ (b k = true → ∃ ρ2, m ρ1 p = some (.nx ρ2 p) ∧ Rel ρ2) ∧ (b k = false → m ρ1 p = some (.rt r p))) →
    (ks.all b = true ∧ ∃ ρ2, forGo mg m (ks.map e) ρ p = some (.nx ρ2 p) ∧ Rel ρ2) ∨ (ks.all b = false ∧ forGo mg m (ks.map e) ρ p = some (.rt r p))
  | [], ρ, h0, _ => .inl ⟨rfl, ρ, rfl, h0⟩
  | k :: ks, ρ, h0, h => by
    obtain ⟨ρ1, h1, hT, hF⟩ := h k List.mem_cons_self ρ h0
    rw [List.map_cons, List.all_cons]
    unfold forGo
    rw [h1, Option.bind_some]
    cases hb : b k with
    | true =>
      obtain ⟨ρ2, h2, h3⟩ := hT hb
      rw [h2, Option.bind_some, Bool.true_and]
      exact forGo_ret e b r Rel ks ρ2 h3 fun j hj => h j (List.mem_cons_of_mem _ hj)
    | false =>
      rw [hF hb, Option.bind_some, Bool.false_and]
      exact .inr ⟨rfl, rfl⟩
end
theorem pairs_tt (L : List (List Int)) : pairsA? (L.map fun l => .tuple [tI l, .bool true]) = some (tt L) := by
  have := pairsA_map (tt L)
  unfold itemD at this
  rw [List.map_map] at this
  exact this
theorem putAll_tt {L : List (List Int)} (h : L.Nodup) : putAll (tt L) = tt L := by
  unfold putAll
  rw [List.foldl_map]
  have e := foldl_tt L []
  rw [show L.foldl (fun x y => kPut x y (.bool true)) [] = _ from e, foldl_insK_fresh _ _ h (fun _ _ z => by simp at z), List.nil_append]
theorem c_law_known {n : Int} {F : List (List Int)} (h : Fam n F) (hF : F ≠ []) : g_law_known_lots [cD n F] = some (.dic (tt (lots F))) := by
  have hs := h.small
  have hl := lots_len_eq F
  refine gOf_eq rfl (ev_ret (r := .dic (tt (lots F))) (p := []) ?_) rfl
  unfold mDictL
  rw [lc_all (p := []) tI (fun l => .tuple [tI l, .bool true]) (lots F) (seq_is (flat_is h hF rfl rfl) rfl) (fun l _ => ⟨_, rfl, _, tup2_is rfl rfl rfl rfl, rfl⟩) (by omega), Option.bind_some]
  show ((pairsA? ((lots F).map fun l => .tuple [tI l, .bool true])).map _) = _
  rw [pairs_tt, Option.map_some, putAll_tt (lots_nodup F)]
/-- the sum of the numbers at and above a lot -/
def sumUp (R : List Row) (l : List Int) : Int := ((R.filter fun p => sub l p.1).map (·.2)).sum
def isSums (F : List (List Int)) (R : List Row) : Bool := decide (R.map (·.1) = setI (R.map (·.1))) && (R.map (·.1)).all (fun l => (lots F).contains l) && !R.any (fun p => decide (p.2 = 0)) && (lots F).all fun l => decide (sumUp R l = 1)
structure Rows (n : Int) (R : List Row) : Prop where
  lot : ∀ p ∈ R, Lot n p.1
  few : R.length ≤ 1000
theorem dinF_is {K : List (List Int)} {k : List Int} {mk md : MV} {ρ : List Sl} {pt p q : List Int} {r s : Rv} (hk : mk ρ pt = some (s, p)) (hs : s.key? = some k) (hd : md ρ p = some (r, q)) (hr : r.dc? = some (tt K)) : mDIn false mk md ρ pt = some (.dat (.bool (K.contains k)), q) := by
  unfold mDIn
  rw [hk, Option.bind_some, hd, Option.bind_some, hr, Option.bind_some, hs, Option.map_some]
  show some (Rv.dat (PyData.bool (kGet (tt K) k).isSome), q) = _
  rw [kGet_tt]
theorem c_law_is_sums {n : Int} {F : List (List Int)} {R : List Row} (h : Fam n F) (hF : F ≠ []) (hR : Rows n R) : g_law_is_sums [cD n F, rsD R] = some (.dat (.bool (isSums F R))) := by
  have big : 2000000 ≤ sizeLine := by rw [sizeLine_eq]; decide
  have hs := h.small
  have hl := lots_len_eq F
  have hfew := hR.few
  have e0 : (mLc (mSeq (mVar 1)) (gN2 4 5) mYes (mVar 4) [4, 5] : MV) [.dat (cD n F), .dat (rsD R), .un, .un, .un, .un, .un] [] = some (.lst ((R.map (·.1)).map tI), []) := by
    rw [List.map_map]
    exact lc_all rD (fun p => tI p.1) R (seq_is rfl rfl) (fun p _ => ⟨_, rfl, _, rfl, rfl⟩) (by omega)
  have hc : (lots F).length ≤ sizeLine := by omega
  have e1 : (mOr (mVal (mOp (fEq true) (mVar 2) (mSrtSet (mVar 2)))) (mNot (mVal (mCB (f1 fAll) (wCons (mLc (mSeq (mVar 2)) (gN 4) mYes (mDIn false (mVar 4) (mVar 3)) [4]) wNil)))) : MT)
      [.dat (cD n F), .dat (rsD R), .lst ((R.map (·.1)).map tI), .dic (tt (lots F)), .un, .un, .un] [] = some (!decide (R.map (·.1) = setI (R.map (·.1))) || !(R.map (·.1)).all (fun l => (lots F).contains l), []) :=
    or_is (val_is (op_is rfl (srtSet_is (ks := R.map (·.1)) rfl rfl (by rw [List.length_map]; omega)) (enc_tI.lst.ne (x := R.map (·.1)) (y := setI (R.map (·.1))) (by decide) rfl rfl))) fun _ =>
      not_is (val_is (cb1_is (lc_all tI (fun l => .bool ((lots F).contains l)) (R.map (·.1)) (seq_is rfl rfl) (fun l _ => ⟨_, rfl, _, dinF_is (K := lots F) rfl (key_tI l) rfl rfl, rfl⟩) (by rw [List.length_map]; omega)) (all_is _ _)))
  have e2 : (mVal (mCB (f1 fAny) (wCons (mLc (mSeq (mVar 1)) (gN2 4 5) mYes (mOp (fEq false) (mVar 5) (mC (.int 0))) [4, 5]) wNil)) : MT)
      [.dat (cD n F), .dat (rsD R), .lst ((R.map (·.1)).map tI), .dic (tt (lots F)), .un, .un, .un] [] = some (R.any (fun p => decide (p.2 = 0)), []) :=
    val_is (cb1_is (lc_all rD (fun p => .bool (decide (p.2 = 0))) R (seq_is rfl rfl) (fun p _ => ⟨_, rfl, _, op_is rfl rfl (enc_int.eq (by decide) rfl rfl), rfl⟩) (by omega)) (any_is _ _))
  have hloop := forGo_ret (α := List Int) (mg := gN 4) (p := []) (m := bIf (mVal (mOp (fEq true) (mCB (f1 fSum) (wCons (mLc (mSeq (mVar 1)) (gN2 6 5) (mVal (mCall g_law_is_part (mCons (mVar 4) (mCons (mVar 6) mNil)))) (mVar 5) [6, 5]) wNil)) (mC (.int 1)))) (bRet (mC (.bool false))) bNext)
    tI (fun l => decide (sumUp R l = 1)) (.dat (.bool false)) (fun ρ => ∃ s4, ρ = [.dat (cD n F), .dat (rsD R), .lst ((R.map (·.1)).map tI), .dat (.dict (dD (tt (lots F)))), s4, .un, .un]) (lots F)
    [.dat (cD n F), .dat (rsD R), .lst ((R.map (·.1)).map tI), .dat (.dict (dD (tt (lots F)))), .un, .un, .un] ⟨_, rfl⟩ fun l hlm ρ' ⟨s4, hρ⟩ => by
      subst hρ
      obtain ⟨m, hm, hsb⟩ := lots_mem.mp hlm
      have h7 := ((h.lot m hm).sub hsb).len h.n7
      have et : (mVal (mOp (fEq true) (mCB (f1 fSum) (wCons (mLc (mSeq (mVar 1)) (gN2 6 5) (mVal (mCall g_law_is_part (mCons (mVar 4) (mCons (mVar 6) mNil)))) (mVar 5) [6, 5]) wNil)) (mC (.int 1))) : MT) [.dat (cD n F), .dat (rsD R), .lst ((R.map (·.1)).map tI), .dat (.dict (dD (tt (lots F)))), .dat (tI l), .un, .un] [] = some (!decide (sumUp R l = 1), []) :=
        val_is (op_is (x := .dat (.int (sumUp R l))) (cb1_is (lc_map rD (fun p => sub l p.1) (fun p => .int p.2) R (seq_is rfl rfl) (fun p _ => ⟨_, rfl, val_is (call2_is rfl rfl rfl rfl (c_law_is_part l p.1 (by omega))), fun _ => ⟨_, rfl, rfl⟩⟩) (by omega)) (sumR_is (fun p => sub l p.1) R)) rfl (enc_int.ne (by decide) rfl rfl))
      refine ⟨_, rfl, fun hb => ⟨_, ev_ifF (et.trans (by rw [hb]; rfl)) rfl, .dat (tI l), rfl⟩, fun hb => ev_ifT (et.trans (by rw [hb]; rfl)) rfl⟩
  have hkeys : (mKeys (mVar 3) : ML) [.dat (cD n F), .dat (rsD R), .lst ((R.map (·.1)).map tI), .dat (.dict (dD (tt (lots F)))), .un, .un, .un] [] = some ((lots F).map tI, []) := by
    show ((undD (dD (tt (lots F)))).map _) = _
    rw [undD_dD, Option.map_some, keyD_tt]
  have key : ∃ o, m_law_is_sums (startR ["company", "value", "lots", "known", "lot", "number", "other"] [cD n F, rsD R]) [] = some o ∧ o.back = some (.dat (.bool (isSums F R)), []) := by
    refine ⟨.rt (.dat (.bool (isSums F R))) [], ?_, rfl⟩
    refine ev_seq (ev_set e0 rfl) (ev_seq (ev_set (call1_is rfl rfl (c_law_known h hF)) rfl) ?_)
    have hall : isSums F R = (!(!decide (R.map (·.1) = setI (R.map (·.1))) || !(R.map (·.1)).all (fun l => (lots F).contains l)) && !R.any (fun p => decide (p.2 = 0)) && (lots F).all fun l => decide (sumUp R l = 1)) := by
      unfold isSums
      rw [Bool.not_or, Bool.not_not, Bool.not_not]
    cases h1 : (!decide (R.map (·.1) = setI (R.map (·.1))) || !(R.map (·.1)).all (fun l => (lots F).contains l)) with
    | true =>
      rw [hall, h1]
      exact ev_seqR (ev_ifT (e1.trans (by rw [h1])) rfl)
    | false =>
      refine ev_seq (ev_ifF (e1.trans (by rw [h1])) rfl) ?_
      cases h2 : R.any (fun p => decide (p.2 = 0)) with
      | true =>
        rw [hall, h1, h2]
        exact ev_seqR (ev_ifT (e2.trans (by rw [h2])) rfl)
      | false =>
        refine ev_seq (ev_ifF (e2.trans (by rw [h2])) rfl) ?_
        rw [hall, h1, h2]
        rcases hloop with ⟨ha, ρ2, hg, s4, rfl⟩ | ⟨ha, hg⟩
        · rw [ha]
          exact ev_seq (show bLock 3 _ _ _ = _ from ev_for hkeys hg) rfl
        · rw [ha]
          exact ev_seqR (show bLock 3 _ _ _ = _ from ev_for hkeys hg)
  obtain ⟨o, k1, k2⟩ := key
  exact gOf_eq rfl k1 k2
end K15
end
section
set_option Elab.async false
set_option linter.all false
set_option maxRecDepth 100000
/-! Pe18: rows shown; all sums. -/
namespace K15
open PySem PySem.Spec PySem.W L2 Pd
variable [TB]
theorem lexLt_lt : ∀ a b : List Int, HT.lexLt a b = decide (a < b)
  | [], [] => by rw [HT.lexLt_nil_nil]; simp
  | [], y :: b => by rw [HT.lexLt_nil_cons]; simp
  | x :: a, [] => by rw [HT.lexLt_cons_nil]; simp
  | x :: a, y :: b => by
    rw [HT.lexLt_cons]
    by_cases e : x = y
    · subst e
      rw [if_pos rfl, lexLt_lt a b]
      simp
    · rw [if_neg e]
      simp [e, List.cons_lt_cons_iff]
theorem lt_of_le_ne {a b : List Int} (h : a ≤ b) (hne : a ≠ b) : a < b := Classical.byContradiction fun z => hne (List.le_antisymm h (List.not_lt.mp z))
def rowOk (F : List (List Int)) (p : Row) : Bool := !decide (p.2 = 0) && F.any fun o => sub p.1 o
theorem c_is_row {n : Int} {F : List (List Int)} {p : Row} (h : Fam n F) (hp : Lot n p.1) : g_is_row [cD n F, rD p] = some (.dat (.bool (rowOk F p))) := by
  have big : 2000000 ≤ sizeLine := by rw [sizeLine_eq]; decide
  have hf := h.few
  have h7 := hp.len h.n7
  have e1 : (mOr (mNot (mVal (mCall g_is_tuple (mCons (mVar 1) (mCons (mC (.int 2)) (mCons (mC (.int 2)) mNil)))))) (mOr (mNot (mVal (mCall g_is_lot (mCons (mOp fIx (mVar 0) (mC (.int 0))) (mCons (mOp fIx (mVar 1) (mC (.int 0))) mNil))))) (mNot (mVal (mCall g_is_whole (mCons (mOp fIx (mVar 1) (mC (.int 1))) mNil))))) : MT) [.dat (cD n F), .dat (rD p)] [] = some (false, []) := by
    refine or_is (a := false) (b := false) (not_is (b := true) (val_is (call3_is rfl rfl rfl rfl rfl rfl (is_tuple2 _ _)))) fun _ => or_is (a := false) (b := false) (not_is (b := true) (val_is (call2_is (op_is (z := .dat (.int n)) rfl rfl rfl) rfl (op_is (z := .dat (tI p.1)) rfl rfl rfl) rfl ?_))) fun _ => not_is (b := true) (val_is (call1_is (op_is (z := .dat (.int p.2)) rfl rfl rfl) rfl (c_is_whole p.2)))
    rw [c_is_lot n p.1 (by omega), hp.inR, hp.risb]
    rfl
  exact gOf_eq rfl (ev_seq (ev_ifF e1 rfl) (ev_ret (r := .dat (.bool (rowOk F p))) (andV_is (a := !decide (p.2 = 0)) (op_is (op_is (z := .dat (.int p.2)) rfl rfl rfl) rfl (enc_int.ne (by decide) rfl rfl)) fun _ => call2_is rfl rfl (op_is (z := .dat (tI p.1)) rfl rfl rfl) rfl (c_is_asked n F p.1 (by omega) (by omega))))) rfl
def showsB (F : List (List Int)) (R : List Row) : Bool := R.all (rowOk F) && (R.zip (R.drop 1)).all (fun q => decide (q.1.1 < q.2.1)) && (lots F).all fun l => decide (sumUp R l = 1)
theorem zipA_is {α : Type} {e : α → D} {l : List α} {i : Nat} {ρ : List Sl} (h : ρ[i]? = some (.dat (.tuple (l.map e)))) : mZipA (wCons (mVar i) (wCons (mSl (mVar i) (mPart (mC (.int 1))) mNoP) wNil)) ρ [] = some ((l.zip (l.drop 1)).map (fun p => .tuple [e p.1, e p.2]), []) := by
  have hv : (mVar i : MV) ρ [] = some (.dat (.tuple (l.map e)), []) := by unfold mVar; rw [h]
  have hw : (wCons (mVar i) (wCons (mSl (mVar i) (mPart (mC (.int 1))) mNoP) wNil) : MW) ρ [] = some ([.dat (.tuple (l.map e)), .dat (.tuple ((l.drop 1).map e))], []) := by
    have e : fSl (.dat (.tuple (l.map e))) (some 1) none = some (.dat (.tuple ((l.drop 1).map e))) := by
      show some (Rv.dat (.tuple (cutD (l.map e) (some 1) none))) = _
      rw [cut_from1, List.map_drop]
    exact w2_is hv (sl_from hv e)
  have e1 : mZip (wCons (mVar i) (wCons (mSl (mVar i) (mPart (mC (.int 1))) mNoP) wNil)) ρ [] = none := by
    unfold mZip; rw [hw]; rfl
  unfold mZipA
  rw [e1]
  show mZipT _ ρ [] = _
  unfold mZipT
  rw [hw]
  show some (zipD (l.map e) ((l.drop 1).map e), ([] : List Int)) = _
  unfold zipD
  rw [List.zipWith_map, List.zip, List.map_zipWith]
theorem ltT_is (a b : List Int) : fLtT (.dat (tI a)) (.dat (tI b)) = some (.dat (.bool (decide (a < b)))) := by
  have ea : (Rv.dat (tI a)).ints? = some a := intsA_map a
  have eb : (Rv.dat (tI b)).ints? = some b := intsA_map b
  unfold fLtT
  rw [ea, Option.bind_some, eb, Option.map_some, lexLt_lt]
theorem c_shows_sums {n : Int} {F : List (List Int)} {R : List Row} (h : Com n F) (hR : Rows n R) : g_shows_sums [cD n F, rsD R] = some (.dat (.bool (showsB F R))) := by
  have big : 2000000 ≤ sizeLine := by rw [sizeLine_eq]; decide
  have hs := h.toFam.small
  have hl := lots_len_eq F
  have hfew := hR.few
  have e1 : (mOr (mNot (mVal (mUn (fIsi "tuple") (mVar 1)))) (mNot (mVal (mCB (f1 fAll) (wCons (mLc (mSeq (mVar 1)) (gN 3) mYes (mCall g_is_row (mCons (mVar 0) (mCons (mVar 3) mNil))) [3]) wNil)))) : MT) [.dat (cD n F), .dat (rsD R), .un, .un, .un, .un, .un] [] = some (false || !R.all (rowOk F), []) :=
    or_is (not_is (b := true) (val_is (un_is rfl rfl))) fun _ => not_is (val_is (cb1_is (lc_all rD (fun p => .bool (rowOk F p)) R (seq_is rfl rfl) (fun p hp => ⟨_, rfl, _, call2_is rfl rfl rfl rfl (c_is_row h.toFam (hR.lot p hp)), rfl⟩) (by omega)) (all_is _ _)))
  have e2 : (mNot (mVal (mCB (f1 fAll) (wCons (mLc (mZipA (wCons (mVar 1) (wCons (mSl (mVar 1) (mPart (mC (.int 1))) mNoP) wNil))) (gN2 4 5) mYes (mOp fLtT (mOp fIx (mVar 4) (mC (.int 0))) (mOp fIx (mVar 5) (mC (.int 0)))) [4, 5]) wNil))) : MT) [.dat (cD n F), .dat (rsD R), .un, .un, .un, .un, .un] [] = some (!(R.zip (R.drop 1)).all (fun q => decide (q.1.1 < q.2.1)), []) :=
    not_is (val_is (cb1_is (lc_all (fun q : Row × Row => .tuple [rD q.1, rD q.2]) (fun q => .bool (decide (q.1.1 < q.2.1))) (R.zip (R.drop 1)) (zipA_is (e := rD) (l := R) rfl) (fun q _ => ⟨_, rfl, .dat (.bool (decide (q.1.1 < q.2.1))), op_is (op_is (z := .dat (tI q.1.1)) rfl rfl rfl) (op_is (z := .dat (tI q.2.1)) rfl rfl rfl) (ltT_is _ _), rfl⟩) (by rw [List.length_zip]; have := Nat.min_le_left R.length (R.drop 1).length; omega)) (all_is _ _)))
  have e3 : (mCB (f1 fAll) (wCons (mLc (mSeq (mCall g_lots_of (mCons (mVar 0) mNil))) (gN 2) mYes (mOp (fEq false) (mCB (f1 fSum) (wCons (mLc (mSeq (mVar 1)) (gN2 5 6) (mVal (mCall g_is_within (mCons (mVar 2) (mCons (mVar 5) mNil)))) (mVar 6) [5, 6]) wNil)) (mC (.int 1))) [2]) wNil) : MV) [.dat (cD n F), .dat (rsD R), .un, .un, .un, .un, .un] [] = some (.dat (.bool ((lots F).all fun l => decide (sumUp R l = 1))), []) := by
    refine cb1_is (lc_all tI (fun l => .bool (decide (sumUp R l = 1))) (lots F) (seq_is (call1_is rfl rfl (c_lots_of h.toFam)) rfl) (fun l hlm => ⟨_, rfl, .dat (.bool (decide (sumUp R l = 1))), ?_, rfl⟩) (by omega)) (all_is _ _)
    obtain ⟨m, hm, hsb⟩ := lots_mem.mp hlm
    have h7 := ((h.lot m hm).sub hsb).len h.n7
    exact op_is (x := .dat (.int (sumUp R l))) (cb1_is (lc_map rD (fun p => sub l p.1) (fun p => .int p.2) R (seq_is rfl rfl) (fun p _ => ⟨_, rfl, val_is (call2_is rfl rfl rfl rfl (c_is_within l p.1 (by omega))), fun _ => ⟨_, rfl, rfl⟩⟩) (by omega)) (sumR_is (fun p => sub l p.1) R)) rfl (enc_int.eq (by decide) rfl rfl)
  have key : m_shows_sums (startR ["company", "value", "lot", "row", "one", "other", "number"] [cD n F, rsD R]) [] = some (.rt (.dat (.bool (showsB F R))) []) := by
    refine ev_seq (ev_drop (call1_is rfl rfl (c_check_company h))) ?_
    unfold showsB
    cases h1 : R.all (rowOk F) with
    | false => exact ev_seqR (ev_ifT (e1.trans (by rw [h1]; rfl)) rfl)
    | true =>
      refine ev_seq (ev_ifF (e1.trans (by rw [h1]; rfl)) rfl) ?_
      cases h2 : (R.zip (R.drop 1)).all (fun q => decide (q.1.1 < q.2.1)) with
      | false => exact ev_seqR (ev_ifT (e2.trans (by rw [h2]; rfl)) rfl)
      | true => exact ev_seq (ev_ifF (e2.trans (by rw [h2]; rfl)) rfl) (ev_ret e3)
  exact gOf_eq rfl key rfl
/-! ### the two ways agree -/
theorem zip_asc : ∀ {R : List Row}, (R.zip (R.drop 1)).all (fun q => decide (q.1.1 < q.2.1)) = true ↔ (R.map (·.1)).Pairwise (· < ·)
  | [] => by simp
  | [a] => by simp
  | a :: b :: R => by
    have ih := zip_asc (R := b :: R)
    rw [List.drop_succ_cons, List.drop_zero] at ih ⊢
    rw [List.zip_cons_cons, List.all_cons, Bool.and_eq_true, ih, decide_eq_true_eq, List.map_cons (f := (·.1)) (a := a), List.pairwise_cons]
    refine ⟨fun ⟨h1, h2⟩ => ⟨fun x hx => ?_, h2⟩, fun ⟨h1, h2⟩ => ⟨h1 b.1 (by simp), h2⟩⟩
    rw [List.map_cons, List.mem_cons] at hx
    rcases hx with rfl | hx
    · exact h1
    · exact List.lt_trans h1 ((List.pairwise_cons.mp h2).1 x hx)
theorem setI_asc {l : List (List Int)} : l = setI l ↔ l.Pairwise (· < ·) := by
  refine ⟨fun h => ?_, fun h => ?_⟩
  · have h1 := setI_sorted l
    have h2 := setI_nodup l
    rw [← h] at h1 h2
    exact (h1.and h2).imp fun h => lt_of_le_ne h.1 h.2
  · exact (setI_of (h.imp fun h => List.le_of_lt h) (show l.Pairwise (· ≠ ·) from h.imp fun {a b} h => fun (e : a = b) => List.lt_irrefl b (by rw [e] at h; exact h)) fun x => Iff.rfl).symm
theorem mem_lots {n : Int} {F : List (List Int)} (hF : ∀ l ∈ F, Lot n l) {l : List Int} (hl : Lot n l) : l ∈ lots F ↔ (F.any fun o => sub l o) = true := by
  rw [lots_mem, List.any_eq_true]
  exact ⟨fun ⟨m, hm, hs⟩ => ⟨m, hm, (sub_sl hl.asc (hF m hm).asc).mpr hs⟩, fun ⟨m, hm, hs⟩ => ⟨m, hm, (sub_sl hl.asc (hF m hm).asc).mp hs⟩⟩
theorem shows_is {n : Int} {F : List (List Int)} {R : List Row} (hF : ∀ l ∈ F, Lot n l) (hR : Rows n R) : showsB F R = isSums F R := by
  unfold showsB isSums
  congr 1
  rw [Bool.eq_iff_iff]
  simp only [Bool.and_eq_true, Bool.not_eq_true', List.all_eq_true, List.any_eq_false, decide_eq_true_eq, List.contains_iff_mem, List.mem_map, forall_exists_index, and_imp, forall_apply_eq_imp_iff₂]
  have hz := zip_asc (R := R)
  rw [List.all_eq_true] at hz
  simp only [decide_eq_true_eq] at hz
  refine ⟨fun ⟨h1, h2⟩ => ⟨⟨setI_asc.mpr (hz.mp h2), fun p hp => ?_⟩, fun p hp => ?_⟩, fun ⟨⟨h1, h2⟩, h3⟩ => ⟨fun p hp => ?_, hz.mpr (setI_asc.mp h1)⟩⟩
  · have := h1 p hp
    unfold rowOk at this
    rw [Bool.and_eq_true] at this
    exact (mem_lots hF (hR.lot p hp)).mpr this.2
  · have := h1 p hp
    unfold rowOk at this
    rw [Bool.and_eq_true, Bool.not_eq_true', decide_eq_false_iff_not] at this
    exact this.1
  · unfold rowOk
    rw [Bool.and_eq_true, Bool.not_eq_true', decide_eq_false_iff_not]
    exact ⟨h3 p hp, (mem_lots hF (hR.lot p hp)).mp (h2 p hp)⟩
end K15
end
section
set_option Elab.async false
set_option linter.all false
set_option maxRecDepth 100000
/-! Pe19: all sums by the law; numbers checked. -/
namespace K15
open PySem PySem.Spec PySem.W L2 Pd
variable [TB]
def chi (F : List (List Int)) (l : List Int) : Int := sgnSum (lots (great (linkR F l)))
def allSums (F : List (List Int)) : List Row := ((Pd.sortI (lots F)).filter fun l => !decide (chi F l = 0)).map fun l => (l, chi F l)
theorem great_ne {F : List (List Int)} (hA : ∀ l ∈ F, Asc l) (hF : F ≠ []) : great F ≠ [] := fun e => by
  cases F with
  | nil => exact hF rfl
  | cons a F =>
    obtain ⟨o, ho, _⟩ := great_above hA List.mem_cons_self
    rw [e] at ho
    simp at ho
theorem linkR_ne {n : Int} {F : List (List Int)} (hF : ∀ l ∈ F, Lot n l) {l : List Int} (hl : l ∈ lots F) : linkR F l ≠ [] := fun e => by
  obtain ⟨m, hm, hs⟩ := lots_mem.mp hl
  unfold linkR at e
  have e := List.map_eq_nil_iff.mp e
  have : m ∈ F.filter (sub l) := List.mem_filter.mpr ⟨hm, (sub_sl ((hF m hm).asc.sublist hs) (hF m hm).asc).mpr hs⟩
  rw [e] at this
  simp at this
theorem lots_lot {n : Int} {F : List (List Int)} (hF : ∀ l ∈ F, Lot n l) {l : List Int} (hl : l ∈ lots F) : Lot n l := by
  obtain ⟨m, hm, hs⟩ := lots_mem.mp hl
  exact (hF m hm).sub hs
theorem sortI_mem {l : List (List Int)} {x : List Int} : x ∈ Pd.sortI l ↔ x ∈ l := by
  unfold Pd.sortI
  exact (List.mergeSort_perm _ _).mem_iff
theorem sortI_len (l : List (List Int)) : (Pd.sortI l).length = l.length := by unfold Pd.sortI; exact List.length_mergeSort ..
theorem link_com {n : Int} {F : List (List Int)} (h : Fam n F) (l : List Int) : Com n (great (linkR F l)) := great_com (linkR_fam h l) h.n1 h.n7
theorem link_ne {n : Int} {F : List (List Int)} (h : Fam n F) {l : List Int} (hl : l ∈ lots F) : great (linkR F l) ≠ [] := great_ne (fun o ho => (linkR_fam h l o ho).asc) (linkR_ne h.lot hl)
theorem c_law_all_sums {n : Int} {F : List (List Int)} (h : Fam n F) (hF : F ≠ []) : g_law_all_sums [cD n F] = some (.dat (rsD (allSums F))) := by
  have big : 2000000 ≤ sizeLine := by rw [sizeLine_eq]; decide
  have hs := h.small
  have hl := lots_len_eq F
  have hsl := sortI_len (lots F)
  obtain ⟨ρ2, h1, s2, s3, rfl⟩ := forGo_pre (α := List Int) (mg := gN 2) (p := []) (m := bSeq (bSet 3 (mCall g_law_signed (mCons (mCall g_law_link (mCons (mVar 0) (mCons (mVar 2) mNil))) mNil)))
      (bExt 1 (mIfE (mVal (mOp (fEq true) (mVar 3) (mC (.int 0)))) (mLst (mCons (mTup (mCons (mVar 2) (mCons (mVar 3) mNil))) mNil)) (mLst mNil))))
    (ρ := [.dat (cD n F), .lst [], .un, .un]) tI (fun done ρ => ∃ s2 s3, ρ = [.dat (cD n F), .lst (((done.filter fun l => !decide (chi F l = 0)).map fun l => (l, chi F l)).map rD), s2, s3]) (Pd.sortI (lots F)) ⟨_, _, rfl⟩ fun done l rest ρ' hk ⟨s2, s3, hρ⟩ => by
      subst hρ
      have hlm : l ∈ lots F := sortI_mem.mp (by rw [hk]; simp)
      have hll := lots_lot h.lot hlm
      have h7 := hll.len h.n7
      have hdl : done.length ≤ (Pd.sortI (lots F)).length := by rw [hk, List.length_append]; omega
      have hfl := List.length_filter_le (fun l => !decide (chi F l = 0)) done
      refine ⟨_, _, rfl, ev_seq (ev_set (call1_is (call2_is rfl rfl rfl rfl (c_law_link h (by omega))) rfl (c_law_signed (link_com h l).toFam (link_ne h hlm))) rfl) ?_, .dat (tI l), .dat (.int (chi F l)), rfl⟩
      have ht : (mVal (mOp (fEq true) (mVar 3) (mC (.int 0))) : MT) [.dat (cD n F), .lst (((done.filter fun l => !decide (chi F l = 0)).map fun l => (l, chi F l)).map rD), .dat (tI l), .dat (.int (chi F l))] [] = some (!decide (chi F l = 0), []) :=
        val_is (op_is rfl rfl (enc_int.ne (by decide) rfl rfl))
      rw [List.filter_append, List.map_append, List.map_append]
      by_cases hz : chi F l = 0
      · have e : (mIfE (mVal (mOp (fEq true) (mVar 3) (mC (.int 0)))) (mLst (mCons (mTup (mCons (mVar 2) (mCons (mVar 3) mNil))) mNil)) (mLst mNil) : MV) [.dat (cD n F), .lst (((done.filter fun l => !decide (chi F l = 0)).map fun l => (l, chi F l)).map rD), .dat (tI l), .dat (.int (chi F l))] [] = some (.lst [], []) := by
          unfold mIfE
          rw [ht, Option.bind_some, decide_eq_true hz]
          rfl
        rw [List.filter_cons_of_neg (by simp [hz])]
        exact ev_ext (xs := ((done.filter fun l => !decide (chi F l = 0)).map fun l => (l, chi F l)).map rD) rfl e rfl (by simp only [List.length_map, List.filter_nil, List.length_nil]; omega)
      · have e : (mIfE (mVal (mOp (fEq true) (mVar 3) (mC (.int 0)))) (mLst (mCons (mTup (mCons (mVar 2) (mCons (mVar 3) mNil))) mNil)) (mLst mNil) : MV) [.dat (cD n F), .lst (((done.filter fun l => !decide (chi F l = 0)).map fun l => (l, chi F l)).map rD), .dat (tI l), .dat (.int (chi F l))] [] = some (.lst [rD (l, chi F l)], []) := by
          unfold mIfE
          rw [ht, Option.bind_some, decide_eq_false hz]
          rfl
        rw [List.filter_cons_of_pos (by simp [hz])]
        exact ev_ext (xs := ((done.filter fun l => !decide (chi F l = 0)).map fun l => (l, chi F l)).map rD) rfl e rfl (by simp only [List.length_map, List.filter_nil, List.length_cons, List.length_nil]; omega)
  have hi : (mSeqF (mCB (f1 fSortedD) (wCons (mCall g_law_known_lots (mCons (mVar 0) mNil)) wNil)) : ML) [.dat (cD n F), .lst [], .un, .un] [] = some ((Pd.sortI (lots F)).map tI, []) := by
    refine seqF_is (r := .lst ((Pd.sortI (lots F)).map tI)) (cb1_is (call1_is (z := .dic (tt (lots F))) rfl rfl (c_law_known h hF)) ?_) rfl rfl
    unfold fSortedD
    show (if okSort (Pd.keyD (tt (lots F))) = true then some (Rv.lst (srtD (Pd.keyD (tt (lots F))))) else none) = _
    rw [keyD_tt, if_pos (okSort_tI _), srtD_tI]
  exact gOf_eq rfl (ev_seq (ev_set rfl rfl) (ev_seq (ev_for hi h1) (ev_ret (r := .dat (rsD (allSums F))) (cb1_is rfl rfl)))) rfl
theorem c_check_numbers {n : Int} {F : List (List Int)} {xs : List Int} (h : Com n F) (hx : xs.length = (lots F).length) : g_check_numbers [cD n F, tI xs] = some (.lst ((lots F).map tI)) := by
  have big : 2000000 ≤ sizeLine := by rw [sizeLine_eq]; decide
  have hs := h.toFam.small
  have hl := lots_len_eq F
  have hlen : fLen (.vls ((lots F).map tI)) = some (.dat (.int ((lots F).length : Nat))) := by
    show some (Rv.dat (.int (((lots F).map tI).length : Nat))) = _
    rw [List.length_map]
  have e1 : (mOr (mNot (mVal (mCall g_is_tuple (mCons (mVar 1) (mCons (mCB (f1 fLen) (wCons (mVar 2) wNil)) (mCons (mCB (f1 fLen) (wCons (mVar 2) wNil)) mNil)))))) (mNot (mVal (mCB (f1 fAll) (wCons (mLc (mSeq (mVar 1)) (gN 3) mYes (mCall g_is_whole (mCons (mVar 3) mNil)) [3]) wNil)))) : MT) [.dat (cD n F), .dat (tI xs), .lst ((lots F).map tI), .un] [] = some (false, []) := by
    refine or_is (a := false) (b := false) (not_is (b := true) (val_is (call3_is rfl rfl (cb1_is rfl hlen) rfl (cb1_is rfl hlen) rfl ?_))) fun _ => not_is (b := true) (val_is (cb1_is (lc_all (fun x => .int x) (fun x => .bool ((fun _ => true) x)) xs (seq_is rfl rfl) (fun x hx => ⟨_, rfl, .dat (.bool true), call1_is rfl rfl (c_is_whole x), rfl⟩) (by omega)) ?_))
    · rw [c_is_tuple, List.length_map, decide_eq_true (by omega), decide_eq_true (by omega)]
      rfl
    · rw [all_is]
      simp
  exact gOf_eq rfl (ev_seq (ev_drop (call1_is rfl rfl (c_check_company h))) (ev_seq (ev_set (call1_is rfl rfl (c_lots_of h.toFam)) rfl) (ev_seq (ev_ifF e1 rfl) (ev_ret rfl)))) rfl
end K15
end
section
set_option Elab.async false
set_option linter.all false
set_option maxRecDepth 100000
/-! Pe20: sums along the lots, guest by guest. -/
namespace K15
open PySem PySem.Spec PySem.W L2 Pd
variable [TB]
abbrev fD (L : List (List Int)) (f : List Int → Int) : List (List Int × D) := L.map fun l => (l, .int (f l))
theorem fD_iD (L : List (List Int)) (f : List Int → Int) : fD L f = iD (L.map fun l => (l, f l)) := by
  unfold fD iD
  rw [List.map_map]
  rfl
theorem kGet_fD {L : List (List Int)} {f : List Int → Int} {k : List Int} (h : k ∈ L) : kGet (fD L f) k = some (.int (f k)) := by
  unfold kGet
  induction L with
  | nil => simp at h
  | cons a L ih =>
    show (((a, PyData.int (f a)) :: fD L f).find? _).map _ = _
    rw [List.find?_cons]
    by_cases e : a = k
    · subst e; simp
    · simp only [e, decide_false]
      rcases List.mem_cons.mp h with q | q
      · exact absurd q.symm e
      · exact ih q
def updF (f : List Int → Int) (k : List Int) (v : Int) : List Int → Int := fun l => if l = k then v else f l
theorem kPut_fD {L : List (List Int)} {f : List Int → Int} {k : List Int} {v : Int} (h : k ∈ L) : kPut (fD L f) k (.int v) = fD L (updF f k v) := by
  unfold kPut
  have e : ((fD L f).any fun p => decide (p.1 = k)) = true := by
    rw [List.any_eq_true]
    exact ⟨_, List.mem_map.mpr ⟨k, h, rfl⟩, by simp⟩
  rw [e, if_pos rfl, List.map_map]
  apply List.map_congr_left
  intro a _
  show (if a = k then (a, PyData.int v) else (a, .int (f a))) = (a, .int (updF f k v a))
  unfold updF
  split <;> rfl
theorem fget_is {L : List (List Int)} {f : List Int → Int} {k : List Int} {md mk : MV} {ρ : List Sl} {pt p q : List Int} {r s : Rv} (hd : md ρ pt = some (r, p)) (hr : r.dc? = some (fD L f)) (hk : mk ρ p = some (s, q)) (hs : s.key? = some k) (hm : k ∈ L) : mDGet md mk ρ pt = some (.dat (.int (f k)), q) := by
  unfold mDGet
  rw [hd, Option.bind_some, hk, Option.bind_some, hr, Option.bind_some, hs, Option.bind_some, kGet_fD hm]
  rfl
/-- one pass along a guest -/
def pass (s g : Int) (f : List Int → Int) : List Int → Int := fun l => if l.contains g = true then f l + s * f (less l g) else f l
theorem less_no (l : List Int) (g : Int) : (less l g).contains g = false := by
  rw [Bool.eq_false_iff]
  intro h
  have := (List.mem_filter.mp (List.contains_iff_mem.mp h)).2
  simp at this
/-- the pass half done -/
def half (s g : Int) (f : List Int → Int) (done : List (List Int)) : List Int → Int := fun l => if done.contains l = true then pass s g f l else f l
theorem half_less {s g : Int} {f : List Int → Int} {done : List (List Int)} {l : List Int} : half s g f done (less l g) = f (less l g) := by
  unfold half pass
  rw [less_no]
  simp
theorem half_snoc {s g : Int} {f : List Int → Int} {done : List (List Int)} {l : List Int} (hn : l ∉ done) : half s g f (done ++ [l]) = if l.contains g = true then updF (half s g f done) l (half s g f done l + s * half s g f done (less l g)) else half s g f done := by
  have hc : done.contains l = false := by
    rw [Bool.eq_false_iff]
    exact fun z => hn (List.contains_iff_mem.mp z)
  have e0 : half s g f done l = f l := by unfold half; rw [hc]; rfl
  by_cases hg : l.contains g = true
  · rw [if_pos hg]
    funext x
    unfold updF
    by_cases e : x = l
    · subst e
      rw [if_pos rfl, e0, half_less]
      unfold half pass
      rw [if_pos (by simp), if_pos hg]
    · rw [if_neg e]
      unfold half
      have : (done ++ [l]).contains x = done.contains x := by simp [e]
      rw [this]
  · rw [if_neg hg]
    funext x
    by_cases e : x = l
    · subst e
      rw [e0]
      unfold half pass
      rw [if_neg hg]
      simp
    · unfold half
      have : (done ++ [l]).contains x = done.contains x := by simp [e]
      rw [this]
theorem half_nil (s g : Int) (f : List Int → Int) : half s g f [] = f := by
  funext x
  unfold half
  rfl
theorem half_all {s g : Int} {f : List Int → Int} {L : List (List Int)} {x : List Int} (h : x ∈ L) : half s g f L x = pass s g f x := by
  unfold half
  rw [if_pos (List.contains_iff_mem.mpr h)]
/-! ### sorted by size, greater first -/
def ltI (a b : List Int) : Bool := decide (negLen a ≤ negLen b)
def srtN (L : List (List Int)) : List (List Int) := L.mergeSort ltI
theorem alike_int (i j : Int) : alike (.int i) (.int j) = true := by simp [alike]
theorem le_int (i j : Int) : dataLe false id (.int i) (.int j) = decide (i ≤ j) := by
  rw [dataLe_eq]
  show (!dataLt (.int j) (.int i)) = _
  rw [dataLt_int]
  by_cases h : j < i
  · rw [decide_eq_true h, decide_eq_false (by omega)]; rfl
  · rw [decide_eq_false h, decide_eq_true (by omega)]; rfl
theorem okSort_ints {α : Type} (f : α → Int) (l : List α) : okSort (l.map fun a => .int (f a)) = true := by
  have lay : PyData.canLayAll0 (l.map fun a => PyData.int (f a)) = true := by
    rw [show (l.map fun a => PyData.int (f a)) = (l.map f).map .int by rw [List.map_map]; rfl]
    exact lay_intsL _
  unfold okSort
  simp only [Bool.and_eq_true, Bool.or_eq_true, List.all_eq_true, List.mem_map, forall_exists_index, and_imp, forall_apply_eq_imp_iff₂, decide_eq_true_eq]
  refine ⟨⟨⟨lay, fun a _ b _ => alike_int _ _⟩, fun a _ => ?_⟩, .inr fun a _ => ⟨rfl, rfl⟩⟩
  simp [PyData.depth]
theorem srtKD_int (L : List (List Int)) : srtKD (L.map tI) (L.map fun l => .int (negLen l)) = (srtN L).map tI := by
  unfold srtKD srtN
  have z : (L.map tI).zip (L.map fun l => PyData.int (negLen l)) = L.map fun k => (tI k, .int (negLen k)) := by
    rw [List.zip, List.zipWith_map]
    induction L with
    | nil => rfl
    | cons a l ih => rw [List.zipWith_cons_cons, ih]; rfl
  rw [z, ← List.map_mergeSort (r := ltI) (s := dataLe false fun p : D × D => p.2) (f := fun k => (tI k, PyData.int (negLen k))) fun a _ b _ => (le_int (negLen a) (negLen b)).symm, List.map_map]
  rfl
theorem srtN_perm (L : List (List Int)) : (srtN L).Perm L := List.mergeSort_perm _ _
end K15
end
section
set_option Elab.async false
set_option linter.all false
set_option maxRecDepth 100000
/-! Pe21: along, summed, unsummed. -/
namespace K15
open PySem PySem.Spec PySem.W L2 Pd
variable [TB]
def passes (s : Int) (gs : List Int) (f : List Int → Int) : List Int → Int := gs.foldl (fun f g => pass s g f) f
theorem fD_congr {L : List (List Int)} {f h : List Int → Int} (e : ∀ x ∈ L, f x = h x) : fD L f = fD L h := List.map_congr_left fun a ha => by rw [e a ha]
theorem key_neg1 (l : List Int) : lamKey ["one"] (mUn fNeg (mCB (f1 fLen) (wCons (mVar 0) wNil))) (tI l) = some (.int (negLen l)) := by
  unfold lamKey
  rw [show (mUn fNeg (mCB (f1 fLen) (wCons (mVar 0) wNil)) : MV) (startR ["one"] [tI l]) [] = some (.dat (.int (negLen l)), []) from un_is (cb1_is rfl (len_tI l)) rfl]
  rfl
theorem tupsO_map : ∀ L : List (List Int), mapO tupI? (L.map tI) = some L
  | [] => rfl
  | a :: L => by
    show (tupI? (tI a)).bind _ = _
    rw [show tupI? (tI a) = some a from intsA_map a, Option.bind_some]
    show (mapO tupI? (L.map tI)).map _ = _
    rw [tupsO_map L]
    rfl
theorem putAll_nodup {l : List (List Int × D)} (nd : (l.map (·.1)).Nodup) : putAll l = l := by
  have key : ∀ (l m : List (List Int × D)), (l.map (·.1)).Nodup → (∀ p ∈ l, p.1 ∉ m.map (·.1)) → l.foldl (fun m p => kPut m p.1 p.2) m = m ++ l := by
    intro l
    induction l with
    | nil => intro m _ _; simp
    | cons p l ih =>
      intro m nd h
      rw [List.map_cons, List.nodup_cons] at nd
      have hp : kPut m p.1 p.2 = m ++ [p] := by
        unfold kPut
        rw [if_neg]
        intro z
        obtain ⟨q, hq, e⟩ := List.any_eq_true.mp z
        exact h p List.mem_cons_self (List.mem_map.mpr ⟨q, hq, of_decide_eq_true e⟩)
      rw [List.foldl_cons, hp, ih _ nd.2 fun q hq hm => ?_]
      · simp
      · rw [List.map_append, List.mem_append] at hm
        rcases hm with hm | hm
        · exact h q (List.mem_cons_of_mem _ hq) hm
        · rw [List.map_singleton, List.mem_singleton] at hm
          exact nd.1 (List.mem_map.mpr ⟨q, hq, hm⟩)
  exact key l [] nd fun p _ => by simp
def mInner : MB := bIf (mVal (mOp (fIn false) (mVar 5) (mVar 6))) (bDPut 4 (mVar 6) (mOp fAdd3 (mDGet (mVar 4) (mVar 6)) (mOp (fIc cMul fun i j => i * j) (mVar 2) (mDGet (mVar 4) (mCB (f1 fTuple) (wCons (mLc (mSeq (mVar 6)) (gN 7) (mVal (mOp (fEq true) (mVar 7) (mVar 5))) (mVar 7) [7]) wNil)))))) bNext
def mMid : MB := bFor (mSeqF (mSrtK (lamKey ["one"] (mUn fNeg (mCB (f1 fLen) (wCons (mVar 0) wNil)))) (mVar 0))) (gN 6) mInner
theorem mMid_is {L : List (List Int)} {f : List Int → Int} {s g : Int} {c1 c3 s6 : Sl} (nd : L.Nodup) (hd : ∀ l ∈ L, ∀ g, less l g ∈ L) (hl : ∀ l ∈ L, l.length ≤ 1000) (hz : L.length ≤ 1000000) (hs : s = 1 ∨ s = -1) :
    ∃ s6', mMid [.dat (.list (L.map tI)), c1, .dat (.int s), c3, .dic (fD L f), .dat (.int g), s6, .un] [] = some (.nx [.dat (.list (L.map tI)), c1, .dat (.int s), c3, .dic (fD L (pass s g f)), .dat (.int g), s6', .un] []) := by
  have big : 2000000 ≤ sizeLine := by rw [sizeLine_eq]; decide
  have hps := srtN_perm L
  have hmem : ∀ x, x ∈ srtN L ↔ x ∈ L := fun x => hps.mem_iff
  obtain ⟨ρ2, h1, s6', rfl⟩ := forGo_pre (α := List Int) (mg := gN 6) (p := []) (m := mInner)
    (ρ := [.dat (.list (L.map tI)), c1, .dat (.int s), c3, .dic (fD L f), .dat (.int g), s6, .un]) tI (fun done ρ => ∃ s6, ρ = [.dat (.list (L.map tI)), c1, .dat (.int s), c3, .dic (fD L (half s g f done)), .dat (.int g), s6, .un]) (srtN L) ⟨s6, by rw [half_nil]⟩ fun done l rest ρ' hk ⟨s6, hρ⟩ => by
      subst hρ
      have hlm : l ∈ L := (hmem l).mp (by rw [hk]; simp)
      have hll := hl l hlm
      have hlm2 := hd l hlm g
      have hnot : l ∉ done := fun z => by
        have q := (hps.nodup_iff).mpr nd
        rw [hk] at q
        exact (List.nodup_append.mp q).2.2 l z l (by simp) rfl
      generalize hh : half s g f done = h
      have hnew := half_snoc (s := s) (g := g) (f := f) hnot
      rw [hh] at hnew
      have ht : (mVal (mOp (fIn false) (mVar 5) (mVar 6)) : MT) [.dat (.list (L.map tI)), c1, .dat (.int s), c3, .dic (fD L h), .dat (.int g), .dat (tI l), .un] [] = some (l.contains g, []) :=
        val_is (op_is rfl rfl (in_is false g l))
      by_cases hg : l.contains g = true
      · rw [if_pos hg] at hnew
        have e2 : (mOp (fIc cMul fun i j => i * j) (mVar 2) (mDGet (mVar 4) (mCB (f1 fTuple) (wCons (mLc (mSeq (mVar 6)) (gN 7) (mVal (mOp (fEq true) (mVar 7) (mVar 5))) (mVar 7) [7]) wNil))) : MV) [.dat (.list (L.map tI)), c1, .dat (.int s), c3, .dic (fD L h), .dat (.int g), .dat (tI l), .un] [] = some (.dat (.int (s * h (less l g))), []) := by
          refine op_is (x := .dat (.int s)) (y := .dat (.int (h (less l g)))) (p := []) rfl (fget_is (L := L) (f := h) (r := .vdc (fD L h)) (p := []) rfl rfl (tup_is (ns := less l g) (p := []) ?_) (key_tI _) hlm2) ?_
          · exact lc_map (fun x => .int x) (fun x => !decide (x = g)) (fun x => .int x) l (seq_is rfl rfl) (fun x _ => ⟨_, rfl, val_is (op_is rfl rfl (enc_int.ne (by decide) rfl rfl)), fun _ => ⟨_, rfl, rfl⟩⟩) (by omega)
          · show (if cMul _ _ = true then _ else _) = _
            rw [if_pos]
            unfold cMul s64
            rw [Bool.or_eq_true, Bool.and_eq_true]
            exact .inl ⟨decide_eq_true (by omega), decide_eq_true (by omega)⟩
        have e3 : (mOp fAdd3 (mDGet (mVar 4) (mVar 6)) (mOp (fIc cMul fun i j => i * j) (mVar 2) (mDGet (mVar 4) (mCB (f1 fTuple) (wCons (mLc (mSeq (mVar 6)) (gN 7) (mVal (mOp (fEq true) (mVar 7) (mVar 5))) (mVar 7) [7]) wNil)))) : MV) [.dat (.list (L.map tI)), c1, .dat (.int s), c3, .dic (fD L h), .dat (.int g), .dat (tI l), .un] [] = some (.dat (.int (h l + s * h (less l g))), []) :=
          op_is (x := .dat (.int (h l))) (fget_is (L := L) (f := h) (r := .vdc (fD L h)) (p := []) rfl rfl rfl (key_tI l) hlm) e2 rfl
        refine ⟨_, _, rfl, ev_ifT (ht.trans (by rw [hg])) (ev_dput e3 rfl rfl (key_tI l) rfl (by rw [List.length_map]; omega)), .dat (tI l), ?_⟩
        rw [kPut_fD hlm, hnew]
        rfl
      · rw [if_neg hg] at hnew
        refine ⟨_, _, rfl, ev_ifF (ht.trans (by rw [Bool.not_eq_true] at hg; rw [hg])) rfl, .dat (tI l), ?_⟩
        rw [hnew]
        rfl
  rw [fD_congr fun x hx => half_all (s := s) (g := g) (f := f) ((hmem x).mpr hx)] at h1
  refine ⟨s6', ev_for ?_ h1⟩
  refine seqF_is (r := .lst ((srtN L).map tI)) ?_ rfl rfl
  unfold mSrtK
  show ((mapO (lamKey ["one"] (mUn fNeg (mCB (f1 fLen) (wCons (mVar 0) wNil)))) (L.map tI)).bind _) = _
  rw [mapO_map (k := fun l => .int (negLen l)) L fun a _ => key_neg1 a, Option.bind_some, if_pos (okSort_ints negLen L), srtKD_int]
theorem passes_snoc (s : Int) (gs : List Int) (g : Int) (f : List Int → Int) : passes s (gs ++ [g]) f = pass s g (passes s gs f) := by
  unfold passes
  rw [List.foldl_append]
  rfl
theorem c_along {L : List (List Int)} {f : List Int → Int} {s n : Int} (nd : L.Nodup) (hd : ∀ l ∈ L, ∀ g, less l g ∈ L) (hl : ∀ l ∈ L, l.length ≤ 1000) (hz : L.length ≤ 1000000) (hs : s = 1 ∨ s = -1) (hn : n ≤ 7) (hn0 : 0 ≤ n) :
    g_along [.list (L.map tI), tI (L.map f), .int s, .int n] = some (.dat (tI (L.map (passes s ((List.range n.toNat).map Int.ofNat) f)))) := by
  have big : 2000000 ≤ sizeLine := by rw [sizeLine_eq]; decide
  obtain ⟨ρ2, h1, s5, s6, rfl⟩ := forGo_pre (α := Int) (mg := gN 5) (p := []) (m := mMid)
    (ρ := [.dat (.list (L.map tI)), .dat (tI (L.map f)), .dat (.int s), .dat (.int n), .dic (fD L f), .un, .un, .un]) (fun x => .int x) (fun done ρ => ∃ s5 s6, ρ = [.dat (.list (L.map tI)), .dat (tI (L.map f)), .dat (.int s), .dat (.int n), .dic (fD L (passes s done f)), s5, s6, .un]) ((List.range n.toNat).map Int.ofNat) ⟨_, _, rfl⟩ fun done g rest ρ' hk ⟨s5, s6, hρ⟩ => by
      subst hρ
      obtain ⟨s6', e⟩ := mMid_is (f := passes s done f) (g := g) (c1 := .dat (tI (L.map f))) (c3 := .dat (.int n)) (s6 := s6) nd hd hl hz hs
      refine ⟨_, _, rfl, e, .dat (.int g), s6', ?_⟩
      rw [passes_snoc]
  have ez : (mDZip (wCons (mVar 0) (wCons (mVar 1) wNil)) : MV) (startR ["lots", "numbers", "sign", "guests", "found", "guest", "lot", "one"] [.list (L.map tI), tI (L.map f), .int s, .int n]) [] = some (.dic (fD L f), []) := by
    unfold mDZip
    rw [w2_is (x := .dat (.list (L.map tI))) (y := .dat (tI (L.map f))) (p := []) (q := []) rfl rfl, Option.bind_some]
    show ((mapO tupI? (L.map tI)).bind _) = _
    rw [tupsO_map, Option.bind_some]
    show (if L.length = ((L.map f).map PyData.int).length then some (Rv.dic (putAll (L.zip ((L.map f).map PyData.int))), ([] : List Int)) else none) = _
    rw [if_pos (by rw [List.length_map, List.length_map]), List.map_map]
    have e : L.zip (L.map (PyData.int ∘ f)) = fD L f := by
      unfold fD
      have := List.zip_map' (f := (id : List Int → List Int)) (g := PyData.int ∘ f) (l := L)
      rw [List.map_id] at this
      rw [this]
      rfl
    rw [e, putAll_nodup (by rw [List.map_map]; show (L.map id).Nodup; rw [List.map_id]; exact nd)]
  have er : (mRg1 (wCons (mVar 3) wNil) : ML) [.dat (.list (L.map tI)), .dat (tI (L.map f)), .dat (.int s), .dat (.int n), .dic (fD L f), .un, .un, .un] [] = some (((List.range n.toNat).map Int.ofNat).map fun x => .int x, []) := by
    have h := rg1_is (me := mVar 3) (ρ := [.dat (.list (L.map tI)), .dat (tI (L.map f)), .dat (.int s), .dat (.int n), .dic (fD L f), .un, .un, .un]) (pt := []) (p := []) (j := n) rfl (by unfold small62; rw [Bool.and_eq_true]; exact ⟨decide_eq_true (by omega), decide_eq_true (by omega)⟩)
    rw [h]
    unfold rgD
    rw [Int.sub_zero, List.map_map]
    congr 2
    apply List.map_congr_left
    intro k _
    show PyData.int (0 + (k : Int)) = .int (Int.ofNat k)
    rw [Int.zero_add]
    rfl
  refine gOf_eq rfl (ev_seq (ev_set ez rfl) (ev_seq (ev_for er h1) (ev_ret (r := .dat (tI (L.map (passes s ((List.range n.toNat).map Int.ofNat) f)))) (tup_is (p := []) ?_)))) rfl
  rw [List.map_map]
  exact lc_all tI (fun l => .int (passes s ((List.range n.toNat).map Int.ofNat) f l)) L (seq_is rfl rfl) (fun l hlm => ⟨_, rfl, _, fget_is (L := L) (f := passes s ((List.range n.toNat).map Int.ofNat) f) rfl rfl rfl (key_tI l) hlm, rfl⟩) (by omega)
end K15
end
section
set_option Elab.async false
set_option linter.all false
set_option maxRecDepth 100000
/-! Pe22: summed, unsummed. -/
namespace K15
open PySem PySem.Spec PySem.W L2 Pd
variable [TB]
def gs (n : Int) : List Int := (List.range n.toNat).map Int.ofNat
theorem call4_is {g : List D → Option Rv} {ma mb mc md : MV} {ρ : List Sl} {pt p q q' q2 : List Int} {x y w v z : Rv} {d e f k : D} (ha : ma ρ pt = some (x, p)) (hd : x.fix? = some d) (hb : mb ρ p = some (y, q)) (he : y.fix? = some e) (hc : mc ρ q = some (w, q')) (hf : w.fix? = some f) (hm : md ρ q' = some (v, q2)) (hk : v.fix? = some k) (h : g [d, e, f, k] = some z) :
    mCall g (mCons ma (mCons mb (mCons mc (mCons md mNil)))) ρ pt = some (z, q2) := by
  unfold mCall mCons mNil
  rw [ha, Option.bind_some, hd, Option.bind_some, hb, Option.bind_some, he, Option.bind_some, hc, Option.bind_some, hf, Option.bind_some, hm, Option.bind_some, hk, Option.bind_some]
  show (g [d, e, f, k]).map _ = _
  rw [h]
  rfl
theorem lots_less {F : List (List Int)} : ∀ l ∈ lots F, ∀ g, less l g ∈ lots F := fun l hl g => by
  obtain ⟨m, hm, hs⟩ := lots_mem.mp hl
  exact lots_mem.mpr ⟨m, hm, List.filter_sublist.trans hs⟩
theorem lots_len7 {n : Int} {F : List (List Int)} (h : Fam n F) : ∀ l ∈ lots F, l.length ≤ 1000 := fun l hl => Nat.le_trans ((lots_lot h.lot hl).len h.n7) (by decide)
theorem lots_count {n : Int} {F : List (List Int)} (h : Fam n F) : (lots F).length ≤ 128 := lots7 (fun l hl => lots_lot h.lot hl) h.n7 (lots_nodup F)
theorem c_summed {n : Int} {F : List (List Int)} {f : List Int → Int} (h : Com n F) : g_summed [cD n F, tI ((lots F).map f)] = some (.dat (tI ((lots F).map (passes 1 (gs n) f)))) := by
  have h7 := h.n7
  have h1 := h.n1
  have hc := lots_count h.toFam
  exact gOf_eq rfl (ev_ret (r := .dat (tI ((lots F).map (passes 1 (gs n) f)))) (p := []) (call4_is (call2_is rfl rfl rfl rfl (c_check_numbers h (List.length_map ..))) rfl rfl rfl rfl rfl (op_is (z := .dat (.int n)) rfl rfl rfl) rfl (c_along (lots_nodup F) lots_less (lots_len7 h.toFam) (by omega) (.inl rfl) h7 (by omega)))) rfl
theorem c_unsummed {n : Int} {F : List (List Int)} {f : List Int → Int} (h : Com n F) : g_unsummed [cD n F, tI ((lots F).map f)] = some (.dat (tI ((lots F).map (passes (-1) (gs n) f)))) := by
  have h7 := h.n7
  have h1 := h.n1
  have hc := lots_count h.toFam
  exact gOf_eq rfl (ev_ret (r := .dat (tI ((lots F).map (passes (-1) (gs n) f)))) (p := []) (call4_is (call2_is rfl rfl rfl rfl (c_check_numbers h (List.length_map ..))) rfl rfl rfl (un_is (x := .dat (.int 1)) (z := .dat (.int (-1))) (p := []) rfl rfl) rfl (op_is (z := .dat (.int n)) rfl rfl rfl) rfl (c_along (lots_nodup F) lots_less (lots_len7 h.toFam) (by omega) (.inr rfl) h7 (by omega)))) rfl
end K15
end
section
set_option Elab.async false
set_option linter.all false
set_option maxRecDepth 100000
/-! Pe23: digits drawn. -/
namespace K15
open PySem PySem.Spec PySem.W L2 Pd
variable [TB]
/-- a pot from which at most k were drawn -/
def Pot (k : Nat) (pt : List Int) : Prop := ∃ a b c : Int, pt = [a, b, c] ∧ 0 ≤ a ∧ 0 ≤ b ∧ b < 2305843009213693951 ∧ 0 ≤ c ∧ c ≤ k
theorem Pot.mono {k j : Nat} {pt : List Int} (h : Pot k pt) (hk : k ≤ j) : Pot j pt := by
  obtain ⟨a, b, c, rfl, h1, h2, h3, h4, h5⟩ := h
  exact ⟨a, b, c, rfl, h1, h2, h3, h4, by omega⟩
theorem cMod_is {i j : Int} (hj : 0 < j) : fIc cMod (fun i j => i % j) (.dat (.int i)) (.dat (.int j)) = some (.dat (.int (i % j))) := by
  show (if cMod i j = true then _ else _) = _
  rw [if_pos (show cMod i j = true from decide_eq_true hj)]
theorem cDiv_is {i j : Int} (hj : 0 < j) (h2 : j < 1073741824) : fIc cDiv (fun i j => i / j) (.dat (.int i)) (.dat (.int j)) = some (.dat (.int (i / j))) := by
  show (if cDiv i j = true then _ else _) = _
  rw [if_pos (by unfold cDiv; rw [decide_eq_true hj, decide_eq_true h2]; rfl)]
theorem cMul_l {i j : Int} (h1 : -18446744073709551616 < i) (h2 : i < 18446744073709551616) : fIc cMul (fun i j => i * j) (.dat (.int i)) (.dat (.int j)) = some (.dat (.int (i * j))) := by
  show (if cMul i j = true then _ else _) = _
  rw [if_pos]
  unfold cMul s64
  rw [Bool.or_eq_true, Bool.and_eq_true]
  exact .inl ⟨decide_eq_true (by omega), decide_eq_true (by omega)⟩
theorem cMul_r {i j : Int} (h1 : -18446744073709551616 < j) (h2 : j < 18446744073709551616) : fIc cMul (fun i j => i * j) (.dat (.int i)) (.dat (.int j)) = some (.dat (.int (i * j))) := by
  show (if cMul i j = true then _ else _) = _
  rw [if_pos]
  unfold cMul s64
  rw [Bool.or_eq_true, Bool.and_eq_true, Bool.and_eq_true]
  exact .inr ⟨decide_eq_true (by omega), decide_eq_true (by omega)⟩
theorem add3_is (i j : Int) : fAdd3 (.dat (.int i)) (.dat (.int j)) = some (.dat (.int (i + j))) := rfl
theorem pow3_is {i : Int} (h0 : 0 ≤ i) (h : i < 2 ^ 100) : fIc cPowW (fun i j => i ^ j.toNat) (.dat (.int i)) (.dat (.int 3)) = some (.dat (.int (i ^ 3))) := by
  show (if cPowW i 3 = true then some (Rv.dat (PyData.int (i ^ (3 : Int).toNat))) else none) = _
  rw [if_pos]
  · rfl
  · unfold cPowW
    have hb : Builtin.Int.intBits i ≤ 1000 := by
      unfold Builtin.Int.intBits
      split
      · exact Nat.zero_le _
      · rename_i hne
        have hi : i.natAbs ≠ 0 := fun z => hne (by simp; omega)
        have : i.natAbs.log2 < 100 := (Nat.log2_lt hi).mpr (by omega)
        omega
    rw [Bool.and_eq_true]
    exact ⟨by decide, decide_eq_true (by omega)⟩
theorem c_law_take {k : Nat} {pt : List Int} {u : Int} (h : Pot k pt) (hk : k ≤ 1000000) (hu : 0 < u) (hu2 : u < 1000000) : ∃ (d : Int) (pt' : List Int), g_law_take [.int u] pt = some (.dat (.int d), pt') ∧ 0 ≤ d ∧ d < u ∧ Pot (k + 1) pt' := by
  obtain ⟨a, b, c, rfl, ha, hb, hb2, hc, hck⟩ := h
  have et : (mVal (mOp (fB fun i j => decide (j < i)) (mPotIx 0 0) (mC (.int 0))) : MT) [.pot, .dat (.int u), .un, .un, .un] [a, b, c] = some (decide (0 < a), [a, b, c]) := val_is (op_is rfl rfl rfl)
  by_cases h0 : 0 < a
  · refine ⟨a % u, [a / u, b, c], ?_, Int.emod_nonneg a (by omega), Int.emod_lt_of_pos a hu, a / u, b, c, rfl, Int.ediv_nonneg ha (by omega), hb, hb2, hc, by omega⟩
    refine gOfP_eq rfl (ev_seqR (ev_ifT (et.trans (by rw [decide_eq_true h0])) (ev_seq (ev_set (op_is (cb1_is (r := .dat (.int a)) (z := .dat (.int a)) rfl rfl) rfl (cMod_is hu)) rfl) (ev_seq (ρ' := [.pot, .dat (.int u), .un, .un, .dat (.int (a % u))]) (p := [a / u, b, c]) ?_ (ev_ret rfl))))) rfl
    unfold bPotSet
    show ((mOp (fIc cDiv fun i j => i / j) (mPotIx 0 0) (mVar 1) _ _).bind _) = _
    rw [op_is (x := .dat (.int a)) (y := .dat (.int u)) (p := [a, b, c]) (q := [a, b, c]) rfl rfl (cDiv_is hu (by omega)), Option.bind_some]
    rfl
  · have hprime : ∃ P : Int, (mOp fIx (mLst (mCons (mC (.int 2147483647)) (mCons (mC (.int 2147483629)) (mCons (mC (.int 2147483587)) (mCons (mC (.int 2147483579)) (mCons (mC (.int 2147483563)) mNil)))))) (mOp (fIc cMod fun i j => i % j) (mCB (f1 fInt) (wCons (mPotIx 0 2) wNil)) (mC (.int 5))) : MV) [.pot, .dat (.int u), .un, .un, .un] [a, b, c + 1] = some (.dat (.int P), [a, b, c + 1]) ∧ 0 < P ∧ P < 4294967296 := by
      have hm : 0 ≤ (c + 1) % 5 ∧ (c + 1) % 5 < 5 := ⟨Int.emod_nonneg _ (by omega), Int.emod_lt_of_pos _ (by omega)⟩
      have e1 : (mOp (fIc cMod fun i j => i % j) (mCB (f1 fInt) (wCons (mPotIx 0 2) wNil)) (mC (.int 5)) : MV) [.pot, .dat (.int u), .un, .un, .un] [a, b, c + 1] = some (.dat (.int ((c + 1) % 5)), [a, b, c + 1]) :=
        op_is (cb1_is (r := .dat (.int (c + 1))) (z := .dat (.int (c + 1))) rfl rfl) rfl (cMod_is (by decide))
      have hl : (mLst (mCons (mC (.int 2147483647)) (mCons (mC (.int 2147483629)) (mCons (mC (.int 2147483587)) (mCons (mC (.int 2147483579)) (mCons (mC (.int 2147483563)) mNil))))) : MV) [.pot, .dat (.int u), .un, .un, .un] [a, b, c + 1] = some (.lst [.int 2147483647, .int 2147483629, .int 2147483587, .int 2147483579, .int 2147483563], [a, b, c + 1]) := by
        have big : 2000000 ≤ sizeLine := by rw [sizeLine_eq]; decide
        show (if ([.int 2147483647, .int 2147483629, .int 2147483587, .int 2147483579, .int 2147483563] : List D).length ≤ sizeLine then some (Rv.lst [.int 2147483647, .int 2147483629, .int 2147483587, .int 2147483579, .int 2147483563], [a, b, c + 1]) else none) = _
        rw [if_pos (by simp; omega)]
      have hx : ∀ j : Int, 0 ≤ j → j < 5 → ∃ P : Int, fIx (.lst [.int 2147483647, .int 2147483629, .int 2147483587, .int 2147483579, .int 2147483563]) (.dat (.int j)) = some (.dat (.int P)) ∧ 0 < P ∧ P < 4294967296 := by
        intro j h1 h2
        have : j = 0 ∨ j = 1 ∨ j = 2 ∨ j = 3 ∨ j = 4 := by omega
        rcases this with rfl | rfl | rfl | rfl | rfl
        · exact ⟨2147483647, rfl, by decide, by decide⟩
        · exact ⟨2147483629, rfl, by decide, by decide⟩
        · exact ⟨2147483587, rfl, by decide, by decide⟩
        · exact ⟨2147483579, rfl, by decide, by decide⟩
        · exact ⟨2147483563, rfl, by decide, by decide⟩
      obtain ⟨P, q1, q2, q3⟩ := hx _ hm.1 hm.2
      exact ⟨P, op_is hl e1 q1, q2, q3⟩
    obtain ⟨P, hP, hP0, hP1⟩ := hprime
    let c1 := c + 1
    have hc1 : 0 < c1 ∧ c1 < 2000000 := ⟨by show 0 < c + 1; omega, by show c + 1 < 2000000; omega⟩
    let i := b + 63899 * c1 * c1 + 61
    have hsq : 63899 * c1 * c1 ≤ 63899 * 2000000 * 2000000 := Int.mul_le_mul (by omega) (by omega) (by omega) (by decide)
    have hsq0 : 0 ≤ 63899 * c1 * c1 := Int.mul_nonneg (by omega) (by omega)
    have hi0 : 0 ≤ i := by show 0 ≤ b + 63899 * c1 * c1 + 61; omega
    have hi1 : i < 2 ^ 100 := by show b + 63899 * c1 * c1 + 61 < 2 ^ 100; omega
    have hM0 : 0 ≤ i ^ 3 % P := Int.emod_nonneg _ (by omega)
    have hM1 : i ^ 3 % P < P := Int.emod_lt_of_pos _ hP0
    have e4 : (mOp (fIc cMod fun i j => i % j) (mOp (fIc cPowW fun i j => i ^ j.toNat) (mCB (f1 fInt) (wCons (mOp fAdd3 (mOp fAdd3 (mPotIx 0 1) (mOp (fIc cMul fun i j => i * j) (mOp (fIc cMul fun i j => i * j) (mC (.int 63899)) (mPotIx 0 2)) (mPotIx 0 2))) (mC (.int 61))) wNil)) (mC (.int 3))) (mVar 2) : MV) [.pot, .dat (.int u), .dat (.int P), .un, .un] [a, b, c1] = some (.dat (.int (i ^ 3 % P)), [a, b, c1]) :=
      op_is (op_is (cb1_is (r := .dat (.int i)) (z := .dat (.int i)) (op_is (op_is (x := .dat (.int b)) (y := .dat (.int (63899 * c1 * c1))) (p := [a, b, c1]) (q := [a, b, c1]) rfl (op_is (x := .dat (.int (63899 * c1))) (y := .dat (.int c1)) (p := [a, b, c1]) (q := [a, b, c1]) (op_is (x := .dat (.int 63899)) (y := .dat (.int c1)) (p := [a, b, c1]) rfl rfl (cMul_l (by decide) (by decide))) rfl (cMul_r (by omega) (by omega))) (add3_is _ _)) rfl (add3_is _ _)) rfl) rfl (pow3_is hi0 hi1)) rfl (cMod_is hP0)
    let M := i ^ 3 % P
    have e5 : (mOp (fIc cMod fun i j => i % j) (mOp (fIc cDiv fun i j => i / j) (mOp (fIc cMod fun i j => i % j) (mCB (f1 fInt) (wCons (mOp (fIc cMul fun i j => i * j) (mVar 3) (mOp fAdd3 (mOp (fIc cMod fun i j => i % j) (mCB (f1 fInt) (wCons (mVar 3) wNil)) (mC (.int 10007))) (mOp (fIc cMul fun i j => i * j) (mC (.int 161)) (mPotIx 0 2)))) wNil)) (mC (.int 2305843009213693951))) (mC (.int 97))) (mVar 1) : MV) [.pot, .dat (.int u), .dat (.int P), .dat (.int M), .un] [a, b, c1] = some (.dat (.int (M * (M % 10007 + 161 * c1) % 2305843009213693951 / 97 % u)), [a, b, c1]) := by
      have q1 : (mOp (fIc cMul fun i j => i * j) (mVar 3) (mOp fAdd3 (mOp (fIc cMod fun i j => i % j) (mCB (f1 fInt) (wCons (mVar 3) wNil)) (mC (.int 10007))) (mOp (fIc cMul fun i j => i * j) (mC (.int 161)) (mPotIx 0 2))) : MV) [.pot, .dat (.int u), .dat (.int P), .dat (.int M), .un] [a, b, c1] = some (.dat (.int (M * (M % 10007 + 161 * c1))), [a, b, c1]) :=
        op_is (x := .dat (.int M)) (y := .dat (.int (M % 10007 + 161 * c1))) (p := [a, b, c1]) (q := [a, b, c1]) rfl (op_is (x := .dat (.int (M % 10007))) (y := .dat (.int (161 * c1))) (p := [a, b, c1]) (q := [a, b, c1]) (op_is (cb1_is (r := .dat (.int M)) (z := .dat (.int M)) rfl rfl) rfl (cMod_is (by decide))) (op_is (x := .dat (.int 161)) (y := .dat (.int c1)) (p := [a, b, c1]) rfl rfl (cMul_l (by decide) (by decide))) (add3_is _ _)) (cMul_l (by show -18446744073709551616 < i ^ 3 % P; omega) (by show i ^ 3 % P < 18446744073709551616; omega))
      exact op_is (op_is (op_is (cb1_is (r := .dat (.int (M * (M % 10007 + 161 * c1)))) (z := .dat (.int (M * (M % 10007 + 161 * c1)))) q1 rfl) rfl (cMod_is (by decide))) rfl (cDiv_is (by decide) (by decide))) rfl (cMod_is hu)
    refine ⟨M * (M % 10007 + 161 * c1) % 2305843009213693951 / 97 % u, [a, b, c1], ?_, Int.emod_nonneg _ (by omega), Int.emod_lt_of_pos _ hu, a, b, c1, rfl, ha, hb, hb2, by omega, by show c + 1 ≤ _; omega⟩
    exact gOfP_eq rfl (ev_seq (ev_ifF (et.trans (by rw [decide_eq_false h0])) rfl) (ev_seq (ρ' := [.pot, .dat (.int u), .un, .un, .un]) (p := [a, b, c1]) rfl (ev_seq (ev_set hP rfl) (ev_seq (ev_set e4 rfl) (ev_ret e5))))) rfl
end K15
end
section
set_option Elab.async false
set_option linter.all false
set_option maxRecDepth 100000
/-! Pe24: drawn one by one: of, stir. -/
namespace K15
open PySem PySem.Spec PySem.W L2 Pd
variable [TB]
section
variable {α : Type} {mg : MG} {m : MB} {ρ : List Sl} {p : List Int}
/-- a loop that draws from the pot -/
theorem forGo_inv (e : α → D) (Rel : List α → List Sl → List Int → Prop) (ks : List α) (h0 : Rel [] ρ p) (h : ∀ (done : List α) (k : α) (rest : List α) (ρ' : List Sl) (p' : List Int), ks = done ++ k :: rest → Rel done ρ' p' → ∃ ρ1 ρ2 p2, mg (e k) ρ' = some ρ1 ∧ m ρ1 p' = some (.nx ρ2 p2) ∧ Rel (done ++ [k]) ρ2 p2) :
    ∃ ρ2 p2, forGo mg m (ks.map e) ρ p = some (.nx ρ2 p2) ∧ Rel ks ρ2 p2 := by
  have key : ∀ (rest done : List α) (ρ : List Sl) (p : List Int), ks = done ++ rest → Rel done ρ p → ∃ ρ2 p2, forGo mg m (rest.map e) ρ p = some (.nx ρ2 p2) ∧ Rel ks ρ2 p2 := by
    intro rest
    induction rest with
    | nil =>
      intro done ρ p hk hR
      rw [List.append_nil] at hk
      subst hk
      exact ⟨ρ, p, rfl, hR⟩
    | cons k rest ih =>
      intro done ρ p hk hR
      obtain ⟨ρ1, ρ2, p2, h1, h2, h3⟩ := h done k rest ρ p hk hR
      obtain ⟨ρ3, p3, h4, h5⟩ := ih (done ++ [k]) ρ2 p2 (by simp [hk]) h3
      refine ⟨ρ3, p3, ?_, h5⟩
      rw [List.map_cons]
      unfold forGo
      rw [h1, Option.bind_some, h2, Option.bind_some]
      exact h4
  exact key ks [] ρ p rfl h0
end
theorem callP1_is {i : Nat} {g : List D → List Int → Option (Rv × List Int)} {ma : MV} {ρ : List Sl} {pt p p2 : List Int} {x z : Rv} {d : D} (hi : ρ[i]? = some .pot) (ha : ma ρ pt = some (x, p)) (hd : x.fix? = some d) (h : g [d] p = some (z, p2)) : mCallP i g (mCons ma mNil) ρ pt = some (z, p2) := by
  unfold mCallP
  rw [hi]
  show ((mCons ma mNil ρ pt).bind _) = _
  unfold mCons mNil
  rw [ha, Option.bind_some, hd, Option.bind_some]
  exact h
theorem callP2_is {i : Nat} {g : List D → List Int → Option (Rv × List Int)} {ma mb : MV} {ρ : List Sl} {pt p q p2 : List Int} {x y z : Rv} {d e : D} (hi : ρ[i]? = some .pot) (ha : ma ρ pt = some (x, p)) (hd : x.fix? = some d) (hb : mb ρ p = some (y, q)) (he : y.fix? = some e) (h : g [d, e] q = some (z, p2)) : mCallP i g (mCons ma (mCons mb mNil)) ρ pt = some (z, p2) := by
  unfold mCallP
  rw [hi]
  show ((mCons ma (mCons mb mNil) ρ pt).bind _) = _
  unfold mCons mNil
  rw [ha, Option.bind_some, hd, Option.bind_some, hb, Option.bind_some, he, Option.bind_some]
  exact h
theorem c_law_of {k : Nat} {pt : List Int} {l : List D} (h : Pot k pt) (hk : k ≤ 1000000) (hl : l ≠ []) (hz : l.length < 1000000) : ∃ (x : D) (pt' : List Int), g_law_of [.list l] pt = some (.dat x, pt') ∧ x ∈ l ∧ Pot (k + 1) pt' := by
  have hpos := List.length_pos_iff.mpr hl
  obtain ⟨d, pt', h1, h2, h3, h4⟩ := c_law_take (u := (l.length : Int)) h hk (by omega) (by omega)
  have hx : l[d.toNat]? = some l[d.toNat] := List.getElem?_eq_getElem (by omega)
  refine ⟨l[d.toNat], pt', ?_, List.getElem_mem _, h4⟩
  exact gOfP_eq rfl (ev_ret (r := .dat l[d.toNat]) (p := pt') (op_is (x := .dat (.list l)) (p := pt) (y := .dat (.int d)) (q := pt') rfl (callP1_is (x := .dat (.int (l.length : Nat))) (p := pt) rfl (cb1_is rfl rfl) rfl h1) (by show ((atI l d).map Rv.dat) = _; rw [atI_get h2 hx]; rfl))) rfl
theorem ev_appPop {i j : Nat} {me : MV} {ρ : List Sl} {pt p : List Int} {xs ys : List D} {n : Int} {d : D} (hij : i ≠ j) (hi : ρ[i]? = some (.lst xs)) (hj : ρ[j]? = some (.lst ys)) (h : me ρ pt = some (.dat (.int n), p)) (h0 : 0 ≤ n) (hn : n < ys.length) (hz : xs.length < sizeLine) (hb : n < 4611686018427387904) (hd : ys[n.toNat]? = some d) :
    bAppPop i j me ρ pt = some (.nx ((ρ.set j (.lst (ys.eraseIdx n.toNat))).set i (.lst (xs ++ [d]))) p) := by
  unfold bAppPop
  rw [if_neg hij, hi, hj]
  show ((me ρ pt).bind _) = _
  rw [h, Option.bind_some]
  show (if _ then _ else _) = _
  rw [if_pos ⟨h0, hn, hz, hb⟩, hd]
  rfl
theorem erase_perm {α : Type} : ∀ {l : List α} {i : Nat} {d : α}, l[i]? = some d → (d :: l.eraseIdx i).Perm l
  | [], i, d, h => by simp at h
  | a :: l, 0, d, h => by
    have : a = d := by simpa using h
    subst this
    exact List.Perm.refl _
  | a :: l, i + 1, d, h => by
    have := erase_perm (l := l) (i := i) (d := d) (by simpa using h)
    exact (List.Perm.swap a d _).trans (this.cons a)
theorem c_law_stir {k : Nat} {pt : List Int} {l : List D} (h : Pot k pt) (hk : k + l.length < 1000000) : ∃ (l2 : List D) (pt' : List Int), g_law_stir [.list l] pt = some (.lst l2, pt') ∧ l2.Perm l ∧ Pot (k + l.length) pt' := by
  have big : 2000000 ≤ sizeLine := by rw [sizeLine_eq]; decide
  obtain ⟨ρ2, p2, h1, s2, left, found, rfl, hp, hlen, hpot⟩ := forGo_inv (α := Nat) (mg := gN 2) (p := pt) (m := bAppPop 4 3 (mCallP 0 g_law_take (mCons (mCB (f1 fLen) (wCons (mVar 3) wNil)) mNil)))
    (ρ := [.pot, .dat (.list l), .un, .lst l, .lst []]) (fun i => .int (0 + (i : Int))) (fun done ρ p => ∃ s2 left found, ρ = [.pot, .dat (.list l), s2, .lst left, .lst found] ∧ (found ++ left).Perm l ∧ found.length = done.length ∧ Pot (k + done.length) p) (List.range l.length) ⟨_, l, [], rfl, List.Perm.refl _, rfl, h⟩ fun done i rest ρ' p' hl ⟨s2, left, found, hρ, hp, hlen, hpot⟩ => by
      subst hρ
      have e1 := congrArg List.length hl
      rw [List.length_range, List.length_append, List.length_cons] at e1
      have e2 := hp.length_eq
      rw [List.length_append] at e2
      obtain ⟨d, pt', q1, q2, q3, q4⟩ := c_law_take (u := (left.length : Int)) hpot (by omega) (by omega) (by omega)
      have hx : left[d.toNat]? = some left[d.toNat] := List.getElem?_eq_getElem (by omega)
      refine ⟨_, _, _, rfl, ev_appPop (by decide) rfl rfl (callP1_is (x := .dat (.int (left.length : Nat))) (p := p') rfl (cb1_is rfl rfl) rfl q1) q2 q3 (by omega) (by omega) hx, _, left.eraseIdx d.toNat, found ++ [left[d.toNat]], rfl, ?_, ?_, ?_⟩
      · rw [List.append_assoc]
        exact ((erase_perm hx).append_left found).trans hp
      · rw [List.length_append, List.length_append, hlen]; rfl
      · rw [List.length_append, List.length_singleton]
        exact q4.mono (by omega)
  have hle : left = [] := by
    have e2 := hp.length_eq
    rw [List.length_append, hlen, List.length_range] at e2
    exact List.eq_nil_of_length_eq_zero (by omega)
  subst hle
  rw [List.append_nil] at hp
  rw [List.length_range] at hpot
  refine ⟨found, p2, ?_, hp, hpot⟩
  have er : (mRg1 (wCons (mCB (f1 fLen) (wCons (mVar 3) wNil)) wNil) : ML) [.pot, .dat (.list l), .un, .lst l, .lst []] pt = some ((List.range l.length).map fun i => .int (0 + (i : Int)), pt) := by
    rw [rg1_is (j := (l.length : Int)) (p := pt) (cb1_is (r := .vls l) rfl rfl) (by unfold small62; rw [Bool.and_eq_true]; exact ⟨decide_eq_true (by omega), decide_eq_true (by omega)⟩)]
    unfold rgD
    rw [Int.sub_zero, Int.toNat_natCast]
  exact gOfP_eq rfl (ev_seq (ev_par (x := .lst l) (y := .lst []) (p := pt) (q := pt) (cb1_is (r := .dat (.list l)) rfl rfl) rfl rfl rfl) (ev_seq (ev_for er h1) (ev_ret rfl))) rfl
end K15
end
section
set_option Elab.async false
set_option linter.all false
set_option maxRecDepth 100000
/-! Pe25: a company drawn. -/
namespace K15
open PySem PySem.Spec PySem.W L2 Pd
variable [TB]
def leZ (a b : Int) : Bool := decide (a ≤ b)
def sortZ (l : List Int) : List Int := l.mergeSort leZ
theorem srtD_ints (l : List Int) : srtD (l.map .int) = (sortZ l).map .int := by
  unfold srtD sortZ
  rw [← List.map_mergeSort (r := leZ) (s := dataLe false id) (f := PyData.int) fun a _ b _ => (le_int a b).symm]
theorem sortZ_asc {l : List Int} (nd : l.Nodup) : Asc (sortZ l) := by
  have h1 : (sortZ l).Pairwise fun a b => leZ a b = true := List.pairwise_mergeSort (le := leZ) (fun a b c h1 h2 => show leZ a c = true from decide_eq_true (Int.le_trans (of_decide_eq_true h1) (of_decide_eq_true h2))) (fun a b => by
    unfold leZ
    rw [Bool.or_eq_true, decide_eq_true_eq, decide_eq_true_eq]
    omega) l
  have h2 : (sortZ l).Nodup := (List.mergeSort_perm l leZ).nodup_iff.mpr nd
  exact (h1.and h2).imp fun {a b} h => by
    have := of_decide_eq_true h.1
    have := h.2
    omega
theorem cut_sub (xs : List D) (lo hi : Option Int) : (cutD xs lo hi).Sublist xs := by
  unfold cutD
  exact (List.take_sublist _ _).trans (List.drop_sublist _ _)
theorem sub_map_ints {n : Nat} {xs : List D} (h : ∃ ns : List Int, xs = ns.map .int ∧ ns.Nodup ∧ ∀ x ∈ ns, 0 ≤ x ∧ x < n) {ys : List D} (hs : ys.Sublist xs) : ∃ ns : List Int, ys = ns.map .int ∧ ns.Nodup ∧ ∀ x ∈ ns, 0 ≤ x ∧ x < n := by
  obtain ⟨ns, rfl, nd, hr⟩ := h
  obtain ⟨ms, hm, rfl⟩ := List.sublist_map_iff.mp hs
  exact ⟨ms, rfl, hm.nodup nd, fun x hx => hr x (hm.subset hx)⟩
/-- a sorted part of a stirred range is a lot -/
theorem stir_lot {n : Nat} {xs l2 : List D} (hp : l2.Perm ((List.range n).map fun (i : Nat) => PyData.int (0 + (i : Int)))) (hs : xs.Sublist l2) : okSort xs = true ∧ ∃ l : List Int, srtD xs = l.map .int ∧ Lot n l := by
  have h2 : ∃ ns : List Int, l2 = ns.map .int ∧ ns.Nodup ∧ ∀ x ∈ ns, 0 ≤ x ∧ x < n := by
    have hall : ∀ d ∈ l2, ∃ i : Int, d = .int i := fun d hd => by
      obtain ⟨i, _, rfl⟩ := List.mem_map.mp (hp.mem_iff.mp hd)
      exact ⟨_, rfl⟩
    have hex : ∀ l : List D, (∀ d ∈ l, ∃ i : Int, d = .int i) → ∃ ns : List Int, l = ns.map .int := by
      intro l
      induction l with
      | nil => intro _; exact ⟨[], rfl⟩
      | cons a l ih =>
        intro h
        obtain ⟨i, rfl⟩ := h a List.mem_cons_self
        obtain ⟨ns, rfl⟩ := ih fun d hd => h d (List.mem_cons_of_mem _ hd)
        exact ⟨i :: ns, rfl⟩
    obtain ⟨ns, rfl⟩ := hex l2 hall
    refine ⟨ns, rfl, ?_, fun x hx => ?_⟩
    · have nd : ((List.range n).map fun i : Nat => PyData.int (0 + (i : Int))).Nodup := List.pairwise_map.mpr (List.nodup_range.imp fun {a b} hne e => hne (by injection e; omega))
      have := (hp.nodup_iff).mpr nd
      exact (List.pairwise_map.mp this).imp fun {a b} hne e => hne (by rw [e])
    · have := hp.mem_iff.mp (List.mem_map.mpr ⟨x, hx, rfl⟩)
      obtain ⟨i, hi, e⟩ := List.mem_map.mp this
      have := List.mem_range.mp hi
      injection e with e
      omega
  obtain ⟨ns, rfl, nd, hr⟩ := sub_map_ints h2 hs
  refine ⟨okSort_ints id ns, sortZ ns, srtD_ints ns, sortZ_asc nd, fun x hx => ?_, fun x hx => ?_⟩
  · exact (hr x ((List.mergeSort_perm ns leZ).mem_iff.mp hx)).1
  · exact (hr x ((List.mergeSort_perm ns leZ).mem_iff.mp hx)).2
theorem sl_to {me mh : MV} {ρ : List Sl} {pt p q : List Int} {xs : List D} {j : Int} (ha : me ρ pt = some (.lst xs, p)) (hj : mh ρ p = some (.dat (.int j), q)) : mSl me mNoP (mPart mh) ρ pt = some (.lst (cutD xs none (some j)), q) := by
  unfold mSl mNoP mPart
  rw [ha, Option.bind_some, Option.bind_some, hj]
  rfl
theorem c_law_drawn {k : Nat} {pt : List Int} {lo hi : Int} (h : Pot k pt) (hk : k ≤ 100000) (h1 : 1 ≤ lo) (h2 : lo ≤ hi) (h7 : hi ≤ 7) : ∃ (n : Int) (X : List (List Int)) (pt' : List Int), g_law_drawn [.int lo, .int hi] pt = some (.dat (cD n (great X)), pt') ∧ lo ≤ n ∧ n ≤ hi ∧ (∀ l ∈ X, Lot n l) ∧ X ≠ [] ∧ X.length ≤ 21 ∧ Pot (k + 1000) pt' := by
  have big : 2000000 ≤ sizeLine := by rw [sizeLine_eq]; decide
  obtain ⟨d, p1, a1, a2, a3, a4⟩ := c_law_take (u := hi - lo + 1) h (by omega) (by omega) (by omega)
  obtain ⟨x, p2, b1, b2, b3⟩ := c_law_of (l := [.int 2, .int 3, .int 3, .int 4]) a4 (by omega) (by simp) (by simp)
  obtain ⟨z, rfl, hz0, hz4⟩ : ∃ z : Int, x = .int z ∧ 2 ≤ z ∧ z ≤ 4 := by
    simp only [List.mem_cons, List.not_mem_nil, or_false] at b2
    rcases b2 with rfl | rfl | rfl | rfl
    · exact ⟨2, rfl, by decide, by decide⟩
    · exact ⟨3, rfl, by decide, by decide⟩
    · exact ⟨3, rfl, by decide, by decide⟩
    · exact ⟨4, rfl, by decide, by decide⟩
  have hn : ∃ n : Int, n = lo + d := ⟨_, rfl⟩
  obtain ⟨n, en⟩ := hn
  have hn7 : n ≤ 7 := by omega
  have hn1 : 1 ≤ n := by omega
  obtain ⟨t, p3, c1, c2, c3, c4⟩ := c_law_take (u := 3 * n) b3 (by omega) (by omega) (by omega)
  have hpar : (bPar 5 6 (mOp fAdd3 (mVar 1) (mCallP 0 g_law_take (mCons (mOp fAdd3 (mOp (fI fun i j => i - j) (mVar 2) (mVar 1)) (mC (.int 1))) mNil))) (mCallP 0 g_law_of (mCons (mLst (mCons (mC (.int 2)) (mCons (mC (.int 3)) (mCons (mC (.int 3)) (mCons (mC (.int 4)) mNil))))) mNil)) : MB)
      [.pot, .dat (.int lo), .dat (.int hi), .un, .un, .un, .un, .un] pt = some (.nx [.pot, .dat (.int lo), .dat (.int hi), .un, .un, .dat (.int n), .dat (.int z), .un] p2) := by
    have e1 : (mOp fAdd3 (mVar 1) (mCallP 0 g_law_take (mCons (mOp fAdd3 (mOp (fI fun i j => i - j) (mVar 2) (mVar 1)) (mC (.int 1))) mNil)) : MV) [.pot, .dat (.int lo), .dat (.int hi), .un, .un, .un, .un, .un] pt = some (.dat (.int n), p1) := by
      rw [en]
      exact op_is (x := .dat (.int lo)) (y := .dat (.int d)) (p := pt) rfl (callP1_is (x := .dat (.int (hi - lo + 1))) (p := pt) rfl (op_is (x := .dat (.int (hi - lo))) (y := .dat (.int 1)) (p := pt) (op_is rfl rfl rfl) rfl rfl) rfl a1) rfl
    have hl : (mLst (mCons (mC (.int 2)) (mCons (mC (.int 3)) (mCons (mC (.int 3)) (mCons (mC (.int 4)) mNil)))) : MV) [.pot, .dat (.int lo), .dat (.int hi), .un, .un, .un, .un, .un] p1 = some (.lst [.int 2, .int 3, .int 3, .int 4], p1) := by
      show (if ([.int 2, .int 3, .int 3, .int 4] : List D).length ≤ sizeLine then some (Rv.lst [.int 2, .int 3, .int 3, .int 4], p1) else none) = _
      rw [if_pos (by simp; omega)]
    exact ev_par e1 (callP1_is rfl hl rfl b1) rfl rfl
  obtain ⟨ρ2, p4, d1, s4, s7, X, rfl, hXl, hXn, hXp⟩ := forGo_inv (α := Nat) (mg := gN 4) (p := p3) (m := bSeq (bSet 7 (mCB (f2 (fI fun i j => if j < i then j else i)) (wCons (mVar 5) (wCons (mOp (fI fun i j => i - j) (mVar 6) (mCB (f1 fInt) (wCons (mOp (fEq false) (mCallP 0 g_law_take (mCons (mC (.int 4)) mNil)) (mC (.int 0))) wNil))) wNil))))
      (bApp 3 (mCB (f1 fTuple) (wCons (mCB (f1 fSorted) (wCons (mSl (mCallP 0 g_law_stir (mCons (mLstRg (mRr1 (mVar 5))) mNil)) mNoP (mPart (mVar 7))) wNil)) wNil))))
    (ρ := [.pot, .dat (.int lo), .dat (.int hi), .lst [], .un, .dat (.int n), .dat (.int z), .un]) (fun i => .int (0 + (i : Int)))
    (fun done ρ p => ∃ s4 s7 X, ρ = [.pot, .dat (.int lo), .dat (.int hi), .lst (X.map tI), s4, .dat (.int n), .dat (.int z), s7] ∧ (∀ l ∈ X, Lot n l) ∧ X.length = done.length ∧ Pot (k + 3 + 8 * done.length) p) (List.range (1 + t).toNat) ⟨_, _, [], rfl, by simp, rfl, c4⟩ fun done i rest ρ' p' hl ⟨s4, s7, X, hρ, hXl, hXn, hXp⟩ => by
      subst hρ
      have e1 := congrArg List.length hl
      rw [List.length_range, List.length_append, List.length_cons] at e1
      obtain ⟨d2, q1, g1, g2, g3, g4⟩ := c_law_take (u := 4) hXp (by omega) (by omega) (by omega)
      have elist : ((List.range n.toNat).map fun (i : Nat) => PyData.int (0 + (i : Int))).length = n.toNat := by rw [List.length_map, List.length_range]
      obtain ⟨l2, q2, u1, u2, u3⟩ := c_law_stir (l := (List.range n.toNat).map fun (i : Nat) => PyData.int (0 + (i : Int))) g4 (by rw [elist]; omega)
      rw [elist] at u3
      have em : ∃ j : Int, (mCB (f2 (fI fun i j => if j < i then j else i)) (wCons (mVar 5) (wCons (mOp (fI fun i j => i - j) (mVar 6) (mCB (f1 fInt) (wCons (mOp (fEq false) (mCallP 0 g_law_take (mCons (mC (.int 4)) mNil)) (mC (.int 0))) wNil))) wNil)) : MV) [.pot, .dat (.int lo), .dat (.int hi), .lst (X.map tI), .dat (.int (0 + (i : Int))), .dat (.int n), .dat (.int z), s7] p' = some (.dat (.int j), q1) := by
        have eb : (mCB (f1 fInt) (wCons (mOp (fEq false) (mCallP 0 g_law_take (mCons (mC (.int 4)) mNil)) (mC (.int 0))) wNil) : MV) [.pot, .dat (.int lo), .dat (.int hi), .lst (X.map tI), .dat (.int (0 + (i : Int))), .dat (.int n), .dat (.int z), s7] p' = some (.dat (.int (if d2 = 0 then 1 else 0)), q1) := by
          refine cb1_is (r := .dat (.bool (decide (d2 = 0)))) (op_is (x := .dat (.int d2)) (y := .dat (.int 0)) (p := q1) (callP1_is (x := .dat (.int 4)) (p := p') rfl rfl rfl g1) rfl (enc_int.eq (by decide) rfl rfl)) ?_
          by_cases c : d2 = 0
          · rw [if_pos c, decide_eq_true c]; rfl
          · rw [if_neg c, decide_eq_false c]; rfl
        exact ⟨_, cb2_is (x := .dat (.int n)) (p := p') rfl (op_is (x := .dat (.int z)) (p := p') rfl eb rfl) rfl⟩
      obtain ⟨j, ej⟩ := em
      obtain ⟨ok, l, hsl, hlot⟩ := stir_lot (n := n.toNat) (l2 := l2) (xs := cutD l2 none (some j)) u2 (cut_sub _ _ _)
      have hlot' : Lot n l := ⟨hlot.asc, hlot.lo, fun x hx => by have := hlot.hi x hx; omega⟩
      have er : (mLstRg (mRr1 (mVar 5)) : MV) [.pot, .dat (.int lo), .dat (.int hi), .lst (X.map tI), .dat (.int (0 + (i : Int))), .dat (.int n), .dat (.int z), .dat (.int j)] q1 = some (.lst ((List.range n.toNat).map fun (i : Nat) => PyData.int (0 + (i : Int))), q1) := by
        show (if rgOk 0 n = true then some (Rv.lst (rgD 0 n), q1) else none) = _
        rw [if_pos (by unfold rgOk; simp; omega)]
        unfold rgD
        rw [Int.sub_zero]
      refine ⟨_, _, q2, rfl, ev_seq (ev_set ej rfl) (ev_app (x := .dat (tI l)) rfl (cb1_is (r := .lst (l.map .int)) (cb1_is (r := .lst (cutD l2 none (some j))) (sl_to (callP1_is (x := .lst ((List.range n.toNat).map fun (i : Nat) => PyData.int (0 + (i : Int)))) rfl er rfl u1) rfl) ?_) rfl) rfl (by rw [List.length_map]; omega)), _, _, X ++ [l], by rw [List.map_append]; rfl, ?_, ?_, ?_⟩
      · show (if okSort _ = true then some (Rv.lst (srtD _)) else none) = _
        rw [if_pos ok, hsl]
      · intro m hm
        rcases List.mem_append.mp hm with q | q
        · exact hXl m q
        · rw [List.mem_singleton.mp q]; exact hlot'
      · rw [List.length_append, List.length_append, hXn]; rfl
      · rw [List.length_append, List.length_singleton]
        exact u3.mono (by omega)
  rw [List.length_range] at hXn hXp
  have hrg : (mRg1 (wCons (mOp fAdd3 (mC (.int 1)) (mCallP 0 g_law_take (mCons (mOp (fIc cMul fun i j => i * j) (mC (.int 3)) (mVar 5)) mNil))) wNil) : ML) [.pot, .dat (.int lo), .dat (.int hi), .lst [], .un, .dat (.int n), .dat (.int z), .un] p2 = some ((List.range (1 + t).toNat).map fun (i : Nat) => PyData.int (0 + (i : Int)), p3) := by
    rw [rg1_is (j := 1 + t) (p := p3) (op_is (x := .dat (.int 1)) (y := .dat (.int t)) (p := p2) rfl (callP1_is (x := .dat (.int (3 * n))) (p := p2) rfl (op_is (x := .dat (.int 3)) (y := .dat (.int n)) (p := p2) rfl rfl (cMul_l (by decide) (by decide))) rfl c1) rfl) (by unfold small62; rw [Bool.and_eq_true]; exact ⟨decide_eq_true (by omega), decide_eq_true (by omega)⟩)]
    unfold rgD
    rw [Int.sub_zero]
  refine ⟨n, X, p4, ?_, by omega, by omega, hXl, fun e => ?_, by omega, hXp.mono (by omega)⟩
  · refine gOfP_eq rfl (ev_seq hpar (ev_seq (ev_set (i := 3) (r := .lst []) (s := .lst []) (p := p2) rfl rfl) (ev_seq (ev_for hrg d1) (show bFrz 3 _ _ _ = _ from ev_ret (call2_is (x := .dat (.int n)) (y := .dat (.list (X.map tI))) (p := p4) (q := p4) rfl rfl rfl rfl (c_law_company n X rfl (by omega) (lots_small (n := n) hXl hn7))))))) rfl
  · rw [e, List.length_nil] at hXn
    omega
end K15
end
section
set_option Elab.async false
set_option linter.all false
/-! Pf1: sums over lists, in plain Lean. -/
namespace K15
section
variable {α β : Type}
def Sm (L : List α) (f : α → Int) : Int := (L.map f).sum
theorem Sm_nil (f : α → Int) : Sm [] f = 0 := rfl
theorem Sm_cons (a : α) (L : List α) (f : α → Int) : Sm (a :: L) f = f a + Sm L f := by unfold Sm; rw [List.map_cons, List.sum_cons]
theorem Sm_append (L M : List α) (f : α → Int) : Sm (L ++ M) f = Sm L f + Sm M f := by unfold Sm; rw [List.map_append, List.sum_append]
theorem Sm_congr {L : List α} {f h : α → Int} (e : ∀ x ∈ L, f x = h x) : Sm L f = Sm L h := by unfold Sm; rw [List.map_congr_left e]
theorem Sm_zero {L : List α} : Sm L (fun _ => 0) = 0 := by
  induction L with
  | nil => rfl
  | cons a L ih => rw [Sm_cons, ih]; rfl
theorem Sm_add (L : List α) (f h : α → Int) : Sm L (fun x => f x + h x) = Sm L f + Sm L h := by
  induction L with
  | nil => rfl
  | cons a L ih => rw [Sm_cons, Sm_cons, Sm_cons, ih]; omega
theorem Sm_mul (c : Int) (L : List α) (f : α → Int) : Sm L (fun x => c * f x) = c * Sm L f := by
  induction L with
  | nil => rw [Sm_nil, Sm_nil, Int.mul_zero]
  | cons a L ih => rw [Sm_cons, Sm_cons, ih, Int.mul_add]
theorem Sm_mulR (c : Int) (L : List α) (f : α → Int) : Sm L (fun x => f x * c) = Sm L f * c := by
  rw [Int.mul_comm, ← Sm_mul]
  exact Sm_congr fun x _ => Int.mul_comm _ _
theorem Sm_map (L : List α) (g : α → β) (f : β → Int) : Sm (L.map g) f = Sm L (fun x => f (g x)) := by unfold Sm; rw [List.map_map]; rfl
theorem Sm_filter (L : List α) (p : α → Bool) (f : α → Int) : Sm (L.filter p) f = Sm L (fun x => if p x = true then f x else 0) := by
  induction L with
  | nil => rfl
  | cons a L ih =>
    rw [List.filter_cons, Sm_cons]
    split
    · rw [Sm_cons, ih]
    · rw [ih, Int.zero_add]
theorem Sm_swap (L : List α) (M : List β) (f : α → β → Int) : Sm L (fun x => Sm M (f x)) = Sm M (fun y => Sm L fun x => f x y) := by
  induction L with
  | nil => rw [Sm_nil]; exact Sm_zero.symm
  | cons a L ih =>
    rw [Sm_cons, ih, ← Sm_add]
    exact Sm_congr fun y _ => (Sm_cons a L fun x => f x y).symm
theorem Sm_perm {L M : List α} (h : L.Perm M) (f : α → Int) : Sm L f = Sm M f := by
  induction h with
  | nil => rfl
  | cons x _ ih => rw [Sm_cons, Sm_cons, ih]
  | swap x y l => rw [Sm_cons, Sm_cons, Sm_cons, Sm_cons]; omega
  | trans _ _ h1 h2 => exact h1.trans h2
theorem Sm_same [DecidableEq α] {L M : List α} (hL : L.Nodup) (hM : M.Nodup) (h : ∀ x, x ∈ L ↔ x ∈ M) (f : α → Int) : Sm L f = Sm M f := Sm_perm ((List.perm_ext_iff_of_nodup hL hM).mpr h) f
/-- a part of the list, by what picks it -/
theorem Sm_part [DecidableEq α] {L M : List α} (hL : L.Nodup) (hM : M.Nodup) (p : α → Bool) (h : ∀ x, x ∈ L ↔ x ∈ M ∧ p x = true) (f : α → Int) : Sm L f = Sm M (fun x => if p x = true then f x else 0) := by
  rw [← Sm_filter]
  exact Sm_same hL (hM.filter p) (fun x => by rw [List.mem_filter]; exact h x) f
theorem Sm_incl_excl [DecidableEq α] {A B C E : List α} (hA : A.Nodup) (hB : B.Nodup) (hC : C.Nodup) (hE : E.Nodup) (h1 : ∀ x, x ∈ C ↔ x ∈ A ∨ x ∈ B) (h2 : ∀ x, x ∈ E ↔ x ∈ A ∧ x ∈ B) (f : α → Int) : Sm C f + Sm E f = Sm A f + Sm B f := by
  rw [Sm_part hA hC (fun x => decide (x ∈ A)) (fun x => by rw [h1, decide_eq_true_eq]; exact ⟨fun z => ⟨.inl z, z⟩, fun z => z.2⟩) f,
    Sm_part hB hC (fun x => decide (x ∈ B)) (fun x => by rw [h1, decide_eq_true_eq]; exact ⟨fun z => ⟨.inr z, z⟩, fun z => z.2⟩) f,
    Sm_part hE hC (fun x => decide (x ∈ A ∧ x ∈ B)) (fun x => by rw [h1, h2, decide_eq_true_eq]; exact ⟨fun z => ⟨.inl z.1, z⟩, fun z => z.2⟩) f, ← Sm_add, ← Sm_add]
  refine Sm_congr fun x hx => ?_
  have hx := (h1 x).mp hx
  simp only [decide_eq_true_eq]
  by_cases a : x ∈ A <;> by_cases b : x ∈ B
  · simp [a, b]
  · simp [a, b]
  · simp [a, b]
  · exact absurd hx (by simp [a, b])
end
end K15
end
section
set_option Elab.async false
set_option linter.all false
/-! Pf2: passes guest by guest are sums over parts, and undo each other. -/
namespace K15
open PySem PySem.Spec PySem.W L2 Pd
variable [TB]
theorem less_comm (l : List Int) (g h : Int) : less (less l g) h = less (less l h) g := by
  unfold less
  rw [List.filter_filter, List.filter_filter]
  exact List.filter_congr fun x _ => Bool.and_comm _ _
theorem less_has {l : List Int} {g h : Int} (hne : g ≠ h) : (less l h).contains g = l.contains g := by
  rw [Bool.eq_iff_iff, List.contains_iff_mem, List.contains_iff_mem]
  unfold less
  rw [List.mem_filter]
  exact ⟨fun z => z.1, fun z => ⟨z, by simp [hne]⟩⟩
theorem pass_comm (s t g h : Int) (f : List Int → Int) (hne : g ≠ h) : pass s g (pass t h f) = pass t h (pass s g f) := by
  funext l
  have e1 := less_has (l := l) hne
  have e2 := less_has (l := l) (g := h) (h := g) (fun z => hne z.symm)
  unfold pass
  rw [e1, e2, less_comm l g h]
  by_cases c1 : l.contains g = true <;> by_cases c2 : l.contains h = true
  · simp only [c1, c2, if_true]
    rw [Int.mul_add, Int.mul_add, ← Int.mul_assoc, ← Int.mul_assoc, Int.mul_comm s t]
    omega
  · simp only [c1, c2, if_true]; rfl
  · simp only [c1, c2, if_true]; rfl
  · simp only [c1, c2]; rfl
theorem pass_undo (s g : Int) (f : List Int → Int) : pass (-s) g (pass s g f) = f := by
  funext l
  unfold pass
  rw [less_no]
  by_cases c : l.contains g = true
  · simp only [c, if_true, Bool.false_eq_true, if_false]
    rw [Int.neg_mul]
    omega
  · simp only [c]; rfl
theorem passes_pass (s t g : Int) : ∀ (gs : List Int) (f : List Int → Int), g ∉ gs → passes s gs (pass t g f) = pass t g (passes s gs f)
  | [], f, _ => rfl
  | h :: gs, f, hn => by
    show passes s gs (pass s h (pass t g f)) = pass t g (passes s gs (pass s h f))
    rw [pass_comm s t h g f fun z => hn (z ▸ List.mem_cons_self), passes_pass s t g gs _ fun z => hn (List.mem_cons_of_mem _ z)]
theorem passes_undo (s : Int) : ∀ (gs : List Int) (f : List Int → Int), gs.Nodup → passes (-s) gs (passes s gs f) = f
  | [], f, _ => rfl
  | g :: gs, f, nd => by
    have nd := List.nodup_cons.mp nd
    show passes (-s) gs (pass (-s) g (passes s gs (pass s g f))) = f
    rw [passes_pass s s g gs f nd.1, pass_undo, passes_undo s gs f nd.2]
theorem passes_perm (s : Int) {gs hs : List Int} (h : gs.Perm hs) (nd : gs.Nodup) : ∀ f, passes s gs f = passes s hs f := by
  induction h with
  | nil => intro f; rfl
  | cons x _ ih => intro f; exact ih (List.nodup_cons.mp nd).2 _
  | swap x y l =>
    intro f
    have nd := List.nodup_cons.mp nd
    show passes s l (pass s x (pass s y f)) = passes s l (pass s y (pass s x f))
    rw [pass_comm s s x y f fun z => nd.1 (z ▸ List.mem_cons_self)]
  | trans h1 _ ih1 ih2 => intro f; exact (ih1 nd f).trans (ih2 (h1.nodup_iff.mp nd) f)
/-- with one guest more at the end, that none of the passes is along -/
theorem passes_snocL (s g : Int) : ∀ (hs : List Int) (f : List Int → Int) (l : List Int), g ∉ hs → passes s hs f (l ++ [g]) = passes s hs (fun q => f (q ++ [g])) l
  | [], f, l, _ => rfl
  | h :: hs, f, l, hn => by
    have hne : g ≠ h := fun z => hn (z ▸ List.mem_cons_self)
    show passes s hs (pass s h f) (l ++ [g]) = passes s hs (pass s h fun q => f (q ++ [g])) l
    rw [passes_snocL s g hs _ l fun z => hn (List.mem_cons_of_mem _ z)]
    congr 1
    funext q
    unfold pass
    have e1 : (q ++ [g]).contains h = q.contains h := by
      rw [Bool.eq_iff_iff, List.contains_iff_mem, List.contains_iff_mem, List.mem_append, List.mem_singleton]
      exact ⟨fun z => z.elim id fun z => absurd z.symm hne, .inl⟩
    have e2 : less (q ++ [g]) h = less q h ++ [g] := by
      unfold less
      rw [List.filter_append, List.filter_cons_of_pos (by simp [hne])]
      rfl
    rw [e1, e2]
/-- the sign of what lies between -/
def sg (s : Int) (l q : List Int) : Int := s ^ (l.length - q.length)
def Zs (s : Int) (f : List Int → Int) (l : List Int) : Int := Sm (parts l) fun q => sg s l q * f q
theorem passes_nil (s : Int) : ∀ (gs : List Int) (f : List Int → Int), passes s gs f [] = f []
  | [], f => rfl
  | g :: gs, f => by
    show passes s gs (pass s g f) [] = f []
    rw [passes_nil s gs]
    rfl
theorem passes_sum (s : Int) (l : List Int) (nl : l.Nodup) : ∀ (gs : List Int), gs.Nodup → (∀ x ∈ l, x ∈ gs) → ∀ f, passes s gs f l = Zs s f l := by
  induction l using snoc_ind with
  | h0 =>
    intro gs _ _ f
    rw [passes_nil]
    unfold Zs sg
    show f [] = Sm [[]] _
    rw [Sm_cons, Sm_nil]
    simp
  | h1 l g ih =>
    intro gs nd hl f
    have nl2 := List.nodup_append.mp nl
    have hgl : g ∉ l := fun z => nl2.2.2 g z g (by simp) rfl
    have hg : g ∈ gs := hl g (by simp)
    have hp := List.perm_cons_erase hg
    rw [passes_perm s hp nd f]
    have nd2 := List.nodup_cons.mp (hp.nodup_iff.mp nd)
    show passes s (gs.erase g) (pass s g f) (l ++ [g]) = _
    rw [passes_snocL s g _ _ l nd2.1, ih nl2.1 _ nd2.2 (fun x hx => ?_)]
    · unfold Zs
      rw [parts_snoc, Sm_append, Sm_map, ← Sm_add]
      refine Sm_congr fun q hq => ?_
      have hs := mem_parts.mp hq
      have hql := hs.length_le
      have hgq : g ∉ q := fun z => hgl (hs.subset z)
      have e1 : (q ++ [g]).contains g = true := by simp
      have e2 : less (q ++ [g]) g = q := by
        unfold less
        rw [List.filter_append, List.filter_cons_of_neg (by simp), List.filter_nil, List.append_nil, List.filter_eq_self]
        intro x hx
        have : x ≠ g := fun z => hgq (z ▸ hx)
        simp [this]
      have e3 : pass s g f (q ++ [g]) = f (q ++ [g]) + s * f q := by
        unfold pass
        rw [if_pos e1, e2]
      show sg s l q * pass s g f (q ++ [g]) = _
      rw [e3]
      unfold sg
      rw [ List.length_append, List.length_append, List.length_singleton, show l.length + 1 - q.length = l.length - q.length + 1 by omega, show l.length + 1 - (q.length + 1) = l.length - q.length by omega, Int.pow_succ, Int.mul_add, Int.mul_assoc]
      omega
    · have hne : x ≠ g := fun z => hgl (z ▸ hx)
      exact (List.mem_erase_of_ne hne).mpr (hl x (List.mem_append_left _ hx))
theorem sg_one (l q : List Int) : sg 1 l q = 1 := by unfold sg; exact Int.one_pow
theorem sg_neg (l q : List Int) (h : q.length ≤ l.length) : sg (-1) l q = if ((l.length : Int) - (q.length : Int)) % 2 = 0 then 1 else -1 := by
  unfold sg
  generalize hk : l.length - q.length = k
  have e : (l.length : Int) - (q.length : Int) = (k : Int) := by omega
  rw [e]
  clear hk e h
  induction k with
  | zero => rfl
  | succ k ih =>
    rw [Int.pow_succ, ih]
    by_cases c : (k : Int) % 2 = 0
    · rw [if_pos c, if_neg (by omega)]; rfl
    · rw [if_neg c, if_pos (by omega)]; rfl
end K15
end
section
set_option Elab.async false
set_option linter.all false
set_option maxRecDepth 100000
/-! Pf3: the rows' numbers above a lot make 1. -/
namespace K15
open PySem PySem.Spec PySem.W L2 Pd
variable [TB]
theorem sub_refl (l : List Int) : sub l l = true := sub_iff.mpr fun _ h => h
theorem sub_trans {a b c : List Int} (h1 : sub a b = true) (h2 : sub b c = true) : sub a c = true := sub_iff.mpr fun x hx => sub_iff.mp h2 x (sub_iff.mp h1 x hx)
def low (F : List (List Int)) (t : List Int) : List Int := match F.filter (sub t) with | [] => [] | f :: r => r.foldl meet f
theorem foldl_meet_mem {x : Int} : ∀ (r : List (List Int)) (f : List Int), x ∈ r.foldl meet f ↔ x ∈ f ∧ ∀ o ∈ r, x ∈ o
  | [], f => by simp
  | a :: r, f => by
    rw [List.foldl_cons, foldl_meet_mem r, meet_mem]
    simp only [List.mem_cons, forall_eq_or_imp, and_assoc]
theorem foldl_meet_mt {F : List (List Int)} : ∀ (r : List (List Int)) (f : List Int), Mt F f → (∀ o ∈ r, o ∈ F) → Mt F (r.foldl meet f)
  | [], f, h, _ => h
  | a :: r, f, h, hr => foldl_meet_mt r _ (.step h (hr a List.mem_cons_self)) fun o ho => hr o (List.mem_cons_of_mem _ ho)
theorem low_is {F : List (List Int)} {t : List Int} (h : ∃ o ∈ F, sub t o = true) : Mt F (low F t) ∧ ∀ x, x ∈ low F t ↔ ∀ o ∈ F, sub t o = true → x ∈ o := by
  unfold low
  cases e : F.filter (sub t) with
  | nil =>
    obtain ⟨o, ho, hs⟩ := h
    have : o ∈ F.filter (sub t) := List.mem_filter.mpr ⟨ho, hs⟩
    rw [e] at this
    simp at this
  | cons f r =>
    have hall : ∀ o ∈ f :: r, o ∈ F ∧ sub t o = true := fun o ho => List.mem_filter.mp (by rw [e]; exact ho)
    refine ⟨foldl_meet_mt r f (.base (hall f List.mem_cons_self).1) fun o ho => (hall o (List.mem_cons_of_mem _ ho)).1, fun x => ?_⟩
    show x ∈ r.foldl meet f ↔ _
    rw [foldl_meet_mem]
    refine ⟨fun z o ho hs => ?_, fun z => ⟨z f (hall f List.mem_cons_self).1 (hall f List.mem_cons_self).2, fun o ho => z o (hall o (List.mem_cons_of_mem _ ho)).1 (hall o (List.mem_cons_of_mem _ ho)).2⟩⟩
    have hm : o ∈ f :: r := by rw [← e]; exact List.mem_filter.mpr ⟨ho, hs⟩
    rcases List.mem_cons.mp hm with rfl | hm
    · exact z.1
    · exact z.2 o hm
theorem low_sub {F : List (List Int)} {t : List Int} (h : ∃ o ∈ F, sub t o = true) : sub t (low F t) = true :=
  sub_iff.mpr fun x hx => ((low_is h).2 x).mpr fun o _ hs => sub_iff.mp hs x hx
theorem low_le {F : List (List Int)} {t p : List Int} (h : ∃ o ∈ F, sub t o = true) (hp : Mt F p) : sub (low F t) p = sub t p := by
  rw [Bool.eq_iff_iff]
  refine ⟨fun z => sub_trans (low_sub h) z, fun z => ?_⟩
  induction hp with
  | base hf => exact sub_iff.mpr fun x hx => ((low_is h).2 x).mp hx _ hf z
  | step hk hf ih =>
    rename_i k f
    have zk := ih (sub_iff.mpr fun x hx => (meet_mem.mp (sub_iff.mp z x hx)).1)
    have zf : sub t f = true := sub_iff.mpr fun x hx => (meet_mem.mp (sub_iff.mp z x hx)).2
    exact sub_iff.mpr fun x hx => meet_mem.mpr ⟨sub_iff.mp zk x hx, ((low_is h).2 x).mp hx f hf zf⟩
theorem sumUp_app (R : List Row) (p : Row) (t : List Int) : sumUp (R ++ [p]) t = sumUp R t + if sub t p.1 = true then p.2 else 0 := by
  unfold sumUp
  rw [List.filter_append, List.map_append, List.sum_append]
  by_cases c : sub t p.1 = true
  · rw [List.filter_cons_of_pos (p := fun p : Row => sub t p.1) c, if_pos c]
    simp
  · rw [List.filter_cons_of_neg (p := fun p : Row => sub t p.1) c, if_neg c]
    simp
theorem newN_sumUp (R : List Row) (l : List Int) : newN R l = 1 - sumUp R l := rfl
theorem sumUp_step (R : List Row) (l : List Int) : sumUp (muStep R l) l = 1 := by
  by_cases c : newN R l = 0
  · rw [muStep_0 c]
    rw [newN_sumUp] at c
    omega
  · rw [muStep_1 c, sumUp_app, if_pos (sub_refl l), newN_sumUp]
    show sumUp R l + (1 - sumUp R l) = 1
    omega
theorem sumUp_keep (t : List Int) : ∀ (ls : List (List Int)) (R : List Row), (∀ l ∈ ls, sub t l = false) → sumUp (ls.foldl muStep R) t = sumUp R t
  | [], R, _ => rfl
  | l :: ls, R, h => by
    rw [List.foldl_cons, sumUp_keep t ls _ fun m hm => h m (List.mem_cons_of_mem _ hm)]
    have hl := h l List.mem_cons_self
    by_cases c : newN R l = 0
    · rw [muStep_0 c]
    · rw [muStep_1 c, sumUp_app]
      show sumUp R t + (if sub t l = true then _ else 0) = _
      rw [hl]
      simp
theorem sumUp_meet {n : Int} {F : List (List Int)} (hF : ∀ l ∈ F, Lot n l) {m : List Int} (hm : Mt F m) : sumUp (rows F) m = 1 := by
  obtain ⟨pre, post, e⟩ := List.append_of_mem ((meets_mem hF).mpr hm)
  have hs : (meets F).Pairwise fun a b => leK negLen a b = true := srtBy_sorted negLen (lawK F)
  have nd := meets_nodup F
  rw [e] at hs nd
  unfold rows
  rw [e, List.foldl_append, List.foldl_cons, sumUp_keep, sumUp_step]
  intro l hl
  have hle := (List.pairwise_cons.mp (List.pairwise_append.mp hs).2.1).1 l hl
  have hne : m ≠ l := fun z => (List.nodup_cons.mp (List.nodup_append.mp nd).2.1).1 (z ▸ hl)
  have hlM : Mt F l := (meets_mem hF).mp (by rw [e]; exact List.mem_append_right _ (List.mem_cons_of_mem _ hl))
  rw [Bool.eq_false_iff]
  intro z
  have hsub := (sub_sl (hm.lot hF).asc (hlM.lot hF).asc).mp z
  have h1 := hsub.length_le
  have h2 := of_decide_eq_true hle
  have h3 : l.length ≤ m.length := by
    unfold negLen lotLen at h2
    omega
  exact hne (hsub.eq_of_length_le h3)
theorem sumUp_one {n : Int} {F : List (List Int)} (hF : ∀ l ∈ F, Lot n l) {t : List Int} (ht : t ∈ lots F) : sumUp (rows F) t = 1 := by
  have hlt := lots_lot hF ht
  have hex : ∃ o ∈ F, sub t o = true := by
    obtain ⟨o, ho, hs⟩ := lots_mem.mp ht
    exact ⟨o, ho, (sub_sl hlt.asc (hF o ho).asc).mpr hs⟩
  rw [← sumUp_meet hF (low_is hex).1]
  unfold sumUp
  congr 2
  refine List.filter_congr fun p hp => ?_
  exact (low_le hex ((meets_mem hF).mp (rows_keys (List.mem_map.mpr ⟨p, hp, rfl⟩)))).symm
theorem Mt.in_lots {F : List (List Int)} {p : List Int} (h : Mt F p) : p ∈ lots F := by
  induction h with
  | base hf => exact lots_mem.mpr ⟨_, hf, List.Sublist.refl _⟩
  | step _ _ ih =>
    obtain ⟨o, ho, hs⟩ := lots_mem.mp ih
    exact lots_mem.mpr ⟨o, ho, List.filter_sublist.trans hs⟩
theorem row_mt {n : Int} {F : List (List Int)} (hF : ∀ l ∈ F, Lot n l) {p : Row} (hp : p ∈ rows F) : Mt F p.1 := (meets_mem hF).mp (rows_keys (List.mem_map.mpr ⟨p, hp, rfl⟩))
/-- sums over rows of sums over parts are sums over all lots -/
theorem rows_sum {n : Int} {F : List (List Int)} (hF : ∀ l ∈ F, Lot n l) (f : List Int → Int) : Sm (rows F) (fun p => p.2 * Sm (parts p.1) f) = Sm (lots F) f := by
  have e1 : Sm (rows F) (fun p => p.2 * Sm (parts p.1) f) = Sm (rows F) (fun p => Sm (lots F) fun x => (if sub x p.1 = true then p.2 else 0) * f x) := by
    refine Sm_congr fun p hp => ?_
    have hm := row_mt hF hp
    have hl := hm.lot hF
    obtain ⟨o, ho, hs⟩ := lots_mem.mp hm.in_lots
    rw [Sm_part (parts_nodup (asc_nodup hl.asc)) (lots_nodup F) (fun x => sub x p.1) (fun x => ?_) f, ← Sm_mul]
    · refine Sm_congr fun x _ => ?_
      by_cases c : sub x p.1 = true
      · rw [if_pos c, if_pos c]
      · rw [if_neg c, if_neg c, Int.mul_zero, Int.zero_mul]
    · rw [mem_parts]
      refine ⟨fun z => ⟨lots_mem.mpr ⟨o, ho, z.trans hs⟩, (sub_sl (hl.sub z).asc hl.asc).mpr z⟩, fun z => (sub_sl (lots_lot hF z.1).asc hl.asc).mp z.2⟩
  rw [e1, Sm_swap]
  refine Sm_congr fun x hx => ?_
  have e2 : Sm (rows F) (fun p => (if sub x p.1 = true then p.2 else 0) * f x) = sumUp (rows F) x * f x := by
    rw [Sm_mulR]
    congr 1
    exact (Sm_filter (rows F) (fun p => sub x p.1) (fun p => p.2)).symm
  rw [e2, sumUp_one hF hx, Int.one_mul]
/-! ### told -/
theorem told_perm (F : List (List Int)) : (told F).Perm (rows F) := by
  have e : rows F = ((rows F).map (·.1)).map fun k => (k, getI (rows F) k) := by
    rw [List.map_map]
    have : (rows F).map id = (rows F).map ((fun k => (k, getI (rows F) k)) ∘ fun p : Row => p.1) := List.map_congr_left fun p hp => by
      show p = (p.1, getI (rows F) p.1)
      rw [getI_mem (rows_nodup F) hp]
    rw [List.map_id] at this
    exact this
  have h2 := (List.mergeSort_perm ((rows F).map (·.1)) leI).map fun k => (k, getI (rows F) k)
  unfold told Pd.sortI
  exact h2.trans (List.Perm.of_eq e.symm)
theorem told_sum {n : Int} {F : List (List Int)} (hF : ∀ l ∈ F, Lot n l) (f : List Int → Int) : Sm (told F) (fun p => p.2 * Sm (parts p.1) f) = Sm (lots F) f := (Sm_perm (told_perm F) _).trans (rows_sum hF f)
theorem muFold_ne (ls : List (List Int)) : ∀ R : List Row, (∀ p ∈ R, p.2 ≠ 0) → ∀ p ∈ ls.foldl muStep R, p.2 ≠ 0 := by
  induction ls with
  | nil => intro R h; exact h
  | cons l ls ih =>
    intro R h
    rw [List.foldl_cons]
    refine ih _ fun p hp => ?_
    by_cases c : newN R l = 0
    · rw [muStep_0 c] at hp; exact h p hp
    · rw [muStep_1 c] at hp
      rcases List.mem_append.mp hp with q | q
      · exact h p q
      · rw [List.mem_singleton.mp q]; exact c
theorem told_is {n : Int} {F : List (List Int)} (hF : ∀ l ∈ F, Lot n l) : isSums F (told F) = true := by
  have hp := told_perm F
  have hk : (told F).map (·.1) = Pd.sortI ((rows F).map (·.1)) := by
    unfold told
    rw [List.map_map]
    exact List.map_id _
  unfold isSums
  rw [Bool.and_eq_true, Bool.and_eq_true, Bool.and_eq_true]
  refine ⟨⟨⟨?_, ?_⟩, ?_⟩, ?_⟩
  · rw [decide_eq_true_eq, hk]
    have hp2 := List.mergeSort_perm ((rows F).map (·.1)) leI
    refine (setI_of ?_ ?_ fun x => Iff.rfl).symm
    · unfold Pd.sortI
      exact (List.pairwise_mergeSort leI_trans leI_total _).imp fun h => of_decide_eq_true h
    · unfold Pd.sortI
      exact (hp2.nodup_iff).mpr (rows_nodup F)
  · rw [List.all_eq_true]
    intro x hx
    obtain ⟨p, hpm, rfl⟩ := List.mem_map.mp hx
    exact List.contains_iff_mem.mpr (row_mt hF (hp.mem_iff.mp hpm)).in_lots
  · rw [Bool.not_eq_true', List.any_eq_false]
    intro p hpm
    rw [decide_eq_true_eq]
    exact muFold_ne (meets F) [] (by simp) p (hp.mem_iff.mp hpm)
  · rw [List.all_eq_true]
    intro t ht
    rw [decide_eq_true_eq, ← sumUp_one hF ht]
    exact Sm_perm (hp.filter fun p => sub t p.1) fun p => p.2
end K15
end
section
set_option Elab.async false
set_option linter.all false
set_option maxRecDepth 100000
/-! Pf4: products over lots; rows' numbers are small; lots of two companies, of one without a guest. -/
namespace K15
open PySem PySem.Spec PySem.W L2 Pd
variable [TB]
def prodW (ws : List Int) (l : List Int) : Int := l.foldl (fun a g => a * wAt ws g) 1
theorem prodW_snoc (ws l : List Int) (g : Int) : prodW ws (l ++ [g]) = prodW ws l * wAt ws g := by unfold prodW; rw [List.foldl_append]; rfl
theorem prodP_parts (ws : List Int) (v : Int) (l : List Int) : prodP ws v l = v * Sm (parts l) (prodW ws) := by
  induction l using snoc_ind with
  | h0 =>
    show v = v * Sm [[]] (prodW ws)
    rw [Sm_cons, Sm_nil]
    show v = v * (1 + 0)
    rw [Int.add_zero, Int.mul_one]
  | h1 l g ih =>
    have e : prodP ws v (l ++ [g]) = prodP ws v l * (1 + wAt ws g) := by unfold prodP; rw [List.foldl_append]; rfl
    rw [e, ih, parts_snoc, Sm_append, Sm_map]
    have e2 : Sm (parts l) (fun x => prodW ws (x ++ [g])) = Sm (parts l) (prodW ws) * wAt ws g := by
      rw [← Sm_mulR]
      exact Sm_congr fun x _ => prodW_snoc ws x g
    rw [e2, Int.mul_assoc, Int.mul_add, Int.mul_one]
theorem sumBy_is {n : Int} {F : List (List Int)} (hF : ∀ l ∈ F, Lot n l) (ws : List Int) : sumBy ws (rows F) = Sm (lots F) (prodW ws) := by
  rw [← rows_sum hF]
  unfold sumBy
  exact Sm_congr fun p _ => prodP_parts ws p.2 p.1
/-! ### rows' numbers are small -/
theorem sum_bound {B : Int} : ∀ L : List Int, (∀ x ∈ L, -B ≤ x ∧ x ≤ B) → -((L.length : Int) * B) ≤ L.sum ∧ L.sum ≤ (L.length : Int) * B
  | [], _ => by simp
  | a :: L, h => by
    have h1 := sum_bound L fun x hx => h x (List.mem_cons_of_mem _ hx)
    have h2 := h a List.mem_cons_self
    rw [List.sum_cons, List.length_cons]
    push_cast
    rw [Int.add_mul, Int.one_mul]
    omega
def bd (k : Nat) : Int := 129 ^ (7 - k)
theorem bd_step {k : Nat} (h : k < 7) : bd k = 129 * bd (k + 1) := by
  unfold bd
  rw [show 7 - k = 7 - (k + 1) + 1 by omega, Int.pow_succ, Int.mul_comm]
theorem bd_pos (k : Nat) : 1 ≤ bd k := by
  unfold bd
  exact Int.pow_pos (by decide)
theorem bd_mono {k j : Nat} (h : k ≤ j) : bd j ≤ bd k := by
  induction h with
  | refl => exact Int.le_refl _
  | step _ ih =>
    rename_i m _
    refine Int.le_trans ?_ ih
    show bd (m + 1) ≤ bd m
    by_cases c : m < 7
    · rw [bd_step c]
      have := bd_pos (m + 1)
      omega
    · unfold bd
      rw [show 7 - m = 0 by omega, show 7 - (m + 1) = 0 by omega]
      exact Int.le_refl _
theorem bd_big (k : Nat) : bd k ≤ 1000000000000000 := by
  refine Int.le_trans (bd_mono (Nat.zero_le k)) ?_
  decide
def Sml (R : List Row) : Prop := ∀ p ∈ R, -bd p.1.length ≤ p.2 ∧ p.2 ≤ bd p.1.length
theorem rows_sml {n : Int} {F : List (List Int)} (hF : ∀ l ∈ F, Lot n l) (h7 : n ≤ 7) : Sml (rows F) := by
  have key : ∀ (post pre : List (List Int)), meets F = pre ++ post → Sml (pre.foldl muStep []) → Sml (rows F) := by
    intro post
    induction post with
    | nil =>
      intro pre e h
      unfold rows
      rw [e, List.append_nil]
      exact h
    | cons l post ih =>
      intro pre e h
      refine ih (pre ++ [l]) (by rw [e]; simp) ?_
      rw [List.foldl_append, List.foldl_cons, List.foldl_nil]
      have nd := meets_nodup F
      rw [e] at nd
      have hk : ∀ p ∈ pre.foldl muStep [], p.1 ∈ pre := fun p hp => (muFold_keys (List.mem_map.mpr ⟨p, hp, rfl⟩)).resolve_left (by simp)
      have hlot : ∀ m ∈ pre ++ l :: post, Lot n m := fun m hm => ((meets_mem hF).mp (by rw [e]; exact hm)).lot hF
      have hll := hlot l (by simp)
      have hlen : (pre.foldl muStep []).length ≤ 128 := by
        have h1 := muFold_len [] pre
        have h2 := meets_len hF h7
        rw [e, List.length_append] at h2
        rw [List.length_nil] at h1
        omega
      by_cases c : newN (pre.foldl muStep []) l = 0
      · rw [muStep_0 c]; exact h
      · rw [muStep_1 c]
        intro p hp
        rcases List.mem_append.mp hp with q | q
        · exact h p q
        · rw [List.mem_singleton.mp q]
          show -bd l.length ≤ newN _ l ∧ newN _ l ≤ bd l.length
          have hstep : ∀ x ∈ ((pre.foldl muStep []).filter fun p => sub l p.1).map (·.2), -bd (l.length + 1) ≤ x ∧ x ≤ bd (l.length + 1) ∧ l.length < 7 := by
            intro x hx
            obtain ⟨p, hp, rfl⟩ := List.mem_map.mp hx
            obtain ⟨hp1, hp2⟩ := List.mem_filter.mp hp
            have hpre := hk p hp1
            have hpl := hlot p.1 (List.mem_append_left _ hpre)
            have hs := (sub_sl hll.asc hpl.asc).mp hp2
            have hne : l ≠ p.1 := fun z => (List.nodup_append.mp nd).2.2 p.1 hpre l List.mem_cons_self z.symm
            have hlt : l.length < p.1.length := by
              rcases Nat.lt_or_ge l.length p.1.length with q | q
              · exact q
              · exact absurd (hs.eq_of_length_le q) hne
            have h7' := hpl.len h7
            have hb := h p hp1
            have hm := bd_mono (k := l.length + 1) (j := p.1.length) hlt
            exact ⟨by omega, by omega, by omega⟩
          have hsum := sum_bound (B := bd (l.length + 1)) _ fun x hx => ⟨(hstep x hx).1, (hstep x hx).2.1⟩
          unfold newN
          generalize hL : ((pre.foldl muStep []).filter fun p => sub l p.1).map (·.2) = L at hsum hstep ⊢
          have hLl : L.length ≤ 128 := by
            rw [← hL, List.length_map]
            exact Nat.le_trans (List.length_filter_le _ _) hlen
          cases L with
          | nil =>
            have := bd_pos l.length
            simp
            omega
          | cons a L =>
            have h7' := (hstep a List.mem_cons_self).2.2
            have hp := bd_pos (l.length + 1)
            have hmul : ((a :: L).length : Int) * bd (l.length + 1) ≤ 128 * bd (l.length + 1) := Int.mul_le_mul_of_nonneg_right (by omega) (by omega)
            rw [bd_step h7']
            omega
  exact key (meets F) [] rfl (by intro p hp; simp at hp)
theorem told_sml {n : Int} {F : List (List Int)} (hF : ∀ l ∈ F, Lot n l) (h7 : n ≤ 7) {p : Row} (hp : p ∈ told F) : -18446744073709551616 < p.2 ∧ p.2 < 18446744073709551616 := by
  have h := rows_sml hF h7 p ((told_perm F).mem_iff.mp hp)
  have := bd_big p.1.length
  omega
/-! ### lots of two companies -/
theorem either_sum {n : Int} {F G : List (List Int)} (hF : ∀ l ∈ F, Lot n l) (hG : ∀ l ∈ G, Lot n l) (f : List Int → Int) :
    Sm (lots (great (F ++ G))) f + Sm (lots (great (bothR F G))) f = Sm (lots F) f + Sm (lots G) f := by
  have hFG : ∀ l ∈ F ++ G, Asc l := fun l hl => (List.mem_append.mp hl).elim (fun z => (hF l z).asc) fun z => (hG l z).asc
  have hB : ∀ l ∈ bothR F G, Asc l := fun l hl => by
    obtain ⟨a, ha, hl⟩ := List.mem_flatMap.mp hl
    obtain ⟨b, hb, rfl⟩ := List.mem_map.mp hl
    exact meet_asc (hF a ha).asc
  rw [great_lots hFG, great_lots hB]
  refine Sm_incl_excl (lots_nodup _) (lots_nodup _) (lots_nodup _) (lots_nodup _) (fun x => ?_) (fun x => ?_) f
  · rw [lots_mem, lots_mem, lots_mem]
    refine ⟨fun ⟨l, hl, hs⟩ => (List.mem_append.mp hl).imp (fun z => ⟨l, z, hs⟩) fun z => ⟨l, z, hs⟩, fun z => ?_⟩
    rcases z with ⟨l, hl, hs⟩ | ⟨l, hl, hs⟩
    · exact ⟨l, List.mem_append_left _ hl, hs⟩
    · exact ⟨l, List.mem_append_right _ hl, hs⟩
  · rw [lots_mem, lots_mem, lots_mem]
    refine ⟨fun ⟨l, hl, hs⟩ => ?_, fun ⟨⟨a, ha, h1⟩, ⟨b, hb, h2⟩⟩ => ⟨meet a b, List.mem_flatMap.mpr ⟨a, ha, List.mem_map.mpr ⟨b, hb, rfl⟩⟩, ?_⟩⟩
    · obtain ⟨a, ha, hl⟩ := List.mem_flatMap.mp hl
      obtain ⟨b, hb, rfl⟩ := List.mem_map.mp hl
      refine ⟨⟨a, ha, hs.trans List.filter_sublist⟩, b, hb, ?_⟩
      rw [meet_comm (hF a ha).asc (hG b hb).asc] at hs
      exact hs.trans List.filter_sublist
    · have hx := (hF a ha).asc.sublist h1
      exact asc_sub hx (meet_asc (hF a ha).asc) fun y hy => meet_mem.mpr ⟨h1.subset hy, h2.subset hy⟩
/-! ### lots without a guest, and with it -/
theorem less_mem {l : List Int} {g x : Int} : x ∈ less l g ↔ x ∈ l ∧ x ≠ g := by
  unfold less
  rw [List.mem_filter]
  simp
theorem sub1 {g : Int} {o : List Int} : sub [g] o = true ↔ g ∈ o := by
  rw [sub_iff]
  exact ⟨fun h => h g List.mem_cons_self, fun h x hx => by rw [List.mem_singleton.mp hx]; exact h⟩
theorem without_mem {F : List (List Int)} (hF : ∀ l ∈ F, Asc l) {g : Int} {x : List Int} : x ∈ lots (withoutR F g) ↔ x ∈ lots F ∧ (!x.contains g) = true := by
  rw [lots_mem, lots_mem, Bool.not_eq_true']
  refine ⟨fun ⟨l, hl, hs⟩ => ?_, fun ⟨⟨o, ho, hs⟩, hg⟩ => ?_⟩
  · rcases List.mem_append.mp hl with q | q
    · obtain ⟨q1, q2⟩ := List.mem_filter.mp q
      refine ⟨⟨l, q1, hs⟩, ?_⟩
      rw [Bool.eq_false_iff]
      intro z
      rw [Bool.not_eq_true', Bool.eq_false_iff] at q2
      exact q2 (sub1.mpr (hs.subset (List.contains_iff_mem.mp z)))
    · obtain ⟨o, ho, rfl⟩ := List.mem_map.mp q
      refine ⟨⟨o, (List.mem_filter.mp ho).1, hs.trans List.filter_sublist⟩, ?_⟩
      rw [Bool.eq_false_iff]
      intro z
      exact (less_mem.mp (hs.subset (List.contains_iff_mem.mp z))).2 rfl
  · have hg' : g ∉ x := fun z => by rw [List.contains_iff_mem.mpr z] at hg; cases hg
    by_cases c : sub [g] o = true
    · refine ⟨less o g, List.mem_append_right _ (List.mem_map.mpr ⟨o, List.mem_filter.mpr ⟨ho, c⟩, rfl⟩), ?_⟩
      exact asc_sub ((hF o ho).sublist hs) ((hF o ho).filter _) fun y hy => less_mem.mpr ⟨hs.subset hy, fun z => hg' (z ▸ hy)⟩
    · exact ⟨o, List.mem_append_left _ (List.mem_filter.mpr ⟨ho, by rw [Bool.not_eq_true] at c; rw [c]; rfl⟩), hs⟩
theorem linkR1 (F : List (List Int)) (g : Int) : linkR F [g] = (F.filter (sub [g])).map fun o => less o g := by
  unfold linkR
  refine List.map_congr_left fun o _ => ?_
  unfold less
  refine List.filter_congr fun x _ => ?_
  by_cases c : x = g <;> simp [c]
theorem link_mem {F : List (List Int)} (hF : ∀ l ∈ F, Asc l) {g : Int} {y : List Int} : y ∈ lots (linkR F [g]) ↔ y ∈ ((lots F).filter fun x => x.contains g).map fun x => less x g := by
  rw [linkR1, lots_mem, List.mem_map]
  refine ⟨fun ⟨l, hl, hs⟩ => ?_, fun ⟨x, hx, e⟩ => ?_⟩
  · obtain ⟨o, ho, rfl⟩ := List.mem_map.mp hl
    obtain ⟨ho, hg⟩ := List.mem_filter.mp ho
    have hA := hF o ho
    have hy : ∀ z ∈ y, z ∈ o ∧ z ≠ g := fun z hz => less_mem.mp (hs.subset hz)
    refine ⟨o.filter fun z => decide (z ∈ y) || decide (z = g), List.mem_filter.mpr ⟨lots_mem.mpr ⟨o, ho, List.filter_sublist⟩, ?_⟩, ?_⟩
    · exact List.contains_iff_mem.mpr (List.mem_filter.mpr ⟨sub1.mp hg, by simp⟩)
    · refine asc_ext ((hA.filter _).filter _) ((hA.filter _).sublist hs) fun z => ?_
      rw [less_mem, List.mem_filter, Bool.or_eq_true, decide_eq_true_eq, decide_eq_true_eq]
      exact ⟨fun ⟨⟨_, q⟩, hne⟩ => q.resolve_right hne, fun q => ⟨⟨(hy z q).1, .inl q⟩, (hy z q).2⟩⟩
  · obtain ⟨hx, hg⟩ := List.mem_filter.mp hx
    obtain ⟨o, ho, hs⟩ := lots_mem.mp hx
    subst e
    refine ⟨less o g, List.mem_map.mpr ⟨o, List.mem_filter.mpr ⟨ho, sub1.mpr (hs.subset (List.contains_iff_mem.mp hg))⟩, rfl⟩, ?_⟩
    exact hs.filter _
theorem prodW_nil (ws : List Int) : prodW ws [] = 1 := rfl
theorem foldl_mulW (ws : List Int) : ∀ (l : List Int) (a : Int), l.foldl (fun a g => a * wAt ws g) a = a * prodW ws l
  | [], a => by rw [prodW_nil, Int.mul_one]; rfl
  | x :: l, a => by
    unfold prodW
    rw [List.foldl_cons, List.foldl_cons, foldl_mulW ws l, foldl_mulW ws l, Int.one_mul, Int.mul_assoc]
theorem prodW_cons (ws l : List Int) (x : Int) : prodW ws (x :: l) = wAt ws x * prodW ws l := by
  unfold prodW
  rw [List.foldl_cons, foldl_mulW, Int.one_mul]
  rfl
theorem prodW_less (ws : List Int) {g : Int} : ∀ {l : List Int}, l.Nodup → g ∈ l → prodW ws l = wAt ws g * prodW ws (less l g)
  | [], _, h => by simp at h
  | x :: l, nd, h => by
    have nd := List.nodup_cons.mp nd
    by_cases e : x = g
    · subst e
      have : less (x :: l) x = l := by
        unfold less
        rw [List.filter_cons_of_neg (by simp), List.filter_eq_self]
        intro y hy
        have : y ≠ x := fun z => nd.1 (z ▸ hy)
        simp [this]
      rw [this, prodW_cons]
    · have hg : g ∈ l := (List.mem_cons.mp h).resolve_left fun z => e z.symm
      have : less (x :: l) g = x :: less l g := by
        unfold less
        rw [List.filter_cons_of_pos (by simp [e])]
      rw [this, prodW_cons, prodW_cons, prodW_less ws nd.2 hg, ← Int.mul_assoc, ← Int.mul_assoc, Int.mul_comm (wAt ws x)]
theorem split_sum {n : Int} {F : List (List Int)} (hF : ∀ l ∈ F, Lot n l) (ws : List Int) (g : Int) :
    Sm (lots (great (withoutR F g))) (prodW ws) + wAt ws g * Sm (lots (great (linkR F [g]))) (prodW ws) = Sm (lots F) (prodW ws) := by
  have hA : ∀ l ∈ F, Asc l := fun l hl => (hF l hl).asc
  have hW : ∀ l ∈ withoutR F g, Asc l := fun l hl => by
    rcases List.mem_append.mp hl with q | q
    · exact hA l (List.mem_filter.mp q).1
    · obtain ⟨o, ho, rfl⟩ := List.mem_map.mp q
      exact (hA o (List.mem_filter.mp ho).1).filter _
  have hL : ∀ l ∈ linkR F [g], Asc l := fun l hl => by
    rw [linkR1] at hl
    obtain ⟨o, ho, rfl⟩ := List.mem_map.mp hl
    exact (hA o (List.mem_filter.mp ho).1).filter _
  rw [great_lots hW, great_lots hL, Sm_part (lots_nodup _) (lots_nodup F) (fun x => !x.contains g) (fun x => without_mem hA)]
  have nd2 : (((lots F).filter fun x => x.contains g).map fun x => less x g).Nodup := by
    refine List.pairwise_map.mpr (((lots_nodup F).filter _).imp_of_mem fun {a b} ha hb hne e => hne ?_)
    obtain ⟨ha, ga⟩ := List.mem_filter.mp ha
    obtain ⟨hb, gb⟩ := List.mem_filter.mp hb
    have ga := List.contains_iff_mem.mp ga
    have gb := List.contains_iff_mem.mp gb
    refine asc_ext (lots_lot hF ha).asc (lots_lot hF hb).asc fun x => ?_
    by_cases c : x = g
    · rw [c]; exact ⟨fun _ => gb, fun _ => ga⟩
    · have h1 := less_mem (l := a) (g := g) (x := x)
      have h2 := less_mem (l := b) (g := g) (x := x)
      rw [e] at h1
      exact ⟨fun z => (h2.mp (h1.mpr ⟨z, c⟩)).1, fun z => (h1.mp (h2.mpr ⟨z, c⟩)).1⟩
  rw [Sm_same (lots_nodup _) nd2 (fun x => link_mem hA), Sm_map, ← Sm_mul]
  rw [Sm_congr (L := (lots F).filter fun x => x.contains g) (h := prodW ws) fun x hx => by
    obtain ⟨hx, gx⟩ := List.mem_filter.mp hx
    exact (prodW_less ws (asc_nodup (lots_lot hF hx).asc) (List.contains_iff_mem.mp gx)).symm]
  rw [Sm_filter, ← Sm_add]
  refine Sm_congr fun x _ => ?_
  cases x.contains g <;> simp
end K15
end
section
set_option Elab.async false
set_option linter.all false
set_option maxRecDepth 100000
/-! Pe26: the law's first part. -/
namespace K15
open PySem PySem.Spec PySem.W L2 Pd
variable [TB]

theorem big2m : 2000000 ≤ sizeLine := by rw [sizeLine_eq]; decide
section
variable {α : Type} {mg : MG} {me : MV} {ρ : List Sl}
/-- a comprehension whose element draws from the pot -/
theorem lc_draw (e : α → D) (Q : D → Prop) (c B : Nat) : ∀ (ks : List α) (acc : List D) (k : Nat) (p : List Int), Pot k p → k + c * ks.length ≤ B →
    (∀ x ∈ ks, ∀ (j : Nat) (p : List Int), Pot j p → j ≤ B → ∃ ρ2 r z p2, mg (e x) ρ = some ρ2 ∧ me ρ2 p = some (r, p2) ∧ r.fix? = some z ∧ Q z ∧ Pot (j + c) p2) → acc.length + ks.length ≤ sizeLine →
    ∃ zs p2, lcGo mg mYes me ρ (ks.map e) acc p = some (acc ++ zs, p2) ∧ zs.length = ks.length ∧ (∀ z ∈ zs, Q z) ∧ Pot (k + c * ks.length) p2
  | [], acc, k, p, hp, _, _, _ => ⟨[], p, by simp [lcGo], rfl, by simp, by simpa using hp⟩
  | x :: ks, acc, k, p, hp, hB, h, hz => by
    rw [List.length_cons] at hB hz
    rw [Nat.mul_add, Nat.mul_one] at hB
    obtain ⟨ρ2, r, z, p2, h1, h2, h3, h4, h5⟩ := h x List.mem_cons_self k p hp (by omega)
    obtain ⟨zs, p3, g1, g2, g3, g4⟩ := lc_draw e Q c B ks (acc ++ [z]) (k + c) p2 h5 (by omega) (fun y hy => h y (List.mem_cons_of_mem _ hy)) (by rw [List.length_append, List.length_singleton]; omega)
    refine ⟨z :: zs, p3, ?_, by rw [List.length_cons, List.length_cons, g2], fun y hy => ?_, ?_⟩
    · rw [List.map_cons]
      unfold lcGo
      rw [h1, Option.bind_some]
      show ((some (true, p) : Option (Bool × List Int)).bind _) = _
      rw [Option.bind_some]
      simp only [if_true]
      rw [h2, Option.bind_some, h3, Option.bind_some, if_pos (by omega), g1]
      simp
    · rcases List.mem_cons.mp hy with rfl | hy
      · exact h4
      · exact g3 y hy
    · rw [List.length_cons, Nat.mul_add, Nat.mul_one]
      exact g4.mono (by omega)
theorem lc_drawn {mi : ML} {vs : List Nat} {p pt : List Int} {B k : Nat} (e : α → D) (Q : D → Prop) (c : Nat) (ks : List α) (hi : mi ρ pt = some (ks.map e, p)) (hp : Pot k p) (hB : k + c * ks.length ≤ B)
    (h : ∀ x ∈ ks, ∀ (j : Nat) (p : List Int), Pot j p → j ≤ B → ∃ ρ2 r z p2, mg (e x) (wipeR ρ vs) = some ρ2 ∧ me ρ2 p = some (r, p2) ∧ r.fix? = some z ∧ Q z ∧ Pot (j + c) p2) (hz : ks.length ≤ sizeLine) :
    ∃ zs p2, mLc mi mg mYes me vs ρ pt = some (.lst zs, p2) ∧ zs.length = ks.length ∧ (∀ z ∈ zs, Q z) ∧ Pot (k + c * ks.length) p2 := by
  obtain ⟨zs, p2, h1, h2, h3, h4⟩ := lc_draw (ρ := wipeR ρ vs) e Q c B ks [] k p hp hB h (by simpa using hz)
  refine ⟨zs, p2, ?_, h2, h3, h4⟩
  unfold mLc
  rw [hi, Option.bind_some, h1]
  simp
end
/-- data of one kind are an encoded list -/
theorem enc_list {α : Type} (e : α → D) (P : α → Prop) : ∀ zs : List D, (∀ z ∈ zs, ∃ x, z = e x ∧ P x) → ∃ xs : List α, zs = xs.map e ∧ ∀ x ∈ xs, P x
  | [], _ => ⟨[], rfl, by simp⟩
  | z :: zs, h => by
    obtain ⟨x, rfl, hx⟩ := h z List.mem_cons_self
    obtain ⟨xs, rfl, hxs⟩ := enc_list e P zs fun y hy => h y (List.mem_cons_of_mem _ hy)
    refine ⟨x :: xs, rfl, fun y hy => ?_⟩
    rcases List.mem_cons.mp hy with rfl | hy
    · exact hx
    · exact hxs y hy
/-! ### rows cut, sorted -/
def cutL {α : Type} (xs : List α) (lo hi : Option Int) : List α := (xs.drop (HT.sIx xs.length 0 lo)).take (HT.sIx xs.length xs.length hi - HT.sIx xs.length 0 lo)
theorem cut_map {α : Type} (e : α → D) (xs : List α) (lo hi : Option Int) : cutD (xs.map e) lo hi = (cutL xs lo hi).map e := by
  unfold cutD cutL
  rw [List.length_map, List.map_take, List.map_drop]
theorem cutL_sub {α : Type} (xs : List α) (lo hi : Option Int) : (cutL xs lo hi).Sublist xs := by
  unfold cutL
  exact (List.take_sublist _ _).trans (List.drop_sublist _ _)
theorem okSort_rD (R : List Row) : okSort (R.map rD) = true := by
  unfold okSort
  simp only [Bool.and_eq_true, Bool.or_eq_true, List.all_eq_true, List.mem_map, forall_exists_index, and_imp, forall_apply_eq_imp_iff₂, decide_eq_true_eq]
  refine ⟨⟨⟨enc_rD.layAll R, fun a _ b _ => ?_⟩, fun a _ => ?_⟩, .inl fun a _ => rfl⟩
  · simp only [alike, alikeAll, alike_ints a.1 b.1, Bool.and_self]
  · exact Nat.le_trans (enc_rD.dep a) (by decide)
theorem srt_rD (R : List Row) : ∃ R' : List Row, srtD (R.map rD) = R'.map rD ∧ R'.length = R.length ∧ ∀ p ∈ R', p ∈ R := by
  have hp : (srtD (R.map rD)).Perm (R.map rD) := List.mergeSort_perm _ _
  obtain ⟨R', e, h⟩ := enc_list rD (fun p => p ∈ R) (srtD (R.map rD)) fun z hz => by
    obtain ⟨p, hp, rfl⟩ := List.mem_map.mp (hp.mem_iff.mp hz)
    exact ⟨p, rfl, hp⟩
  refine ⟨R', e, ?_, h⟩
  have := hp.length_eq
  rw [e, List.length_map, List.length_map] at this
  exact this
theorem ne_no {α : Type} [DecidableEq α] {e : α → D} {k : Nat} (h : Enc e k) (hk : k ≤ 64) {r s : Rv} {x y : α} (hr : r.pd? = some (e x)) (hs : s.pd? = some (e y)) (hxy : x = y) : fEq true r s = some (.dat (.bool false)) := by
  rw [h.ne hk hr hs, decide_eq_true hxy]
  rfl
theorem eq_yes {α : Type} [DecidableEq α] {e : α → D} {k : Nat} (h : Enc e k) (hk : k ≤ 64) {r s : Rv} {x y : α} (hr : r.pd? = some (e x)) (hs : s.pd? = some (e y)) (hxy : x = y) : fEq false r s = some (.dat (.bool true)) := by
  rw [h.eq hk hr hs, decide_eq_true hxy]
section
variable {n : Int} {F : List (List Int)} {p : List Int} {x1 x2 x3 x4 x5 x6 x7 x8 x9 x10 x11 x12 x13 x14 x15 x16 x17 x18 x19 x20 x21 : Sl}
theorem r2 (h : Com n F) (hF : F ≠ []) : ((bFrz 1 (bSet 2 (mCB (f2 fSumL) (wCons (mCall g_law_lots (mCons (mVar 1) mNil)) (wCons (mLst mNil) wNil))))) : MB) [.pot, .dat (cD n F), x2, x3, x4, x5, x6, x7, x8, x9, x10, x11, x12, x13, x14, x15, x16, x17, x18, x19, x20, x21] p = some (.nx [.pot, .dat (cD n F), .lst ((lots F).map tI), x3, x4, x5, x6, x7, x8, x9, x10, x11, x12, x13, x14, x15, x16, x17, x18, x19, x20, x21] p) :=
  ev_set (flat_is (p := p) h.toFam hF rfl rfl) rfl
theorem r3 (h : Com n F) (hF : F ≠ []) : ((bFrz 1 (bIf (mVal (mOp (fEq true) (mCall g_signed (mCons (mVar 1) mNil)) (mCall g_law_signed (mCons (mVar 1) mNil)))) (bRet (mC (.bool false))) bNext)) : MB) [.pot, .dat (cD n F), .lst ((lots F).map tI), x3, x4, x5, x6, x7, x8, x9, x10, x11, x12, x13, x14, x15, x16, x17, x18, x19, x20, x21] p = some (.nx [.pot, .dat (cD n F), .lst ((lots F).map tI), x3, x4, x5, x6, x7, x8, x9, x10, x11, x12, x13, x14, x15, x16, x17, x18, x19, x20, x21] p) :=
  ev_ifF (val_is (op_is (call1_is rfl rfl (c_signed h)) (call1_is rfl rfl (c_law_signed h.toFam hF)) (ne_no enc_int (by decide) rfl rfl rfl))) rfl
theorem lst_is {ds : List D} {ma : MA} {ρ : List Sl} {pt p : List Int} (h : ma ρ pt = some (ds, p)) (hz : ds.length ≤ 1000) : mLst ma ρ pt = some (.lst ds, p) := by
  have big := big2m
  unfold mLst
  rw [h, Option.bind_some, if_pos (show ds.length ≤ sizeLine by omega)]
theorem r4 {k : Nat} (hp : Pot k p) (hk : k ≤ 500000) (h : Com n F) : ∃ ws p2, ((bSet 3 (mCB (f1 fTuple) (wCons (mLc (mRg1 (wCons (mOp fIx (mVar 1) (mC (.int 0))) wNil)) (gN 17) mYes (mCallP 0 g_law_of (mCons (mLst (mCons (mC (.int 0)) (mCons (mC (.int 1)) (mCons (mUn fNeg (mC (.int 1))) (mCons (mC (.int 1000)) (mCons (mUn fNeg (mC (.int 1000))) (mCons (mC (.int 7)) mNil))))))) mNil)) [17]) wNil))) : MB) [.pot, .dat (cD n F), x2, x3, x4, x5, x6, x7, x8, x9, x10, x11, x12, x13, x14, x15, x16, x17, x18, x19, x20, x21] p = some (.nx [.pot, .dat (cD n F), x2, .dat (tI ws), x4, x5, x6, x7, x8, x9, x10, x11, x12, x13, x14, x15, x16, x17, x18, x19, x20, x21] p2) ∧ Ws n ws ∧ Pot (k + 1 * n.toNat) p2 := by
  have h7 := h.n7
  have h1 := h.n1
  have big := big2m
  have hi : (mRg1 (wCons (mOp fIx (mVar 1) (mC (.int 0))) wNil) : ML) [.pot, .dat (cD n F), x2, x3, x4, x5, x6, x7, x8, x9, x10, x11, x12, x13, x14, x15, x16, x17, x18, x19, x20, x21] p = some ((List.range n.toNat).map fun (i : Nat) => .int (0 + (i : Int)), p) := by
    rw [rg1_is (j := n) (p := p) (op_is (z := .dat (.int n)) rfl rfl rfl) (by unfold small62; rw [Bool.and_eq_true]; exact ⟨decide_eq_true (by omega), decide_eq_true (by omega)⟩)]
    unfold rgD
    rw [Int.sub_zero]
  obtain ⟨zs, p2, e1, e2, e3, e4⟩ := lc_drawn (mg := gN 17) (vs := [17]) (me := mCallP 0 g_law_of (mCons (mLst (mCons (mC (.int 0)) (mCons (mC (.int 1)) (mCons (mUn fNeg (mC (.int 1))) (mCons (mC (.int 1000)) (mCons (mUn fNeg (mC (.int 1000))) (mCons (mC (.int 7)) mNil))))))) mNil)) (B := 600000)
    (fun (i : Nat) => .int (0 + (i : Int))) (fun z => ∃ x : Int, z = .int x ∧ -1000 ≤ x ∧ x ≤ 1000) 1 (List.range n.toNat) hi hp (by rw [List.length_range]; omega) (fun i _ j p hj hjB => by
      obtain ⟨z, p2, g1, g2, g3⟩ := c_law_of (l := [.int 0, .int 1, .int (-1), .int 1000, .int (-1000), .int 7]) hj (by omega) (by simp) (by simp)
      refine ⟨_, _, z, p2, rfl, callP1_is (x := .lst [.int 0, .int 1, .int (-1), .int 1000, .int (-1000), .int 7]) (p := p) rfl (lst_is rfl (by simp)) rfl g1, rfl, ?_, g3⟩
      simp only [List.mem_cons, List.not_mem_nil, or_false] at g2
      rcases g2 with rfl | rfl | rfl | rfl | rfl | rfl
      · exact ⟨0, rfl, by decide, by decide⟩
      · exact ⟨1, rfl, by decide, by decide⟩
      · exact ⟨-1, rfl, by decide, by decide⟩
      · exact ⟨1000, rfl, by decide, by decide⟩
      · exact ⟨-1000, rfl, by decide, by decide⟩
      · exact ⟨7, rfl, by decide, by decide⟩) (by rw [List.length_range]; omega)
  obtain ⟨ws, rfl, hws⟩ := enc_list (fun x : Int => PyData.int x) (fun x => -1000 ≤ x ∧ x ≤ 1000) zs e3
  rw [List.length_map, List.length_range] at e2
  rw [List.length_range] at e4
  exact ⟨ws, p2, ev_set (tup_is e1) rfl, ⟨by omega, fun w hw => (hws w hw).1, fun w hw => (hws w hw).2⟩, e4⟩
theorem sumList_is {f : List Int → Int} {me : MV} {vs : List Nat} {mi : ML} {mg : MG} {ρ : List Sl} {pt p : List Int} {L : List (List Int)} (hi : mi ρ pt = some (L.map tI, p)) (h : ∀ l ∈ L, ∃ ρ2, mg (tI l) (wipeR ρ vs) = some ρ2 ∧ ∃ r, me ρ2 p = some (r, p) ∧ r.fix? = some (.int (f l))) (hz : L.length ≤ 1000000) :
    mCB (f1 fSum) (wCons (mLc mi mg mYes me vs) wNil) ρ pt = some (.dat (.int (Sm L f)), p) :=
  cb1_is (lc_all tI (fun l => .int (f l)) L hi h (by have := big2m; omega)) (sum_is f L)
theorem r5 {ws : List Int} (h : Com n F) (hw : Ws n ws) : ((bFrz 1 (bIf (mVal (mOp (fEq true) (mCall g_sum_by (mCons (mVar 1) (mCons (mVar 3) mNil))) (mCB (f1 fSum) (wCons (mLc (mSeq (mVar 2)) (gN 4) mYes (mCall g_law_product (mCons (mVar 4) (mCons (mVar 3) mNil))) [4]) wNil)))) (bRet (mC (.bool false))) bNext)) : MB) [.pot, .dat (cD n F), .lst ((lots F).map tI), .dat (tI ws), x4, x5, x6, x7, x8, x9, x10, x11, x12, x13, x14, x15, x16, x17, x18, x19, x20, x21] p = some (.nx [.pot, .dat (cD n F), .lst ((lots F).map tI), .dat (tI ws), x4, x5, x6, x7, x8, x9, x10, x11, x12, x13, x14, x15, x16, x17, x18, x19, x20, x21] p) := by
  have hc := lots_count h.toFam
  refine ev_ifF (val_is (op_is (call2_is rfl rfl rfl rfl (c_sum_by h hw)) (sumList_is (f := prodW ws) (L := lots F) (p := p) (seq_is rfl rfl) (fun l hl => ⟨_, rfl, _, call2_is rfl rfl rfl rfl (c_law_product hw (lots_lot h.lot hl)), rfl⟩) (by omega)) (ne_no enc_int (by decide) rfl rfl ?_))) rfl
  exact sumBy_is h.lot ws
theorem r6 {k : Nat} (hp : Pot k p) (hk : k ≤ 500000) (h : Com n F) (hF : F ≠ []) : ∃ y4 p2, ((bFor (mSeqF (mSl (mVar 2) mNoP (mPart (mCallP 0 g_law_take (mCons (mC (.int 12)) mNil))))) (gN 4) (bFrz 1 (bIf (mVal (mOp (fEq true) (mCall g_sign_above (mCons (mVar 1) (mCons (mVar 4) mNil))) (mUn fNeg (mCall g_law_signed (mCons (mCall g_law_link (mCons (mVar 1) (mCons (mVar 4) mNil))) mNil))))) (bRet (mC (.bool false))) bNext))) : MB) [.pot, .dat (cD n F), .lst ((lots F).map tI), x3, x4, x5, x6, x7, x8, x9, x10, x11, x12, x13, x14, x15, x16, x17, x18, x19, x20, x21] p = some (.nx [.pot, .dat (cD n F), .lst ((lots F).map tI), x3, y4, x5, x6, x7, x8, x9, x10, x11, x12, x13, x14, x15, x16, x17, x18, x19, x20, x21] p2) ∧ Pot (k + 1) p2 := by
  obtain ⟨d, p2, g1, g2, g3, g4⟩ := c_law_take (u := 12) hp (by omega) (by omega) (by omega)
  have hc := lots_count h.toFam
  have hsl : (mSeqF (mSl (mVar 2) mNoP (mPart (mCallP 0 g_law_take (mCons (mC (.int 12)) mNil)))) : ML) [.pot, .dat (cD n F), .lst ((lots F).map tI), x3, x4, x5, x6, x7, x8, x9, x10, x11, x12, x13, x14, x15, x16, x17, x18, x19, x20, x21] p = some ((cutL (lots F) none (some d)).map tI, p2) := by
    have e : (mSl (mVar 2) mNoP (mPart (mCallP 0 g_law_take (mCons (mC (.int 12)) mNil))) : MV) [.pot, .dat (cD n F), .lst ((lots F).map tI), x3, x4, x5, x6, x7, x8, x9, x10, x11, x12, x13, x14, x15, x16, x17, x18, x19, x20, x21] p = some (.lst ((cutL (lots F) none (some d)).map tI), p2) := by
      rw [← cut_map]
      unfold mSl mNoP mPart
      rw [show (mVar 2 : MV) [.pot, .dat (cD n F), .lst ((lots F).map tI), x3, x4, x5, x6, x7, x8, x9, x10, x11, x12, x13, x14, x15, x16, x17, x18, x19, x20, x21] p = some (.vls ((lots F).map tI), p) from rfl, Option.bind_some, Option.bind_some, callP1_is (x := .dat (.int 12)) (p := p) rfl rfl rfl g1]
      rfl
    exact seqF_is e rfl rfl
  obtain ⟨ρ2, f1, y4, rfl⟩ := forGo_pre (α := List Int) (mg := gN 4) (p := p2) (m := bFrz 1 (bIf (mVal (mOp (fEq true) (mCall g_sign_above (mCons (mVar 1) (mCons (mVar 4) mNil))) (mUn fNeg (mCall g_law_signed (mCons (mCall g_law_link (mCons (mVar 1) (mCons (mVar 4) mNil))) mNil))))) (bRet (mC (.bool false))) bNext))
    (ρ := [.pot, .dat (cD n F), .lst ((lots F).map tI), x3, x4, x5, x6, x7, x8, x9, x10, x11, x12, x13, x14, x15, x16, x17, x18, x19, x20, x21]) tI (fun done ρ => ∃ y4, ρ = [.pot, .dat (cD n F), .lst ((lots F).map tI), x3, y4, x5, x6, x7, x8, x9, x10, x11, x12, x13, x14, x15, x16, x17, x18, x19, x20, x21]) (cutL (lots F) none (some d)) ⟨_, rfl⟩ fun done l rest ρ' hk ⟨y4, hρ⟩ => by
      subst hρ
      have hlm : l ∈ lots F := (cutL_sub (lots F) none (some d)).subset (by rw [hk]; simp)
      have hll := lots_lot h.lot hlm
      have h7 := hll.len h.n7
      refine ⟨_, _, rfl, ev_ifF (val_is (op_is (call2_is rfl rfl rfl rfl (c_sign_above h hll ((mem_lots h.lot hll).mp hlm))) (un_is (call1_is (call2_is rfl rfl rfl rfl (c_law_link h.toFam (by omega))) rfl (c_law_signed (link_com h.toFam l).toFam (link_ne h.toFam hlm))) rfl) (ne_no enc_int (by decide) rfl rfl rfl))) rfl, .dat (tI l), rfl⟩
  exact ⟨y4, p2, ev_for hsl f1, g4⟩
abbrev Td (F : List (List Int)) : Sl := .dat (rsD (told F))
theorem r7 (h : Com n F) : ((bFrz 1 (bSet 5 (mCall g_least_sums (mCons (mVar 1) mNil)))) : MB) [.pot, .dat (cD n F), x2, x3, x4, x5, x6, x7, x8, x9, x10, x11, x12, x13, x14, x15, x16, x17, x18, x19, x20, x21] p = some (.nx [.pot, .dat (cD n F), x2, x3, x4, Td F, x6, x7, x8, x9, x10, x11, x12, x13, x14, x15, x16, x17, x18, x19, x20, x21] p) := ev_set (call1_is rfl rfl (c_least_sums h)) rfl
theorem told_rows (h : Com n F) : Rows n (told F) := ⟨fun p hp => (row_mt h.lot ((told_perm F).mem_iff.mp hp)).lot h.lot, by rw [(told_perm F).length_eq]; have := rows_len h.lot h.n7; omega⟩
theorem told_len (h : Com n F) : (told F).length ≤ 128 := by rw [(told_perm F).length_eq]; exact rows_len h.lot h.n7
theorem r8 (h : Com n F) (hF : F ≠ []) : ((bFrz 5 (bFrz 1 (bIf (mOr (mVal (mOp (fEq true) (mVar 5) (mCall g_law_least_sums (mCons (mVar 1) mNil)))) (mNot (mVal (mCall g_law_is_sums (mCons (mVar 1) (mCons (mVar 5) mNil)))))) (bRet (mC (.bool false))) bNext))) : MB) [.pot, .dat (cD n F), x2, x3, x4, Td F, x6, x7, x8, x9, x10, x11, x12, x13, x14, x15, x16, x17, x18, x19, x20, x21] p = some (.nx [.pot, .dat (cD n F), x2, x3, x4, Td F, x6, x7, x8, x9, x10, x11, x12, x13, x14, x15, x16, x17, x18, x19, x20, x21] p) :=
  ev_ifF (or_is (a := false) (b := false) (val_is (op_is rfl (call1_is rfl rfl (c_law_least_sums h.toFam)) (ne_no enc_rsD (by decide) rfl rfl rfl))) fun _ => not_is (b := true) (val_is (call2_is rfl rfl rfl rfl ((c_law_is_sums h.toFam hF (told_rows h)).trans (by rw [told_is h.lot]))))) rfl
theorem told_pos (h : Com n F) (hF : F ≠ []) : told F ≠ [] := fun e => by
  have h1 := told_sum h.lot fun l => if l = [] then 1 else 0
  rw [e, Sm_nil] at h1
  have h2 : ([] : List Int) ∈ lots F := by
    cases F with
    | nil => exact absurd rfl hF
    | cons a F => exact lots_mem.mpr ⟨a, List.mem_cons_self, List.nil_sublist _⟩
  obtain ⟨q, hq, hs⟩ : ∃ q ∈ rows F, sub [] q.1 = true := by
    have h3 := sumUp_one h.lot h2
    unfold sumUp at h3
    cases hL : (rows F).filter fun p => sub [] p.1 with
    | nil => rw [hL] at h3; simp at h3
    | cons q r =>
      have : q ∈ (rows F).filter fun p => sub [] p.1 := by rw [hL]; exact List.mem_cons_self
      exact ⟨q, (List.mem_filter.mp this).1, (List.mem_filter.mp this).2⟩
  have := (told_perm F).mem_iff.mpr hq
  rw [e] at this
  simp at this
theorem r9 {k : Nat} (hp : Pot k p) (hk : k ≤ 500000) (h : Com n F) (hF : F ≠ []) : ∃ (a : Nat) (p2 : List Int), ((bSet 6 (mCallP 0 g_law_take (mCons (mCB (f1 fLen) (wCons (mVar 5) wNil)) mNil))) : MB) [.pot, x1, x2, x3, x4, Td F, x6, x7, x8, x9, x10, x11, x12, x13, x14, x15, x16, x17, x18, x19, x20, x21] p = some (.nx [.pot, x1, x2, x3, x4, Td F, .dat (.int (a : Int)), x7, x8, x9, x10, x11, x12, x13, x14, x15, x16, x17, x18, x19, x20, x21] p2) ∧ a < (told F).length ∧ Pot (k + 1) p2 := by
  have hpos := List.length_pos_iff.mpr (told_pos h hF)
  have hl := told_len h
  obtain ⟨d, p2, g1, g2, g3, g4⟩ := c_law_take (u := ((told F).length : Int)) hp (by omega) (by omega) (by omega)
  refine ⟨d.toNat, p2, ?_, by omega, g4⟩
  have e : (d.toNat : Int) = d := by omega
  rw [e]
  exact ev_set (callP1_is (x := .dat (.int ((told F).length : Int))) (p := p) rfl (cb1_is (r := .dat (rsD (told F))) rfl (by show some (Rv.dat (.int (((told F).map rD).length : Nat))) = _; rw [List.length_map])) rfl g1) rfl
theorem r10 {a : Nat} {l : List Int} {v : Int} (ha : (told F)[a]? = some (l, v)) : ((bAsg (gN2 4 19) (mOp fIx (mVar 5) (mVar 6))) : MB) [.pot, x1, x2, x3, x4, Td F, .dat (.int (a : Int)), x7, x8, x9, x10, x11, x12, x13, x14, x15, x16, x17, x18, x19, x20, x21] p = some (.nx [.pot, x1, x2, x3, .dat (tI l), Td F, .dat (.int (a : Int)), x7, x8, x9, x10, x11, x12, x13, x14, x15, x16, x17, x18, .dat (.int v), x20, x21] p) := by
  have e : (mOp fIx (mVar 5) (mVar 6) : MV) [.pot, x1, x2, x3, x4, Td F, .dat (.int (a : Int)), x7, x8, x9, x10, x11, x12, x13, x14, x15, x16, x17, x18, x19, x20, x21] p = some (.dat (rD (l, v)), p) := by
    refine op_is (x := .dat (rsD (told F))) (y := .dat (.int (a : Int))) (p := p) (q := p) rfl rfl ?_
    show ((atI ((told F).map rD) a).map Rv.dat) = _
    rw [atI_nat (v := rD (l, v)) (by rw [List.getElem?_map, ha]; rfl)]
    rfl
  unfold bAsg
  rw [e]
  rfl
theorem r11 {k : Nat} (hp : Pot k p) (hk : k ≤ 500000) (h : Com n F) (hF : F ≠ []) : ∃ (o : List Int) (p2 : List Int), ((bFrz 2 (bSet 7 (mCallP 0 g_law_of (mCons (mVar 2) mNil)))) : MB) [.pot, x1, .lst ((lots F).map tI), x3, x4, x5, x6, x7, x8, x9, x10, x11, x12, x13, x14, x15, x16, x17, x18, x19, x20, x21] p = some (.nx [.pot, x1, .dat (.list ((lots F).map tI)), x3, x4, x5, x6, .dat (tI o), x8, x9, x10, x11, x12, x13, x14, x15, x16, x17, x18, x19, x20, x21] p2) ∧ o ∈ lots F ∧ Pot (k + 1) p2 := by
  have hc := lots_count h.toFam
  have hne : lots F ≠ [] := by
    cases F with
    | nil => exact absurd rfl hF
    | cons a F =>
      intro e
      have : ([] : List Int) ∈ lots (a :: F) := lots_mem.mpr ⟨a, List.mem_cons_self, List.nil_sublist _⟩
      rw [e] at this
      simp at this
  obtain ⟨z, p2, g1, g2, g3⟩ := c_law_of (l := (lots F).map tI) hp (by omega) (fun e => hne (List.map_eq_nil_iff.mp e)) (by rw [List.length_map]; omega)
  obtain ⟨o, ho, rfl⟩ := List.mem_map.mp g2
  exact ⟨o, p2, ev_set (callP1_is (x := .dat (.list ((lots F).map tI))) (p := p) rfl rfl rfl g1) rfl, ho, g3⟩
theorem fSl_rs (R : List Row) (lo hi : Option Int) : fSl (.dat (rsD R)) lo hi = some (.dat (rsD (cutL R lo hi))) := by
  show some (Rv.dat (.tuple (cutD (R.map rD) lo hi))) = _
  rw [cut_map]
theorem cat_rs (R S : List Row) (hz : R.length + S.length ≤ 1000) : fAdd3 (.dat (rsD R)) (.dat (rsD S)) = some (.dat (rsD (R ++ S))) := by
  have big := big2m
  rw [show fAdd3 (.dat (rsD R)) (.dat (rsD S)) = _ from catT_is (by rw [List.length_map, List.length_map]; omega), ← List.map_append]
abbrev V3 (F : List (List Int)) (a : Int) : List Row := cutL (told F) none (some a) ++ cutL (told F) (some (a + 1)) none
abbrev V4 (F : List (List Int)) (a : Int) (l : List Int) (v : Int) : List Row := (cutL (told F) none (some a) ++ [(l, v + 1)]) ++ cutL (told F) (some (a + 1)) none
abbrev Vs (F : List (List Int)) (a : Int) (l : List Int) (v : Int) : List (List Row) := [told F, allSums F, V3 F a, V4 F a l v]
theorem sl_up {me mh : MV} {ρ : List Sl} {pt : List Int} {x z : Rv} {j : Int} (ha : me ρ pt = some (x, pt)) (hj : mh ρ pt = some (.dat (.int j), pt)) (h : fSl x none (some j) = some z) : mSl me mNoP (mPart mh) ρ pt = some (z, pt) := by
  unfold mSl mNoP mPart
  rw [ha, Option.bind_some, Option.bind_some, hj]
  show (fSl x none (some j)).map _ = _
  rw [h]
  rfl
theorem sl_dn {me mh : MV} {ρ : List Sl} {pt : List Int} {x z : Rv} {j : Int} (ha : me ρ pt = some (x, pt)) (hj : mh ρ pt = some (.dat (.int j), pt)) (h : fSl x (some j) none = some z) : mSl me (mPart mh) mNoP ρ pt = some (z, pt) := by
  unfold mSl mNoP mPart
  rw [ha, Option.bind_some, hj]
  show (fSl x (some j) none).map _ = _
  rw [h]
  rfl
theorem cons_is {me : MV} {mr : MA} {ρ : List Sl} {pt p q : List Int} {x : Rv} {d : D} {ds : List D} (ha : me ρ pt = some (x, p)) (hd : x.fix? = some d) (hr : mr ρ p = some (ds, q)) : mCons me mr ρ pt = some (d :: ds, q) := by
  unfold mCons
  rw [ha, Option.bind_some, hd, Option.bind_some, hr]
  rfl
theorem r12 {a : Int} {l : List Int} {v : Int} (h : Com n F) (hF : F ≠ []) : ((bFrz 1 (bSet 8 (mLst (mCons (mVar 5) (mCons (mCall g_law_all_sums (mCons (mVar 1) mNil)) (mCons (mOp fAdd3 (mSl (mVar 5) mNoP (mPart (mVar 6))) (mSl (mVar 5) (mPart (mOp fAdd3 (mVar 6) (mC (.int 1)))) mNoP)) (mCons (mOp fAdd3 (mOp fAdd3 (mSl (mVar 5) mNoP (mPart (mVar 6))) (mTup (mCons (mTup (mCons (mVar 4) (mCons (mOp fAdd3 (mVar 19) (mC (.int 1))) mNil))) mNil))) (mSl (mVar 5) (mPart (mOp fAdd3 (mVar 6) (mC (.int 1)))) mNoP)) mNil))))))) : MB) [.pot, .dat (cD n F), x2, x3, .dat (tI l), Td F, .dat (.int a), x7, x8, x9, x10, x11, x12, x13, x14, x15, x16, x17, x18, .dat (.int v), x20, x21] p = some (.nx [.pot, .dat (cD n F), x2, x3, .dat (tI l), Td F, .dat (.int a), x7, .lst ((Vs F a l v).map rsD), x9, x10, x11, x12, x13, x14, x15, x16, x17, x18, .dat (.int v), x20, x21] p) := by
  have hl := told_len h
  have c1 := (cutL_sub (told F) none (some a)).length_le
  have c2 := (cutL_sub (told F) (some (a + 1)) none).length_le
  have e1 : (mSl (mVar 5) mNoP (mPart (mVar 6)) : MV) [.pot, .dat (cD n F), x2, x3, .dat (tI l), Td F, .dat (.int a), x7, x8, x9, x10, x11, x12, x13, x14, x15, x16, x17, x18, .dat (.int v), x20, x21] p = some (.dat (rsD (cutL (told F) none (some a))), p) := sl_up rfl rfl (fSl_rs _ _ _)
  have e2 : (mSl (mVar 5) (mPart (mOp fAdd3 (mVar 6) (mC (.int 1)))) mNoP : MV) [.pot, .dat (cD n F), x2, x3, .dat (tI l), Td F, .dat (.int a), x7, x8, x9, x10, x11, x12, x13, x14, x15, x16, x17, x18, .dat (.int v), x20, x21] p = some (.dat (rsD (cutL (told F) (some (a + 1)) none)), p) := sl_dn rfl (op_is rfl rfl (add3_is _ _)) (fSl_rs _ _ _)
  have e3 : (mTup (mCons (mTup (mCons (mVar 4) (mCons (mOp fAdd3 (mVar 19) (mC (.int 1))) mNil))) mNil) : MV) [.pot, .dat (cD n F), x2, x3, .dat (tI l), Td F, .dat (.int a), x7, x8, x9, x10, x11, x12, x13, x14, x15, x16, x17, x18, .dat (.int v), x20, x21] p = some (.dat (rsD [(l, v + 1)]), p) := tup1_is (tup2_is rfl rfl (op_is rfl rfl (add3_is _ _)) rfl) rfl
  exact ev_set (lst_is (cons_is (d := rsD (told F)) rfl rfl (cons_is (call1_is rfl rfl (c_law_all_sums h.toFam hF)) rfl (cons_is (op_is e1 e2 (cat_rs _ _ (by omega))) rfl (cons_is (op_is (op_is e1 e3 (cat_rs _ _ (by rw [List.length_singleton]; omega))) e2 (cat_rs _ _ (by rw [List.length_append, List.length_singleton]; omega))) rfl rfl)))) (by simp)) rfl
theorem allSums_rows (h : Com n F) : Rows n (allSums F) := by
  have hc := lots_count h.toFam
  refine ⟨fun q hq => ?_, ?_⟩
  · unfold allSums at hq
    obtain ⟨l, hl, rfl⟩ := List.mem_map.mp hq
    exact lots_lot h.lot (sortI_mem.mp (List.mem_filter.mp hl).1)
  · unfold allSums
    rw [List.length_map]
    have h1 := List.length_filter_le (fun l => !decide (chi F l = 0)) (Pd.sortI (lots F))
    rw [sortI_len] at h1
    omega
theorem vs_rows {a : Int} {l : List Int} {v : Int} (h : Com n F) (hl : Lot n l) : ∀ R ∈ Vs F a l v, Rows n R := by
  have h1 := told_rows h
  have hl7 := told_len h
  have c1 := cutL_sub (told F) none (some a)
  have c2 := cutL_sub (told F) (some (a + 1)) none
  have c3 := c1.length_le
  have c4 := c2.length_le
  intro R hR
  simp only [List.mem_cons, List.not_mem_nil, or_false] at hR
  rcases hR with rfl | rfl | rfl | rfl
  · exact h1
  · exact allSums_rows h
  · refine ⟨fun q hq => ?_, by rw [List.length_append]; omega⟩
    rcases List.mem_append.mp hq with z | z
    · exact h1.lot q (c1.subset z)
    · exact h1.lot q (c2.subset z)
  · refine ⟨fun q hq => ?_, by rw [List.length_append, List.length_append, List.length_singleton]; omega⟩
    rcases List.mem_append.mp hq with z | z
    · rcases List.mem_append.mp z with z | z
      · exact h1.lot q (c1.subset z)
      · rw [List.mem_singleton.mp z]; exact hl
    · exact h1.lot q (c2.subset z)
theorem r13 {k : Nat} {VS : List (List Row)} {o : List Int} (hp : Pot k p) (hk : k ≤ 500000) (h : Com n F) (ho : Lot n o) (hV : VS.length ≤ 10) : ∃ (R : List Row) (p2 : List Int), ((bApp 8 (mCB (f1 fTuple) (wCons (mCB (f1 fSorted) (wCons (mOp fAdd3 (mLc (mSeq (mVar 5)) (gN 21) (mVal (mOp (fEq true) (mOp fIx (mVar 21) (mC (.int 0))) (mVar 7))) (mVar 21) [21]) (mLst (mCons (mTup (mCons (mVar 7) (mCons (mOp (fI fun i j => i - j) (mCallP 0 g_law_take (mCons (mC (.int 5)) mNil)) (mC (.int 2))) mNil))) mNil))) wNil)) wNil))) : MB) [.pot, x1, x2, x3, x4, Td F, x6, .dat (tI o), .lst (VS.map rsD), x9, x10, x11, x12, x13, x14, x15, x16, x17, x18, x19, x20, x21] p = some (.nx [.pot, x1, x2, x3, x4, Td F, x6, .dat (tI o), .lst ((VS ++ [R]).map rsD), x9, x10, x11, x12, x13, x14, x15, x16, x17, x18, x19, x20, x21] p2) ∧ Rows n R ∧ Pot (k + 1) p2 := by
  have big := big2m
  have hl := told_len h
  have h1 := told_rows h
  obtain ⟨d, p2, g1, g2, g3, g4⟩ := c_law_take (u := 5) hp (by omega) (by omega) (by omega)
  let T := (told F).filter fun q => !decide (q.1 = o)
  have hT : T.length ≤ (told F).length := List.length_filter_le _ _
  obtain ⟨R, s1, s2, s3⟩ := srt_rD (T ++ [(o, d - 2)])
  have ec : (mLc (mSeq (mVar 5)) (gN 21) (mVal (mOp (fEq true) (mOp fIx (mVar 21) (mC (.int 0))) (mVar 7))) (mVar 21) [21] : MV) [.pot, x1, x2, x3, x4, Td F, x6, .dat (tI o), .lst (VS.map rsD), x9, x10, x11, x12, x13, x14, x15, x16, x17, x18, x19, x20, x21] p = some (.lst (T.map rD), p) :=
    lc_map rD (fun q => !decide (q.1 = o)) rD (told F) (seq_is rfl rfl) (fun q _ => ⟨_, rfl, val_is (op_is (op_is (z := .dat (tI q.1)) rfl rfl rfl) rfl (enc_tI.ne (by decide) rfl rfl)), fun _ => ⟨_, rfl, rfl⟩⟩) (by omega)
  have el : (mLst (mCons (mTup (mCons (mVar 7) (mCons (mOp (fI fun i j => i - j) (mCallP 0 g_law_take (mCons (mC (.int 5)) mNil)) (mC (.int 2))) mNil))) mNil) : MV) [.pot, x1, x2, x3, x4, Td F, x6, .dat (tI o), .lst (VS.map rsD), x9, x10, x11, x12, x13, x14, x15, x16, x17, x18, x19, x20, x21] p = some (.lst [rD (o, d - 2)], p2) :=
    lst_is (cons_is (tup2_is (x := .dat (tI o)) (p := p) rfl rfl (op_is (x := .dat (.int d)) (y := .dat (.int 2)) (p := p2) (callP1_is (x := .dat (.int 5)) (p := p) rfl rfl rfl g1) rfl rfl) rfl) rfl rfl) (by simp)
  have ecat := op_is (f := fAdd3) ec el (cat_is (xs := T.map rD) (ys := [rD (o, d - 2)]) rfl rfl rfl (by rw [List.length_map, List.length_singleton]; omega))
  have e0 : T.map rD ++ [rD (o, d - 2)] = (T ++ [(o, d - 2)]).map rD := by rw [List.map_append]; rfl
  rw [e0] at ecat
  have hR : Rows n R := by
    refine ⟨fun q hq => ?_, by rw [s2, List.length_append, List.length_singleton]; omega⟩
    rcases List.mem_append.mp (s3 q hq) with z | z
    · exact h1.lot q (List.mem_filter.mp z).1
    · rw [List.mem_singleton.mp z]; exact ho
  refine ⟨R, p2, ?_, hR, g4⟩
  have ev := ev_app (xs := VS.map rsD) (i := 8) (d := rsD R) rfl (cb1_is (f := fTuple) (r := .lst (R.map rD)) (z := .dat (rsD R)) (cb1_is (f := fSorted) (z := .lst (R.map rD)) ecat (by show (if okSort _ = true then some (Rv.lst (srtD _)) else none) = _; rw [if_pos (okSort_rD _), s1])) rfl) rfl (by rw [List.length_map]; omega)
  refine ev.trans ?_
  rw [List.map_append (f := rsD) (l₁ := VS)]
  rfl
theorem r14 {VS : List (List Row)} (h : Com n F) (hF : F ≠ []) (hV : ∀ R ∈ VS, Rows n R) : ∃ y9, ((bFrz 8 (bFor (mSeqF (mVar 8)) (gN 9) (bFrz 1 (bIf (mVal (mOp (fEq true) (mCB (f1 fReprB) (wCons (mCall g_shows_sums (mCons (mVar 1) (mCons (mVar 9) mNil))) wNil)) (mCB (f1 fReprB) (wCons (mCall g_law_is_sums (mCons (mVar 1) (mCons (mVar 9) mNil))) wNil)))) (bRet (mC (.bool false))) bNext)))) : MB) [.pot, .dat (cD n F), x2, x3, x4, x5, x6, x7, .lst (VS.map rsD), x9, x10, x11, x12, x13, x14, x15, x16, x17, x18, x19, x20, x21] p = some (.nx [.pot, .dat (cD n F), x2, x3, x4, x5, x6, x7, .dat (.list (VS.map rsD)), y9, x10, x11, x12, x13, x14, x15, x16, x17, x18, x19, x20, x21] p) := by
  obtain ⟨ρ2, f1, y9, rfl⟩ := forGo_pre (α := List Row) (mg := gN 9) (p := p) (m := bFrz 1 (bIf (mVal (mOp (fEq true) (mCB (f1 fReprB) (wCons (mCall g_shows_sums (mCons (mVar 1) (mCons (mVar 9) mNil))) wNil)) (mCB (f1 fReprB) (wCons (mCall g_law_is_sums (mCons (mVar 1) (mCons (mVar 9) mNil))) wNil)))) (bRet (mC (.bool false))) bNext))
    (ρ := [.pot, .dat (cD n F), x2, x3, x4, x5, x6, x7, .dat (.list (VS.map rsD)), x9, x10, x11, x12, x13, x14, x15, x16, x17, x18, x19, x20, x21]) rsD (fun done ρ => ∃ y9, ρ = [.pot, .dat (cD n F), x2, x3, x4, x5, x6, x7, .dat (.list (VS.map rsD)), y9, x10, x11, x12, x13, x14, x15, x16, x17, x18, x19, x20, x21]) VS ⟨_, rfl⟩ fun done R rest ρ' hk ⟨y9, hρ⟩ => by
      subst hρ
      have hR := hV R (by rw [hk]; simp)
      exact ⟨_, _, rfl, ev_ifF (val_is (op_is (cb1_is (call2_is rfl rfl rfl rfl (c_shows_sums h hR)) rfl) (cb1_is (call2_is rfl rfl rfl rfl (c_law_is_sums h.toFam hF hR)) rfl) (ne_no enc_rb (by decide) rfl rfl (shows_is h.lot hR)))) rfl, .dat (rsD R), rfl⟩
  exact ⟨y9, ev_for (seqF_is rfl rfl rfl) f1⟩
end

end K15
end
section
set_option Elab.async false
set_option linter.all false
set_option maxRecDepth 100000
/-! Pe27: the law's second part. -/
namespace K15
open PySem PySem.Spec PySem.W L2 Pd
variable [TB]

section
variable {n : Int} {F : List (List Int)} {p : List Int} {x1 x2 x3 x4 x5 x6 x7 x8 x9 x10 x11 x12 x13 x14 x15 x16 x17 x18 x19 x20 x21 : Sl}
/-- numbers for lots are a function -/
theorem fun_of {L : List (List Int)} (nd : L.Nodup) : ∀ {xs : List Int}, xs.length = L.length → ∃ f : List Int → Int, xs = L.map f := by
  induction L with
  | nil =>
    intro xs h
    exact ⟨fun _ => 0, by rw [List.eq_nil_of_length_eq_zero h]; rfl⟩
  | cons l L ih =>
    intro xs h
    cases xs with
    | nil => simp at h
    | cons x xs =>
      have nd := List.nodup_cons.mp nd
      obtain ⟨f, rfl⟩ := ih nd.2 (by simpa using h)
      refine ⟨fun k => if k = l then x else f k, ?_⟩
      rw [List.map_cons, if_pos rfl]
      congr 1
      refine List.map_congr_left fun k hk => ?_
      have hne : k ≠ l := fun e => nd.1 (e ▸ hk)
      rw [if_neg hne]
theorem pow30 : fIc cPowW (fun i j => i ^ j.toNat) (.dat (.int 10)) (.dat (.int 30)) = some (.dat (.int (10 ^ 30))) := by
  show (if cPowW 10 30 = true then some (Rv.dat (PyData.int ((10 : Int) ^ (30 : Int).toNat))) else none) = _
  rw [if_pos (by decide +kernel)]
  rfl
theorem r15 {k : Nat} (hp : Pot k p) (hk : k ≤ 500000) (h : Com n F) : ∃ (f : List Int → Int) (p2 : List Int), ((bSet 10 (mCB (f1 fTuple) (wCons (mLc (mSeq (mVar 2)) (gN 4) mYes (mCallP 0 g_law_of (mCons (mLst (mCons (mC (.int 0)) (mCons (mC (.int 1)) (mCons (mUn fNeg (mC (.int 3))) (mCons (mOp (fIc cPowW fun i j => i ^ j.toNat) (mC (.int 10)) (mC (.int 30))) (mCons (mCallP 0 g_law_take (mCons (mC (.int 50)) mNil)) mNil)))))) mNil)) [4]) wNil))) : MB) [.pot, x1, .dat (.list ((lots F).map tI)), x3, x4, x5, x6, x7, x8, x9, x10, x11, x12, x13, x14, x15, x16, x17, x18, x19, x20, x21] p = some (.nx [.pot, x1, .dat (.list ((lots F).map tI)), x3, x4, x5, x6, x7, x8, x9, .dat (tI ((lots F).map f)), x11, x12, x13, x14, x15, x16, x17, x18, x19, x20, x21] p2) ∧ Pot (k + 2 * (lots F).length) p2 := by
  have big := big2m
  have hc := lots_count h.toFam
  obtain ⟨zs, p2, e1, e2, e3, e4⟩ := lc_drawn (mg := gN 4) (vs := [4]) (me := mCallP 0 g_law_of (mCons (mLst (mCons (mC (.int 0)) (mCons (mC (.int 1)) (mCons (mUn fNeg (mC (.int 3))) (mCons (mOp (fIc cPowW fun i j => i ^ j.toNat) (mC (.int 10)) (mC (.int 30))) (mCons (mCallP 0 g_law_take (mCons (mC (.int 50)) mNil)) mNil)))))) mNil)) (B := 600000)
    (mi := mSeq (mVar 2)) (ρ := [.pot, x1, .dat (.list ((lots F).map tI)), x3, x4, x5, x6, x7, x8, x9, x10, x11, x12, x13, x14, x15, x16, x17, x18, x19, x20, x21]) tI (fun z => ∃ x : Int, z = .int x ∧ True) 2 (lots F) (pt := p) (p := p) (seq_is rfl rfl) hp (by omega) (fun l _ j p hj hjB => by
      obtain ⟨d, q, q1, q2, q3, q4⟩ := c_law_take (u := 50) hj (by omega) (by omega) (by omega)
      obtain ⟨z, p2, g1, g2, g3⟩ := c_law_of (l := [.int 0, .int 1, .int (-3), .int (10 ^ 30), .int d]) q4 (by omega) (by simp) (by simp)
      refine ⟨_, _, z, p2, rfl, callP1_is (x := .lst [.int 0, .int 1, .int (-3), .int (10 ^ 30), .int d]) (p := q) rfl (lst_is (cons_is (q := q) rfl rfl (cons_is rfl rfl (cons_is rfl rfl (cons_is (op_is rfl rfl pow30) rfl (cons_is (callP1_is (x := .dat (.int 50)) (p := p) rfl rfl rfl q1) rfl rfl))))) (by simp)) rfl g1, rfl, ?_, g3⟩
      simp only [List.mem_cons, List.not_mem_nil, or_false] at g2
      rcases g2 with rfl | rfl | rfl | rfl | rfl
      · exact ⟨0, rfl, trivial⟩
      · exact ⟨1, rfl, trivial⟩
      · exact ⟨-3, rfl, trivial⟩
      · exact ⟨10 ^ 30, rfl, trivial⟩
      · exact ⟨d, rfl, trivial⟩) (by omega)
  obtain ⟨xs, rfl, _⟩ := enc_list (fun x : Int => PyData.int x) (fun _ => True) zs e3
  rw [List.length_map] at e2
  obtain ⟨f, rfl⟩ := fun_of (lots_nodup F) e2
  exact ⟨f, p2, ev_set (tup_is e1) rfl, e4⟩
theorem r16 {f : List Int → Int} : ((bSet 11 (mDictL (mLZip (wCons (mVar 2) (wCons (mVar 10) wNil))))) : MB) [.pot, x1, .dat (.list ((lots F).map tI)), x3, x4, x5, x6, x7, x8, x9, .dat (tI ((lots F).map f)), x11, x12, x13, x14, x15, x16, x17, x18, x19, x20, x21] p = some (.nx [.pot, x1, .dat (.list ((lots F).map tI)), x3, x4, x5, x6, x7, x8, x9, .dat (tI ((lots F).map f)), .dic (fD (lots F) f), x12, x13, x14, x15, x16, x17, x18, x19, x20, x21] p) := by
  have ez : (mLZip (wCons (mVar 2) (wCons (mVar 10) wNil)) : MV) [.pot, x1, .dat (.list ((lots F).map tI)), x3, x4, x5, x6, x7, x8, x9, .dat (tI ((lots F).map f)), x11, x12, x13, x14, x15, x16, x17, x18, x19, x20, x21] p = some (.lst (itemD (fD (lots F) f)), p) := by
    unfold mLZip
    rw [w2_is (x := .dat (.list ((lots F).map tI))) (y := .dat (tI ((lots F).map f))) (p := p) (q := p) rfl rfl, Option.bind_some]
    show (if ((lots F).map tI).length = (((lots F).map f).map PyData.int).length then some (Rv.lst (zipD ((lots F).map tI) (((lots F).map f).map PyData.int)), p) else none) = _
    rw [if_pos (by rw [List.length_map, List.length_map, List.length_map])]
    congr 3
    unfold zipD itemD fD
    rw [List.map_map, List.map_map, List.zipWith_map]
    induction lots F with
    | nil => rfl
    | cons a L ih => rw [List.zipWith_cons_cons, List.map_cons, ih]; rfl
  have em : (mDictL (mLZip (wCons (mVar 2) (wCons (mVar 10) wNil))) : MV) [.pot, x1, .dat (.list ((lots F).map tI)), x3, x4, x5, x6, x7, x8, x9, .dat (tI ((lots F).map f)), x11, x12, x13, x14, x15, x16, x17, x18, x19, x20, x21] p = some (.dic (fD (lots F) f), p) := by
    unfold mDictL
    rw [ez, Option.bind_some]
    show ((pairsA? (itemD (fD (lots F) f))).map _) = _
    rw [pairsA_map, Option.map_some, putAll_nodup]
    rw [List.map_map]
    show ((lots F).map id).Nodup
    rw [List.map_id]
    exact lots_nodup F
  exact ev_set em rfl
theorem parts_in (h : Com n F) {l q : List Int} (hl : l ∈ lots F) (hq : q ∈ parts l) : q ∈ lots F := by
  obtain ⟨o, ho, hs⟩ := lots_mem.mp hl
  exact lots_mem.mpr ⟨o, ho, (mem_parts.mp hq).trans hs⟩
theorem parts_few (h : Com n F) {l : List Int} (hl : l ∈ lots F) : (parts l).length ≤ 1024 ∧ l.length ≤ 7 := by
  have h7 := (lots_lot h.lot hl).len h.n7
  rw [parts_length]
  exact ⟨pow_small (Nat.le_refl _) (by omega), h7⟩
/-- sums over parts -/
def up (f : List Int → Int) (l : List Int) : Int := Sm (parts l) f
theorem partSum_is {f g : List Int → Int} {me : MV} {ρ : List Sl} {l : List Int} (h : Com n F) (hl : l ∈ lots F) (hv : (mVar 4 : MV) ρ p = some (.dat (tI l), p)) (hm : ∀ q ∈ parts l, me ((wipeR ρ [20]).set 20 (.dat (tI q))) p = some (.dat (.int (g q)), p)) :
    mCB (f1 fSum) (wCons (mLc (mSeq (mCall g_law_parts (mCons (mVar 4) mNil))) (gN 20) mYes me [20]) wNil) ρ p = some (.dat (.int (Sm (parts l) g)), p) := by
  obtain ⟨h1, h2⟩ := parts_few h hl
  exact sumList_is (f := g) (L := parts l) (p := p) (seq_is (call1_is hv rfl (c_law_parts l (by omega))) rfl) (fun q hq => ⟨_, rfl, _, hm q hq, rfl⟩) (by omega)
theorem r17 {f : List Int → Int} (h : Com n F) : ((bSet 12 (mCB (f1 fTuple) (wCons (mLc (mSeq (mVar 2)) (gN 4) mYes (mCB (f1 fSum) (wCons (mLc (mSeq (mCall g_law_parts (mCons (mVar 4) mNil))) (gN 20) mYes (mDGet (mVar 11) (mVar 20)) [20]) wNil)) [4]) wNil))) : MB) [.pot, x1, .dat (.list ((lots F).map tI)), x3, x4, x5, x6, x7, x8, x9, x10, .dic (fD (lots F) f), x12, x13, x14, x15, x16, x17, x18, x19, x20, x21] p = some (.nx [.pot, x1, .dat (.list ((lots F).map tI)), x3, x4, x5, x6, x7, x8, x9, x10, .dic (fD (lots F) f), .dat (tI ((lots F).map (up f))), x13, x14, x15, x16, x17, x18, x19, x20, x21] p) := by
  have hc := lots_count h.toFam
  have big := big2m
  refine ev_set (r := .dat (tI ((lots F).map (up f)))) (tup_is (p := p) ?_) rfl
  rw [List.map_map]
  exact lc_all tI (fun l => .int (up f l)) (lots F) (seq_is rfl rfl) (fun l hl => ⟨_, rfl, .dat (.int (up f l)), partSum_is (f := f) h hl rfl (fun q hq => fget_is (L := lots F) (f := f) (r := .vdc (fD (lots F) f)) (p := p) rfl rfl rfl (key_tI q) (parts_in h hl hq)), rfl⟩) (by omega)
theorem gs_mem {n : Int} {l : List Int} (h : Lot n l) : ∀ x ∈ l, x ∈ gs n := fun x hx => by
  have h1 := h.lo x hx
  have h2 := h.hi x hx
  exact List.mem_map.mpr ⟨x.toNat, List.mem_range.mpr (by omega), by show ((x.toNat : Nat) : Int) = x; omega⟩
theorem gs_nodup (n : Int) : (gs n).Nodup := by
  unfold gs
  exact List.pairwise_map.mpr (List.nodup_range.imp fun {a b} hne e => hne (by injection e))
theorem up_passes (h : Com n F) (f : List Int → Int) : (lots F).map (up f) = (lots F).map (passes 1 (gs n) f) := List.map_congr_left fun l hl => by
  have hll := lots_lot h.lot hl
  rw [passes_sum 1 l (asc_nodup hll.asc) (gs n) (gs_nodup n) (gs_mem hll)]
  exact Sm_congr fun q _ => by rw [sg_one, Int.one_mul]
/-- sums over parts by signs -/
def dn (f : List Int → Int) (l : List Int) : Int := Sm (parts l) fun q => f q * (if ((l.length : Int) - (q.length : Int)) % 2 = 0 then 1 else -1)
theorem dn_passes (h : Com n F) (f : List Int → Int) : (lots F).map (dn f) = (lots F).map (passes (-1) (gs n) f) := List.map_congr_left fun l hl => by
  have hll := lots_lot h.lot hl
  rw [passes_sum (-1) l (asc_nodup hll.asc) (gs n) (gs_nodup n) (gs_mem hll)]
  exact Sm_congr fun q hq => by rw [sg_neg l q (parts_len hq), Int.mul_comm]
theorem sum_up (h : Com n F) (f : List Int → Int) : g_summed [cD n F, tI ((lots F).map f)] = some (.dat (tI ((lots F).map (up f)))) := by rw [c_summed h, up_passes h]
theorem uns_up (h : Com n F) (f : List Int → Int) : g_unsummed [cD n F, tI ((lots F).map (up f))] = some (.dat (tI ((lots F).map f))) := by
  rw [up_passes h, c_unsummed h, passes_undo 1 (gs n) f (gs_nodup n)]
theorem uns_dn (h : Com n F) (f : List Int → Int) : g_unsummed [cD n F, tI ((lots F).map f)] = some (.dat (tI ((lots F).map (dn f)))) := by rw [c_unsummed h, dn_passes h]
theorem sum_dn (h : Com n F) (f : List Int → Int) : g_summed [cD n F, tI ((lots F).map (dn f))] = some (.dat (tI ((lots F).map f))) := by
  rw [dn_passes h, c_summed h]
  have := passes_undo (-1) (gs n) f (gs_nodup n)
  rw [Int.neg_neg] at this
  rw [this]
theorem r18 {f : List Int → Int} (h : Com n F) : ((bFrz 1 (bIf (mOr (mVal (mOp (fEq true) (mCall g_summed (mCons (mVar 1) (mCons (mVar 10) mNil))) (mVar 12))) (mVal (mOp (fEq true) (mCall g_unsummed (mCons (mVar 1) (mCons (mVar 12) mNil))) (mVar 10)))) (bRet (mC (.bool false))) bNext)) : MB) [.pot, .dat (cD n F), x2, x3, x4, x5, x6, x7, x8, x9, .dat (tI ((lots F).map f)), x11, .dat (tI ((lots F).map (up f))), x13, x14, x15, x16, x17, x18, x19, x20, x21] p = some (.nx [.pot, .dat (cD n F), x2, x3, x4, x5, x6, x7, x8, x9, .dat (tI ((lots F).map f)), x11, .dat (tI ((lots F).map (up f))), x13, x14, x15, x16, x17, x18, x19, x20, x21] p) :=
  ev_ifF (or_is (a := false) (b := false) (val_is (op_is (call2_is rfl rfl rfl rfl (sum_up h f)) rfl (ne_no enc_tI (by decide) rfl rfl rfl))) fun _ => val_is (op_is (call2_is rfl rfl rfl rfl (uns_up h f)) rfl (ne_no enc_tI (by decide) rfl rfl rfl))) rfl
theorem r19 : ((bSet 13 (mLst mNil)) : MB) [.pot, x1, x2, x3, x4, x5, x6, x7, x8, x9, x10, x11, x12, x13, x14, x15, x16, x17, x18, x19, x20, x21] p = some (.nx [.pot, x1, x2, x3, x4, x5, x6, x7, x8, x9, x10, x11, x12, .lst [], x14, x15, x16, x17, x18, x19, x20, x21] p) := ev_set (r := .lst []) rfl rfl
theorem r20 {f : List Int → Int} (h : Com n F) : ∃ y4, ((bFrz 2 (bFor (mSeqF (mVar 2)) (gN 4) (bApp 13 (mCB (f1 fSum) (wCons (mLc (mSeq (mCall g_law_parts (mCons (mVar 4) mNil))) (gN 20) mYes (mOp (fIc cMul fun i j => i * j) (mDGet (mVar 11) (mVar 20)) (mIfE (mVal (mOp (fEq false) (mOp (fIc cMod fun i j => i % j) (mOp (fI fun i j => i - j) (mCB (f1 fLen) (wCons (mVar 4) wNil)) (mCB (f1 fLen) (wCons (mVar 20) wNil))) (mC (.int 2))) (mC (.int 0)))) (mC (.int 1)) (mUn fNeg (mC (.int 1))))) [20]) wNil))))) : MB) [.pot, x1, .dat (.list ((lots F).map tI)), x3, x4, x5, x6, x7, x8, x9, x10, .dic (fD (lots F) f), x12, .lst [], x14, x15, x16, x17, x18, x19, x20, x21] p = some (.nx [.pot, x1, .dat (.list ((lots F).map tI)), x3, y4, x5, x6, x7, x8, x9, x10, .dic (fD (lots F) f), x12, .lst (((lots F).map (dn f)).map .int), x14, x15, x16, x17, x18, x19, x20, x21] p) := by
  have hc := lots_count h.toFam
  have big := big2m
  obtain ⟨ρ2, f1, y4, rfl⟩ := forGo_pre (α := List Int) (mg := gN 4) (p := p) (m := bApp 13 (mCB (f1 fSum) (wCons (mLc (mSeq (mCall g_law_parts (mCons (mVar 4) mNil))) (gN 20) mYes (mOp (fIc cMul fun i j => i * j) (mDGet (mVar 11) (mVar 20)) (mIfE (mVal (mOp (fEq false) (mOp (fIc cMod fun i j => i % j) (mOp (fI fun i j => i - j) (mCB (f1 fLen) (wCons (mVar 4) wNil)) (mCB (f1 fLen) (wCons (mVar 20) wNil))) (mC (.int 2))) (mC (.int 0)))) (mC (.int 1)) (mUn fNeg (mC (.int 1))))) [20]) wNil)))
    (ρ := [.pot, x1, .dat (.list ((lots F).map tI)), x3, x4, x5, x6, x7, x8, x9, x10, .dic (fD (lots F) f), x12, .lst [], x14, x15, x16, x17, x18, x19, x20, x21]) tI (fun done ρ => ∃ y4, ρ = [.pot, x1, .dat (.list ((lots F).map tI)), x3, y4, x5, x6, x7, x8, x9, x10, .dic (fD (lots F) f), x12, .lst ((done.map (dn f)).map .int), x14, x15, x16, x17, x18, x19, x20, x21]) (lots F) ⟨_, rfl⟩ fun done l rest ρ' hk ⟨y4, hρ⟩ => by
      subst hρ
      have hl : l ∈ lots F := by rw [hk]; simp
      have hd : done.length ≤ (lots F).length := by rw [hk, List.length_append]; omega
      refine ⟨_, _, rfl, ev_app (x := .dat (.int (dn f l))) (d := .int (dn f l)) rfl (partSum_is (f := f) (g := fun q => f q * (if ((l.length : Int) - (q.length : Int)) % 2 = 0 then 1 else -1)) h hl rfl fun q hq => ?_) rfl (by rw [List.length_map, List.length_map]; omega), .dat (tI l), ?_⟩
      · refine op_is (x := .dat (.int (f q))) (y := .dat (.int (if ((l.length : Int) - (q.length : Int)) % 2 = 0 then 1 else -1))) (p := p) (q := p) (fget_is (L := lots F) (f := f) (r := .vdc (fD (lots F) f)) (p := p) rfl rfl rfl (key_tI q) (parts_in h hl hq)) ?_ (cMul_r (by split <;> decide) (by split <;> decide))
        have ht : ∀ ρ : List Sl, (mVar 4 : MV) ρ p = some (.dat (tI l), p) → (mVar 20 : MV) ρ p = some (.dat (tI q), p) → (mVal (mOp (fEq false) (mOp (fIc cMod fun i j => i % j) (mOp (fI fun i j => i - j) (mCB (f1 fLen) (wCons (mVar 4) wNil)) (mCB (f1 fLen) (wCons (mVar 20) wNil))) (mC (.int 2))) (mC (.int 0))) : MT) ρ p = some (decide (((l.length : Int) - (q.length : Int)) % 2 = 0), p) := fun ρ v4 v20 =>
          val_is (op_is (op_is (x := .dat (.int ((l.length : Int) - (q.length : Int)))) (y := .dat (.int 2)) (p := p) (q := p) (op_is (cb1_is v4 (len_tI l)) (cb1_is v20 (len_tI q)) rfl) rfl (cMod_is (by decide))) rfl (enc_int.eq (by decide) rfl rfl))
        unfold mIfE
        rw [ht _ rfl rfl, Option.bind_some]
        by_cases c : ((l.length : Int) - (q.length : Int)) % 2 = 0
        · rw [if_pos c, decide_eq_true c]; rfl
        · rw [if_neg c, decide_eq_false c]; rfl
      · rw [List.map_append (f := dn f), List.map_append (f := PyData.int)]
        rfl
  exact ⟨y4, ev_for (seqF_is rfl rfl rfl) f1⟩
theorem r21 {f : List Int → Int} (h : Com n F) : ((bFrz 1 (bIf (mOr (mVal (mOp (fEq true) (mCall g_unsummed (mCons (mVar 1) (mCons (mVar 10) mNil))) (mCB (f1 fTuple) (wCons (mVar 13) wNil)))) (mVal (mOp (fEq true) (mCall g_summed (mCons (mVar 1) (mCons (mCB (f1 fTuple) (wCons (mVar 13) wNil)) mNil))) (mVar 10)))) (bRet (mC (.bool false))) bNext)) : MB) [.pot, .dat (cD n F), x2, x3, x4, x5, x6, x7, x8, x9, .dat (tI ((lots F).map f)), x11, x12, .lst (((lots F).map (dn f)).map .int), x14, x15, x16, x17, x18, x19, x20, x21] p = some (.nx [.pot, .dat (cD n F), x2, x3, x4, x5, x6, x7, x8, x9, .dat (tI ((lots F).map f)), x11, x12, .lst (((lots F).map (dn f)).map .int), x14, x15, x16, x17, x18, x19, x20, x21] p) :=
  ev_ifF (or_is (a := false) (b := false) (val_is (op_is (call2_is rfl rfl rfl rfl (uns_dn h f)) (cb1_is (r := .vls (((lots F).map (dn f)).map .int)) (z := .dat (tI ((lots F).map (dn f)))) rfl rfl) (ne_no enc_tI (by decide) rfl rfl rfl))) fun _ => val_is (op_is (call2_is rfl rfl (cb1_is (r := .vls (((lots F).map (dn f)).map .int)) (z := .dat (tI ((lots F).map (dn f)))) rfl rfl) rfl (sum_dn h f)) rfl (ne_no enc_tI (by decide) rfl rfl rfl))) rfl
theorem ixOf_map : ∀ {L : List (List Int)} {l : List Int}, l ∈ L → ∃ j, ixOf (tI l) (L.map tI) = some j ∧ L[j]? = some l
  | [], l, h => by simp at h
  | a :: L, l, h => by
    rw [List.map_cons]
    unfold ixOf
    rw [enc_tI.eqv]
    by_cases e : a = l
    · subst e
      exact ⟨0, by rw [if_pos (decide_eq_true rfl)], rfl⟩
    · obtain ⟨j, h1, h2⟩ := ixOf_map ((List.mem_cons.mp h).resolve_left fun z => e z.symm)
      exact ⟨j + 1, by rw [decide_eq_false e, if_neg Bool.false_ne_true, h1]; rfl, by simpa using h2⟩
theorem index_is {L : List (List Int)} {l : List Int} (h : l ∈ L) : ∃ j : Nat, fIndex (.dat (.list (L.map tI))) (.dat (tI l)) = some (.dat (.int (j : Int))) ∧ L[j]? = some l := by
  obtain ⟨j, h1, h2⟩ := ixOf_map h
  refine ⟨j, ?_, h2⟩
  show (if SeqAt.shaped (.list (L.map tI)) = true ∧ SeqAt.shaped (tI l) = true then (ixOf (tI l) (L.map tI)).map fun j => Rv.dat (.int (j : Nat)) else none) = _
  rw [if_pos ⟨enc_tI.lst.shaped (by decide) L, enc_tI.shaped (by decide) l⟩, h1]
  rfl
theorem r22 {f : List Int → Int} (h : Com n F) : ((bSet 14 (mCB (f1 fSum) (wCons (mLc (mSeq (mVar 5)) (gN2 4 19) mYes (mOp (fIc cMul fun i j => i * j) (mVar 19) (mOp fIx (mVar 12) (mOp fIndex (mVar 2) (mVar 4)))) [4, 19]) wNil))) : MB) [.pot, x1, .dat (.list ((lots F).map tI)), x3, x4, Td F, x6, x7, x8, x9, x10, x11, .dat (tI ((lots F).map (up f))), x13, x14, x15, x16, x17, x18, x19, x20, x21] p = some (.nx [.pot, x1, .dat (.list ((lots F).map tI)), x3, x4, Td F, x6, x7, x8, x9, x10, x11, .dat (tI ((lots F).map (up f))), x13, .dat (.int (Sm (lots F) f)), x15, x16, x17, x18, x19, x20, x21] p) := by
  have hl := told_len h
  have big := big2m
  have e : (mCB (f1 fSum) (wCons (mLc (mSeq (mVar 5)) (gN2 4 19) mYes (mOp (fIc cMul fun i j => i * j) (mVar 19) (mOp fIx (mVar 12) (mOp fIndex (mVar 2) (mVar 4)))) [4, 19]) wNil) : MV) [.pot, x1, .dat (.list ((lots F).map tI)), x3, x4, Td F, x6, x7, x8, x9, x10, x11, .dat (tI ((lots F).map (up f))), x13, x14, x15, x16, x17, x18, x19, x20, x21] p = some (.dat (.int (Sm (told F) fun q => q.2 * up f q.1)), p) := by
    refine cb1_is (lc_all rD (fun q => .int (q.2 * up f q.1)) (told F) (seq_is rfl rfl) (fun q hq => ⟨_, rfl, .dat (.int (q.2 * up f q.1)), ?_, rfl⟩) (by omega)) (sum_is (fun q : Row => q.2 * up f q.1) (told F))
    have hs := told_sml h.lot h.n7 hq
    obtain ⟨j, j1, j2⟩ := index_is (row_mt h.lot ((told_perm F).mem_iff.mp hq)).in_lots
    refine op_is (x := .dat (.int q.2)) (y := .dat (.int (up f q.1))) (p := p) (q := p) rfl (op_is (x := .dat (tI ((lots F).map (up f)))) (y := .dat (.int (j : Int))) (p := p) (q := p) rfl (op_is rfl rfl j1) ?_) (cMul_l hs.1 hs.2)
    show ((atI (((lots F).map (up f)).map PyData.int) j).map Rv.dat) = _
    rw [atI_nat (v := .int (up f q.1)) (by rw [List.getElem?_map, List.getElem?_map, j2]; rfl)]
    rfl
  rw [show (Sm (told F) fun q => q.2 * up f q.1) = Sm (lots F) f from told_sum h.lot f] at e
  exact ev_set e rfl
theorem r23 {f : List Int → Int} (h : Com n F) : ((bIf (mVal (mOp (fEq true) (mVar 14) (mCB (f1 fSumT) (wCons (mVar 10) wNil)))) (bRet (mC (.bool false))) bNext) : MB) [.pot, x1, x2, x3, x4, x5, x6, x7, x8, x9, .dat (tI ((lots F).map f)), x11, x12, x13, .dat (.int (Sm (lots F) f)), x15, x16, x17, x18, x19, x20, x21] p = some (.nx [.pot, x1, x2, x3, x4, x5, x6, x7, x8, x9, .dat (tI ((lots F).map f)), x11, x12, x13, .dat (.int (Sm (lots F) f)), x15, x16, x17, x18, x19, x20, x21] p) := by
  have e : fSumT (.dat (tI ((lots F).map f))) = some (.dat (.int (Sm (lots F) f))) := by
    show ((intsA? (((lots F).map f).map PyData.int)).map _) = _
    rw [intsA_map]
    rfl
  exact ev_ifF (val_is (op_is (x := .dat (.int (Sm (lots F) f))) rfl (cb1_is rfl e) (ne_no enc_int (by decide) rfl rfl rfl))) rfl
end

end K15
end
section
set_option Elab.async false
set_option linter.all false
set_option maxRecDepth 100000
/-! Pe28: the law holds. -/
namespace K15
open PySem PySem.Spec PySem.W L2 Pd
variable [TB]

section
variable {n : Int} {F G : List (List Int)} {p : List Int} {x1 x2 x3 x4 x5 x6 x7 x8 x9 x10 x11 x12 x13 x14 x15 x16 x17 x18 x19 x20 x21 : Sl}
abbrev Sd (n : Int) (G : List (List Int)) : Sl := .dat (cD n G)
theorem great_len (X : List (List Int)) : (great X).length ≤ X.length := by
  unfold great
  exact Nat.le_trans (List.length_filter_le _ _) (setI_len X)
theorem r24 {k : Nat} (hp : Pot k p) (hk : k ≤ 50000) (h : Com n F) : ∃ (G : List (List Int)) (p2 : List Int), ((bSet 15 (mCall g_law_company (mCons (mOp fIx (mVar 1) (mC (.int 0))) (mCons (mOp fIx (mCallP 0 g_law_drawn (mCons (mOp fIx (mVar 1) (mC (.int 0))) (mCons (mOp fIx (mVar 1) (mC (.int 0))) mNil))) (mC (.int 1))) mNil)))) : MB) [.pot, .dat (cD n F), x2, x3, x4, x5, x6, x7, x8, x9, x10, x11, x12, x13, x14, x15, x16, x17, x18, x19, x20, x21] p = some (.nx [.pot, .dat (cD n F), x2, x3, x4, x5, x6, x7, x8, x9, x10, x11, x12, x13, x14, Sd n G, x16, x17, x18, x19, x20, x21] p2) ∧ Com n G ∧ G.length ≤ 21 ∧ Pot (k + 1000) p2 := by
  obtain ⟨m, X, p2, g1, g2, g3, g4, g5, g6, g7⟩ := c_law_drawn (lo := n) (hi := n) hp (by omega) h.n1 (Int.le_refl n) h.n7
  have hm : m = n := by omega
  subst hm
  have hX := great_com g4 h.n1 h.n7
  refine ⟨great X, p2, ?_, hX, Nat.le_trans (great_len X) g6, g7⟩
  have e := c_law_company (d := tD (great X)) m (great X) rfl (by have := hX.little; omega) (lots_small (n := m) hX.lot h.n7)
  rw [hX.gr] at e
  exact ev_set (call2_is (x := .dat (.int m)) (p := p) (op_is (z := .dat (.int m)) rfl rfl rfl) rfl (op_is (x := .dat (cD m (great X))) (p := p2) (z := .dat (tD (great X))) (callP2_is (x := .dat (.int m)) (y := .dat (.int m)) (p := p) (q := p) rfl (op_is (z := .dat (.int m)) rfl rfl rfl) rfl (op_is (z := .dat (.int m)) rfl rfl rfl) rfl g1) rfl rfl) rfl e) rfl
abbrev sb (ws : List Int) (F : List (List Int)) : Int := Sm (lots F) (prodW ws)
theorem sumby_is {ws : List Int} (h : Com n F) (hw : Ws n ws) : g_sum_by [cD n F, tI ws] = some (.dat (.int (sb ws F))) := by rw [c_sum_by h hw, sumBy_is h.lot]
theorem either_com (h : Com n F) (k : Com n G) : Com n (great (F ++ G)) := great_com (fun l hl => (List.mem_append.mp hl).elim (h.lot l) (k.lot l)) h.n1 h.n7
theorem both_com (h : Com n F) : Com n (great (bothR F G)) := great_com (fun l hl => by
  obtain ⟨a, ha, hl⟩ := List.mem_flatMap.mp hl
  obtain ⟨b, hb, rfl⟩ := List.mem_map.mp hl
  exact (h.lot a ha).sub List.filter_sublist) h.n1 h.n7
theorem r25 {ws : List Int} (h : Com n F) (k : Com n G) (hw : Ws n ws) (h1 : F.length ≤ 21) (h2 : G.length ≤ 21) : ((bFrz 15 (bFrz 1 (bSet 16 (mOp fAdd3 (mCall g_sum_by (mCons (mCall g_either (mCons (mVar 1) (mCons (mVar 15) mNil))) (mCons (mVar 3) mNil))) (mCall g_sum_by (mCons (mCall g_both (mCons (mVar 1) (mCons (mVar 15) mNil))) (mCons (mVar 3) mNil))))))) : MB) [.pot, .dat (cD n F), x2, .dat (tI ws), x4, x5, x6, x7, x8, x9, x10, x11, x12, x13, x14, Sd n G, x16, x17, x18, x19, x20, x21] p = some (.nx [.pot, .dat (cD n F), x2, .dat (tI ws), x4, x5, x6, x7, x8, x9, x10, x11, x12, x13, x14, Sd n G, .dat (.int (sb ws F + sb ws G)), x17, x18, x19, x20, x21] p) := by
  have hz : F.length * G.length ≤ 1000 := Nat.le_trans (Nat.mul_le_mul h1 h2) (by decide)
  have e := either_sum h.lot k.lot (prodW ws)
  rw [show sb ws F + sb ws G = sb ws (great (F ++ G)) + sb ws (great (bothR F G)) from e.symm]
  exact ev_set (op_is (call2_is (call2_is rfl rfl rfl rfl (c_either h k)) rfl rfl rfl (sumby_is (either_com h k) hw)) (call2_is (call2_is rfl rfl rfl rfl (c_both h k hz)) rfl rfl rfl (sumby_is (both_com h) hw)) (add3_is _ _)) rfl
theorem r26 {ws : List Int} (h : Com n F) (k : Com n G) (hw : Ws n ws) : ((bFrz 15 (bFrz 1 (bIf (mVal (mOp (fEq true) (mVar 16) (mOp fAdd3 (mCall g_sum_by (mCons (mVar 1) (mCons (mVar 3) mNil))) (mCall g_sum_by (mCons (mVar 15) (mCons (mVar 3) mNil)))))) (bRet (mC (.bool false))) bNext))) : MB) [.pot, .dat (cD n F), x2, .dat (tI ws), x4, x5, x6, x7, x8, x9, x10, x11, x12, x13, x14, Sd n G, .dat (.int (sb ws F + sb ws G)), x17, x18, x19, x20, x21] p = some (.nx [.pot, .dat (cD n F), x2, .dat (tI ws), x4, x5, x6, x7, x8, x9, x10, x11, x12, x13, x14, Sd n G, .dat (.int (sb ws F + sb ws G)), x17, x18, x19, x20, x21] p) :=
  ev_ifF (val_is (op_is (x := .dat (.int (sb ws F + sb ws G))) rfl (op_is (call2_is rfl rfl rfl rfl (sumby_is h hw)) (call2_is rfl rfl rfl rfl (sumby_is k hw)) (add3_is _ _)) (ne_no enc_int (by decide) rfl rfl rfl))) rfl
theorem r27 {k : Nat} (hp : Pot k p) (hk : k ≤ 500000) (h : Com n F) : ∃ (g : Int) (p2 : List Int), ((bSet 17 (mCallP 0 g_law_take (mCons (mOp fIx (mVar 1) (mC (.int 0))) mNil))) : MB) [.pot, .dat (cD n F), x2, x3, x4, x5, x6, x7, x8, x9, x10, x11, x12, x13, x14, x15, x16, x17, x18, x19, x20, x21] p = some (.nx [.pot, .dat (cD n F), x2, x3, x4, x5, x6, x7, x8, x9, x10, x11, x12, x13, x14, x15, x16, .dat (.int g), x18, x19, x20, x21] p2) ∧ 0 ≤ g ∧ g < n ∧ Pot (k + 1) p2 := by
  have h1 := h.n1
  have h7 := h.n7
  obtain ⟨d, p2, g1, g2, g3, g4⟩ := c_law_take (u := n) hp (by omega) (by omega) (by omega)
  exact ⟨d, p2, ev_set (callP1_is (x := .dat (.int n)) (p := p) rfl (op_is (z := .dat (.int n)) rfl rfl rfl) rfl g1) rfl, g2, g3, g4⟩
theorem without_com (h : Com n F) (g : Int) : Com n (great (withoutR F g)) := great_com (fun l hl => by
  rcases List.mem_append.mp hl with q | q
  · exact h.lot l (List.mem_filter.mp q).1
  · obtain ⟨o, ho, rfl⟩ := List.mem_map.mp q
    exact (h.lot o (List.mem_filter.mp ho).1).sub List.filter_sublist) h.n1 h.n7
theorem r28 {ws : List Int} {g : Int} (h : Com n F) (hw : Ws n ws) (h0 : 0 ≤ g) (hg : g < n) : ((bFrz 1 (bSet 18 (mOp fAdd3 (mCall g_sum_by (mCons (mCall g_without (mCons (mVar 1) (mCons (mTup (mCons (mVar 17) mNil)) mNil))) (mCons (mVar 3) mNil))) (mOp (fIc cMul fun i j => i * j) (mOp fIx (mVar 3) (mVar 17)) (mCall g_sum_by (mCons (mCall g_link (mCons (mVar 1) (mCons (mTup (mCons (mVar 17) mNil)) mNil))) (mCons (mVar 3) mNil))))))) : MB) [.pot, .dat (cD n F), x2, .dat (tI ws), x4, x5, x6, x7, x8, x9, x10, x11, x12, x13, x14, x15, x16, .dat (.int g), x18, x19, x20, x21] p = some (.nx [.pot, .dat (cD n F), x2, .dat (tI ws), x4, x5, x6, x7, x8, x9, x10, x11, x12, x13, x14, x15, x16, .dat (.int g), .dat (.int (sb ws F)), x19, x20, x21] p) := by
  have hl : Lot n [g] := ⟨List.pairwise_singleton _ _, fun x hx => by rw [List.mem_singleton.mp hx]; exact h0, fun x hx => by rw [List.mem_singleton.mp hx]; exact hg⟩
  have hlt : g < (ws.length : Int) := by have := hw.len; omega
  have h3 := hw.lo _ (wAt_mem h0 hlt)
  have h4 := hw.hi _ (wAt_mem h0 hlt)
  have e := split_sum h.lot ws g
  rw [show sb ws F = sb ws (great (withoutR F g)) + wAt ws g * sb ws (great (linkR F [g])) from e.symm]
  exact ev_set (op_is (call2_is (call2_is rfl rfl (tup1_is rfl rfl) rfl (c_without h hl)) rfl rfl rfl (sumby_is (without_com h g) hw)) (op_is (x := .dat (.int (wAt ws g))) (op_is rfl rfl (ixT_is h0 hlt)) (call2_is (call2_is rfl rfl (tup1_is rfl rfl) rfl (c_link h hl)) rfl rfl rfl (sumby_is (link_com h.toFam [g]) hw)) (cMul_l (by omega) (by omega))) (add3_is _ _)) rfl
theorem r29 {ws : List Int} (h : Com n F) (hw : Ws n ws) : ((bFrz 1 (bRet (mOp (fEq false) (mCall g_sum_by (mCons (mVar 1) (mCons (mVar 3) mNil))) (mVar 18)))) : MB) [.pot, .dat (cD n F), x2, .dat (tI ws), x4, x5, x6, x7, x8, x9, x10, x11, x12, x13, x14, x15, x16, x17, .dat (.int (sb ws F)), x19, x20, x21] p = some (.rt (.dat (.bool true)) p) :=
  ev_ret (r := .dat (.bool true)) (op_is (call2_is rfl rfl rfl rfl (sumby_is h hw)) rfl (eq_yes enc_int (by decide) rfl rfl rfl))
end
theorem c_law_right {pt : List Int} (hp : Pot 0 pt) : ∃ p2, g_law_right [] pt = some (.dat (.bool true), p2) := by
  obtain ⟨n, X, p1, g1, g2, g3, g4, g5, g6, q1⟩ := c_law_drawn (lo := 1) (hi := 7) hp (by omega) (by decide) (by decide) (by decide)
  have h := great_com g4 g2 g3
  have hF : great X ≠ [] := great_ne (fun l hl => (g4 l hl).asc) g5
  have h7 := h.n7
  have hl21 : (great X).length ≤ 21 := Nat.le_trans (great_len X) g6
  generalize hFX : great X = F at h hF hl21 g1
  have hc := lots_count h.toFam
  have k1 : ((bSet 1 (mCallP 0 g_law_drawn (mCons (mC (.int 1)) (mCons (mC (.int 7)) mNil)))) : MB) [.pot, .un, .un, .un, .un, .un, .un, .un, .un, .un, .un, .un, .un, .un, .un, .un, .un, .un, .un, .un, .un, .un] pt = some (.nx [.pot, .dat (cD n F), .un, .un, .un, .un, .un, .un, .un, .un, .un, .un, .un, .un, .un, .un, .un, .un, .un, .un, .un, .un] p1) := ev_set (callP2_is (x := .dat (.int 1)) (y := .dat (.int 7)) (p := pt) (q := pt) rfl rfl rfl rfl rfl g1) rfl
  obtain ⟨ws, p4, k4, hw, q4⟩ := r4 (p := p1) (x2 := .lst ((lots F).map tI)) (x4 := .un) (x5 := .un) (x6 := .un) (x7 := .un) (x8 := .un) (x9 := .un) (x10 := .un) (x11 := .un) (x12 := .un) (x13 := .un) (x14 := .un) (x15 := .un) (x16 := .un) (x17 := .un) (x18 := .un) (x19 := .un) (x20 := .un) (x21 := .un) (x3 := .un) q1 (by omega) h
  obtain ⟨y4, p6, k6, q6⟩ := r6 (p := p4) (x3 := .dat (tI ws)) (x4 := .un) (x5 := .un) (x6 := .un) (x7 := .un) (x8 := .un) (x9 := .un) (x10 := .un) (x11 := .un) (x12 := .un) (x13 := .un) (x14 := .un) (x15 := .un) (x16 := .un) (x17 := .un) (x18 := .un) (x19 := .un) (x20 := .un) (x21 := .un) q4 (by omega) h hF
  obtain ⟨a, p9, k9, ha, q9⟩ := r9 (p := p6) (x1 := .dat (cD n F)) (x2 := .lst ((lots F).map tI)) (x3 := .dat (tI ws)) (x4 := y4) (x6 := .un) (x7 := .un) (x8 := .un) (x9 := .un) (x10 := .un) (x11 := .un) (x12 := .un) (x13 := .un) (x14 := .un) (x15 := .un) (x16 := .un) (x17 := .un) (x18 := .un) (x19 := .un) (x20 := .un) (x21 := .un) q6 (by omega) h hF
  obtain ⟨⟨l, v⟩, hlv⟩ : ∃ r : Row, (told F)[a]? = some r := ⟨_, List.getElem?_eq_getElem ha⟩
  obtain ⟨o, p11, k11, ho, q11⟩ := r11 (p := p9) (x1 := .dat (cD n F)) (x3 := .dat (tI ws)) (x4 := .dat (tI l)) (x5 := Td F) (x6 := .dat (.int (a : Int))) (x19 := .dat (.int v)) (x7 := .un) (x8 := .un) (x9 := .un) (x10 := .un) (x11 := .un) (x12 := .un) (x13 := .un) (x14 := .un) (x15 := .un) (x16 := .un) (x17 := .un) (x18 := .un) (x20 := .un) (x21 := .un) q9 (by omega) h hF
  have hlm : Lot n l := (told_rows h).lot (l, v) (List.mem_of_getElem? hlv)
  obtain ⟨R, p13, k13, hR, q13⟩ := r13 (p := p11) (VS := Vs F a l v) (x1 := .dat (cD n F)) (x2 := .dat (.list ((lots F).map tI))) (x3 := .dat (tI ws)) (x4 := .dat (tI l)) (x6 := .dat (.int (a : Int))) (x19 := .dat (.int v)) (x9 := .un) (x10 := .un) (x11 := .un) (x12 := .un) (x13 := .un) (x14 := .un) (x15 := .un) (x16 := .un) (x17 := .un) (x18 := .un) (x20 := .un) (x21 := .un) q11 (by omega) h (lots_lot h.lot ho) (by simp)
  obtain ⟨y9, k14⟩ := r14 (p := p13) (VS := Vs F a l v ++ [R]) (x2 := .dat (.list ((lots F).map tI))) (x3 := .dat (tI ws)) (x4 := .dat (tI l)) (x5 := Td F) (x6 := .dat (.int (a : Int))) (x7 := .dat (tI o)) (x19 := .dat (.int v)) (x9 := .un) (x10 := .un) (x11 := .un) (x12 := .un) (x13 := .un) (x14 := .un) (x15 := .un) (x16 := .un) (x17 := .un) (x18 := .un) (x20 := .un) (x21 := .un) h hF (fun S hS => (List.mem_append.mp hS).elim (vs_rows h hlm S) fun z => by rw [List.mem_singleton.mp z]; exact hR)
  obtain ⟨f, p15, k15, q15⟩ := r15 (p := p13) (x1 := .dat (cD n F)) (x3 := .dat (tI ws)) (x4 := .dat (tI l)) (x5 := Td F) (x6 := .dat (.int (a : Int))) (x7 := .dat (tI o)) (x8 := .dat (.list ((Vs F a l v ++ [R]).map rsD))) (x9 := y9) (x19 := .dat (.int v)) (x10 := .un) (x11 := .un) (x12 := .un) (x13 := .un) (x14 := .un) (x15 := .un) (x16 := .un) (x17 := .un) (x18 := .un) (x20 := .un) (x21 := .un) q13 (by omega) h
  obtain ⟨z4, k20⟩ := r20 (p := p15) (f := f) (x1 := .dat (cD n F)) (x3 := .dat (tI ws)) (x4 := .dat (tI l)) (x5 := Td F) (x6 := .dat (.int (a : Int))) (x7 := .dat (tI o)) (x8 := .dat (.list ((Vs F a l v ++ [R]).map rsD))) (x9 := y9) (x10 := .dat (tI ((lots F).map f))) (x12 := .dat (tI ((lots F).map (up f)))) (x19 := .dat (.int v)) (x14 := .un) (x15 := .un) (x16 := .un) (x17 := .un) (x18 := .un) (x20 := .un) (x21 := .un) h
  obtain ⟨G, p24, k24, hG, hG21, q24⟩ := r24 (p := p15) (x2 := .dat (.list ((lots F).map tI))) (x3 := .dat (tI ws)) (x4 := z4) (x5 := Td F) (x6 := .dat (.int (a : Int))) (x7 := .dat (tI o)) (x8 := .dat (.list ((Vs F a l v ++ [R]).map rsD))) (x9 := y9) (x10 := .dat (tI ((lots F).map f))) (x11 := .dic (fD (lots F) f)) (x12 := .dat (tI ((lots F).map (up f)))) (x13 := .lst (((lots F).map (dn f)).map .int)) (x14 := .dat (.int (Sm (lots F) f))) (x19 := .dat (.int v)) (x15 := .un) (x16 := .un) (x17 := .un) (x18 := .un) (x20 := .un) (x21 := .un) q15 (by omega) h
  obtain ⟨g, p27, k27, hg0, hgn, q27⟩ := r27 (p := p24) (x2 := .dat (.list ((lots F).map tI))) (x3 := .dat (tI ws)) (x4 := z4) (x5 := Td F) (x6 := .dat (.int (a : Int))) (x7 := .dat (tI o)) (x8 := .dat (.list ((Vs F a l v ++ [R]).map rsD))) (x9 := y9) (x10 := .dat (tI ((lots F).map f))) (x11 := .dic (fD (lots F) f)) (x12 := .dat (tI ((lots F).map (up f)))) (x13 := .lst (((lots F).map (dn f)).map .int)) (x14 := .dat (.int (Sm (lots F) f))) (x15 := Sd n G) (x16 := .dat (.int (sb ws F + sb ws G))) (x19 := .dat (.int v)) (x17 := .un) (x18 := .un) (x20 := .un) (x21 := .un) q24 (by omega) h
  refine ⟨p27, gOfP_eq rfl (ev_seq k1 (ev_seq (r2 h hF) (ev_seq (r3 h hF) (ev_seq k4 (ev_seq (r5 h hw) (ev_seq k6 (ev_seq (r7 h) (ev_seq (r8 h hF) (ev_seq k9 (ev_seq (r10 hlv) (ev_seq k11 (ev_seq (r12 h hF) (ev_seq k13 (ev_seq k14 (ev_seq k15 (ev_seq r16 (ev_seq (r17 h) (ev_seq (r18 h) (ev_seq r19 (ev_seq k20 (ev_seq (r21 h) (ev_seq (r22 h) (ev_seq (r23 h) (ev_seq k24 (ev_seq (r25 h hG hw hl21 hG21) (ev_seq (r26 h hG hw) (ev_seq k27 (ev_seq (r28 h hw hg0 hgn) (r29 h hw))))))))))))))))))))))))))))) rfl⟩

end K15
end
section
set_option Elab.async false
set_option linter.all false
set_option maxRecDepth 100000
namespace K15
open PySem PySem.Spec PyProof.Rows PySem.W L2 Pd
def topS (i : Nat) : Stmt := PySem.Challenge.pw_hollowwithin_k15_whole_sums_over_all_lot.main.body.getD i (.Pass ⟨0, 0, 0, 0⟩)
abbrev s_is_tuple : Stmt := topS 1
abbrev s_is_whole : Stmt := topS 2
abbrev s_is_integer : Stmt := topS 3
abbrev s_is_rising : Stmt := topS 4
abbrev s_lot_place : Stmt := topS 15
abbrev s_is_lot : Stmt := topS 16
abbrev s_is_within : Stmt := topS 17
abbrev s_greatest_of : Stmt := topS 18
abbrev s_parts_of : Stmt := topS 19
abbrev s_lots_of : Stmt := topS 20
abbrev s_by_sizes : Stmt := topS 21
abbrev s_is_company : Stmt := topS 22
abbrev s_check_company : Stmt := topS 23
abbrev s_check_lot : Stmt := topS 24
abbrev s_company_by : Stmt := topS 25
abbrev s_is_asked : Stmt := topS 26
abbrev s_link_of : Stmt := topS 27
abbrev s_link : Stmt := topS 28
abbrev s_without_of : Stmt := topS 29
abbrev s_without : Stmt := topS 30
abbrev s_check_same : Stmt := topS 31
abbrev s_either : Stmt := topS 32
abbrev s_both : Stmt := topS 33
abbrev s_signed_of : Stmt := topS 37
abbrev s_signed : Stmt := topS 38
abbrev s_sign_above : Stmt := topS 39
abbrev s_meets_of : Stmt := topS 40
abbrev s_least_rows : Stmt := topS 41
abbrev s_least_sums : Stmt := topS 42
abbrev s_is_row : Stmt := topS 43
abbrev s_shows_sums : Stmt := topS 44
abbrev s_sum_by : Stmt := topS 45
abbrev s_check_numbers : Stmt := topS 46
abbrev s_along : Stmt := topS 47
abbrev s_summed : Stmt := topS 48
abbrev s_unsummed : Stmt := topS 49
abbrev s_law_pot_of : Stmt := topS 51
abbrev s_law_take : Stmt := topS 52
abbrev s_law_of : Stmt := topS 53
abbrev s_law_stir : Stmt := topS 54
abbrev s_law_parts : Stmt := topS 55
abbrev s_law_is_part : Stmt := topS 56
abbrev s_law_company : Stmt := topS 57
abbrev s_law_lots : Stmt := topS 58
abbrev s_law_drawn : Stmt := topS 59
abbrev s_law_link : Stmt := topS 60
abbrev s_law_known_lots : Stmt := topS 61
abbrev s_law_product : Stmt := topS 62
abbrev s_law_signed : Stmt := topS 63
abbrev s_law_meets : Stmt := topS 64
abbrev s_law_least_sums : Stmt := topS 65
abbrev s_law_is_sums : Stmt := topS 66
abbrev s_law_all_sums : Stmt := topS 67
abbrev s_law_right : Stmt := topS 68
abbrev s_law : Stmt := topS 69
end K15
end
section
set_option Elab.async false
set_option linter.all false
set_option maxRecDepth 100000
set_option maxHeartbeats 4000000
namespace K15
open PySem PySem.Spec PyProof.Rows PySem.W L2 Pd
section
variable [TB] {P : Program} {w : World} {K : PySem.W.Frag} {mg : Str → Option Value} {base : Heap}
abbrev G0 : Hp := fun _ => none
/-- the script's cells -/
structure Cells (K : PySem.W.Frag) (H : Hp) (a : Addr) (ns : List Int) : Prop where
  sq : SqL K H a (ns.map V.int)
  tb : LamX.Tabs TB.T H
  len : ns.length ≤ 63
def spPot (K : PySem.W.Frag) : Sp := fun vs H Q _ => ∃ (a : Addr) (ns : List Int) (k : Nat), vs = [.ref a, .int k] ∧ Cells K H a ns ∧ k ≤ 2 ∧
  ∀ G' H' q pt, Ext muT G0 H G' H' → Nw H q → G' q = none → H' q = some (.lst (pt.map V.int)) → Pot 0 pt → Q (.ref q) H'
theorem sc_law_pot_of : FnScope ["script", "k", "cell", "own"] ["script", "k"] (defScope s_law_pot_of) := ⟨rfl, rfl, rfl, by decide +kernel, rfl, by decide +kernel, by decide +kernel⟩
def m_rest : MB := (bSeq (bSet 3 (mOp (fIc cMul fun i j => i * j) (mOp (fIc cMod fun i j => i % j) (mCB (f1 fInt) (wCons (mCB (f1 fAbs) (wCons (mVar 2) wNil)) wNil)) (mOp (fIc cPowW fun i j => i ^ j.toNat) (mOp (fIc cPowW fun i j => i ^ j.toNat) (mC (.int 10)) (mC (.int 60))) (mC (.int 5)))) (mCB (f1 fInt) (wCons (mOp (fB fun i j => decide (j ≤ i)) (mCB (f1 fAbs) (wCons (mVar 2) wNil)) (mOp (fIc cPowW fun i j => i ^ j.toNat) (mC (.int 10)) (mC (.int 18)))) wNil))))
      (bRet (mLst (mCons (mVar 3) (mCons (mOp (fIc cMod fun i j => i % j) (mOp fAdd3 (mOp fAdd3 (mOp (fIc cMul fun i j => i * j) (mOp (fIc cMod fun i j => i % j) (mCB (f1 fInt) (wCons (mVar 2) wNil)) (mC (.int 2305843009213693951))) (mC (.int 72029))) (mOp (fIc cMul fun i j => i * j) (mOp (fIc cMul fun i j => i * j) (mC (.int 7125)) (mVar 1)) (mVar 1))) (mC (.int 41))) (mC (.int 2305843009213693921))) (mCons (mC (.int 0)) mNil))))))
theorem cons_db {X : Cx} {st : Stmt} {rest : List Stmt} {t1 : TS} {m : MB} {Rd : TS → Prop} (h1 : PS X st t1) (h2 : ∃ t, PSs X rest t ∧ DB t m) (k : ∀ t2, DB t2 m → Rd (tSeq t1 t2)) : ∃ t, PSs X (st :: rest) t ∧ Rd t := by
  obtain ⟨t2, p2, d2⟩ := h2
  exact ⟨_, pss_cons h1 p2, k t2 d2⟩

theorem iteT' {c : Bool} {A B : Prop} (h : c = true) (k : A) : if c = true then A else B := by rw [if_pos h]; exact k
theorem iteF' {c : Bool} {A B : Prop} (h : c = false) (k : B) : if c = true then A else B := by rw [h, if_neg Bool.false_ne_true]; exact k
theorem le_abs (c : Int) : 0 ≤ (if c < 0 then -c else c) := by split <;> omega
theorem mRest_is (k c : Int) (hk : 0 ≤ k) (hk2 : k ≤ 2) : ∃ own mix : Int, m_rest [.un, .dat (.int k), .dat (.int c), .un] [] = some (.rt (.lst [.int own, .int mix, .int 0]) []) ∧ Pot 0 [own, mix, 0] := by
  have big := big2m
  generalize ha : (if c < 0 then -c else c) = A
  have hA : 0 ≤ A := by rw [← ha]; exact le_abs c
  let B : Bool := decide ((10 : Int) ^ 18 ≤ A)
  let b : Int := if B = true then 1 else 0
  have hb : b = 0 ∨ b = 1 := by
    by_cases h : B = true
    · exact .inr (if_pos h)
    · exact .inl (if_neg h)
  let M : Int := A % (((10 : Int) ^ 60) ^ 5)
  have hM : 0 ≤ M := Int.emod_nonneg _ (by decide)
  let mix : Int := (c % 2305843009213693951 * 72029 + 7125 * k * k + 41) % 2305843009213693921
  have hm0 : 0 ≤ mix := Int.emod_nonneg _ (by decide)
  have hm1 : mix < 2305843009213693921 := Int.emod_lt_of_pos _ (by decide)
  have p60 : fIc cPowW (fun i j => i ^ j.toNat) (.dat (.int 10)) (.dat (.int 60)) = some (.dat (.int (10 ^ 60))) := by
    show (if cPowW 10 60 = true then some (Rv.dat (PyData.int ((10 : Int) ^ (60 : Int).toNat))) else none) = _
    rw [if_pos (by decide +kernel)]
    rfl
  have p5 : fIc cPowW (fun i j => i ^ j.toNat) (.dat (.int (10 ^ 60))) (.dat (.int 5)) = some (.dat (.int ((10 ^ 60) ^ 5))) := by
    show (if cPowW (10 ^ 60) 5 = true then some (Rv.dat (PyData.int (((10 : Int) ^ 60) ^ (5 : Int).toNat))) else none) = _
    rw [if_pos (by decide +kernel)]
    rfl
  have p18 : fIc cPowW (fun i j => i ^ j.toNat) (.dat (.int 10)) (.dat (.int 18)) = some (.dat (.int (10 ^ 18))) := by
    show (if cPowW 10 18 = true then some (Rv.dat (PyData.int ((10 : Int) ^ (18 : Int).toNat))) else none) = _
    rw [if_pos (by decide +kernel)]
    rfl
  have eabs : fAbs (.dat (.int c)) = some (.dat (.int A)) := by rw [← ha]; rfl
  have e1 : (mOp (fIc cMod fun i j => i % j) (mCB (f1 fInt) (wCons (mCB (f1 fAbs) (wCons (mVar 2) wNil)) wNil)) (mOp (fIc cPowW fun i j => i ^ j.toNat) (mOp (fIc cPowW fun i j => i ^ j.toNat) (mC (.int 10)) (mC (.int 60))) (mC (.int 5))) : MV) [.un, .dat (.int k), .dat (.int c), .un] [] = some (.dat (.int M), []) :=
    op_is (cb1_is (r := .dat (.int A)) (z := .dat (.int A)) (cb1_is rfl eabs) rfl) (op_is (op_is rfl rfl p60) rfl p5) (cMod_is (by decide))
  have e2 : (mCB (f1 fInt) (wCons (mOp (fB fun i j => decide (j ≤ i)) (mCB (f1 fAbs) (wCons (mVar 2) wNil)) (mOp (fIc cPowW fun i j => i ^ j.toNat) (mC (.int 10)) (mC (.int 18)))) wNil) : MV) [.un, .dat (.int k), .dat (.int c), .un] [] = some (.dat (.int b), []) :=
    cb1_is (r := .dat (.bool B)) (op_is (cb1_is rfl eabs) (op_is rfl rfl p18) rfl) rfl
  have e3 : (mOp (fIc cMod fun i j => i % j) (mOp fAdd3 (mOp fAdd3 (mOp (fIc cMul fun i j => i * j) (mOp (fIc cMod fun i j => i % j) (mCB (f1 fInt) (wCons (mVar 2) wNil)) (mC (.int 2305843009213693951))) (mC (.int 72029))) (mOp (fIc cMul fun i j => i * j) (mOp (fIc cMul fun i j => i * j) (mC (.int 7125)) (mVar 1)) (mVar 1))) (mC (.int 41))) (mC (.int 2305843009213693921)) : MV) [.un, .dat (.int k), .dat (.int c), .dat (.int (M * b))] [] = some (.dat (.int mix), []) :=
    op_is (op_is (op_is (op_is (x := .dat (.int (c % 2305843009213693951))) (p := []) (op_is (cb1_is (r := .dat (.int c)) (z := .dat (.int c)) rfl rfl) rfl (cMod_is (by decide))) rfl (cMul_r (by decide) (by decide))) (op_is (op_is (x := .dat (.int 7125)) (y := .dat (.int k)) (p := []) rfl rfl (cMul_l (by decide) (by decide))) rfl (cMul_r (by omega) (by omega))) (add3_is _ _)) rfl (add3_is _ _)) rfl (cMod_is (by decide))
  refine ⟨M * b, mix, ev_seq (ev_set (r := .dat (.int (M * b))) (op_is e1 e2 (cMul_r (by omega) (by omega))) rfl) (ev_ret (r := .lst [.int (M * b), .int mix, .int 0]) (lst_is (cons_is rfl rfl (cons_is e3 rfl rfl)) (by simp))), M * b, mix, 0, rfl, Int.mul_nonneg hM (by omega), hm0, by omega, by omega, by omega⟩
theorem cutV_map (xs : List Int) (lo hi : Option Int) : cutV (xs.map V.int) lo hi = (cutL xs lo hi).map V.int := by
  unfold cutV cutL
  rw [List.length_map, List.map_take, List.map_drop]
theorem g0_nt : NT G0 := fun b o e => by cases e
theorem kn_law_pot_of (B : Bn mg) (h : Has K mg "_law_pot_of" s_law_pot_of) : Kn P w K mg base 1 "_law_pot_of" ["script", "k"] (spPot K) := by
  obtain ⟨f, fd, F, hm⟩ := h
  refine ⟨f, fd, F.ok sc_law_pot_of (fun vs H Q E h => ?_) (fun cdv A outer s H vs Q E hr h => ?_), hm, F.kp, F.bindsN fun _ _ _ _ _ _ us hl => match us, hl with | [_, _], _ => rfl⟩
  · obtain ⟨a, ns, k, rfl, _⟩ := h
    rfl
  · obtain ⟨a, ns, k, rfl, hc, hk, q⟩ := h
    suffices key : ∃ t, PSs (cxOf CX0 P w K mg base ["script", "k", "cell", "own"] "_law_pot_of" (defScope s_law_pot_of) f cdv A outer s H E).nox (defBody s_law_pot_of) t ∧ t { nx := fun _ H' => Q .non H', rt := Q } (L2.start ["script", "k", "cell", "own"] [.ref a, .int k]) H from by
      obtain ⟨t, p, r⟩ := key
      exact ⟨t, p.nox, r⟩
    refine cons_db (m := m_rest) (Rd := fun t => t { nx := fun _ H' => Q .non H', rt := Q } (L2.start ["script", "k", "cell", "own"] [.ref a, .int k]) H) (rest := (defBody s_law_pot_of).drop 1)
      (ps_set (i := 2) sc_law_pot_of.nd rfl (Or.inl rfl) (pe_ifExp (pt_cmpR op_lt (pv 1) (pe_callB call_len_seq (by rfl) B.len_ (by decide +kernel) (pa_cons (pv 0) pa_nil)) (nomark _)) (pe_ix ix_two (pv 0) (pv 1) (fun _ _ => rfl)) (pe_op op_add3 (pe_op op_add3 (pe_op op_mod (pe_callTy call_int1 (by rfl) B.int_ (by decide +kernel) (pa_cons (pe_callB (cr_sum rfl) (by rfl) B.sum_ (by decide +kernel) (pa_cons (pe_slice sl_two (pv 0) po_none (po_some pe_int)) pa_nil)) pa_nil)) pe_int) (pe_op op_mul pe_int (pv 1))) pe_int)))
      ⟨_, (pss_cons (ps_set (i := 3) sc_law_pot_of.nd rfl (Or.inl rfl) (pe_op op_mul (pe_op op_mod (pe_callTy call_int1 (by rfl) B.int_ (by decide +kernel) (pa_cons (pe_callB call_abs (by rfl) B.abs_ (by decide +kernel) (pa_cons (pv 2) pa_nil)) pa_nil)) (pe_op op_powW (pe_op op_powW pe_int pe_int) pe_int)) (pe_callTy call_int1 (by rfl) B.int_ (by decide +kernel) (pa_cons (pe_cmpR op_ge (pe_callB call_abs (by rfl) B.abs_ (by decide +kernel) (pa_cons (pv 2) pa_nil)) (pe_op op_powW pe_int pe_int) (nomark _)) pa_nil))))
      (pss_one (ps_ret (pe_lst (pa_cons (pv 3) (pa_cons (pe_op op_mod (pe_op op_add3 (pe_op op_add3 (pe_op op_mul (pe_op op_mod (pe_callTy call_int1 (by rfl) B.int_ (by decide +kernel) (pa_cons (pv 2) pa_nil)) pe_int) pe_int) (pe_op op_mul (pe_op op_mul pe_int (pv 1)) (pv 1))) pe_int) pe_int) (pa_cons pe_int pa_nil))))))),
      (sdb_seq (sdb_set (sde_op sdr_mul (sde_op sdr_mod (sde_cb sdc_int (sdw_cons (sde_cb sdc_abs (sdw_cons sde_var sdw_nil)) sdw_nil)) (sde_op sdr_powW (sde_op sdr_powW sde_int sde_int) sde_int)) (sde_cb sdc_int (sdw_cons (sde_op sdr_B (sde_cb sdc_abs (sdw_cons sde_var sdw_nil)) (sde_op sdr_powW sde_int sde_int)) sdw_nil)))) (sdb_ret (sde_lst (sda_cons sde_var (sda_cons (sde_op sdr_mod (sde_op sdr_add (sde_op sdr_add (sde_op sdr_mul (sde_op sdr_mod (sde_cb sdc_int (sdw_cons sde_var sdw_nil)) sde_int) sde_int) (sde_op sdr_mul (sde_op sdr_mul sde_int sde_var) sde_var)) sde_int) sde_int) (sda_cons sde_int sda_nil)))))).d⟩ (fun t2 d2 => ?_)
    have core : ∀ (c : Int) (H1 : Hp), Ext muT G0 H G0 H1 → t2 { nx := fun _ H' => Q .non H', rt := Q } ((L2.start ["script", "k", "cell", "own"] [.ref a, .int k]).set 2 (some (.int c))) H1 := fun c H1 x => by
      obtain ⟨own, mix, e, hp⟩ := mRest_is k c (by omega) (by omega)
      refine d2 (G0 := G0) (H0 := H) (pa := muT) (G := G0) ⟨x, fun p e => (by simp at e), fun p e => (by simp at e), g0_nt, x.tb hc.tb, rfl, rfl, fun i s e => ?_, fun i j b h1 h2 e1 e2 => ?_⟩ e fun v G' H' x qp kk => ?_
      · match i, e with
        | 0, e => cases e; trivial
        | 1, e => cases e; exact ⟨_, rfl, .int _⟩
        | 2, e => cases e; exact ⟨_, rfl, .int _⟩
        | 3, e => cases e; trivial
        | i + 4, e => simp at e
      · exfalso
        match i, h1 with
        | 0, h1 => exact h1
        | 1, h1 => exact h1
        | 2, h1 => exact h1
        | 3, h1 => exact h1
        | i + 4, h1 => simp [Sl.own] at h1
      · obtain ⟨b, vs, rfl, nw, g, hb, ia⟩ := kk H
        have := ia.ints (ns := [own, mix, 0])
        subst this
        exact q G' H' b _ x nw g hb hp
    have s0 : Same G0 H := fun b o e => by cases e
    refine ⟨_, rfl, _, rfl, a, _, rfl, .inl hc.sq, _, _, rfl, rfl, _, rfl, ?_⟩
    by_cases hlt : (k : Int) < ((ns.map V.int).length : Int)
    · refine iteT' (decide_eq_true hlt) ?_
      have hlt' : k < ns.length := by rw [List.length_map] at hlt; omega
      exact ⟨_, rfl, _, rfl, .inl ⟨a, _, _, .int ns[k], rfl, rfl, hc.sq, atI_nat (by rw [List.getElem?_map, List.getElem?_eq_getElem hlt']; rfl), core _ H (Ext.refl s0)⟩⟩
    · refine iteF' (decide_eq_false hlt) ?_
      refine ⟨_, rfl, 1, rfl, .inl ⟨a, _, rfl, hc.sq, fun p np => ?_⟩⟩
      refine ⟨p, cutL ns none (some 1), rfl, SqL.of (by rw [upd_same, cutV_map]), .inl ⟨_, rfl, _, _, rfl, rfl, (by decide : (0 : Int) < 1000003), ?_⟩⟩
      exact ⟨_, rfl, _, _, rfl, rfl, .inl ⟨by decide, by decide⟩, .inl ⟨_, _, rfl, rfl, .inl ⟨_, _, rfl, rfl, core _ _ (Ext.own s0 np)⟩⟩⟩
def spLaw (K : PySem.W.Frag) : Sp := fun vs H Q _ => ∃ (a : Addr) (ns : List Int), vs = [.ref a] ∧ Cells K H a ns ∧ ∀ H', Q (.bl true) H'
theorem Cells.ext {H H' G G' : Hp} {a : Addr} {ns : List Int} (c : Cells K H a ns) {M : Mu} (x : Ext M G H G' H') (hp : ∀ o, H a = some o → NTb o → M.p ≠ some a) : Cells K H' a ns := by
  refine ⟨?_, x.tb c.tb, c.len⟩
  rcases c.sq with (h | ⟨o, h⟩) | h
  · exact .inl (.inl (x.hv a _ h (hp _ h (by intro _ z; cases z))))
  · exact .inl (.inr ⟨o, x.hv a _ h (hp _ h (by intro _ z; cases z))⟩)
  · exact .inr h
theorem sc_law : FnScope ["script", "k"] ["script"] (defScope s_law) := ⟨rfl, rfl, rfl, by decide +kernel, rfl, by decide +kernel, by decide +kernel⟩
theorem ok_law {f : Addr} {fd : FuncData} (B : Bn mg) (F : FunD K "law" "law" (defArgs s_law) (defBody s_law) (defScope s_law) [] [] f fd) (k_law_pot_of : Kn P w K mg base 1 "_law_pot_of" ["script", "k"] (spPot K)) (k_law_right : Kn P w K mg base 8 "_law_right" ["pot"] (spP g_law_right)) : FnOk P w K mg base CX0 9 f fd ["script"] (spLaw K) := by
  refine F.ok sc_law (fun vs H Q E h => ?_) (fun cdv A outer s H vs Q E hr h => ?_)
  · obtain ⟨a, ns, rfl, _⟩ := h
    rfl
  · obtain ⟨a, ns, rfl, hc, q⟩ := h
    suffices key : ∃ t, PSs (cxOf CX0 P w K mg base ["script", "k"] "law" (defScope s_law) f cdv A outer s H E).nox (defBody s_law) t ∧ t { nx := fun _ H' => Q .non H', rt := Q } (L2.start ["script", "k"] [.ref a]) H from by
      obtain ⟨t, p, r⟩ := key
      exact ⟨t, p.nox, r⟩
    refine ⟨_, (pss_cons (ps_for PassesOwn.never rfl (pi_range1 (by rfl) B.range_ (pa_cons (pe_callB (call_max2 rfl) (by rfl) B.max_ (by decide +kernel) (pa_cons pe_int (pa_cons (pe_callB (call_min2 rfl) (by rfl) B.min_ (by decide +kernel) (pa_cons pe_int (pa_cons (pe_callB call_len_seq (by rfl) B.len_ (by decide +kernel) (pa_cons (pv 0) pa_nil)) pa_nil))) pa_nil))) pa_nil)) (pg_name (i := 1) sc_law.nd rfl (Or.inl rfl))
      (pss_one (ps_if (pt_not (pt_val (k_law_right.call hr (by decide) (by rfl) (pa_cons (k_law_pot_of.call hr (by decide) (by rfl) (pa_cons (pv 0) (pa_cons (pv 1) pa_nil))) pa_nil)))) (pss_one (ps_ret pe_bl)) pss_nil)))
      (pss_one (ps_ret pe_bl))), ?_⟩
    have hlen := hc.len
    have hN : ∃ N : Nat, N ≤ 2 ∧ (if (if ((ns.map V.int).length : Int) < 2 then ((ns.map V.int).length : Int) else 2) > 1 then (if ((ns.map V.int).length : Int) < 2 then ((ns.map V.int).length : Int) else 2) else 1) = (N : Int) := by
      generalize ((ns.map V.int).length) = l
      refine ⟨(if (if (l : Int) < 2 then (l : Int) else 2) > 1 then (if (l : Int) < 2 then (l : Int) else 2) else 1).toNat, ?_, ?_⟩
      · split <;> split <;> omega
      · split <;> split <;> omega
    obtain ⟨N, hN2, eN⟩ := hN
    refine ⟨_, rfl, a, _, rfl, .inl hc.sq, _, _, rfl, _, _, rfl, (N : Int), ?_, by omega, by omega, ?_⟩
    · rw [eN]
    rw [Int.toNat_natCast]
    refine ⟨fun i m σ' H' => m = N - i ∧ i ≤ N ∧ (∃ x, σ' = [some (.ref a), x]) ∧ Cells K H' a ns, ⟨N, rfl, Nat.zero_le _, ⟨_, rfl⟩, hc⟩, ?_⟩
    rintro i m σ2 H2 ⟨rfl, hi, ⟨x, rfl⟩, c2⟩
    by_cases hlt : i < N
    · refine .inr ⟨hlt, fun σ' H' => N - (i + 1) = N - (i + 1) ∧ i + 1 ≤ N ∧ (∃ x, σ' = [some (.ref a), x]) ∧ Cells K H' a ns, fun σ' H' hN => ⟨N - (i + 1), by omega, hN⟩, fun x H3 hx => ?_⟩
      obtain ⟨rfl, rfl⟩ := hx
      refine ⟨_, rfl, _, rfl, a, ns, i, by simp, c2, by omega, fun G' H' q pt x1 nw g hh hp => ?_⟩
      obtain ⟨p2, ep⟩ := c_law_right hp
      have c3 := c2.ext x1 fun o _ _ => by simp
      refine ⟨G', q, [], pt, [], _, p2, by simp, ep, ⟨x1.gh, x1.nt g0_nt, x1.tb c2.tb⟩, g, hh, .nil, fun v G'' H'' x2 hp2 kk => ?_⟩
      have hv := kk H3
      cases (show Is G'' v (.bool true) from hv)
      refine ⟨true, rfl, ?_⟩
      have c4 : Cells K H'' a ns := by
        rcases c2.sq with h | h
        · have ne : q ≠ a := fun z => by
            subst z
            rcases h with h | ⟨o, h⟩
            · exact nw.no h
            · exact nw.no h
          exact c3.ext x2 fun _ _ _ z => ne (Option.some.inj z)
        · exact ⟨.inr h, x2.tb c3.tb, c3.len⟩
      exact iteF' rfl ⟨rfl, hlt, ⟨_, rfl⟩, c4⟩
    · have ei : i = N := by omega
      subst ei
      exact .inl ⟨Nat.le_refl _, q H2⟩
end
end K15
end
section
set_option Elab.async false
set_option linter.all false
set_option maxRecDepth 100000
set_option maxHeartbeats 4000000
namespace K15
open PySem PySem.Spec PyProof.Rows PySem.W L2 Pd
section
variable [TB] {P : Program} {w : World} {K : PySem.W.Frag} {mg : Str → Option Value} {base : Heap}
theorem sc_is_tuple : FnScope ["value", "least", "most"] ["value", "least", "most"] (defScope s_is_tuple) := ⟨rfl, rfl, rfl, by decide +kernel, rfl, by decide +kernel, by decide +kernel⟩
theorem kn_is_tuple (B : Bn mg) (h : Has K mg "is_tuple" s_is_tuple)   : Kn P w K mg base 1 "is_tuple" ["value", "least", "most"] (spF g_is_tuple) := by
  exact knF (mb := m_is_tuple) h sc_is_tuple (fun _ _ _ _ _ _ us hl => match us, hl with | [_, _, _], _ => rfl) (fun f cdv A outer s H E hr => ⟨_, (pss_one (ps_ret (pe_and (pe_callB call_isi (by rfl) B.isinstance_ (by decide +kernel) (pa_cons (pv 0) (pa_cons (pe_bltn (v := .ty "tuple") (by rfl) B.tuple_ (by decide +kernel) rfl) pa_nil))) (pe_one (pe_chain op_le op_le (pv 1) (pe_callB call_len_seq (by rfl) B.len_ (by decide +kernel) (pa_cons (pv 0) pa_nil)) (pv 2)))))),
    ((sdb_ret (sde_and (sde_isi sde_var) (sde_chain sdr_B sdr_B sde_var (sde_cb sdc_len (sdw_cons sde_var sdw_nil)) sde_var)))).d⟩) gOf_ok
end
end K15
end
section
set_option Elab.async false
set_option linter.all false
set_option maxRecDepth 100000
set_option maxHeartbeats 4000000
namespace K15
open PySem PySem.Spec PyProof.Rows PySem.W L2 Pd
section
variable [TB] {P : Program} {w : World} {K : PySem.W.Frag} {mg : Str → Option Value} {base : Heap}
theorem sc_is_whole : FnScope ["value"] ["value"] (defScope s_is_whole) := ⟨rfl, rfl, rfl, by decide +kernel, rfl, by decide +kernel, by decide +kernel⟩
theorem kn_is_whole (B : Bn mg) (h : Has K mg "is_whole" s_is_whole)   : Kn P w K mg base 1 "is_whole" ["value"] (spF g_is_whole) := by
  exact knF (mb := m_is_whole) h sc_is_whole (fun _ _ _ _ _ _ us hl => match us, hl with | [_], _ => rfl) (fun f cdv A outer s H E hr => ⟨_, (pss_one (ps_ret (pe_and (pe_callB call_isi (by rfl) B.isinstance_ (by decide +kernel) (pa_cons (pv 0) (pa_cons (pe_bltn (v := .ty "int") (by rfl) B.int_ (by decide +kernel) rfl) pa_nil))) (pe_one (pe_not (pe_callB call_isi (by rfl) B.isinstance_ (by decide +kernel) (pa_cons (pv 0) (pa_cons (pe_bltn (v := .ty "bool") (by rfl) B.bool_ (by decide +kernel) rfl) pa_nil)))))))),
    ((sdb_ret (sde_and (sde_isi sde_var) (sde_not (sde_isi sde_var))))).d⟩) gOf_ok
end
end K15
end
section
set_option Elab.async false
set_option linter.all false
set_option maxRecDepth 100000
set_option maxHeartbeats 4000000
namespace K15
open PySem PySem.Spec PyProof.Rows PySem.W L2 Pd
section
variable [TB] {P : Program} {w : World} {K : PySem.W.Frag} {mg : Str → Option Value} {base : Heap}
theorem sc_is_rising : FnScope ["values", "one", "other"] ["values"] (defScope s_is_rising) := ⟨rfl, rfl, rfl, by decide +kernel, rfl, by decide +kernel, by decide +kernel⟩
theorem kn_is_rising (B : Bn mg) (h : Has K mg "is_rising" s_is_rising)   : Kn P w K mg base 1 "is_rising" ["values"] (spF g_is_rising) := by
  exact knF (mb := m_is_rising) h sc_is_rising (fun _ _ _ _ _ _ us hl => match us, hl with | [_], _ => rfl) (fun f cdv A outer s H E hr => ⟨_, (pss_one (ps_ret (pe_callB (cr_all rfl) (by rfl) B.all_ (by decide +kernel) (pa_cons (pe_lc (own := [("one", 1), ("other", 2)]) (g := gTup K 2 (gCons (gName 1) (gCons (gName 2) gNil))) rfl sc_is_rising.nd (RZ.pi_zipA (by rfl) B.zip_ (pa_cons (pv 0) (pa_cons (pe_slice sl_two (pv 0) (po_some pe_int) po_none) pa_nil))) (blkOk_by (own := [("one", 1), ("other", 2)]) (by kernel_rfl)) (fun _ _ _ _ _ => (pg_tup (by rfl) (pgs_cons (pg_name (i := 1) sc_is_rising.nd rfl (Or.inl rfl)) (pgs_cons (pg_name (i := 2) sc_is_rising.nd rfl (Or.inl rfl)) pgs_nil)))) (fun _ _ _ _ _ => pts_nil) (fun _ _ _ _ _ => (pe_cmpR op_lt (pv 1) (pv 2) (nomark _)))) pa_nil)))),
    ((sdb_ret (sde_cb sdc_all (sdw_cons (sde_lc (sdi_zipA (sdw_cons sde_var (sdw_cons (sde_sl sde_var (sdo_some sde_int) sdo_none) sdw_nil))) sdg_two sdt_yes (sde_op sdr_B sde_var sde_var)) sdw_nil)))).d⟩) gOf_ok
end
end K15
end
section
set_option Elab.async false
set_option linter.all false
set_option maxRecDepth 100000
set_option maxHeartbeats 4000000
namespace K15
open PySem PySem.Spec PyProof.Rows PySem.W L2 Pd
section
variable [TB] {P : Program} {w : World} {K : PySem.W.Frag} {mg : Str → Option Value} {base : Heap}
theorem sc_lot_place : FnScope ["lot"] ["lot"] (defScope s_lot_place) := ⟨rfl, rfl, rfl, by decide +kernel, rfl, by decide +kernel, by decide +kernel⟩
theorem kn_lot_place (B : Bn mg) (h : Has K mg "lot_place" s_lot_place)   : Kn P w K mg base 1 "lot_place" ["lot"] (spF g_lot_place) := by
  exact knF (mb := m_lot_place) h sc_lot_place (fun _ _ _ _ _ _ us hl => match us, hl with | [_], _ => rfl) (fun f cdv A outer s H E hr => ⟨_, (pss_one (ps_ret (pe_tup (pa_cons (pe_callB call_len_seq (by rfl) B.len_ (by decide +kernel) (pa_cons (pv 0) pa_nil)) (pa_cons (pv 0) pa_nil))))),
    ((sdb_ret (sde_tup (sda_cons (sde_cb sdc_len (sdw_cons sde_var sdw_nil)) (sda_cons sde_var sda_nil))))).d⟩) gOf_ok
end
end K15
end
section
set_option Elab.async false
set_option linter.all false
set_option maxRecDepth 100000
set_option maxHeartbeats 4000000
namespace K15
open PySem PySem.Spec PyProof.Rows PySem.W L2 Pd
section
variable [TB] {P : Program} {w : World} {K : PySem.W.Frag} {mg : Str → Option Value} {base : Heap}
theorem sc_is_within : FnScope ["one", "other", "guest"] ["one", "other"] (defScope s_is_within) := ⟨rfl, rfl, rfl, by decide +kernel, rfl, by decide +kernel, by decide +kernel⟩
theorem kn_is_within (B : Bn mg) (h : Has K mg "is_within" s_is_within)   : Kn P w K mg base 1 "is_within" ["one", "other"] (spF g_is_within) := by
  exact knF (mb := m_is_within) h sc_is_within (fun _ _ _ _ _ _ us hl => match us, hl with | [_, _], _ => rfl) (fun f cdv A outer s H E hr => ⟨_, (pss_one (ps_ret (pe_callB (cr_all rfl) (by rfl) B.all_ (by decide +kernel) (pa_cons (pe_lc (own := [("guest", 2)]) rfl sc_is_within.nd (pi_seq (pv 0)) (blkOk_by (own := [("guest", 2)]) (by kernel_rfl)) (fun _ _ _ _ _ => (pg_name (i := 2) sc_is_within.nd rfl (Or.inl rfl))) (fun _ _ _ _ _ => pts_nil) (fun _ _ _ _ _ => (pe_cmpR op_in_seq (pv 2) (pv 1) rfl))) pa_nil)))),
    ((sdb_ret (sde_cb sdc_all (sdw_cons (sde_lc (sdi_seq sde_var) sdg_name sdt_yes (sde_op (sdr_in false) sde_var sde_var)) sdw_nil)))).d⟩) gOf_ok
end
end K15
end
section
set_option Elab.async false
set_option linter.all false
set_option maxRecDepth 100000
set_option maxHeartbeats 4000000
namespace K15
open PySem PySem.Spec PyProof.Rows PySem.W L2 Pd
section
variable [TB] {P : Program} {w : World} {K : PySem.W.Frag} {mg : Str → Option Value} {base : Heap}
theorem sc_parts_of : FnScope ["lot", "found", "guest", "part"] ["lot"] (defScope s_parts_of) := ⟨rfl, rfl, rfl, by decide +kernel, rfl, by decide +kernel, by decide +kernel⟩
theorem kn_parts_of (B : Bn mg) (h : Has K mg "parts_of" s_parts_of)   : Kn P w K mg base 1 "parts_of" ["lot"] (spF g_parts_of) := by
  exact knF (mb := m_parts_of) h sc_parts_of (fun _ _ _ _ _ _ us hl => match us, hl with | [_], _ => rfl) (fun f cdv A outer s H E hr => ⟨_, (pss_cons (ps_set (i := 1) sc_parts_of.nd rfl (Or.inl rfl) (pe_lst (pa_cons (pe_tup pa_nil) pa_nil)))
      (pss_cons (ps_for PassesOwn.never rfl (pi_seq (pv 0)) (pg_name (i := 2) sc_parts_of.nd rfl (Or.inr rfl))
      (pss_one (ps_expr (pe_bm PySem.F.plainAttrs_list PySem.F.slot_list_extend PySem.F.type_list_extend mt_extend (pv 1) (pa_cons (pe_lc (own := [("part", 3)]) rfl sc_parts_of.nd (pi_seq (pe_callTy call_list_of (by rfl) B.list_ (by decide +kernel) (pa_cons (pv 1) pa_nil))) (blkOk_by (own := [("part", 3)]) (by kernel_rfl)) (fun _ _ _ _ _ => (pg_name (i := 3) sc_parts_of.nd rfl (Or.inl rfl))) (fun _ _ _ _ _ => pts_nil) (fun _ _ _ _ _ => (pe_tup (StX.pa_star (pv 3) (pa_cons (pv 2) pa_nil))))) pa_nil)))))
      (pss_one (ps_ret (pv 1))))),
    ((sdb_seq (sdb_set (sde_lst (sda_cons (sde_tup sda_nil) sda_nil))) (sdb_seq (sdb_for (sdif_seq sde_var) sdg_name.g (sdb_ext (sde_lc (sdi_seq (sde_cb sdc_list (sdw_cons sde_var sdw_nil))) sdg_name sdt_yes (sde_tup (sda_star sde_var (sda_cons sde_var sda_nil)))))) (sdb_ret sde_var)))).d⟩) gOf_ok
end
end K15
end
section
set_option Elab.async false
set_option linter.all false
set_option maxRecDepth 100000
set_option maxHeartbeats 4000000
namespace K15
open PySem PySem.Spec PyProof.Rows PySem.W L2 Pd
section
variable [TB] {P : Program} {w : World} {K : PySem.W.Frag} {mg : Str → Option Value} {base : Heap}
theorem sc_law_take : FnScope ["pot", "upto", "prime", "mixed", "digit"] ["pot", "upto"] (defScope s_law_take) := ⟨rfl, rfl, rfl, by decide +kernel, rfl, by decide +kernel, by decide +kernel⟩
theorem kn_law_take (B : Bn mg) (h : Has K mg "_law_take" s_law_take)   : Kn P w K mg base 1 "_law_take" ["pot", "upto"] (spP g_law_take) := by
  exact knP (mb := m_law_take) h sc_law_take (fun _ _ _ _ _ _ us hl => match us, hl with | [_, _], _ => rfl) (fun f cdv A outer s H E hr => ⟨_, (pss_cons (ps_if (pt_cmpR op_gt (pe_ix ix_list (pv 0) pe_int (fun _ _ => rfl)) pe_int (nomark _)) (pss_cons (ps_set (i := 4) sc_law_take.nd rfl (Or.inl rfl) (pe_op op_mod (pe_callTy call_int1 (by rfl) B.int_ (by decide +kernel) (pa_cons (pe_ix ix_list (pv 0) pe_int (fun _ _ => rfl)) pa_nil)) (pv 1)))
      (pss_cons (ps_asg (pe_op op_fdiv (pe_ix ix_list (pv 0) pe_int (fun _ _ => rfl)) (pv 1)) (pg_sub (pv 0) pe_int set_list))
      (pss_one (ps_ret (pv 4))))) pss_nil)
      (pss_cons (ps_asg (pe_op op_add3 (pe_ix ix_list (pv 0) pe_int (fun _ _ => rfl)) pe_int) (pg_sub (pv 0) pe_int set_list))
      (pss_cons (ps_set (i := 2) sc_law_take.nd rfl (Or.inl rfl) (pe_ix ix_two (pe_lst (pa_cons pe_int (pa_cons pe_int (pa_cons pe_int (pa_cons pe_int (pa_cons pe_int pa_nil)))))) (pe_op op_mod (pe_callTy call_int1 (by rfl) B.int_ (by decide +kernel) (pa_cons (pe_ix ix_list (pv 0) pe_int (fun _ _ => rfl)) pa_nil)) pe_int) (fun _ _ => rfl)))
      (pss_cons (ps_set (i := 3) sc_law_take.nd rfl (Or.inl rfl) (pe_op op_mod (pe_op op_powW (pe_callTy call_int1 (by rfl) B.int_ (by decide +kernel) (pa_cons (pe_op op_add3 (pe_op op_add3 (pe_ix ix_list (pv 0) pe_int (fun _ _ => rfl)) (pe_op op_mul (pe_op op_mul pe_int (pe_ix ix_list (pv 0) pe_int (fun _ _ => rfl))) (pe_ix ix_list (pv 0) pe_int (fun _ _ => rfl)))) pe_int) pa_nil)) pe_int) (pv 2)))
      (pss_one (ps_ret (pe_op op_mod (pe_op op_fdiv (pe_op op_mod (pe_callTy call_int1 (by rfl) B.int_ (by decide +kernel) (pa_cons (pe_op op_mul (pv 3) (pe_op op_add3 (pe_op op_mod (pe_callTy call_int1 (by rfl) B.int_ (by decide +kernel) (pa_cons (pv 3) pa_nil)) pe_int) (pe_op op_mul pe_int (pe_ix ix_list (pv 0) pe_int (fun _ _ => rfl))))) pa_nil)) pe_int) pe_int) (pv 1)))))))),
    ((sdb_seq (sdb_if (sdt_val (sde_op sdr_B (sde_potix (k := 0)) sde_int)) (sdb_seq (sdb_set (sde_op sdr_mod (sde_cb sdc_int (sdw_cons (sde_potix (k := 0)) sdw_nil)) sde_var)) (sdb_seq (sdb_potset (k := 0) (sde_op sdr_fdiv (sde_potix (k := 0)) sde_var)) (sdb_ret sde_var))) sdb_next) (sdb_seq (sdb_potset (k := 2) (sde_op sdr_add (sde_potix (k := 2)) sde_int)) (sdb_seq (sdb_set (sde_op sdr_ix (sde_lst (sda_cons sde_int (sda_cons sde_int (sda_cons sde_int (sda_cons sde_int (sda_cons sde_int sda_nil)))))) (sde_op sdr_mod (sde_cb sdc_int (sdw_cons (sde_potix (k := 2)) sdw_nil)) sde_int))) (sdb_seq (sdb_set (sde_op sdr_mod (sde_op sdr_powW (sde_cb sdc_int (sdw_cons (sde_op sdr_add (sde_op sdr_add (sde_potix (k := 1)) (sde_op sdr_mul (sde_op sdr_mul sde_int (sde_potix (k := 2))) (sde_potix (k := 2)))) sde_int) sdw_nil)) sde_int) sde_var)) (sdb_ret (sde_op sdr_mod (sde_op sdr_fdiv (sde_op sdr_mod (sde_cb sdc_int (sdw_cons (sde_op sdr_mul sde_var (sde_op sdr_add (sde_op sdr_mod (sde_cb sdc_int (sdw_cons sde_var sdw_nil)) sde_int) (sde_op sdr_mul sde_int (sde_potix (k := 2))))) sdw_nil)) sde_int) sde_int) sde_var))))))).d⟩) gOfP_ok
end
end K15
end
section
set_option Elab.async false
set_option linter.all false
set_option maxRecDepth 100000
set_option maxHeartbeats 4000000
namespace K15
open PySem PySem.Spec PyProof.Rows PySem.W L2 Pd
section
variable [TB] {P : Program} {w : World} {K : PySem.W.Frag} {mg : Str → Option Value} {base : Heap}
theorem sc_law_parts : FnScope ["lot", "found", "guest", "part"] ["lot"] (defScope s_law_parts) := ⟨rfl, rfl, rfl, by decide +kernel, rfl, by decide +kernel, by decide +kernel⟩
theorem kn_law_parts (B : Bn mg) (h : Has K mg "_law_parts" s_law_parts)   : Kn P w K mg base 1 "_law_parts" ["lot"] (spF g_law_parts) := by
  exact knF (mb := m_law_parts) h sc_law_parts (fun _ _ _ _ _ _ us hl => match us, hl with | [_], _ => rfl) (fun f cdv A outer s H E hr => ⟨_, (pss_cons (ps_set (i := 1) sc_law_parts.nd rfl (Or.inl rfl) (pe_lst (pa_cons (pe_tup pa_nil) pa_nil)))
      (pss_cons (ps_for PassesOwn.never rfl (pi_seq (pv 0)) (pg_name (i := 2) sc_law_parts.nd rfl (Or.inr rfl))
      (pss_one (ps_set (i := 1) sc_law_parts.nd rfl (Or.inl rfl) (pe_op op_add3 (pv 1) (pe_lc (own := [("part", 3)]) rfl sc_law_parts.nd (pi_seq (pv 1)) (blkOk_by (own := [("part", 3)]) (by kernel_rfl)) (fun _ _ _ _ _ => (pg_name (i := 3) sc_law_parts.nd rfl (Or.inl rfl))) (fun _ _ _ _ _ => pts_nil) (fun _ _ _ _ _ => (pe_op op_add3 (pv 3) (pe_tup (pa_cons (pv 2) pa_nil)))))))))
      (pss_one (ps_ret (pv 1))))),
    ((sdb_seq (sdb_set (sde_lst (sda_cons (sde_tup sda_nil) sda_nil))) (sdb_seq (sdb_for (sdif_seq sde_var) sdg_name.g (sdb_set (sde_op sdr_add sde_var (sde_lc (sdi_seq sde_var) sdg_name sdt_yes (sde_op sdr_add sde_var (sde_tup (sda_cons sde_var sda_nil))))))) (sdb_ret sde_var)))).d⟩) gOf_ok
end
end K15
end
section
set_option Elab.async false
set_option linter.all false
set_option maxRecDepth 100000
set_option maxHeartbeats 4000000
namespace K15
open PySem PySem.Spec PyProof.Rows PySem.W L2 Pd
section
variable [TB] {P : Program} {w : World} {K : PySem.W.Frag} {mg : Str → Option Value} {base : Heap}
theorem sc_law_is_part : FnScope ["one", "other", "guest"] ["one", "other"] (defScope s_law_is_part) := ⟨rfl, rfl, rfl, by decide +kernel, rfl, by decide +kernel, by decide +kernel⟩
theorem kn_law_is_part (B : Bn mg) (h : Has K mg "_law_is_part" s_law_is_part)   : Kn P w K mg base 1 "_law_is_part" ["one", "other"] (spF g_law_is_part) := by
  exact knF (mb := m_law_is_part) h sc_law_is_part (fun _ _ _ _ _ _ us hl => match us, hl with | [_, _], _ => rfl) (fun f cdv A outer s H E hr => ⟨_, (pss_one (ps_ret (pe_callB (cr_all rfl) (by rfl) B.all_ (by decide +kernel) (pa_cons (pe_lc (own := [("guest", 2)]) rfl sc_law_is_part.nd (pi_seq (pv 0)) (blkOk_by (own := [("guest", 2)]) (by kernel_rfl)) (fun _ _ _ _ _ => (pg_name (i := 2) sc_law_is_part.nd rfl (Or.inl rfl))) (fun _ _ _ _ _ => pts_nil) (fun _ _ _ _ _ => (pe_cmpR op_in_seq (pv 2) (pv 1) rfl))) pa_nil)))),
    ((sdb_ret (sde_cb sdc_all (sdw_cons (sde_lc (sdi_seq sde_var) sdg_name sdt_yes (sde_op (sdr_in false) sde_var sde_var)) sdw_nil)))).d⟩) gOf_ok
end
end K15
end
section
set_option Elab.async false
set_option linter.all false
set_option maxRecDepth 100000
set_option maxHeartbeats 4000000
namespace K15
open PySem PySem.Spec PyProof.Rows PySem.W L2 Pd
section
variable [TB] {P : Program} {w : World} {K : PySem.W.Frag} {mg : Str → Option Value} {base : Heap}
theorem sc_law_product : FnScope ["lot", "worths", "found", "guest"] ["lot", "worths"] (defScope s_law_product) := ⟨rfl, rfl, rfl, by decide +kernel, rfl, by decide +kernel, by decide +kernel⟩
theorem kn_law_product (B : Bn mg) (h : Has K mg "_law_product" s_law_product)   : Kn P w K mg base 1 "_law_product" ["lot", "worths"] (spF g_law_product) := by
  exact knF (mb := m_law_product) h sc_law_product (fun _ _ _ _ _ _ us hl => match us, hl with | [_, _], _ => rfl) (fun f cdv A outer s H E hr => ⟨_, (pss_cons (ps_set (i := 2) sc_law_product.nd rfl (Or.inl rfl) pe_int)
      (pss_cons (ps_for PassesOwn.never rfl (pi_seq (pv 0)) (pg_name (i := 3) sc_law_product.nd rfl (Or.inl rfl))
      (pss_one (ps_set (i := 2) sc_law_product.nd rfl (Or.inl rfl) (pe_op op_mul (pv 2) (pe_ix ix_two (pv 1) (pv 3) (fun _ _ => rfl))))))
      (pss_one (ps_ret (pv 2))))),
    ((sdb_seq (sdb_set sde_int) (sdb_seq (sdb_for (sdif_seq sde_var) sdg_name.g (sdb_set (sde_op sdr_mul sde_var (sde_op sdr_ix sde_var sde_var)))) (sdb_ret sde_var)))).d⟩) gOf_ok
end
end K15
end
section
set_option Elab.async false
set_option linter.all false
set_option maxRecDepth 100000
set_option maxHeartbeats 4000000
namespace K15
open PySem PySem.Spec PyProof.Rows PySem.W L2 Pd
section
variable [TB] {P : Program} {w : World} {K : PySem.W.Frag} {mg : Str → Option Value} {base : Heap}
theorem sc_is_integer : FnScope ["value", "low", "high"] ["value", "low", "high"] (defScope s_is_integer) := ⟨rfl, rfl, rfl, by decide +kernel, rfl, by decide +kernel, by decide +kernel⟩
theorem kn_is_integer (B : Bn mg) (h : Has K mg "is_integer" s_is_integer) (k_is_whole : Kn P w K mg base 1 "is_whole" ["value"] (spF g_is_whole))  : Kn P w K mg base 2 "is_integer" ["value", "low", "high"] (spF g_is_integer) := by
  exact knF (mb := m_is_integer) h sc_is_integer (fun _ _ _ _ _ _ us hl => match us, hl with | [_, _, _], _ => rfl) (fun f cdv A outer s H E hr => ⟨_, (pss_one (ps_ret (pe_and (k_is_whole.call hr (by decide) (by rfl) (pa_cons (pv 0) pa_nil)) (pe_one (pe_chain op_le op_le (pv 1) (pv 0) (pv 2)))))),
    ((sdb_ret (sde_and (sde_call (sda_cons sde_var sda_nil)) (sde_chain sdr_B sdr_B sde_var sde_var sde_var)))).d⟩) gOf_ok
end
end K15
end
section
set_option Elab.async false
set_option linter.all false
set_option maxRecDepth 100000
set_option maxHeartbeats 4000000
namespace K15
open PySem PySem.Spec PyProof.Rows PySem.W L2 Pd
section
variable [TB] {P : Program} {w : World} {K : PySem.W.Frag} {mg : Str → Option Value} {base : Heap}
theorem sc_greatest_of : FnScope ["lots", "some", "lot", "other"] ["lots"] (defScope s_greatest_of) := ⟨rfl, rfl, rfl, by decide +kernel, rfl, by decide +kernel, by decide +kernel⟩
theorem kn_greatest_of (B : Bn mg) (h : Has K mg "greatest_of" s_greatest_of) (k_is_within : Kn P w K mg base 1 "is_within" ["one", "other"] (spF g_is_within))  : Kn P w K mg base 2 "greatest_of" ["lots"] (spF g_greatest_of) := by
  exact knF (mb := m_greatest_of) h sc_greatest_of (fun _ _ _ _ _ _ us hl => match us, hl with | [_], _ => rfl) (fun f cdv A outer s H E hr => ⟨_, (pss_cons (ps_set (i := 1) sc_greatest_of.nd rfl (Or.inr rfl) (pe_callB (cr_srtS rfl hr.units) (by rfl) B.sorted_ (by decide +kernel) (pa_cons (pe_callTy (cr_setQ rfl hr.units) (by rfl) B.set_ (by decide +kernel) (pa_cons (pv 0) pa_nil)) pa_nil)))
      (pss_one (ps_ret (pe_callTy call_tuple_of (by rfl) B.tuple_ (by decide +kernel) (pa_cons (pe_lc (own := [("lot", 2)]) rfl sc_greatest_of.nd (pi_seq (pv 1)) (blkOk_by (own := [("lot", 2)]) (by kernel_rfl)) (fun _ _ _ _ _ => (pg_name (i := 2) sc_greatest_of.nd rfl (Or.inr rfl))) (fun _ _ _ _ _ => (pts_one (pt_not (pt_val (pe_callB (cr_any rfl) (by rfl) B.any_ (by decide +kernel) (pa_cons (pe_lc (own := [("other", 3)]) rfl sc_greatest_of.nd (pi_seq (pv 1)) (blkOk_by (own := [("other", 3)]) (by kernel_rfl)) (fun _ _ _ _ _ => (pg_name (i := 3) sc_greatest_of.nd rfl (Or.inl rfl))) (fun _ _ _ _ _ => pts_nil) (fun _ _ _ _ _ => (pe_and (pe_cmpR (op_neD hr.units) (pv 2) (pv 3) (nomark _)) (pe_one (k_is_within.call hr (by decide) (by rfl) (pa_cons (pv 2) (pa_cons (pv 3) pa_nil))))))) pa_nil)))))) (fun _ _ _ _ _ => (pv 2))) pa_nil))))),
    ((sdb_seq (sdb_set (sde_srtSet sde_var)) (sdb_ret (sde_cb sdc_tuple (sdw_cons (sde_lc (sdi_seq sde_var) sdg_name (sdt_not (sdt_B (sde_cb sdc_any (sdw_cons (sde_lc (sdi_seq sde_var) sdg_name sdt_yes (sde_and (sde_op sdr_ne sde_var sde_var) (sde_call (sda_cons sde_var (sda_cons sde_var sda_nil))))) sdw_nil)))) sde_var) sdw_nil))))).d⟩) gOf_ok
end
end K15
end
section
set_option Elab.async false
set_option linter.all false
set_option maxRecDepth 100000
set_option maxHeartbeats 4000000
namespace K15
open PySem PySem.Spec PyProof.Rows PySem.W L2 Pd
section
variable [TB] {P : Program} {w : World} {K : PySem.W.Frag} {mg : Str → Option Value} {base : Heap}
theorem sc_is_asked : FnScope ["company", "lot", "other"] ["company", "lot"] (defScope s_is_asked) := ⟨rfl, rfl, rfl, by decide +kernel, rfl, by decide +kernel, by decide +kernel⟩
theorem kn_is_asked (B : Bn mg) (h : Has K mg "is_asked" s_is_asked) (k_is_within : Kn P w K mg base 1 "is_within" ["one", "other"] (spF g_is_within))  : Kn P w K mg base 2 "is_asked" ["company", "lot"] (spF g_is_asked) := by
  exact knF (mb := m_is_asked) h sc_is_asked (fun _ _ _ _ _ _ us hl => match us, hl with | [_, _], _ => rfl) (fun f cdv A outer s H E hr => ⟨_, (pss_one (ps_ret (pe_callB (cr_any rfl) (by rfl) B.any_ (by decide +kernel) (pa_cons (pe_lc (own := [("other", 2)]) rfl sc_is_asked.nd (pi_seq (pe_ix ix_two (pv 0) pe_int (fun _ _ => rfl))) (blkOk_by (own := [("other", 2)]) (by kernel_rfl)) (fun _ _ _ _ _ => (pg_name (i := 2) sc_is_asked.nd rfl (Or.inl rfl))) (fun _ _ _ _ _ => pts_nil) (fun _ _ _ _ _ => (k_is_within.call hr (by decide) (by rfl) (pa_cons (pv 1) (pa_cons (pv 2) pa_nil))))) pa_nil)))),
    ((sdb_ret (sde_cb sdc_any (sdw_cons (sde_lc (sdi_seq (sde_op sdr_ix sde_var sde_int)) sdg_name sdt_yes (sde_call (sda_cons sde_var (sda_cons sde_var sda_nil)))) sdw_nil)))).d⟩) gOf_ok
end
end K15
end
section
set_option Elab.async false
set_option linter.all false
set_option maxRecDepth 100000
set_option maxHeartbeats 4000000
namespace K15
open PySem PySem.Spec PyProof.Rows PySem.W L2 Pd
section
variable [TB] {P : Program} {w : World} {K : PySem.W.Frag} {mg : Str → Option Value} {base : Heap}
theorem sc_law_of : FnScope ["pot", "some"] ["pot", "some"] (defScope s_law_of) := ⟨rfl, rfl, rfl, by decide +kernel, rfl, by decide +kernel, by decide +kernel⟩
theorem kn_law_of (B : Bn mg) (h : Has K mg "_law_of" s_law_of) (k_law_take : Kn P w K mg base 1 "_law_take" ["pot", "upto"] (spP g_law_take))  : Kn P w K mg base 2 "_law_of" ["pot", "some"] (spP g_law_of) := by
  exact knP (mb := m_law_of) h sc_law_of (fun _ _ _ _ _ _ us hl => match us, hl with | [_, _], _ => rfl) (fun f cdv A outer s H E hr => ⟨_, (pss_one (ps_ret (pe_ix ix_two (pv 1) (k_law_take.call hr (by decide) (by rfl) (pa_cons (pv 0) (pa_cons (pe_callB call_len_seq (by rfl) B.len_ (by decide +kernel) (pa_cons (pv 1) pa_nil)) pa_nil))) (fun _ _ => rfl)))),
    ((sdb_ret (sde_op sdr_ix sde_var (sde_callP (sda_cons (sde_cb sdc_len (sdw_cons sde_var sdw_nil)) sda_nil))))).d⟩) gOfP_ok
end
end K15
end
section
set_option Elab.async false
set_option linter.all false
set_option maxRecDepth 100000
set_option maxHeartbeats 4000000
namespace K15
open PySem PySem.Spec PyProof.Rows PySem.W L2 Pd
section
variable [TB] {P : Program} {w : World} {K : PySem.W.Frag} {mg : Str → Option Value} {base : Heap}
theorem sc_law_stir : FnScope ["pot", "some", "turn", "left", "found"] ["pot", "some"] (defScope s_law_stir) := ⟨rfl, rfl, rfl, by decide +kernel, rfl, by decide +kernel, by decide +kernel⟩
theorem kn_law_stir (B : Bn mg) (h : Has K mg "_law_stir" s_law_stir) (k_law_take : Kn P w K mg base 1 "_law_take" ["pot", "upto"] (spP g_law_take))  : Kn P w K mg base 2 "_law_stir" ["pot", "some"] (spP g_law_stir) := by
  exact knP (mb := m_law_stir) h sc_law_stir (fun _ _ _ _ _ _ us hl => match us, hl with | [_, _], _ => rfl) (fun f cdv A outer s H E hr => ⟨_, (pss_cons (ps_par (i := 3) (j := 4) (by rfl) sc_law_stir.nd rfl rfl (by decide) rfl rfl (pa_cons (pe_callTy call_list_of (by rfl) B.list_ (by decide +kernel) (pa_cons (pv 1) pa_nil)) (pa_cons (pe_lst pa_nil) pa_nil)) (by rfl))
      (pss_cons (ps_for PassesOwn.never rfl (pi_range1 (by rfl) B.range_ (pa_cons (pe_callB call_len_seq (by rfl) B.len_ (by decide +kernel) (pa_cons (pv 3) pa_nil)) pa_nil)) (pg_name (i := 2) sc_law_stir.nd rfl (Or.inl rfl))
      (pss_one (ps_expr (pe_bm PySem.F.plainAttrs_list PySem.F.slot_list_append PySem.F.type_list_append mt_append (pv 4) (pa_cons (pe_bm PySem.F.plainAttrs_list PySem.F.slot_list_pop PySem.F.type_list_pop mt_popAt (pv 3) (pa_cons (k_law_take.call hr (by decide) (by rfl) (pa_cons (pv 0) (pa_cons (pe_callB call_len_seq (by rfl) B.len_ (by decide +kernel) (pa_cons (pv 3) pa_nil)) pa_nil))) pa_nil)) pa_nil)))))
      (pss_one (ps_ret (pv 4))))),
    ((sdb_seq (sdb_par (sde_cb sdc_list (sdw_cons sde_var sdw_nil)) (sde_lst sda_nil)) (sdb_seq (sdb_for (sdif_rng1 (sdw_cons (sde_cb sdc_len (sdw_cons sde_var sdw_nil)) sdw_nil)) sdg_name.g (sdb_appPop (sde_callP (sda_cons (sde_cb sdc_len (sdw_cons sde_var sdw_nil)) sda_nil)))) (sdb_ret sde_var)))).d⟩) gOfP_ok
end
end K15
end
section
set_option Elab.async false
set_option linter.all false
set_option maxRecDepth 100000
set_option maxHeartbeats 4000000
namespace K15
open PySem PySem.Spec PyProof.Rows PySem.W L2 Pd
section
variable [TB] {P : Program} {w : World} {K : PySem.W.Frag} {mg : Str → Option Value} {base : Heap}
theorem sc_law_company : FnScope ["guests", "lots", "lot", "some", "found", "other"] ["guests", "lots"] (defScope s_law_company) := ⟨rfl, rfl, rfl, by decide +kernel, rfl, by decide +kernel, by decide +kernel⟩
theorem kn_law_company (B : Bn mg) (h : Has K mg "_law_company" s_law_company) (k_law_is_part : Kn P w K mg base 1 "_law_is_part" ["one", "other"] (spF g_law_is_part))  : Kn P w K mg base 2 "_law_company" ["guests", "lots"] (spF g_law_company) := by
  exact knF (mb := m_law_company) h sc_law_company (fun _ _ _ _ _ _ us hl => match us, hl with | [_, _], _ => rfl) (fun f cdv A outer s H E hr => ⟨_, (pss_cons (ps_par (i := 3) (j := 4) (by rfl) sc_law_company.nd rfl rfl (by decide) rfl rfl (pa_cons (pe_callB (cr_srtS rfl hr.units) (by rfl) B.sorted_ (by decide +kernel) (pa_cons (pe_callTy (cr_setQ rfl hr.units) (by rfl) B.set_ (by decide +kernel) (pa_cons (pv 1) pa_nil)) pa_nil)) (pa_cons (pe_lst pa_nil) pa_nil)) (by rfl))
      (pss_cons (ps_for PassesOwn.never rfl (pi_seq (pv 3)) (pg_name (i := 2) sc_law_company.nd rfl (Or.inr rfl))
      (pss_one (ps_if (pt_not (pt_val (pe_callB (cr_any rfl) (by rfl) B.any_ (by decide +kernel) (pa_cons (pe_lc (own := [("other", 5)]) rfl sc_law_company.nd (pi_seq (pv 3)) (blkOk_by (own := [("other", 5)]) (by kernel_rfl)) (fun _ _ _ _ _ => (pg_name (i := 5) sc_law_company.nd rfl (Or.inl rfl))) (fun _ _ _ _ _ => pts_nil) (fun _ _ _ _ _ => (pe_and (pe_cmpR (op_neD hr.units) (pv 2) (pv 5) (nomark _)) (pe_one (k_law_is_part.call hr (by decide) (by rfl) (pa_cons (pv 2) (pa_cons (pv 5) pa_nil))))))) pa_nil)))) (pss_one (ps_expr (pe_bm PySem.F.plainAttrs_list PySem.F.slot_list_append PySem.F.type_list_append mt_append (pv 4) (pa_cons (pv 2) pa_nil)))) pss_nil)))
      (pss_one (ps_ret (pe_tup (pa_cons (pv 0) (pa_cons (pe_callTy call_tuple_of (by rfl) B.tuple_ (by decide +kernel) (pa_cons (pv 4) pa_nil)) pa_nil))))))),
    ((sdb_seq (sdb_par (sde_srtSet sde_var) (sde_lst sda_nil)) (sdb_seq (sdb_frzB 3 (sdb_for (sdif_seq sde_var) sdg_name.g (sdb_if (sdt_not (sdt_B (sde_cb sdc_any (sdw_cons (sde_lc (sdi_seq sde_var) sdg_name sdt_yes (sde_and (sde_op sdr_ne sde_var sde_var) (sde_call (sda_cons sde_var (sda_cons sde_var sda_nil))))) sdw_nil)))) (sdb_app sde_var) sdb_next))) (sdb_ret (sde_tup (sda_cons sde_var (sda_cons (sde_cb sdc_tuple (sdw_cons sde_var sdw_nil)) sda_nil))))))).d⟩) gOf_ok
end
end K15
end
section
set_option Elab.async false
set_option linter.all false
set_option maxRecDepth 100000
set_option maxHeartbeats 4000000
namespace K15
open PySem PySem.Spec PyProof.Rows PySem.W L2 Pd
section
variable [TB] {P : Program} {w : World} {K : PySem.W.Frag} {mg : Str → Option Value} {base : Heap}
theorem sc_law_lots : FnScope ["company", "known", "lot", "found", "part", "size"] ["company"] (defScope s_law_lots) := ⟨rfl, rfl, rfl, by decide +kernel, rfl, by decide +kernel, by decide +kernel⟩
theorem kn_law_lots (B : Bn mg) (h : Has K mg "_law_lots" s_law_lots) (k_law_parts : Kn P w K mg base 1 "_law_parts" ["lot"] (spF g_law_parts))  : Kn P w K mg base 2 "_law_lots" ["company"] (spF g_law_lots) := by
  exact knF (mb := m_law_lots) h sc_law_lots (fun _ _ _ _ _ _ us hl => match us, hl with | [_], _ => rfl) (fun f cdv A outer s H E hr => ⟨_, (pss_cons (ps_set (i := 1) sc_law_lots.nd rfl (Or.inl rfl) pe_dnewT)
      (pss_cons (ps_for PassesOwn.never rfl (pi_seq (pe_ix ix_two (pv 0) pe_int (fun _ _ => rfl))) (pg_name (i := 2) sc_law_lots.nd rfl (Or.inl rfl))
      (pss_one (ps_for PassesOwn.never rfl (pi_seq (k_law_parts.call hr (by decide) (by rfl) (pa_cons (pv 2) pa_nil))) (pg_name (i := 4) sc_law_lots.nd rfl (Or.inl rfl))
      (pss_one (ps_dput (hu_of hr) (pv 1) (pv 4) pe_bl rfl)))))
      (pss_lockS (pss_cons (ps_setLc (i := 3) (own := [("size", 5)]) rfl sc_law_lots.nd rfl rfl (sw_true rfl rfl rfl (by decide +kernel)) (pi_range1 (by rfl) B.range_ (pa_cons (pe_op op_add3 (pe_callB (cr_max rfl) (by rfl) B.max_ (by decide +kernel) (pa_cons (pe_op op_add3 (pe_lst (pa_cons (pe_un un_neg pe_int) pa_nil)) (pe_lc (own := [("lot", 2)]) rfl sc_law_lots.nd (pi_seq (pe_ix ix_two (pv 0) pe_int (fun _ _ => rfl))) (blkOk_by (own := [("lot", 2)]) (by kernel_rfl)) (fun _ _ _ _ _ => (pg_name (i := 2) sc_law_lots.nd rfl (Or.inl rfl))) (fun _ _ _ _ _ => pts_nil) (fun _ _ _ _ _ => (pe_callB call_len_seq (by rfl) B.len_ (by decide +kernel) (pa_cons (pv 2) pa_nil))))) pa_nil)) pe_int) pa_nil)) (blkOk_by (own := [("size", 5)]) (by kernel_rfl)) (fun _ _ _ _ _ => (pg_name (i := 5) sc_law_lots.nd rfl (Or.inl rfl))) (fun _ _ _ _ _ => pts_nil) (fun _ _ _ _ _ => (pe_lst pa_nil)))
      (pss_cons (ps_for PassesOwn.never rfl (pi_seq (pe_callB (cr_srtD rfl hr.units) (by rfl) B.sorted_ (by decide +kernel) (pa_cons (pv 1) pa_nil))) (pg_name (i := 2) sc_law_lots.nd rfl (Or.inl rfl)) (pss_one (ps_expr (pe_bm PySem.F.plainAttrs_list PySem.F.slot_list_append PySem.F.type_list_append mt_append (pe_ix ix_two (pv 3) (pe_callB call_len_seq (by rfl) B.len_ (by decide +kernel) (pa_cons (pv 2) pa_nil)) (fun _ _ => rfl)) (pa_cons (pv 2) pa_nil)))))
      (pss_one (ps_ret (pv 3)))))))),
    ((sdb_seq (sdb_set sde_dic) (sdb_seq (sdb_for (sdif_seq (sde_op sdr_ix sde_var sde_int)) sdg_name.g (sdb_for (sdif_seq (sde_call (sda_cons sde_var sda_nil))) sdg_name.g (sdb_dput sde_var sde_bl))) (sdb_lockS 1 (sdb_sizes (SIF.i (sdif_rng1 (sdw_cons (sde_op sdr_add (sde_cb sdc_maxL (sdw_cons (sde_op sdr_add (sde_lst (sda_cons (sde_un sdu_neg sde_int) sda_nil)) (sde_lc (sdi_seq (sde_op sdr_ix sde_var sde_int)) sdg_name sdt_yes (sde_cb sdc_len (sdw_cons sde_var sdw_nil)))) sdw_nil)) sde_int) sdw_nil))) (sdif_seq (sde_cb sdc_sortedD (sdw_cons sde_var sdw_nil)))))))).d⟩) gOf_ok
end
end K15
end
section
set_option Elab.async false
set_option linter.all false
set_option maxRecDepth 100000
set_option maxHeartbeats 4000000
namespace K15
open PySem PySem.Spec PyProof.Rows PySem.W L2 Pd
section
variable [TB] {P : Program} {w : World} {K : PySem.W.Frag} {mg : Str → Option Value} {base : Heap}
theorem sc_is_lot : FnScope ["guests", "value", "guest"] ["guests", "value"] (defScope s_is_lot) := ⟨rfl, rfl, rfl, by decide +kernel, rfl, by decide +kernel, by decide +kernel⟩
theorem kn_is_lot (B : Bn mg) (h : Has K mg "is_lot" s_is_lot) (k_is_integer : Kn P w K mg base 2 "is_integer" ["value", "low", "high"] (spF g_is_integer)) (k_is_rising : Kn P w K mg base 1 "is_rising" ["values"] (spF g_is_rising))  : Kn P w K mg base 3 "is_lot" ["guests", "value"] (spF g_is_lot) := by
  exact knF (mb := m_is_lot) h sc_is_lot (fun _ _ _ _ _ _ us hl => match us, hl with | [_, _], _ => rfl) (fun f cdv A outer s H E hr => ⟨_, (pss_one (ps_ret (pe_and (pe_callB call_isi (by rfl) B.isinstance_ (by decide +kernel) (pa_cons (pv 1) (pa_cons (pe_bltn (v := .ty "tuple") (by rfl) B.tuple_ (by decide +kernel) rfl) pa_nil))) (pe_and (pe_callB (cr_all rfl) (by rfl) B.all_ (by decide +kernel) (pa_cons (pe_lc (own := [("guest", 2)]) rfl sc_is_lot.nd (pi_seq (pv 1)) (blkOk_by (own := [("guest", 2)]) (by kernel_rfl)) (fun _ _ _ _ _ => (pg_name (i := 2) sc_is_lot.nd rfl (Or.inl rfl))) (fun _ _ _ _ _ => pts_nil) (fun _ _ _ _ _ => (k_is_integer.call hr (by decide) (by rfl) (pa_cons (pv 2) (pa_cons pe_int (pa_cons (pe_op op_sub (pv 0) pe_int) pa_nil)))))) pa_nil)) (pe_one (k_is_rising.call hr (by decide) (by rfl) (pa_cons (pv 1) pa_nil))))))),
    ((sdb_ret (sde_and (sde_isi sde_var) (sde_and (sde_cb sdc_all (sdw_cons (sde_lc (sdi_seq sde_var) sdg_name sdt_yes (sde_call (sda_cons sde_var (sda_cons sde_int (sda_cons (sde_op sdr_I sde_var sde_int) sda_nil))))) sdw_nil)) (sde_call (sda_cons sde_var sda_nil)))))).d⟩) gOf_ok
end
end K15
end
section
set_option Elab.async false
set_option linter.all false
set_option maxRecDepth 100000
set_option maxHeartbeats 4000000
namespace K15
open PySem PySem.Spec PyProof.Rows PySem.W L2 Pd
section
variable [TB] {P : Program} {w : World} {K : PySem.W.Frag} {mg : Str → Option Value} {base : Heap}
theorem sc_company_by : FnScope ["guests", "lots"] ["guests", "lots"] (defScope s_company_by) := ⟨rfl, rfl, rfl, by decide +kernel, rfl, by decide +kernel, by decide +kernel⟩
theorem kn_company_by (B : Bn mg) (h : Has K mg "company_by" s_company_by) (k_greatest_of : Kn P w K mg base 2 "greatest_of" ["lots"] (spF g_greatest_of))  : Kn P w K mg base 3 "company_by" ["guests", "lots"] (spF g_company_by) := by
  exact knF (mb := m_company_by) h sc_company_by (fun _ _ _ _ _ _ us hl => match us, hl with | [_, _], _ => rfl) (fun f cdv A outer s H E hr => ⟨_, (pss_one (ps_ret (pe_tup (pa_cons (pv 0) (pa_cons (k_greatest_of.call hr (by decide) (by rfl) (pa_cons (pv 1) pa_nil)) pa_nil))))),
    ((sdb_ret (sde_tup (sda_cons sde_var (sda_cons (sde_call (sda_cons sde_var sda_nil)) sda_nil))))).d⟩) gOf_ok
end
end K15
end
section
set_option Elab.async false
set_option linter.all false
set_option maxRecDepth 100000
set_option maxHeartbeats 4000000
namespace K15
open PySem PySem.Spec PyProof.Rows PySem.W L2 Pd
section
variable [TB] {P : Program} {w : World} {K : PySem.W.Frag} {mg : Str → Option Value} {base : Heap}
theorem sc_law_drawn : FnScope ["pot", "least", "most", "lots", "turn", "guests", "size", "many"] ["pot", "least", "most"] (defScope s_law_drawn) := ⟨rfl, rfl, rfl, by decide +kernel, rfl, by decide +kernel, by decide +kernel⟩
theorem kn_law_drawn (B : Bn mg) (h : Has K mg "_law_drawn" s_law_drawn) (k_law_take : Kn P w K mg base 1 "_law_take" ["pot", "upto"] (spP g_law_take)) (k_law_of : Kn P w K mg base 2 "_law_of" ["pot", "some"] (spP g_law_of)) (k_law_stir : Kn P w K mg base 2 "_law_stir" ["pot", "some"] (spP g_law_stir)) (k_law_company : Kn P w K mg base 2 "_law_company" ["guests", "lots"] (spF g_law_company))  : Kn P w K mg base 3 "_law_drawn" ["pot", "least", "most"] (spP g_law_drawn) := by
  exact knP (mb := m_law_drawn) h sc_law_drawn (fun _ _ _ _ _ _ us hl => match us, hl with | [_, _, _], _ => rfl) (fun f cdv A outer s H E hr => ⟨_, (pss_cons (ps_par (i := 5) (j := 6) (by rfl) sc_law_drawn.nd rfl rfl (by decide) rfl rfl (pa_cons (pe_op op_add3 (pv 1) (k_law_take.call hr (by decide) (by rfl) (pa_cons (pv 0) (pa_cons (pe_op op_add3 (pe_op op_sub (pv 2) (pv 1)) pe_int) pa_nil)))) (pa_cons (k_law_of.call hr (by decide) (by rfl) (pa_cons (pv 0) (pa_cons (pe_lst (pa_cons pe_int (pa_cons pe_int (pa_cons pe_int (pa_cons pe_int pa_nil))))) pa_nil))) pa_nil)) (by rfl))
      (pss_cons (ps_set (i := 3) sc_law_drawn.nd rfl (Or.inl rfl) (pe_lst pa_nil))
      (pss_cons (ps_for PassesOwn.never rfl (pi_range1 (by rfl) B.range_ (pa_cons (pe_op op_add3 pe_int (k_law_take.call hr (by decide) (by rfl) (pa_cons (pv 0) (pa_cons (pe_op op_mul pe_int (pv 5)) pa_nil)))) pa_nil)) (pg_name (i := 4) sc_law_drawn.nd rfl (Or.inl rfl))
      (pss_cons (ps_set (i := 7) sc_law_drawn.nd rfl (Or.inl rfl) (pe_callB (call_min2 rfl) (by rfl) B.min_ (by decide +kernel) (pa_cons (pv 5) (pa_cons (pe_op op_sub (pv 6) (pe_callTy call_int1 (by rfl) B.int_ (by decide +kernel) (pa_cons (pe_cmpR (op_eqD hr.units) (k_law_take.call hr (by decide) (by rfl) (pa_cons (pv 0) (pa_cons pe_int pa_nil))) pe_int (nomark _)) pa_nil))) pa_nil))))
      (pss_one (ps_expr (pe_bm PySem.F.plainAttrs_list PySem.F.slot_list_append PySem.F.type_list_append mt_append (pv 3) (pa_cons (pe_callTy call_tuple_of (by rfl) B.tuple_ (by decide +kernel) (pa_cons (pe_callB (cr_srt hr.units) (by rfl) B.sorted_ (by decide +kernel) (pa_cons (pe_slice sl_two (k_law_stir.call hr (by decide) (by rfl) (pa_cons (pv 0) (pa_cons (pe_listRg rfl (by rfl) B.list_ (prg_1 (by rfl) B.range_ (pv 5))) pa_nil))) po_none (po_some (pv 7))) pa_nil)) pa_nil)) pa_nil))))))
      (pss_one (ps_ret (k_law_company.call hr (by decide) (by rfl) (pa_cons (pv 5) (pa_cons (pv 3) pa_nil)))))))),
    ((sdb_seq (sdb_par (sde_op sdr_add sde_var (sde_callP (sda_cons (sde_op sdr_add (sde_op sdr_I sde_var sde_var) sde_int) sda_nil))) (sde_callP (sda_cons (sde_lst (sda_cons sde_int (sda_cons sde_int (sda_cons sde_int (sda_cons sde_int sda_nil))))) sda_nil))) (sdb_seq (sdb_set (sde_lst sda_nil)) (sdb_seq (sdb_for (sdif_rng1 (sdw_cons (sde_op sdr_add sde_int (sde_callP (sda_cons (sde_op sdr_mul sde_int sde_var) sda_nil))) sdw_nil)) sdg_name.g (sdb_seq (sdb_set (sde_cb sdc_min2 (sdw_cons sde_var (sdw_cons (sde_op sdr_I sde_var (sde_cb sdc_int (sdw_cons (sde_op sdr_eq (sde_callP (sda_cons sde_int sda_nil)) sde_int) sdw_nil))) sdw_nil)))) (sdb_app (sde_cb sdc_tuple (sdw_cons (sde_cb sdc_sorted (sdw_cons (sde_sl (sde_callP (sda_cons (sde_lstRg (sdrg_1 sde_var)) sda_nil)) sdo_none (sdo_some sde_var)) sdw_nil)) sdw_nil))))) (sdb_frzB 3 (sdb_ret (sde_call (sda_cons sde_var (sda_cons sde_var sda_nil))))))))).d⟩) gOfP_ok
end
end K15
end
section
set_option Elab.async false
set_option linter.all false
set_option maxRecDepth 100000
set_option maxHeartbeats 4000000
namespace K15
open PySem PySem.Spec PyProof.Rows PySem.W L2 Pd
section
variable [TB] {P : Program} {w : World} {K : PySem.W.Frag} {mg : Str → Option Value} {base : Heap}
theorem sc_law_link : FnScope ["company", "lot", "rest", "one", "guest"] ["company", "lot"] (defScope s_law_link) := ⟨rfl, rfl, rfl, by decide +kernel, rfl, by decide +kernel, by decide +kernel⟩
theorem kn_law_link (B : Bn mg) (h : Has K mg "_law_link" s_law_link) (k_law_is_part : Kn P w K mg base 1 "_law_is_part" ["one", "other"] (spF g_law_is_part)) (k_law_company : Kn P w K mg base 2 "_law_company" ["guests", "lots"] (spF g_law_company))  : Kn P w K mg base 3 "_law_link" ["company", "lot"] (spF g_law_link) := by
  exact knF (mb := m_law_link) h sc_law_link (fun _ _ _ _ _ _ us hl => match us, hl with | [_, _], _ => rfl) (fun f cdv A outer s H E hr => ⟨_, (pss_cons (ps_setLc (i := 2) (own := [("one", 3)]) rfl sc_law_link.nd rfl rfl (sw_true rfl rfl rfl (by decide +kernel)) (pi_seq (pe_ix ix_two (pv 0) pe_int (fun _ _ => rfl))) (blkOk_by (own := [("one", 3)]) (by kernel_rfl)) (fun _ _ _ _ _ => (pg_name (i := 3) sc_law_link.nd rfl (Or.inl rfl))) (fun _ _ _ _ _ => (pts_one (pt_val (k_law_is_part.call hr (by decide) (by rfl) (pa_cons (pv 1) (pa_cons (pv 3) pa_nil)))))) (fun _ _ _ _ _ => (pe_callTy call_tuple_of (by rfl) B.tuple_ (by decide +kernel) (pa_cons (pe_lc (own := [("guest", 4)]) rfl sc_law_link.nd (pi_seq (pv 3)) (blkOk_by (own := [("guest", 4)]) (by kernel_rfl)) (fun _ _ _ _ _ => (pg_name (i := 4) sc_law_link.nd rfl (Or.inl rfl))) (fun _ _ _ _ _ => (pts_one (pt_cmpR op_notIn_seq (pv 4) (pv 1) rfl))) (fun _ _ _ _ _ => (pv 4))) pa_nil))))
      (pss_one (ps_ret (k_law_company.call hr (by decide) (by rfl) (pa_cons (pe_ix ix_two (pv 0) pe_int (fun _ _ => rfl)) (pa_cons (pv 2) pa_nil)))))),
    ((sdb_seq (sdb_set (sde_lc (sdi_seq (sde_op sdr_ix sde_var sde_int)) sdg_name (sdt_B (sde_call (sda_cons sde_var (sda_cons sde_var sda_nil)))) (sde_cb sdc_tuple (sdw_cons (sde_lc (sdi_seq sde_var) sdg_name (sdt_val (sde_op (sdr_in true) sde_var sde_var)) sde_var) sdw_nil)))) (sdb_frzB 2 (sdb_ret (sde_call (sda_cons (sde_op sdr_ix sde_var sde_int) (sda_cons sde_var sda_nil))))))).d⟩) gOf_ok
end
end K15
end
section
set_option Elab.async false
set_option linter.all false
set_option maxRecDepth 100000
set_option maxHeartbeats 4000000
namespace K15
open PySem PySem.Spec PyProof.Rows PySem.W L2 Pd
section
variable [TB] {P : Program} {w : World} {K : PySem.W.Frag} {mg : Str → Option Value} {base : Heap}
theorem sc_law_known_lots : FnScope ["company", "lot"] ["company"] (defScope s_law_known_lots) := ⟨rfl, rfl, rfl, by decide +kernel, rfl, by decide +kernel, by decide +kernel⟩
theorem kn_law_known_lots (B : Bn mg) (h : Has K mg "_law_known_lots" s_law_known_lots) (k_law_lots : Kn P w K mg base 2 "_law_lots" ["company"] (spF g_law_lots))  : Kn P w K mg base 3 "_law_known_lots" ["company"] (spF g_law_known_lots) := by
  exact knF (mb := m_law_known_lots) h sc_law_known_lots (fun _ _ _ _ _ _ us hl => match us, hl with | [_], _ => rfl) (fun f cdv A outer s H E hr => ⟨_, (pss_one (ps_ret (pe_callTy (cr_dictL rfl hr.units) (by rfl) B.dict_ (by decide +kernel) (pa_cons (pe_lc (own := [("lot", 1)]) rfl sc_law_known_lots.nd (pi_seq (pe_callB (cr_sumL rfl) (by rfl) B.sum_ (by decide +kernel) (pa_cons (k_law_lots.call hr (by decide) (by rfl) (pa_cons (pv 0) pa_nil)) (pa_cons (pe_lst pa_nil) pa_nil)))) (blkOk_by (own := [("lot", 1)]) (by kernel_rfl)) (fun _ _ _ _ _ => (pg_name (i := 1) sc_law_known_lots.nd rfl (Or.inl rfl))) (fun _ _ _ _ _ => pts_nil) (fun _ _ _ _ _ => (pe_tup (pa_cons (pv 1) (pa_cons pe_bl pa_nil))))) pa_nil)))),
    ((sdb_ret (sde_dictL (sde_lc (sdi_seq (sde_cb sdc_sumL (sdw_cons (sde_call (sda_cons sde_var sda_nil)) (sdw_cons (sde_lst sda_nil) sdw_nil)))) sdg_name sdt_yes (sde_tup (sda_cons sde_var (sda_cons sde_bl sda_nil))))))).d⟩) gOf_ok
end
end K15
end
section
set_option Elab.async false
set_option linter.all false
set_option maxRecDepth 100000
set_option maxHeartbeats 4000000
namespace K15
open PySem PySem.Spec PyProof.Rows PySem.W L2 Pd
section
variable [TB] {P : Program} {w : World} {K : PySem.W.Frag} {mg : Str → Option Value} {base : Heap}
theorem sc_law_signed : FnScope ["company", "lot"] ["company"] (defScope s_law_signed) := ⟨rfl, rfl, rfl, by decide +kernel, rfl, by decide +kernel, by decide +kernel⟩
theorem kn_law_signed (B : Bn mg) (h : Has K mg "_law_signed" s_law_signed) (k_law_lots : Kn P w K mg base 2 "_law_lots" ["company"] (spF g_law_lots))  : Kn P w K mg base 3 "_law_signed" ["company"] (spF g_law_signed) := by
  exact knF (mb := m_law_signed) h sc_law_signed (fun _ _ _ _ _ _ us hl => match us, hl with | [_], _ => rfl) (fun f cdv A outer s H E hr => ⟨_, (pss_one (ps_ret (pe_callB (cr_sum rfl) (by rfl) B.sum_ (by decide +kernel) (pa_cons (pe_lc (own := [("lot", 1)]) rfl sc_law_signed.nd (pi_seq (pe_callB (cr_sumL rfl) (by rfl) B.sum_ (by decide +kernel) (pa_cons (k_law_lots.call hr (by decide) (by rfl) (pa_cons (pv 0) pa_nil)) (pa_cons (pe_lst pa_nil) pa_nil)))) (blkOk_by (own := [("lot", 1)]) (by kernel_rfl)) (fun _ _ _ _ _ => (pg_name (i := 1) sc_law_signed.nd rfl (Or.inl rfl))) (fun _ _ _ _ _ => pts_nil) (fun _ _ _ _ _ => (pe_ifExp (pt_cmpR (op_eqD hr.units) (pe_op op_mod (pe_callB call_len_seq (by rfl) B.len_ (by decide +kernel) (pa_cons (pv 1) pa_nil)) pe_int) pe_int (nomark _)) pe_int (pe_un un_neg pe_int)))) pa_nil)))),
    ((sdb_ret (sde_cb sdc_sum (sdw_cons (sde_lc (sdi_seq (sde_cb sdc_sumL (sdw_cons (sde_call (sda_cons sde_var sda_nil)) (sdw_cons (sde_lst sda_nil) sdw_nil)))) sdg_name sdt_yes (sde_if (sdt_val (sde_op sdr_eq (sde_op sdr_mod (sde_cb sdc_len (sdw_cons sde_var sdw_nil)) sde_int) sde_int)) sde_int (sde_un sdu_neg sde_int))) sdw_nil)))).d⟩) gOf_ok
end
end K15
end
section
set_option Elab.async false
set_option linter.all false
set_option maxRecDepth 100000
set_option maxHeartbeats 4000000
namespace K15
open PySem PySem.Spec PyProof.Rows PySem.W L2 Pd
section
variable [TB] {P : Program} {w : World} {K : PySem.W.Frag} {mg : Str → Option Value} {base : Heap}
theorem sc_lots_of : FnScope ["company", "found", "lot", "part"] ["company"] (defScope s_lots_of) := ⟨rfl, rfl, rfl, by decide +kernel, rfl, by decide +kernel, by decide +kernel⟩
theorem kn_lots_of (B : Bn mg) (h : Has K mg "lots_of" s_lots_of) (k_lot_place : Kn P w K mg base 1 "lot_place" ["lot"] (spF g_lot_place)) (k_parts_of : Kn P w K mg base 1 "parts_of" ["lot"] (spF g_parts_of))  : Kn P w K mg base 4 "lots_of" ["company"] (spF g_lots_of) := by
  obtain ⟨f_lot_place, fd_lot_place, kf_lot_place, km_lot_place, kk_lot_place, kb_lot_place⟩ := id k_lot_place
  exact knF (mb := m_lots_of) h sc_lots_of (fun _ _ _ _ _ _ us hl => match us, hl with | [_], _ => rfl) (fun f cdv A outer s H E hr => ⟨_, (pss_cons (ps_set (i := 1) sc_lots_of.nd rfl (Or.inl rfl) pe_dnewT)
      (pss_cons (ps_for PassesOwn.never rfl (pi_seq (pe_ix ix_two (pv 0) pe_int (fun _ _ => rfl))) (pg_name (i := 2) sc_lots_of.nd rfl (Or.inl rfl))
      (pss_one (ps_expr (pe_bm PySem.F.plainAttrs_dict PySem.F.slot_dict_update PySem.F.type_dict_update (mt_updT hr.units) (pv 1) (pa_cons (pe_dcT (own := [("part", 3)]) rfl hr.units0 sc_lots_of.nd (pi_seq (k_parts_of.call hr (by decide) (by rfl) (pa_cons (pv 2) pa_nil))) (blkOk_by (own := [("part", 3)]) (by kernel_rfl)) (fun _ _ _ _ _ => (pg_name (i := 3) sc_lots_of.nd rfl (Or.inl rfl))) (fun _ _ _ _ _ => pts_nil) (fun _ _ _ _ _ => (pv 3)) (fun _ _ _ _ _ => pe_bl)) pa_nil)))))
      (pss_one (ps_ret (pe_callBK (cr_srtKD (kr_def kf_lot_place (hr.mono (by decide)) kb_lot_place) rfl hr.units) (by rfl) B.sorted_ (by decide +kernel) (pa_cons (pv 1) pa_nil) (pk_cons (pe_glob (v := .ref f_lot_place) (by rfl) km_lot_place rfl) pk_nil)))))),
    ((sdb_seq (sdb_set sde_dic) (sdb_seq (sdb_for (sdif_seq (sde_op sdr_ix sde_var sde_int)) sdg_name.g (sdb_upd (sde_dc (sdi_seq (sde_call (sda_cons sde_var sda_nil))) sdg_name sdt_yes sde_var sde_bl))) (sdb_ret (sde_srtDefD sde_var))))).d⟩) gOf_ok
end
end K15
end
section
set_option Elab.async false
set_option linter.all false
set_option maxRecDepth 100000
set_option maxHeartbeats 4000000
namespace K15
open PySem PySem.Spec PyProof.Rows PySem.W L2 Pd
section
variable [TB] {P : Program} {w : World} {K : PySem.W.Frag} {mg : Str → Option Value} {base : Heap}
theorem sc_is_company : FnScope ["value", "lot"] ["value"] (defScope s_is_company) := ⟨rfl, rfl, rfl, by decide +kernel, rfl, by decide +kernel, by decide +kernel⟩
theorem kn_is_company (B : Bn mg) (h : Has K mg "is_company" s_is_company) (k_is_tuple : Kn P w K mg base 1 "is_tuple" ["value", "least", "most"] (spF g_is_tuple)) (k_is_integer : Kn P w K mg base 2 "is_integer" ["value", "low", "high"] (spF g_is_integer)) (k_is_lot : Kn P w K mg base 3 "is_lot" ["guests", "value"] (spF g_is_lot)) (k_greatest_of : Kn P w K mg base 2 "greatest_of" ["lots"] (spF g_greatest_of)) (hc_MOST_GUESTS : ∃ t, mg "MOST_GUESTS" = some (.int 10 t)) (hc_PAIR_companies : ∃ t, mg "PAIR_companies" = some (.int 2 t)) : Kn P w K mg base 4 "is_company" ["value"] (spF g_is_company) := by
  obtain ⟨t_MOST_GUESTS, c_MOST_GUESTS⟩ := hc_MOST_GUESTS
  obtain ⟨t_PAIR_companies, c_PAIR_companies⟩ := hc_PAIR_companies
  exact knF (mb := m_is_company) h sc_is_company (fun _ _ _ _ _ _ us hl => match us, hl with | [_], _ => rfl) (fun f cdv A outer s H E hr => ⟨_, (pss_cons (ps_if (PW.pt (pw_or (pt_not (pt_val (k_is_tuple.call hr (by decide) (by rfl) (pa_cons (pv 0) (pa_cons (pe_glob (v := .int 2) rfl c_PAIR_companies ⟨_, rfl⟩) (pa_cons (pe_glob (v := .int 2) rfl c_PAIR_companies ⟨_, rfl⟩) pa_nil)))))) (pw_or1 (pt_not (pt_val (k_is_integer.call hr (by decide) (by rfl) (pa_cons (pe_ix ix_two (pv 0) pe_int (fun _ _ => rfl)) (pa_cons pe_int (pa_cons (pe_glob (v := .int 10) rfl c_MOST_GUESTS ⟨_, rfl⟩) pa_nil))))))))) (pss_one (ps_ret pe_bl)) pss_nil)
      (pss_cons (ps_if (PW.pt (pw_or (pt_not (pt_val (pe_callB call_isi (by rfl) B.isinstance_ (by decide +kernel) (pa_cons (pe_ix ix_two (pv 0) pe_int (fun _ _ => rfl)) (pa_cons (pe_bltn (v := .ty "tuple") (by rfl) B.tuple_ (by decide +kernel) rfl) pa_nil))))) (pw_or1 (pt_not (pt_val (pe_callB (cr_all rfl) (by rfl) B.all_ (by decide +kernel) (pa_cons (pe_lc (own := [("lot", 1)]) rfl sc_is_company.nd (pi_seq (pe_ix ix_two (pv 0) pe_int (fun _ _ => rfl))) (blkOk_by (own := [("lot", 1)]) (by kernel_rfl)) (fun _ _ _ _ _ => (pg_name (i := 1) sc_is_company.nd rfl (Or.inl rfl))) (fun _ _ _ _ _ => pts_nil) (fun _ _ _ _ _ => (k_is_lot.call hr (by decide) (by rfl) (pa_cons (pe_ix ix_two (pv 0) pe_int (fun _ _ => rfl)) (pa_cons (pv 1) pa_nil))))) pa_nil))))))) (pss_one (ps_ret pe_bl)) pss_nil)
      (pss_one (ps_ret (pe_cmpR (op_eqD hr.units) (k_greatest_of.call hr (by decide) (by rfl) (pa_cons (pe_ix ix_two (pv 0) pe_int (fun _ _ => rfl)) pa_nil)) (pe_ix ix_two (pv 0) pe_int (fun _ _ => rfl)) (nomark _)))))),
    ((sdb_seq (sdb_if (sdt_or (sdt_not (sdt_B (sde_call (sda_cons sde_var (sda_cons sde_int (sda_cons sde_int sda_nil)))))) (sdt_not (sdt_B (sde_call (sda_cons (sde_op sdr_ix sde_var sde_int) (sda_cons sde_int (sda_cons sde_int sda_nil))))))) (sdb_ret sde_bl) sdb_next) (sdb_seq (sdb_if (sdt_or (sdt_not (sdt_B (sde_isi (sde_op sdr_ix sde_var sde_int)))) (sdt_not (sdt_B (sde_cb sdc_all (sdw_cons (sde_lc (sdi_seq (sde_op sdr_ix sde_var sde_int)) sdg_name sdt_yes (sde_call (sda_cons (sde_op sdr_ix sde_var sde_int) (sda_cons sde_var sda_nil)))) sdw_nil))))) (sdb_ret sde_bl) sdb_next) (sdb_ret (sde_op sdr_eq (sde_call (sda_cons (sde_op sdr_ix sde_var sde_int) sda_nil)) (sde_op sdr_ix sde_var sde_int)))))).d⟩) gOf_ok
end
end K15
end
section
set_option Elab.async false
set_option linter.all false
set_option maxRecDepth 100000
set_option maxHeartbeats 4000000
namespace K15
open PySem PySem.Spec PyProof.Rows PySem.W L2 Pd
section
variable [TB] {P : Program} {w : World} {K : PySem.W.Frag} {mg : Str → Option Value} {base : Heap}
theorem sc_check_lot : FnScope ["company", "value"] ["company", "value"] (defScope s_check_lot) := ⟨rfl, rfl, rfl, by decide +kernel, rfl, by decide +kernel, by decide +kernel⟩
theorem kn_check_lot (B : Bn mg) (h : Has K mg "check_lot" s_check_lot) (k_is_lot : Kn P w K mg base 3 "is_lot" ["guests", "value"] (spF g_is_lot))  : Kn P w K mg base 4 "check_lot" ["company", "value"] (spF g_check_lot) := by
  exact knF (mb := m_check_lot) h sc_check_lot (fun _ _ _ _ _ _ us hl => match us, hl with | [_, _], _ => rfl) (fun f cdv A outer s H E hr => ⟨_, (pss_one (ps_if (pt_not (pt_val (k_is_lot.call hr (by decide) (by rfl) (pa_cons (pe_ix ix_two (pv 0) pe_int (fun _ _ => rfl)) (pa_cons (pv 1) pa_nil))))) pss_never pss_nil)),
    ((sdb_if (sdt_not (sdt_B (sde_call (sda_cons (sde_op sdr_ix sde_var sde_int) (sda_cons sde_var sda_nil))))) sdb_never sdb_next)).d⟩) gOf_ok
end
end K15
end
section
set_option Elab.async false
set_option linter.all false
set_option maxRecDepth 100000
set_option maxHeartbeats 4000000
namespace K15
open PySem PySem.Spec PyProof.Rows PySem.W L2 Pd
section
variable [TB] {P : Program} {w : World} {K : PySem.W.Frag} {mg : Str → Option Value} {base : Heap}
theorem sc_link_of : FnScope ["company", "lot", "rest", "other", "guest"] ["company", "lot"] (defScope s_link_of) := ⟨rfl, rfl, rfl, by decide +kernel, rfl, by decide +kernel, by decide +kernel⟩
theorem kn_link_of (B : Bn mg) (h : Has K mg "link_of" s_link_of) (k_is_within : Kn P w K mg base 1 "is_within" ["one", "other"] (spF g_is_within)) (k_company_by : Kn P w K mg base 3 "company_by" ["guests", "lots"] (spF g_company_by))  : Kn P w K mg base 4 "link_of" ["company", "lot"] (spF g_link_of) := by
  exact knF (mb := m_link_of) h sc_link_of (fun _ _ _ _ _ _ us hl => match us, hl with | [_, _], _ => rfl) (fun f cdv A outer s H E hr => ⟨_, (pss_cons (ps_setLc (i := 2) (own := [("other", 3)]) rfl sc_link_of.nd rfl rfl (sw_true rfl rfl rfl (by decide +kernel)) (pi_seq (pe_ix ix_two (pv 0) pe_int (fun _ _ => rfl))) (blkOk_by (own := [("other", 3)]) (by kernel_rfl)) (fun _ _ _ _ _ => (pg_name (i := 3) sc_link_of.nd rfl (Or.inl rfl))) (fun _ _ _ _ _ => (pts_one (pt_val (k_is_within.call hr (by decide) (by rfl) (pa_cons (pv 1) (pa_cons (pv 3) pa_nil)))))) (fun _ _ _ _ _ => (pe_callTy call_tuple_of (by rfl) B.tuple_ (by decide +kernel) (pa_cons (pe_lc (own := [("guest", 4)]) rfl sc_link_of.nd (pi_seq (pv 3)) (blkOk_by (own := [("guest", 4)]) (by kernel_rfl)) (fun _ _ _ _ _ => (pg_name (i := 4) sc_link_of.nd rfl (Or.inl rfl))) (fun _ _ _ _ _ => (pts_one (pt_cmpR op_notIn_seq (pv 4) (pv 1) rfl))) (fun _ _ _ _ _ => (pv 4))) pa_nil))))
      (pss_one (ps_ret (k_company_by.call hr (by decide) (by rfl) (pa_cons (pe_ix ix_two (pv 0) pe_int (fun _ _ => rfl)) (pa_cons (pv 2) pa_nil)))))),
    ((sdb_seq (sdb_set (sde_lc (sdi_seq (sde_op sdr_ix sde_var sde_int)) sdg_name (sdt_B (sde_call (sda_cons sde_var (sda_cons sde_var sda_nil)))) (sde_cb sdc_tuple (sdw_cons (sde_lc (sdi_seq sde_var) sdg_name (sdt_val (sde_op (sdr_in true) sde_var sde_var)) sde_var) sdw_nil)))) (sdb_frzB 2 (sdb_ret (sde_call (sda_cons (sde_op sdr_ix sde_var sde_int) (sda_cons sde_var sda_nil))))))).d⟩) gOf_ok
end
end K15
end
section
set_option Elab.async false
set_option linter.all false
set_option maxRecDepth 100000
set_option maxHeartbeats 4000000
namespace K15
open PySem PySem.Spec PyProof.Rows PySem.W L2 Pd
section
variable [TB] {P : Program} {w : World} {K : PySem.W.Frag} {mg : Str → Option Value} {base : Heap}
theorem sc_without_of : FnScope ["company", "lot", "found", "other", "guest", "one"] ["company", "lot"] (defScope s_without_of) := ⟨rfl, rfl, rfl, by decide +kernel, rfl, by decide +kernel, by decide +kernel⟩
theorem kn_without_of (B : Bn mg) (h : Has K mg "without_of" s_without_of) (k_is_within : Kn P w K mg base 1 "is_within" ["one", "other"] (spF g_is_within)) (k_company_by : Kn P w K mg base 3 "company_by" ["guests", "lots"] (spF g_company_by))  : Kn P w K mg base 4 "without_of" ["company", "lot"] (spF g_without_of) := by
  exact knF (mb := m_without_of) h sc_without_of (fun _ _ _ _ _ _ us hl => match us, hl with | [_, _], _ => rfl) (fun f cdv A outer s H E hr => ⟨_, (pss_cons (ps_setLc (i := 2) (own := [("other", 3)]) rfl sc_without_of.nd rfl rfl (sw_true rfl rfl rfl (by decide +kernel)) (pi_seq (pe_ix ix_two (pv 0) pe_int (fun _ _ => rfl))) (blkOk_by (own := [("other", 3)]) (by kernel_rfl)) (fun _ _ _ _ _ => (pg_name (i := 3) sc_without_of.nd rfl (Or.inl rfl))) (fun _ _ _ _ _ => (pts_one (pt_not (pt_val (k_is_within.call hr (by decide) (by rfl) (pa_cons (pv 1) (pa_cons (pv 3) pa_nil))))))) (fun _ _ _ _ _ => (pv 3)))
      (pss_cons (ps_for PassesOwn.never rfl (pi_seq (pe_ix ix_two (pv 0) pe_int (fun _ _ => rfl))) (pg_name (i := 3) sc_without_of.nd rfl (Or.inr rfl))
      (pss_one (ps_if (pt_val (k_is_within.call hr (by decide) (by rfl) (pa_cons (pv 1) (pa_cons (pv 3) pa_nil)))) (pss_one (ps_expr (pe_bm PySem.F.plainAttrs_list PySem.F.slot_list_extend PySem.F.type_list_extend mt_extend (pv 2) (pa_cons (pe_lc (own := [("guest", 4)]) rfl sc_without_of.nd (pi_seq (pv 1)) (blkOk_by (own := [("guest", 4)]) (by kernel_rfl)) (fun _ _ _ _ _ => (pg_name (i := 4) sc_without_of.nd rfl (Or.inr rfl))) (fun _ _ _ _ _ => pts_nil) (fun _ _ _ _ _ => (pe_callTy call_tuple_of (by rfl) B.tuple_ (by decide +kernel) (pa_cons (pe_lc (own := [("one", 5)]) rfl sc_without_of.nd (pi_seq (pv 3)) (blkOk_by (own := [("one", 5)]) (by kernel_rfl)) (fun _ _ _ _ _ => (pg_name (i := 5) sc_without_of.nd rfl (Or.inl rfl))) (fun _ _ _ _ _ => (pts_one (pt_cmpR (op_neD hr.units) (pv 5) (pv 4) (nomark _)))) (fun _ _ _ _ _ => (pv 5))) pa_nil)))) pa_nil)))) pss_nil)))
      (pss_one (ps_ret (k_company_by.call hr (by decide) (by rfl) (pa_cons (pe_ix ix_two (pv 0) pe_int (fun _ _ => rfl)) (pa_cons (pv 2) pa_nil))))))),
    ((sdb_seq (sdb_set (sde_lc (sdi_seq (sde_op sdr_ix sde_var sde_int)) sdg_name (sdt_not (sdt_B (sde_call (sda_cons sde_var (sda_cons sde_var sda_nil))))) sde_var)) (sdb_seq (sdb_for (sdif_seq (sde_op sdr_ix sde_var sde_int)) sdg_name.g (sdb_if (sdt_B (sde_call (sda_cons sde_var (sda_cons sde_var sda_nil)))) (sdb_ext (sde_lc (sdi_seq sde_var) sdg_name sdt_yes (sde_cb sdc_tuple (sdw_cons (sde_lc (sdi_seq sde_var) sdg_name (sdt_val (sde_op sdr_ne sde_var sde_var)) sde_var) sdw_nil)))) sdb_next)) (sdb_frzB 2 (sdb_ret (sde_call (sda_cons (sde_op sdr_ix sde_var sde_int) (sda_cons sde_var sda_nil)))))))).d⟩) gOf_ok
end
end K15
end
section
set_option Elab.async false
set_option linter.all false
set_option maxRecDepth 100000
set_option maxHeartbeats 4000000
namespace K15
open PySem PySem.Spec PyProof.Rows PySem.W L2 Pd
section
variable [TB] {P : Program} {w : World} {K : PySem.W.Frag} {mg : Str → Option Value} {base : Heap}
theorem sc_meets_of : FnScope ["lots", "found", "waiting", "lot", "other", "guest"] ["lots"] (defScope s_meets_of) := ⟨rfl, rfl, rfl, by decide +kernel, rfl, by decide +kernel, by decide +kernel⟩
def lx_meets_of : Expr := callKw (retE ((defBody s_meets_of).getLastD (.Pass ⟨0, 0, 0, 0⟩)))
theorem sl_meets_of : FnScope ["lot"] ["lot"] (lamS lx_meets_of) := ⟨rfl, rfl, rfl, by decide +kernel, rfl, by decide +kernel, by decide +kernel⟩
theorem kn_meets_of {cl tl : Addr} (B : Bn mg) (h : HasL K mg "meets_of" s_meets_of cl) (tb_meets_of : LamX.TabB base mg cl tl) (tm_meets_of : (tl, ("meets_of" ++ ".<locals>." ++ "<lambda>" : Str)) ∈ TB.T) (tu_meets_of : ∀ p ∈ TB.T, p.1 = tl → p.2 = ("meets_of" ++ ".<locals>." ++ "<lambda>" : Str))   : Kn P w K mg base 4 "meets_of" ["lots"] (spF g_meets_of) := by
  exact knFL (mb := m_meets_of) h sc_meets_of (fun _ _ _ _ _ _ us hl => match us, hl with | [_], _ => rfl) (fun f A outer s H E hr2 => have hr := hr2.mono (Nat.le_add_right _ 3); ⟨_, (pss_cons (ps_par (i := 1) (j := 2) (by rfl) sc_meets_of.nd rfl rfl (by decide) rfl rfl (pa_cons pe_dnewT (pa_cons (pe_callTy call_list_of (by rfl) B.list_ (by decide +kernel) (pa_cons (pv 0) pa_nil)) pa_nil)) (by rfl))
      (pss_cons (ps_while PassesOwn.never (pt_cmpR (op_neD hr.units) (pv 2) (pe_lst pa_nil) (nomark _)) (pss_cons (ps_set (i := 3) sc_meets_of.nd rfl (Or.inr rfl) (pe_bm0 PySem.F.plainAttrs_list PySem.F.slot_list_pop PySem.F.type_list_pop mt_pop (pv 2)))
      (pss_one (ps_if (pt_cmp (pc_dnotin (hu_of hr) (pv 3) (pv 1))) (pss_cons (ps_dput (hu_of hr) (pv 1) (pv 3) pe_bl rfl)
      (pss_one (ps_expr (pe_bm PySem.F.plainAttrs_list PySem.F.slot_list_extend PySem.F.type_list_extend mt_extend (pv 2) (pa_cons (pe_lc (own := [("other", 4)]) rfl sc_meets_of.nd (pi_seq (pv 0)) (blkOk_by (own := [("other", 4)]) (by kernel_rfl)) (fun _ _ _ _ _ => (pg_name (i := 4) sc_meets_of.nd rfl (Or.inr rfl))) (fun _ _ _ _ _ => pts_nil) (fun _ _ _ _ _ => (pe_callTy call_tuple_of (by rfl) B.tuple_ (by decide +kernel) (pa_cons (pe_lc (own := [("guest", 5)]) rfl sc_meets_of.nd (pi_seq (pv 3)) (blkOk_by (own := [("guest", 5)]) (by kernel_rfl)) (fun _ _ _ _ _ => (pg_name (i := 5) sc_meets_of.nd rfl (Or.inl rfl))) (fun _ _ _ _ _ => (pts_one (pt_cmpR op_in_seq (pv 5) (pv 4) rfl))) (fun _ _ _ _ _ => (pv 5))) pa_nil)))) pa_nil))))) pss_nil))))
      (pss_one (ps_ret (pe_callBK (cr_srtKD (kr_lam (q := "meets_of" ++ ".<locals>." ++ "<lambda>") (params := lamP lx_meets_of) (body := lamB lx_meets_of) (scope := lamS lx_meets_of) (N := ["lot"]) (ps := ["lot"]) sl_meets_of hr2 rfl (fun _ _ _ _ => rfl) (fun _ _ _ _ _ hr => (pe_tup (pa_cons (pe_un un_neg (pe_callB call_len_seq (by rfl) B.len_ (by decide +kernel) (pa_cons (pv 0) pa_nil))) (pa_cons (pv 0) pa_nil))))) rfl hr.units) (by rfl) B.sorted_ (by decide +kernel) (pa_cons (pv 1) pa_nil) (pk_cons (pe_lam tb_meets_of rfl tm_meets_of tu_meets_of rfl (by decide +kernel)) pk_nil)))))),
    ((sdb_seq (sdb_par sde_dic (sde_cb sdc_list (sdw_cons sde_var sdw_nil))) (sdb_seq (sdb_while (fun _ => 20000) (sdt_val (sde_op sdr_ne sde_var (sde_lst sda_nil))) (sdb_seq sdb_pop (sdb_if (sdt_B (sde_dnotin sde_var sde_var)) (sdb_seq (sdb_dput sde_var sde_bl) (sdb_ext (sde_lc (sdi_seq sde_var) sdg_name sdt_yes (sde_cb sdc_tuple (sdw_cons (sde_lc (sdi_seq sde_var) sdg_name (sdt_val (sde_op (sdr_in false) sde_var sde_var)) sde_var) sdw_nil))))) sdb_next))) (sdb_ret (sde_srtLamD sde_var (sde_tup (sda_cons (sde_un sdu_neg (sde_cb sdc_len (sdw_cons sde_var sdw_nil))) (sda_cons sde_var sda_nil)))))))).d⟩) gOf_ok
end
end K15
end
section
set_option Elab.async false
set_option linter.all false
set_option maxRecDepth 100000
set_option maxHeartbeats 4000000
namespace K15
open PySem PySem.Spec PyProof.Rows PySem.W L2 Pd
section
variable [TB] {P : Program} {w : World} {K : PySem.W.Frag} {mg : Str → Option Value} {base : Heap}
theorem sc_is_row : FnScope ["company", "value"] ["company", "value"] (defScope s_is_row) := ⟨rfl, rfl, rfl, by decide +kernel, rfl, by decide +kernel, by decide +kernel⟩
theorem kn_is_row (B : Bn mg) (h : Has K mg "is_row" s_is_row) (k_is_tuple : Kn P w K mg base 1 "is_tuple" ["value", "least", "most"] (spF g_is_tuple)) (k_is_whole : Kn P w K mg base 1 "is_whole" ["value"] (spF g_is_whole)) (k_is_lot : Kn P w K mg base 3 "is_lot" ["guests", "value"] (spF g_is_lot)) (k_is_asked : Kn P w K mg base 2 "is_asked" ["company", "lot"] (spF g_is_asked)) (hc_PAIR_signs : ∃ t, mg "PAIR_signs" = some (.int 2 t)) : Kn P w K mg base 4 "is_row" ["company", "value"] (spF g_is_row) := by
  obtain ⟨t_PAIR_signs, c_PAIR_signs⟩ := hc_PAIR_signs
  exact knF (mb := m_is_row) h sc_is_row (fun _ _ _ _ _ _ us hl => match us, hl with | [_, _], _ => rfl) (fun f cdv A outer s H E hr => ⟨_, (pss_cons (ps_if (PW.pt (pw_or (pt_not (pt_val (k_is_tuple.call hr (by decide) (by rfl) (pa_cons (pv 1) (pa_cons (pe_glob (v := .int 2) rfl c_PAIR_signs ⟨_, rfl⟩) (pa_cons (pe_glob (v := .int 2) rfl c_PAIR_signs ⟨_, rfl⟩) pa_nil)))))) (pw_or (pt_not (pt_val (k_is_lot.call hr (by decide) (by rfl) (pa_cons (pe_ix ix_two (pv 0) pe_int (fun _ _ => rfl)) (pa_cons (pe_ix ix_two (pv 1) pe_int (fun _ _ => rfl)) pa_nil))))) (pw_or1 (pt_not (pt_val (k_is_whole.call hr (by decide) (by rfl) (pa_cons (pe_ix ix_two (pv 1) pe_int (fun _ _ => rfl)) pa_nil)))))))) (pss_one (ps_ret pe_bl)) pss_nil)
      (pss_one (ps_ret (pe_and (pe_cmpR (op_neD hr.units) (pe_ix ix_two (pv 1) pe_int (fun _ _ => rfl)) pe_int (nomark _)) (pe_one (k_is_asked.call hr (by decide) (by rfl) (pa_cons (pv 0) (pa_cons (pe_ix ix_two (pv 1) pe_int (fun _ _ => rfl)) pa_nil)))))))),
    ((sdb_seq (sdb_if (sdt_or (sdt_not (sdt_B (sde_call (sda_cons sde_var (sda_cons sde_int (sda_cons sde_int sda_nil)))))) (sdt_or (sdt_not (sdt_B (sde_call (sda_cons (sde_op sdr_ix sde_var sde_int) (sda_cons (sde_op sdr_ix sde_var sde_int) sda_nil))))) (sdt_not (sdt_B (sde_call (sda_cons (sde_op sdr_ix sde_var sde_int) sda_nil)))))) (sdb_ret sde_bl) sdb_next) (sdb_ret (sde_and (sde_op sdr_ne (sde_op sdr_ix sde_var sde_int) sde_int) (sde_call (sda_cons sde_var (sda_cons (sde_op sdr_ix sde_var sde_int) sda_nil))))))).d⟩) gOf_ok
end
end K15
end
section
set_option Elab.async false
set_option linter.all false
set_option maxRecDepth 100000
set_option maxHeartbeats 4000000
namespace K15
open PySem PySem.Spec PyProof.Rows PySem.W L2 Pd
section
variable [TB] {P : Program} {w : World} {K : PySem.W.Frag} {mg : Str → Option Value} {base : Heap}
theorem sc_along : FnScope ["lots", "numbers", "sign", "guests", "found", "guest", "lot", "one"] ["lots", "numbers", "sign", "guests"] (defScope s_along) := ⟨rfl, rfl, rfl, by decide +kernel, rfl, by decide +kernel, by decide +kernel⟩
def lx_along : Expr := callKw (forIt ((forBd ((defBody s_along).getD 1 (.Pass ⟨0, 0, 0, 0⟩))).getD 0 (.Pass ⟨0, 0, 0, 0⟩)))
theorem sl_along : FnScope ["one"] ["one"] (lamS lx_along) := ⟨rfl, rfl, rfl, by decide +kernel, rfl, by decide +kernel, by decide +kernel⟩
theorem kn_along {cl tl : Addr} (B : Bn mg) (h : HasL K mg "along" s_along cl) (tb_along : LamX.TabB base mg cl tl) (tm_along : (tl, ("along" ++ ".<locals>." ++ "<lambda>" : Str)) ∈ TB.T) (tu_along : ∀ p ∈ TB.T, p.1 = tl → p.2 = ("along" ++ ".<locals>." ++ "<lambda>" : Str))   : Kn P w K mg base 4 "along" ["lots", "numbers", "sign", "guests"] (spF g_along) := by
  exact knFL (mb := m_along) h sc_along (fun _ _ _ _ _ _ us hl => match us, hl with | [_, _, _, _], _ => rfl) (fun f A outer s H E hr2 => have hr := hr2.mono (Nat.le_add_right _ 3); ⟨_, (pss_cons (ps_set (i := 4) sc_along.nd rfl (Or.inr rfl) (pe_dzip rfl hr.units (by rfl) B.dict_ (by rfl) B.zip_ (pa_cons (pv 0) (pa_cons (pv 1) pa_nil))))
      (pss_cons (ps_for PassesOwn.never rfl (pi_range1 (by rfl) B.range_ (pa_cons (pv 3) pa_nil)) (pg_name (i := 5) sc_along.nd rfl (Or.inr rfl))
      (pss_one (ps_for PassesOwn.never rfl (pi_seq (pe_callBK (cr_srtK (kr_lam (q := "along" ++ ".<locals>." ++ "<lambda>") (params := lamP lx_along) (body := lamB lx_along) (scope := lamS lx_along) (N := ["one"]) (ps := ["one"]) sl_along hr2 rfl (fun _ _ _ _ => rfl) (fun _ _ _ _ _ hr => (pe_un un_neg (pe_callB call_len_seq (by rfl) B.len_ (by decide +kernel) (pa_cons (pv 0) pa_nil))))) hr.units) (by rfl) B.sorted_ (by decide +kernel) (pa_cons (pv 0) pa_nil) (pk_cons (pe_lam tb_along rfl tm_along tu_along rfl (by decide +kernel)) pk_nil))) (pg_name (i := 6) sc_along.nd rfl (Or.inl rfl))
      (pss_one (ps_if (pt_cmpR op_in_seq (pv 5) (pv 6) rfl) (pss_one (ps_dput (hu_of hr) (pv 4) (pv 6) (pe_op op_add3 (pe_dget (hu_of hr) (pv 4) (pv 6) (fun _ _ => rfl)) (pe_op op_mul (pv 2) (pe_dget (hu_of hr) (pv 4) (pe_callTy call_tuple_of (by rfl) B.tuple_ (by decide +kernel) (pa_cons (pe_lc (own := [("one", 7)]) rfl sc_along.nd (pi_seq (pv 6)) (blkOk_by (own := [("one", 7)]) (by kernel_rfl)) (fun _ _ _ _ _ => (pg_name (i := 7) sc_along.nd rfl (Or.inl rfl))) (fun _ _ _ _ _ => (pts_one (pt_cmpR (op_neD hr.units) (pv 7) (pv 5) (nomark _)))) (fun _ _ _ _ _ => (pv 7))) pa_nil)) (fun _ _ => rfl)))) rfl)) pss_nil)))))
      (pss_one (ps_ret (pe_callTy call_tuple_of (by rfl) B.tuple_ (by decide +kernel) (pa_cons (pe_lc (own := [("lot", 6)]) rfl sc_along.nd (pi_seq (pv 0)) (blkOk_by (own := [("lot", 6)]) (by kernel_rfl)) (fun _ _ _ _ _ => (pg_name (i := 6) sc_along.nd rfl (Or.inl rfl))) (fun _ _ _ _ _ => pts_nil) (fun _ _ _ _ _ => (pe_dget (hu_of hr) (pv 4) (pv 6) (fun _ _ => rfl)))) pa_nil)))))),
    ((sdb_seq (sdb_set (sde_dzip (sdw_cons sde_var (sdw_cons sde_var sdw_nil)))) (sdb_seq (sdb_for (sdif_rng1 (sdw_cons sde_var sdw_nil)) sdg_name.g (sdb_for (sdif_seq (sde_srtLam sde_var (sde_un sdu_neg (sde_cb sdc_len (sdw_cons sde_var sdw_nil))))) sdg_name.g (sdb_if (sdt_val (sde_op (sdr_in false) sde_var sde_var)) (sdb_dput sde_var (sde_op sdr_add (sde_dget sde_var sde_var) (sde_op sdr_mul sde_var (sde_dget sde_var (sde_cb sdc_tuple (sdw_cons (sde_lc (sdi_seq sde_var) sdg_name (sdt_val (sde_op sdr_ne sde_var sde_var)) sde_var) sdw_nil)))))) sdb_next))) (sdb_ret (sde_cb sdc_tuple (sdw_cons (sde_lc (sdi_seq sde_var) sdg_name sdt_yes (sde_dget sde_var sde_var)) sdw_nil)))))).d⟩) gOf_ok
end
end K15
end
section
set_option Elab.async false
set_option linter.all false
set_option maxRecDepth 100000
set_option maxHeartbeats 4000000
namespace K15
open PySem PySem.Spec PyProof.Rows PySem.W L2 Pd
section
variable [TB] {P : Program} {w : World} {K : PySem.W.Frag} {mg : Str → Option Value} {base : Heap}
theorem sc_law_meets : FnScope ["lots", "found", "lot", "other", "guest"] ["lots"] (defScope s_law_meets) := ⟨rfl, rfl, rfl, by decide +kernel, rfl, by decide +kernel, by decide +kernel⟩
def lx_law_meets : Expr := callKw (retE ((defBody s_law_meets).getLastD (.Pass ⟨0, 0, 0, 0⟩)))
theorem sl_law_meets : FnScope ["lot"] ["lot"] (lamS lx_law_meets) := ⟨rfl, rfl, rfl, by decide +kernel, rfl, by decide +kernel, by decide +kernel⟩
theorem kn_law_meets {cl tl : Addr} (B : Bn mg) (h : HasL K mg "_law_meets" s_law_meets cl) (tb_law_meets : LamX.TabB base mg cl tl) (tm_law_meets : (tl, ("_law_meets" ++ ".<locals>." ++ "<lambda>" : Str)) ∈ TB.T) (tu_law_meets : ∀ p ∈ TB.T, p.1 = tl → p.2 = ("_law_meets" ++ ".<locals>." ++ "<lambda>" : Str))   : Kn P w K mg base 4 "_law_meets" ["lots"] (spF g_law_meets) := by
  exact knFL (mb := m_law_meets) h sc_law_meets (fun _ _ _ _ _ _ us hl => match us, hl with | [_], _ => rfl) (fun f A outer s H E hr2 => have hr := hr2.mono (Nat.le_add_right _ 3); ⟨_, (pss_cons (ps_set (i := 1) sc_law_meets.nd rfl (Or.inl rfl) pe_dnewT)
      (pss_cons (ps_for PassesOwn.never rfl (pi_seq (pv 0)) (pg_name (i := 2) sc_law_meets.nd rfl (Or.inr rfl))
      (pss_one (ps_for PassesOwn.never rfl (pi_seq (pe_op op_add3 (pe_lst (pa_cons (pv 2) pa_nil)) (pe_callTy (call_list_dT rfl) (by rfl) B.list_ (by decide +kernel) (pa_cons (pv 1) pa_nil)))) (pg_name (i := 3) sc_law_meets.nd rfl (Or.inl rfl))
      (pss_one (ps_dput (hu_of hr) (pv 1) (pe_callTy call_tuple_of (by rfl) B.tuple_ (by decide +kernel) (pa_cons (pe_lc (own := [("guest", 4)]) rfl sc_law_meets.nd (pi_seq (pv 3)) (blkOk_by (own := [("guest", 4)]) (by kernel_rfl)) (fun _ _ _ _ _ => (pg_name (i := 4) sc_law_meets.nd rfl (Or.inl rfl))) (fun _ _ _ _ _ => (pts_one (pt_cmpR op_in_seq (pv 4) (pv 2) rfl))) (fun _ _ _ _ _ => (pv 4))) pa_nil)) pe_bl rfl)))))
      (pss_one (ps_ret (pe_callBK (cr_srtKD (kr_lam (q := "_law_meets" ++ ".<locals>." ++ "<lambda>") (params := lamP lx_law_meets) (body := lamB lx_law_meets) (scope := lamS lx_law_meets) (N := ["lot"]) (ps := ["lot"]) sl_law_meets hr2 rfl (fun _ _ _ _ => rfl) (fun _ _ _ _ _ hr => (pe_tup (pa_cons (pe_un un_neg (pe_callB call_len_seq (by rfl) B.len_ (by decide +kernel) (pa_cons (pv 0) pa_nil))) (pa_cons (pv 0) pa_nil))))) rfl hr.units) (by rfl) B.sorted_ (by decide +kernel) (pa_cons (pv 1) pa_nil) (pk_cons (pe_lam tb_law_meets rfl tm_law_meets tu_law_meets rfl (by decide +kernel)) pk_nil)))))),
    ((sdb_seq (sdb_set sde_dic) (sdb_seq (sdb_for (sdif_seq sde_var) sdg_name.g (sdb_for (sdif_seq (sde_op sdr_add (sde_lst (sda_cons sde_var sda_nil)) (sde_cb sdc_listD (sdw_cons sde_var sdw_nil)))) sdg_name.g (sdb_dput (sde_cb sdc_tuple (sdw_cons (sde_lc (sdi_seq sde_var) sdg_name (sdt_val (sde_op (sdr_in false) sde_var sde_var)) sde_var) sdw_nil)) sde_bl))) (sdb_ret (sde_srtLamD sde_var (sde_tup (sda_cons (sde_un sdu_neg (sde_cb sdc_len (sdw_cons sde_var sdw_nil))) (sda_cons sde_var sda_nil)))))))).d⟩) gOf_ok
end
end K15
end
section
set_option Elab.async false
set_option linter.all false
set_option maxRecDepth 100000
set_option maxHeartbeats 4000000
namespace K15
open PySem PySem.Spec PyProof.Rows PySem.W L2 Pd
section
variable [TB] {P : Program} {w : World} {K : PySem.W.Frag} {mg : Str → Option Value} {base : Heap}
theorem sc_law_is_sums : FnScope ["company", "value", "lots", "known", "lot", "number", "other"] ["company", "value"] (defScope s_law_is_sums) := ⟨rfl, rfl, rfl, by decide +kernel, rfl, by decide +kernel, by decide +kernel⟩
theorem kn_law_is_sums (B : Bn mg) (h : Has K mg "_law_is_sums" s_law_is_sums) (k_law_is_part : Kn P w K mg base 1 "_law_is_part" ["one", "other"] (spF g_law_is_part)) (k_law_known_lots : Kn P w K mg base 3 "_law_known_lots" ["company"] (spF g_law_known_lots))  : Kn P w K mg base 4 "_law_is_sums" ["company", "value"] (spF g_law_is_sums) := by
  exact knF (mb := m_law_is_sums) h sc_law_is_sums (fun _ _ _ _ _ _ us hl => match us, hl with | [_, _], _ => rfl) (fun f cdv A outer s H E hr => ⟨_, (pss_cons (ps_setLc (i := 2) (own := [("lot", 4), ("number", 5)]) (g := gTup K 2 (gCons (gName 4) (gCons (gName 5) gNil))) rfl sc_law_is_sums.nd rfl rfl (sw_true rfl rfl rfl (by decide +kernel)) (pi_seq (pv 1)) (blkOk_by (own := [("lot", 4), ("number", 5)]) (by kernel_rfl)) (fun _ _ _ _ _ => (pg_tup (by rfl) (pgs_cons (pg_name (i := 4) sc_law_is_sums.nd rfl (Or.inl rfl)) (pgs_cons (pg_name (i := 5) sc_law_is_sums.nd rfl (Or.inl rfl)) pgs_nil)))) (fun _ _ _ _ _ => pts_nil) (fun _ _ _ _ _ => (pv 4)))
      (pss_cons (ps_set (i := 3) sc_law_is_sums.nd rfl (Or.inr rfl) (k_law_known_lots.call hr (by decide) (by rfl) (pa_cons (pv 0) pa_nil)))
      (pss_cons (ps_if (PW.pt (pw_or (pt_cmpR (op_neD hr.units) (pv 2) (pe_callB (cr_srtS rfl hr.units) (by rfl) B.sorted_ (by decide +kernel) (pa_cons (pe_callTy (cr_setQ rfl hr.units) (by rfl) B.set_ (by decide +kernel) (pa_cons (pv 2) pa_nil)) pa_nil)) (nomark _)) (pw_or1 (pt_not (pt_val (pe_callB (cr_all rfl) (by rfl) B.all_ (by decide +kernel) (pa_cons (pe_lc (own := [("lot", 4)]) rfl sc_law_is_sums.nd (pi_seq (pv 2)) (blkOk_by (own := [("lot", 4)]) (by kernel_rfl)) (fun _ _ _ _ _ => (pg_name (i := 4) sc_law_is_sums.nd rfl (Or.inl rfl))) (fun _ _ _ _ _ => pts_nil) (fun _ _ _ _ _ => (pe_cmp (pc_din (hu_of hr) (pv 4) (pv 3))))) pa_nil))))))) (pss_one (ps_ret pe_bl)) pss_nil)
      (pss_cons (ps_if (pt_val (pe_callB (cr_any rfl) (by rfl) B.any_ (by decide +kernel) (pa_cons (pe_lc (own := [("lot", 4), ("number", 5)]) (g := gTup K 2 (gCons (gName 4) (gCons (gName 5) gNil))) rfl sc_law_is_sums.nd (pi_seq (pv 1)) (blkOk_by (own := [("lot", 4), ("number", 5)]) (by kernel_rfl)) (fun _ _ _ _ _ => (pg_tup (by rfl) (pgs_cons (pg_name (i := 4) sc_law_is_sums.nd rfl (Or.inl rfl)) (pgs_cons (pg_name (i := 5) sc_law_is_sums.nd rfl (Or.inl rfl)) pgs_nil)))) (fun _ _ _ _ _ => pts_nil) (fun _ _ _ _ _ => (pe_cmpR (op_eqD hr.units) (pv 5) pe_int (nomark _)))) pa_nil))) (pss_one (ps_ret pe_bl)) pss_nil)
      (pss_cons (ps_lockS (ps_for PassesOwn.never rfl (pi_keys (pv 3)) (pg_name (i := 4) sc_law_is_sums.nd rfl (Or.inr rfl))
      (pss_one (ps_if (pt_cmpR (op_neD hr.units) (pe_callB (cr_sum rfl) (by rfl) B.sum_ (by decide +kernel) (pa_cons (pe_lc (own := [("other", 6), ("number", 5)]) (g := gTup K 2 (gCons (gName 6) (gCons (gName 5) gNil))) rfl sc_law_is_sums.nd (pi_seq (pv 1)) (blkOk_by (own := [("other", 6), ("number", 5)]) (by kernel_rfl)) (fun _ _ _ _ _ => (pg_tup (by rfl) (pgs_cons (pg_name (i := 6) sc_law_is_sums.nd rfl (Or.inl rfl)) (pgs_cons (pg_name (i := 5) sc_law_is_sums.nd rfl (Or.inl rfl)) pgs_nil)))) (fun _ _ _ _ _ => (pts_one (pt_val (k_law_is_part.call hr (by decide) (by rfl) (pa_cons (pv 4) (pa_cons (pv 6) pa_nil)))))) (fun _ _ _ _ _ => (pv 5))) pa_nil)) pe_int (nomark _)) (pss_one (ps_ret pe_bl)) pss_nil))))
      (pss_one (ps_ret pe_bl))))))),
    ((sdb_seq (sdb_set (sde_lc (sdi_seq sde_var) sdg_two sdt_yes sde_var)) (sdb_seq (sdb_set (sde_call (sda_cons sde_var sda_nil))) (sdb_seq (sdb_if (sdt_or (sdt_val (sde_op sdr_ne sde_var (sde_srtSet sde_var))) (sdt_not (sdt_B (sde_cb sdc_all (sdw_cons (sde_lc (sdi_seq sde_var) sdg_name sdt_yes (sde_din sde_var sde_var)) sdw_nil))))) (sdb_ret sde_bl) sdb_next) (sdb_seq (sdb_if (sdt_B (sde_cb sdc_any (sdw_cons (sde_lc (sdi_seq sde_var) sdg_two sdt_yes (sde_op sdr_eq sde_var sde_int)) sdw_nil))) (sdb_ret sde_bl) sdb_next) (sdb_seq (sdb_lockS 3 (sdb_for (sdif_keys sde_var) sdg_name.g (sdb_if (sdt_val (sde_op sdr_ne (sde_cb sdc_sum (sdw_cons (sde_lc (sdi_seq sde_var) sdg_two (sdt_B (sde_call (sda_cons sde_var (sda_cons sde_var sda_nil)))) sde_var) sdw_nil)) sde_int)) (sdb_ret sde_bl) sdb_next))) (sdb_ret sde_bl))))))).d⟩) gOf_ok
end
end K15
end
section
set_option Elab.async false
set_option linter.all false
set_option maxRecDepth 100000
set_option maxHeartbeats 4000000
namespace K15
open PySem PySem.Spec PyProof.Rows PySem.W L2 Pd
section
variable [TB] {P : Program} {w : World} {K : PySem.W.Frag} {mg : Str → Option Value} {base : Heap}
theorem sc_law_all_sums : FnScope ["company", "found", "lot", "number"] ["company"] (defScope s_law_all_sums) := ⟨rfl, rfl, rfl, by decide +kernel, rfl, by decide +kernel, by decide +kernel⟩
theorem kn_law_all_sums (B : Bn mg) (h : Has K mg "_law_all_sums" s_law_all_sums) (k_law_link : Kn P w K mg base 3 "_law_link" ["company", "lot"] (spF g_law_link)) (k_law_known_lots : Kn P w K mg base 3 "_law_known_lots" ["company"] (spF g_law_known_lots)) (k_law_signed : Kn P w K mg base 3 "_law_signed" ["company"] (spF g_law_signed))  : Kn P w K mg base 4 "_law_all_sums" ["company"] (spF g_law_all_sums) := by
  exact knF (mb := m_law_all_sums) h sc_law_all_sums (fun _ _ _ _ _ _ us hl => match us, hl with | [_], _ => rfl) (fun f cdv A outer s H E hr => ⟨_, (pss_cons (ps_set (i := 1) sc_law_all_sums.nd rfl (Or.inl rfl) (pe_lst pa_nil))
      (pss_cons (ps_for PassesOwn.never rfl (pi_seq (pe_callB (cr_srtD rfl hr.units) (by rfl) B.sorted_ (by decide +kernel) (pa_cons (k_law_known_lots.call hr (by decide) (by rfl) (pa_cons (pv 0) pa_nil)) pa_nil))) (pg_name (i := 2) sc_law_all_sums.nd rfl (Or.inl rfl))
      (pss_cons (ps_set (i := 3) sc_law_all_sums.nd rfl (Or.inl rfl) (k_law_signed.call hr (by decide) (by rfl) (pa_cons (k_law_link.call hr (by decide) (by rfl) (pa_cons (pv 0) (pa_cons (pv 2) pa_nil))) pa_nil)))
      (pss_one (ps_expr (pe_bm PySem.F.plainAttrs_list PySem.F.slot_list_extend PySem.F.type_list_extend mt_extend (pv 1) (pa_cons (pe_ifExp (pt_cmpR (op_neD hr.units) (pv 3) pe_int (nomark _)) (pe_lst (pa_cons (pe_tup (pa_cons (pv 2) (pa_cons (pv 3) pa_nil))) pa_nil)) (pe_lst pa_nil)) pa_nil))))))
      (pss_one (ps_ret (pe_callTy call_tuple_of (by rfl) B.tuple_ (by decide +kernel) (pa_cons (pv 1) pa_nil)))))),
    ((sdb_seq (sdb_set (sde_lst sda_nil)) (sdb_seq (sdb_for (sdif_seq (sde_cb sdc_sortedD (sdw_cons (sde_call (sda_cons sde_var sda_nil)) sdw_nil))) sdg_name.g (sdb_seq (sdb_set (sde_call (sda_cons (sde_call (sda_cons sde_var (sda_cons sde_var sda_nil))) sda_nil))) (sdb_ext (sde_if (sdt_val (sde_op sdr_ne sde_var sde_int)) (sde_lst (sda_cons (sde_tup (sda_cons sde_var (sda_cons sde_var sda_nil))) sda_nil)) (sde_lst sda_nil))))) (sdb_ret (sde_cb sdc_tuple (sdw_cons sde_var sdw_nil)))))).d⟩) gOf_ok
end
end K15
end
section
set_option Elab.async false
set_option linter.all false
set_option maxRecDepth 100000
set_option maxHeartbeats 4000000
namespace K15
open PySem PySem.Spec PyProof.Rows PySem.W L2 Pd
section
variable [TB] {P : Program} {w : World} {K : PySem.W.Frag} {mg : Str → Option Value} {base : Heap}
theorem sc_by_sizes : FnScope ["company", "found", "lot", "size"] ["company"] (defScope s_by_sizes) := ⟨rfl, rfl, rfl, by decide +kernel, rfl, by decide +kernel, by decide +kernel⟩
theorem kn_by_sizes (B : Bn mg) (h : Has K mg "by_sizes" s_by_sizes) (k_lots_of : Kn P w K mg base 4 "lots_of" ["company"] (spF g_lots_of))  : Kn P w K mg base 5 "by_sizes" ["company"] (spF g_by_sizes) := by
  exact knF (mb := m_by_sizes) h sc_by_sizes (fun _ _ _ _ _ _ us hl => match us, hl with | [_], _ => rfl) (fun f cdv A outer s H E hr => ⟨_, (pss_cons (ps_setLc (i := 1) (own := [("size", 3)]) rfl sc_by_sizes.nd rfl rfl (sw_true rfl rfl rfl (by decide +kernel)) (pi_range1 (by rfl) B.range_ (pa_cons (pe_op op_add3 (pe_callB (cr_max rfl) (by rfl) B.max_ (by decide +kernel) (pa_cons (pe_lst (pa_cons (pe_un un_neg pe_int) (StX.pa_star (pe_lc (own := [("lot", 2)]) rfl sc_by_sizes.nd (pi_seq (pe_ix ix_two (pv 0) pe_int (fun _ _ => rfl))) (blkOk_by (own := [("lot", 2)]) (by kernel_rfl)) (fun _ _ _ _ _ => (pg_name (i := 2) sc_by_sizes.nd rfl (Or.inl rfl))) (fun _ _ _ _ _ => pts_nil) (fun _ _ _ _ _ => (pe_callB call_len_seq (by rfl) B.len_ (by decide +kernel) (pa_cons (pv 2) pa_nil)))) pa_nil))) pa_nil)) pe_int) pa_nil)) (blkOk_by (own := [("size", 3)]) (by kernel_rfl)) (fun _ _ _ _ _ => (pg_name (i := 3) sc_by_sizes.nd rfl (Or.inl rfl))) (fun _ _ _ _ _ => pts_nil) (fun _ _ _ _ _ => (pe_lst pa_nil)))
      (pss_cons (ps_for PassesOwn.never rfl (pi_seq (k_lots_of.call hr (by decide) (by rfl) (pa_cons (pv 0) pa_nil))) (pg_name (i := 2) sc_by_sizes.nd rfl (Or.inl rfl)) (pss_one (ps_expr (pe_bm PySem.F.plainAttrs_list PySem.F.slot_list_append PySem.F.type_list_append mt_append (pe_ix ix_two (pv 1) (pe_callB call_len_seq (by rfl) B.len_ (by decide +kernel) (pa_cons (pv 2) pa_nil)) (fun _ _ => rfl)) (pa_cons (pv 2) pa_nil)))))
      (pss_one (ps_ret (pv 1))))),
    ((sdb_sizes (SIF.i (sdif_rng1 (sdw_cons (sde_op sdr_add (sde_cb sdc_maxL (sdw_cons (sde_lst (sda_cons (sde_un sdu_neg sde_int) (sda_star (sde_lc (sdi_seq (sde_op sdr_ix sde_var sde_int)) sdg_name sdt_yes (sde_cb sdc_len (sdw_cons sde_var sdw_nil))) sda_nil))) sdw_nil)) sde_int) sdw_nil))) (sdif_seq (sde_call (sda_cons sde_var sda_nil))))).d⟩) gOf_ok
end
end K15
end
section
set_option Elab.async false
set_option linter.all false
set_option maxRecDepth 100000
set_option maxHeartbeats 4000000
namespace K15
open PySem PySem.Spec PyProof.Rows PySem.W L2 Pd
section
variable [TB] {P : Program} {w : World} {K : PySem.W.Frag} {mg : Str → Option Value} {base : Heap}
theorem sc_check_company : FnScope ["value"] ["value"] (defScope s_check_company) := ⟨rfl, rfl, rfl, by decide +kernel, rfl, by decide +kernel, by decide +kernel⟩
theorem kn_check_company (B : Bn mg) (h : Has K mg "check_company" s_check_company) (k_is_company : Kn P w K mg base 4 "is_company" ["value"] (spF g_is_company))  : Kn P w K mg base 5 "check_company" ["value"] (spF g_check_company) := by
  exact knF (mb := m_check_company) h sc_check_company (fun _ _ _ _ _ _ us hl => match us, hl with | [_], _ => rfl) (fun f cdv A outer s H E hr => ⟨_, (pss_one (ps_if (pt_not (pt_val (k_is_company.call hr (by decide) (by rfl) (pa_cons (pv 0) pa_nil)))) pss_never pss_nil)),
    ((sdb_if (sdt_not (sdt_B (sde_call (sda_cons sde_var sda_nil)))) sdb_never sdb_next)).d⟩) gOf_ok
end
end K15
end
section
set_option Elab.async false
set_option linter.all false
set_option maxRecDepth 100000
set_option maxHeartbeats 4000000
namespace K15
open PySem PySem.Spec PyProof.Rows PySem.W L2 Pd
section
variable [TB] {P : Program} {w : World} {K : PySem.W.Frag} {mg : Str → Option Value} {base : Heap}
theorem sc_least_rows : FnScope ["company", "found", "lot", "number", "other", "one"] ["company"] (defScope s_least_rows) := ⟨rfl, rfl, rfl, by decide +kernel, rfl, by decide +kernel, by decide +kernel⟩
theorem kn_least_rows (B : Bn mg) (h : Has K mg "least_rows" s_least_rows) (k_is_within : Kn P w K mg base 1 "is_within" ["one", "other"] (spF g_is_within)) (k_meets_of : Kn P w K mg base 4 "meets_of" ["lots"] (spF g_meets_of))  : Kn P w K mg base 5 "least_rows" ["company"] (spF g_least_rows) := by
  exact knF (mb := m_least_rows) h sc_least_rows (fun _ _ _ _ _ _ us hl => match us, hl with | [_], _ => rfl) (fun f cdv A outer s H E hr => ⟨_, (pss_cons (ps_set (i := 1) sc_least_rows.nd rfl (Or.inl rfl) pe_dnewT)
      (pss_cons (ps_for PassesOwn.never rfl (pi_seq (k_meets_of.call hr (by decide) (by rfl) (pa_cons (pe_ix ix_two (pv 0) pe_int (fun _ _ => rfl)) pa_nil))) (pg_name (i := 2) sc_least_rows.nd rfl (Or.inr rfl))
      (pss_cons (ps_set (i := 3) sc_least_rows.nd rfl (Or.inl rfl) (pe_op op_sub pe_int (pe_callB (cr_sum rfl) (by rfl) B.sum_ (by decide +kernel) (pa_cons (pe_lock (pe_lc (own := [("other", 4), ("one", 5)]) (g := gTup K 2 (gCons (gName 4) (gCons (gName 5) gNil))) rfl sc_least_rows.nd (pi_itemsL (pv 1)) (blkOk_by (own := [("other", 4), ("one", 5)]) (by kernel_rfl)) (fun _ _ _ _ _ => (pg_tup (by rfl) (pgs_cons (pg_name (i := 4) sc_least_rows.nd rfl (Or.inl rfl)) (pgs_cons (pg_name (i := 5) sc_least_rows.nd rfl (Or.inl rfl)) pgs_nil)))) (fun _ _ _ _ _ => (pts_one (pt_val (k_is_within.call hr (by decide) (by rfl) (pa_cons (pv 2) (pa_cons (pv 4) pa_nil)))))) (fun _ _ _ _ _ => (pv 5)))) pa_nil))))
      (pss_one (ps_if (pt_cmpR (op_neD hr.units) (pv 3) pe_int (nomark _)) (pss_one (ps_dput (hu_of hr) (pv 1) (pv 2) (pv 3) rfl)) pss_nil))))
      (pss_one (ps_ret (pv 1))))),
    ((sdb_seq (sdb_set sde_dic) (sdb_seq (sdb_for (sdif_seq (sde_call (sda_cons (sde_op sdr_ix sde_var sde_int) sda_nil))) sdg_name.g (sdb_seq (sdb_set (sde_op sdr_I sde_int (sde_cb sdc_sum (sdw_cons (sde_lock 1 (sde_lc (SIF.i (sdif_itemsL sde_var)) sdg_two (sdt_B (sde_call (sda_cons sde_var (sda_cons sde_var sda_nil)))) sde_var)) sdw_nil)))) (sdb_if (sdt_val (sde_op sdr_ne sde_var sde_int)) (sdb_dput sde_var sde_var) sdb_next))) (sdb_ret sde_var)))).d⟩) gOf_ok
end
end K15
end
section
set_option Elab.async false
set_option linter.all false
set_option maxRecDepth 100000
set_option maxHeartbeats 4000000
namespace K15
open PySem PySem.Spec PyProof.Rows PySem.W L2 Pd
section
variable [TB] {P : Program} {w : World} {K : PySem.W.Frag} {mg : Str → Option Value} {base : Heap}
theorem sc_law_least_sums : FnScope ["company", "found", "lot", "number", "other"] ["company"] (defScope s_law_least_sums) := ⟨rfl, rfl, rfl, by decide +kernel, rfl, by decide +kernel, by decide +kernel⟩
theorem kn_law_least_sums (B : Bn mg) (h : Has K mg "_law_least_sums" s_law_least_sums) (k_law_is_part : Kn P w K mg base 1 "_law_is_part" ["one", "other"] (spF g_law_is_part)) (k_law_meets : Kn P w K mg base 4 "_law_meets" ["lots"] (spF g_law_meets))  : Kn P w K mg base 5 "_law_least_sums" ["company"] (spF g_law_least_sums) := by
  exact knF (mb := m_law_least_sums) h sc_law_least_sums (fun _ _ _ _ _ _ us hl => match us, hl with | [_], _ => rfl) (fun f cdv A outer s H E hr => ⟨_, (pss_cons (ps_set (i := 1) sc_law_least_sums.nd rfl (Or.inr rfl) pe_dnewT)
      (pss_cons (ps_for PassesOwn.never rfl (pi_seq (k_law_meets.call hr (by decide) (by rfl) (pa_cons (pe_ix ix_two (pv 0) pe_int (fun _ _ => rfl)) pa_nil))) (pg_name (i := 2) sc_law_least_sums.nd rfl (Or.inr rfl))
      (pss_cons (ps_set (i := 3) sc_law_least_sums.nd rfl (Or.inl rfl) (pe_op op_sub pe_int (pe_callB (cr_sum rfl) (by rfl) B.sum_ (by decide +kernel) (pa_cons (pe_lock (pe_lc (own := [("other", 4)]) rfl sc_law_least_sums.nd (pi_keys (pv 1)) (blkOk_by (own := [("other", 4)]) (by kernel_rfl)) (fun _ _ _ _ _ => (pg_name (i := 4) sc_law_least_sums.nd rfl (Or.inl rfl))) (fun _ _ _ _ _ => (pts_one (pt_val (k_law_is_part.call hr (by decide) (by rfl) (pa_cons (pv 2) (pa_cons (pv 4) pa_nil)))))) (fun _ _ _ _ _ => (pe_dget (hu_of hr) (pv 1) (pv 4) (fun _ _ => rfl))))) pa_nil))))
      (pss_one (ps_if (pt_cmpR (op_neD hr.units) (pv 3) pe_int (nomark _)) (pss_one (ps_dput (hu_of hr) (pv 1) (pv 2) (pv 3) rfl)) pss_nil))))
      (pss_one (ps_ret (pe_callTy call_tuple_of (by rfl) B.tuple_ (by decide +kernel) (pa_cons (pe_lc (own := [("lot", 2)]) rfl sc_law_least_sums.nd (pi_seq (pe_callB (cr_srtD rfl hr.units) (by rfl) B.sorted_ (by decide +kernel) (pa_cons (pv 1) pa_nil))) (blkOk_by (own := [("lot", 2)]) (by kernel_rfl)) (fun _ _ _ _ _ => (pg_name (i := 2) sc_law_least_sums.nd rfl (Or.inl rfl))) (fun _ _ _ _ _ => pts_nil) (fun _ _ _ _ _ => (pe_tup (pa_cons (pv 2) (pa_cons (pe_dget (hu_of hr) (pv 1) (pv 2) (fun _ _ => rfl)) pa_nil))))) pa_nil)))))),
    ((sdb_seq (sdb_set sde_dic) (sdb_seq (sdb_for (sdif_seq (sde_call (sda_cons (sde_op sdr_ix sde_var sde_int) sda_nil))) sdg_name.g (sdb_seq (sdb_set (sde_op sdr_I sde_int (sde_cb sdc_sum (sdw_cons (sde_lock 1 (sde_lc (SIF.i (sdif_keys sde_var)) sdg_name (sdt_B (sde_call (sda_cons sde_var (sda_cons sde_var sda_nil)))) (sde_dget sde_var sde_var))) sdw_nil)))) (sdb_if (sdt_val (sde_op sdr_ne sde_var sde_int)) (sdb_dput sde_var sde_var) sdb_next))) (sdb_ret (sde_cb sdc_tuple (sdw_cons (sde_lc (sdi_seq (sde_cb sdc_sortedD (sdw_cons sde_var sdw_nil))) sdg_name sdt_yes (sde_tup (sda_cons sde_var (sda_cons (sde_dget sde_var sde_var) sda_nil)))) sdw_nil)))))).d⟩) gOf_ok
end
end K15
end
section
set_option Elab.async false
set_option linter.all false
set_option maxRecDepth 100000
set_option maxHeartbeats 4000000
namespace K15
open PySem PySem.Spec PyProof.Rows PySem.W L2 Pd
section
variable [TB] {P : Program} {w : World} {K : PySem.W.Frag} {mg : Str → Option Value} {base : Heap}
theorem sc_link : FnScope ["company", "lot"] ["company", "lot"] (defScope s_link) := ⟨rfl, rfl, rfl, by decide +kernel, rfl, by decide +kernel, by decide +kernel⟩
theorem kn_link (B : Bn mg) (h : Has K mg "link" s_link) (k_check_company : Kn P w K mg base 5 "check_company" ["value"] (spF g_check_company)) (k_check_lot : Kn P w K mg base 4 "check_lot" ["company", "value"] (spF g_check_lot)) (k_link_of : Kn P w K mg base 4 "link_of" ["company", "lot"] (spF g_link_of))  : Kn P w K mg base 6 "link" ["company", "lot"] (spF g_link) := by
  exact knF (mb := m_link) h sc_link (fun _ _ _ _ _ _ us hl => match us, hl with | [_, _], _ => rfl) (fun f cdv A outer s H E hr => ⟨_, (pss_cons (ps_expr (k_check_company.call hr (by decide) (by rfl) (pa_cons (pv 0) pa_nil)))
      (pss_cons (ps_expr (k_check_lot.call hr (by decide) (by rfl) (pa_cons (pv 0) (pa_cons (pv 1) pa_nil))))
      (pss_one (ps_ret (k_link_of.call hr (by decide) (by rfl) (pa_cons (pv 0) (pa_cons (pv 1) pa_nil))))))),
    ((sdb_seq (sdb_drop (sde_call (sda_cons sde_var sda_nil))) (sdb_seq (sdb_drop (sde_call (sda_cons sde_var (sda_cons sde_var sda_nil)))) (sdb_ret (sde_call (sda_cons sde_var (sda_cons sde_var sda_nil))))))).d⟩) gOf_ok
end
end K15
end
section
set_option Elab.async false
set_option linter.all false
set_option maxRecDepth 100000
set_option maxHeartbeats 4000000
namespace K15
open PySem PySem.Spec PyProof.Rows PySem.W L2 Pd
section
variable [TB] {P : Program} {w : World} {K : PySem.W.Frag} {mg : Str → Option Value} {base : Heap}
theorem sc_without : FnScope ["company", "lot"] ["company", "lot"] (defScope s_without) := ⟨rfl, rfl, rfl, by decide +kernel, rfl, by decide +kernel, by decide +kernel⟩
theorem kn_without (B : Bn mg) (h : Has K mg "without" s_without) (k_check_company : Kn P w K mg base 5 "check_company" ["value"] (spF g_check_company)) (k_check_lot : Kn P w K mg base 4 "check_lot" ["company", "value"] (spF g_check_lot)) (k_without_of : Kn P w K mg base 4 "without_of" ["company", "lot"] (spF g_without_of))  : Kn P w K mg base 6 "without" ["company", "lot"] (spF g_without) := by
  exact knF (mb := m_without) h sc_without (fun _ _ _ _ _ _ us hl => match us, hl with | [_, _], _ => rfl) (fun f cdv A outer s H E hr => ⟨_, (pss_cons (ps_expr (k_check_company.call hr (by decide) (by rfl) (pa_cons (pv 0) pa_nil)))
      (pss_cons (ps_expr (k_check_lot.call hr (by decide) (by rfl) (pa_cons (pv 0) (pa_cons (pv 1) pa_nil))))
      (pss_one (ps_ret (k_without_of.call hr (by decide) (by rfl) (pa_cons (pv 0) (pa_cons (pv 1) pa_nil))))))),
    ((sdb_seq (sdb_drop (sde_call (sda_cons sde_var sda_nil))) (sdb_seq (sdb_drop (sde_call (sda_cons sde_var (sda_cons sde_var sda_nil)))) (sdb_ret (sde_call (sda_cons sde_var (sda_cons sde_var sda_nil))))))).d⟩) gOf_ok
end
end K15
end
section
set_option Elab.async false
set_option linter.all false
set_option maxRecDepth 100000
set_option maxHeartbeats 4000000
namespace K15
open PySem PySem.Spec PyProof.Rows PySem.W L2 Pd
section
variable [TB] {P : Program} {w : World} {K : PySem.W.Frag} {mg : Str → Option Value} {base : Heap}
theorem sc_check_same : FnScope ["one", "other"] ["one", "other"] (defScope s_check_same) := ⟨rfl, rfl, rfl, by decide +kernel, rfl, by decide +kernel, by decide +kernel⟩
theorem kn_check_same (B : Bn mg) (h : Has K mg "check_same" s_check_same) (k_is_company : Kn P w K mg base 4 "is_company" ["value"] (spF g_is_company)) (k_check_company : Kn P w K mg base 5 "check_company" ["value"] (spF g_check_company))  : Kn P w K mg base 6 "check_same" ["one", "other"] (spF g_check_same) := by
  exact knF (mb := m_check_same) h sc_check_same (fun _ _ _ _ _ _ us hl => match us, hl with | [_, _], _ => rfl) (fun f cdv A outer s H E hr => ⟨_, (pss_cons (ps_expr (k_check_company.call hr (by decide) (by rfl) (pa_cons (pv 0) pa_nil)))
      (pss_one (ps_if (PW.pt (pw_or (pt_not (pt_val (k_is_company.call hr (by decide) (by rfl) (pa_cons (pv 1) pa_nil)))) (pw_or1 (pt_cmpR (op_neD hr.units) (pe_ix ix_two (pv 1) pe_int (fun _ _ => rfl)) (pe_ix ix_two (pv 0) pe_int (fun _ _ => rfl)) (nomark _))))) pss_never pss_nil))),
    ((sdb_seq (sdb_drop (sde_call (sda_cons sde_var sda_nil))) (sdb_if (sdt_or (sdt_not (sdt_B (sde_call (sda_cons sde_var sda_nil)))) (sdt_val (sde_op sdr_ne (sde_op sdr_ix sde_var sde_int) (sde_op sdr_ix sde_var sde_int)))) sdb_never sdb_next))).d⟩) gOf_ok
end
end K15
end
section
set_option Elab.async false
set_option linter.all false
set_option maxRecDepth 100000
set_option maxHeartbeats 4000000
namespace K15
open PySem PySem.Spec PyProof.Rows PySem.W L2 Pd
section
variable [TB] {P : Program} {w : World} {K : PySem.W.Frag} {mg : Str → Option Value} {base : Heap}
theorem sc_signed_of : FnScope ["company", "size", "lots"] ["company"] (defScope s_signed_of) := ⟨rfl, rfl, rfl, by decide +kernel, rfl, by decide +kernel, by decide +kernel⟩
theorem kn_signed_of (B : Bn mg) (h : Has K mg "signed_of" s_signed_of) (k_by_sizes : Kn P w K mg base 5 "by_sizes" ["company"] (spF g_by_sizes))  : Kn P w K mg base 6 "signed_of" ["company"] (spF g_signed_of) := by
  exact knF (mb := m_signed_of) h sc_signed_of (fun _ _ _ _ _ _ us hl => match us, hl with | [_], _ => rfl) (fun f cdv A outer s H E hr => ⟨_, (pss_one (ps_ret (pe_callB (cr_sum rfl) (by rfl) B.sum_ (by decide +kernel) (pa_cons (pe_lc (own := [("size", 1), ("lots", 2)]) (g := gTup K 2 (gCons (gName 1) (gCons (gName 2) gNil))) rfl sc_signed_of.nd (pi_enum (by rfl) B.enumerate_ (pa_cons (k_by_sizes.call hr (by decide) (by rfl) (pa_cons (pv 0) pa_nil)) pa_nil)) (blkOk_by (own := [("size", 1), ("lots", 2)]) (by kernel_rfl)) (fun _ _ _ _ _ => (pg_tup (by rfl) (pgs_cons (pg_name (i := 1) sc_signed_of.nd rfl (Or.inl rfl)) (pgs_cons (pg_name (i := 2) sc_signed_of.nd rfl (Or.inl rfl)) pgs_nil)))) (fun _ _ _ _ _ => pts_nil) (fun _ _ _ _ _ => (pe_op op_mul (pe_op op_sub pe_int (pe_op op_mul pe_int (pe_op op_mod (pv 1) pe_int))) (pe_callB call_len_seq (by rfl) B.len_ (by decide +kernel) (pa_cons (pv 2) pa_nil))))) pa_nil)))),
    ((sdb_ret (sde_cb sdc_sum (sdw_cons (sde_lc (sdi_enum (sdw_cons (sde_call (sda_cons sde_var sda_nil)) sdw_nil)) sdg_two sdt_yes (sde_op sdr_mul (sde_op sdr_I sde_int (sde_op sdr_mul sde_int (sde_op sdr_mod sde_var sde_int))) (sde_cb sdc_len (sdw_cons sde_var sdw_nil)))) sdw_nil)))).d⟩) gOf_ok
end
end K15
end
section
set_option Elab.async false
set_option linter.all false
set_option maxRecDepth 100000
set_option maxHeartbeats 4000000
namespace K15
open PySem PySem.Spec PyProof.Rows PySem.W L2 Pd
section
variable [TB] {P : Program} {w : World} {K : PySem.W.Frag} {mg : Str → Option Value} {base : Heap}
theorem sc_least_sums : FnScope ["company", "found", "lot"] ["company"] (defScope s_least_sums) := ⟨rfl, rfl, rfl, by decide +kernel, rfl, by decide +kernel, by decide +kernel⟩
theorem kn_least_sums (B : Bn mg) (h : Has K mg "least_sums" s_least_sums) (k_check_company : Kn P w K mg base 5 "check_company" ["value"] (spF g_check_company)) (k_least_rows : Kn P w K mg base 5 "least_rows" ["company"] (spF g_least_rows))  : Kn P w K mg base 6 "least_sums" ["company"] (spF g_least_sums) := by
  exact knF (mb := m_least_sums) h sc_least_sums (fun _ _ _ _ _ _ us hl => match us, hl with | [_], _ => rfl) (fun f cdv A outer s H E hr => ⟨_, (pss_cons (ps_expr (k_check_company.call hr (by decide) (by rfl) (pa_cons (pv 0) pa_nil)))
      (pss_cons (ps_set (i := 1) sc_least_sums.nd rfl (Or.inr rfl) (k_least_rows.call hr (by decide) (by rfl) (pa_cons (pv 0) pa_nil)))
      (pss_one (ps_ret (pe_callTy call_tuple_of (by rfl) B.tuple_ (by decide +kernel) (pa_cons (pe_lc (own := [("lot", 2)]) rfl sc_least_sums.nd (pi_seq (pe_callB (cr_srtD rfl hr.units) (by rfl) B.sorted_ (by decide +kernel) (pa_cons (pv 1) pa_nil))) (blkOk_by (own := [("lot", 2)]) (by kernel_rfl)) (fun _ _ _ _ _ => (pg_name (i := 2) sc_least_sums.nd rfl (Or.inl rfl))) (fun _ _ _ _ _ => pts_nil) (fun _ _ _ _ _ => (pe_tup (pa_cons (pv 2) (pa_cons (pe_dget (hu_of hr) (pv 1) (pv 2) (fun _ _ => rfl)) pa_nil))))) pa_nil)))))),
    ((sdb_seq (sdb_drop (sde_call (sda_cons sde_var sda_nil))) (sdb_seq (sdb_set (sde_call (sda_cons sde_var sda_nil))) (sdb_ret (sde_cb sdc_tuple (sdw_cons (sde_lc (sdi_seq (sde_cb sdc_sortedD (sdw_cons sde_var sdw_nil))) sdg_name sdt_yes (sde_tup (sda_cons sde_var (sda_cons (sde_dget sde_var sde_var) sda_nil)))) sdw_nil)))))).d⟩) gOf_ok
end
end K15
end
section
set_option Elab.async false
set_option linter.all false
set_option maxRecDepth 100000
set_option maxHeartbeats 4000000
namespace K15
open PySem PySem.Spec PyProof.Rows PySem.W L2 Pd
section
variable [TB] {P : Program} {w : World} {K : PySem.W.Frag} {mg : Str → Option Value} {base : Heap}
theorem sc_shows_sums : FnScope ["company", "value", "lot", "row", "one", "other", "number"] ["company", "value"] (defScope s_shows_sums) := ⟨rfl, rfl, rfl, by decide +kernel, rfl, by decide +kernel, by decide +kernel⟩
theorem kn_shows_sums (B : Bn mg) (h : Has K mg "shows_sums" s_shows_sums) (k_is_within : Kn P w K mg base 1 "is_within" ["one", "other"] (spF g_is_within)) (k_lots_of : Kn P w K mg base 4 "lots_of" ["company"] (spF g_lots_of)) (k_check_company : Kn P w K mg base 5 "check_company" ["value"] (spF g_check_company)) (k_is_row : Kn P w K mg base 4 "is_row" ["company", "value"] (spF g_is_row))  : Kn P w K mg base 6 "shows_sums" ["company", "value"] (spF g_shows_sums) := by
  exact knF (mb := m_shows_sums) h sc_shows_sums (fun _ _ _ _ _ _ us hl => match us, hl with | [_, _], _ => rfl) (fun f cdv A outer s H E hr => ⟨_, (pss_cons (ps_expr (k_check_company.call hr (by decide) (by rfl) (pa_cons (pv 0) pa_nil)))
      (pss_cons (ps_if (PW.pt (pw_or (pt_not (pt_val (pe_callB call_isi (by rfl) B.isinstance_ (by decide +kernel) (pa_cons (pv 1) (pa_cons (pe_bltn (v := .ty "tuple") (by rfl) B.tuple_ (by decide +kernel) rfl) pa_nil))))) (pw_or1 (pt_not (pt_val (pe_callB (cr_all rfl) (by rfl) B.all_ (by decide +kernel) (pa_cons (pe_lc (own := [("row", 3)]) rfl sc_shows_sums.nd (pi_seq (pv 1)) (blkOk_by (own := [("row", 3)]) (by kernel_rfl)) (fun _ _ _ _ _ => (pg_name (i := 3) sc_shows_sums.nd rfl (Or.inl rfl))) (fun _ _ _ _ _ => pts_nil) (fun _ _ _ _ _ => (k_is_row.call hr (by decide) (by rfl) (pa_cons (pv 0) (pa_cons (pv 3) pa_nil))))) pa_nil))))))) (pss_one (ps_ret pe_bl)) pss_nil)
      (pss_cons (ps_if (pt_not (pt_val (pe_callB (cr_all rfl) (by rfl) B.all_ (by decide +kernel) (pa_cons (pe_lc (own := [("one", 4), ("other", 5)]) (g := gTup K 2 (gCons (gName 4) (gCons (gName 5) gNil))) rfl sc_shows_sums.nd (RZ.pi_zipA (by rfl) B.zip_ (pa_cons (pv 1) (pa_cons (pe_slice sl_two (pv 1) (po_some pe_int) po_none) pa_nil))) (blkOk_by (own := [("one", 4), ("other", 5)]) (by kernel_rfl)) (fun _ _ _ _ _ => (pg_tup (by rfl) (pgs_cons (pg_name (i := 4) sc_shows_sums.nd rfl (Or.inl rfl)) (pgs_cons (pg_name (i := 5) sc_shows_sums.nd rfl (Or.inl rfl)) pgs_nil)))) (fun _ _ _ _ _ => pts_nil) (fun _ _ _ _ _ => (pe_cmpR (op_ltT hr.units0) (pe_ix ix_two (pv 4) pe_int (fun _ _ => rfl)) (pe_ix ix_two (pv 5) pe_int (fun _ _ => rfl)) (nomark _)))) pa_nil)))) (pss_one (ps_ret pe_bl)) pss_nil)
      (pss_one (ps_ret (pe_callB (cr_all rfl) (by rfl) B.all_ (by decide +kernel) (pa_cons (pe_lc (own := [("lot", 2)]) rfl sc_shows_sums.nd (pi_seq (k_lots_of.call hr (by decide) (by rfl) (pa_cons (pv 0) pa_nil))) (blkOk_by (own := [("lot", 2)]) (by kernel_rfl)) (fun _ _ _ _ _ => (pg_name (i := 2) sc_shows_sums.nd rfl (Or.inr rfl))) (fun _ _ _ _ _ => pts_nil) (fun _ _ _ _ _ => (pe_cmpR (op_eqD hr.units) (pe_callB (cr_sum rfl) (by rfl) B.sum_ (by decide +kernel) (pa_cons (pe_lc (own := [("other", 5), ("number", 6)]) (g := gTup K 2 (gCons (gName 5) (gCons (gName 6) gNil))) rfl sc_shows_sums.nd (pi_seq (pv 1)) (blkOk_by (own := [("other", 5), ("number", 6)]) (by kernel_rfl)) (fun _ _ _ _ _ => (pg_tup (by rfl) (pgs_cons (pg_name (i := 5) sc_shows_sums.nd rfl (Or.inl rfl)) (pgs_cons (pg_name (i := 6) sc_shows_sums.nd rfl (Or.inl rfl)) pgs_nil)))) (fun _ _ _ _ _ => (pts_one (pt_val (k_is_within.call hr (by decide) (by rfl) (pa_cons (pv 2) (pa_cons (pv 5) pa_nil)))))) (fun _ _ _ _ _ => (pv 6))) pa_nil)) pe_int (nomark _)))) pa_nil))))))),
    ((sdb_seq (sdb_drop (sde_call (sda_cons sde_var sda_nil))) (sdb_seq (sdb_if (sdt_or (sdt_not (sdt_B (sde_isi sde_var))) (sdt_not (sdt_B (sde_cb sdc_all (sdw_cons (sde_lc (sdi_seq sde_var) sdg_name sdt_yes (sde_call (sda_cons sde_var (sda_cons sde_var sda_nil)))) sdw_nil))))) (sdb_ret sde_bl) sdb_next) (sdb_seq (sdb_if (sdt_not (sdt_B (sde_cb sdc_all (sdw_cons (sde_lc (sdi_zipA (sdw_cons sde_var (sdw_cons (sde_sl sde_var (sdo_some sde_int) sdo_none) sdw_nil))) sdg_two sdt_yes (sde_op sdr_ltT (sde_op sdr_ix sde_var sde_int) (sde_op sdr_ix sde_var sde_int))) sdw_nil)))) (sdb_ret sde_bl) sdb_next) (sdb_ret (sde_cb sdc_all (sdw_cons (sde_lc (sdi_seq (sde_call (sda_cons sde_var sda_nil))) sdg_name sdt_yes (sde_op sdr_eq (sde_cb sdc_sum (sdw_cons (sde_lc (sdi_seq sde_var) sdg_two (sdt_B (sde_call (sda_cons sde_var (sda_cons sde_var sda_nil)))) sde_var) sdw_nil)) sde_int)) sdw_nil))))))).d⟩) gOf_ok
end
end K15
end
section
set_option Elab.async false
set_option linter.all false
set_option maxRecDepth 100000
set_option maxHeartbeats 4000000
namespace K15
open PySem PySem.Spec PyProof.Rows PySem.W L2 Pd
section
variable [TB] {P : Program} {w : World} {K : PySem.W.Frag} {mg : Str → Option Value} {base : Heap}
theorem sc_sum_by : FnScope ["company", "worths", "many", "total", "lot", "number", "guest", "one"] ["company", "worths"] (defScope s_sum_by) := ⟨rfl, rfl, rfl, by decide +kernel, rfl, by decide +kernel, by decide +kernel⟩
theorem kn_sum_by (B : Bn mg) (h : Has K mg "sum_by" s_sum_by) (k_is_tuple : Kn P w K mg base 1 "is_tuple" ["value", "least", "most"] (spF g_is_tuple)) (k_is_integer : Kn P w K mg base 2 "is_integer" ["value", "low", "high"] (spF g_is_integer)) (k_check_company : Kn P w K mg base 5 "check_company" ["value"] (spF g_check_company)) (k_least_rows : Kn P w K mg base 5 "least_rows" ["company"] (spF g_least_rows)) (hc_MOST_WORTH : ∃ t, mg "MOST_WORTH" = some (.int 1000 t)) : Kn P w K mg base 6 "sum_by" ["company", "worths"] (spF g_sum_by) := by
  obtain ⟨t_MOST_WORTH, c_MOST_WORTH⟩ := hc_MOST_WORTH
  exact knF (mb := m_sum_by) h sc_sum_by (fun _ _ _ _ _ _ us hl => match us, hl with | [_, _], _ => rfl) (fun f cdv A outer s H E hr => ⟨_, (pss_cons (ps_expr (k_check_company.call hr (by decide) (by rfl) (pa_cons (pv 0) pa_nil)))
      (pss_cons (ps_set (i := 2) sc_sum_by.nd rfl (Or.inl rfl) (pe_ix ix_two (pv 0) pe_int (fun _ _ => rfl)))
      (pss_cons (ps_if (PW.pt (pw_or (pt_not (pt_val (k_is_tuple.call hr (by decide) (by rfl) (pa_cons (pv 1) (pa_cons (pv 2) (pa_cons (pv 2) pa_nil)))))) (pw_or1 (pt_not (pt_val (pe_callB (cr_all rfl) (by rfl) B.all_ (by decide +kernel) (pa_cons (pe_lc (own := [("one", 7)]) rfl sc_sum_by.nd (pi_seq (pv 1)) (blkOk_by (own := [("one", 7)]) (by kernel_rfl)) (fun _ _ _ _ _ => (pg_name (i := 7) sc_sum_by.nd rfl (Or.inl rfl))) (fun _ _ _ _ _ => pts_nil) (fun _ _ _ _ _ => (k_is_integer.call hr (by decide) (by rfl) (pa_cons (pv 7) (pa_cons (pe_un un_neg (pe_glob (v := .int 1000) rfl c_MOST_WORTH ⟨_, rfl⟩)) (pa_cons (pe_glob (v := .int 1000) rfl c_MOST_WORTH ⟨_, rfl⟩) pa_nil)))))) pa_nil))))))) pss_never pss_nil)
      (pss_cons (ps_set (i := 3) sc_sum_by.nd rfl (Or.inl rfl) pe_int)
      (pss_cons (ps_for PassesOwn.never rfl (pi_itemsN (k_least_rows.call hr (by decide) (by rfl) (pa_cons (pv 0) pa_nil))) (pg_tup (by rfl) (pgs_cons (pg_name (i := 4) sc_sum_by.nd rfl (Or.inl rfl)) (pgs_cons (pg_name (i := 5) sc_sum_by.nd rfl (Or.inl rfl)) pgs_nil)))
      (pss_cons (ps_for PassesOwn.never rfl (pi_seq (pv 4)) (pg_name (i := 6) sc_sum_by.nd rfl (Or.inl rfl))
      (pss_one (ps_set (i := 5) sc_sum_by.nd rfl (Or.inl rfl) (pe_op op_mul (pv 5) (pe_op op_add3 pe_int (pe_ix ix_two (pv 1) (pv 6) (fun _ _ => rfl)))))))
      (pss_one (ps_set (i := 3) sc_sum_by.nd rfl (Or.inl rfl) (pe_op op_add3 (pv 3) (pv 5))))))
      (pss_one (ps_ret (pv 3)))))))),
    ((sdb_seq (sdb_drop (sde_call (sda_cons sde_var sda_nil))) (sdb_seq (sdb_set (sde_op sdr_ix sde_var sde_int)) (sdb_seq (sdb_if (sdt_or (sdt_not (sdt_B (sde_call (sda_cons sde_var (sda_cons sde_var (sda_cons sde_var sda_nil)))))) (sdt_not (sdt_B (sde_cb sdc_all (sdw_cons (sde_lc (sdi_seq sde_var) sdg_name sdt_yes (sde_call (sda_cons sde_var (sda_cons (sde_un sdu_neg sde_int) (sda_cons sde_int sda_nil))))) sdw_nil))))) sdb_never sdb_next) (sdb_seq (sdb_set sde_int) (sdb_seq (sdb_for (sdif_itemsN (sde_call (sda_cons sde_var sda_nil))) sdg_two.g (sdb_seq (sdb_frzB 4 (sdb_for (sdif_seq sde_var) sdg_name.g (sdb_set (sde_op sdr_mul sde_var (sde_op sdr_add sde_int (sde_op sdr_ix sde_var sde_var)))))) (sdb_set (sde_op sdr_add sde_var sde_var)))) (sdb_ret sde_var))))))).d⟩) gOf_ok
end
end K15
end
section
set_option Elab.async false
set_option linter.all false
set_option maxRecDepth 100000
set_option maxHeartbeats 4000000
namespace K15
open PySem PySem.Spec PyProof.Rows PySem.W L2 Pd
section
variable [TB] {P : Program} {w : World} {K : PySem.W.Frag} {mg : Str → Option Value} {base : Heap}
theorem sc_check_numbers : FnScope ["company", "value", "lots", "one"] ["company", "value"] (defScope s_check_numbers) := ⟨rfl, rfl, rfl, by decide +kernel, rfl, by decide +kernel, by decide +kernel⟩
theorem kn_check_numbers (B : Bn mg) (h : Has K mg "check_numbers" s_check_numbers) (k_is_tuple : Kn P w K mg base 1 "is_tuple" ["value", "least", "most"] (spF g_is_tuple)) (k_is_whole : Kn P w K mg base 1 "is_whole" ["value"] (spF g_is_whole)) (k_lots_of : Kn P w K mg base 4 "lots_of" ["company"] (spF g_lots_of)) (k_check_company : Kn P w K mg base 5 "check_company" ["value"] (spF g_check_company))  : Kn P w K mg base 6 "check_numbers" ["company", "value"] (spF g_check_numbers) := by
  exact knF (mb := m_check_numbers) h sc_check_numbers (fun _ _ _ _ _ _ us hl => match us, hl with | [_, _], _ => rfl) (fun f cdv A outer s H E hr => ⟨_, (pss_cons (ps_expr (k_check_company.call hr (by decide) (by rfl) (pa_cons (pv 0) pa_nil)))
      (pss_cons (ps_set (i := 2) sc_check_numbers.nd rfl (Or.inl rfl) (k_lots_of.call hr (by decide) (by rfl) (pa_cons (pv 0) pa_nil)))
      (pss_cons (ps_if (PW.pt (pw_or (pt_not (pt_val (k_is_tuple.call hr (by decide) (by rfl) (pa_cons (pv 1) (pa_cons (pe_callB call_len_seq (by rfl) B.len_ (by decide +kernel) (pa_cons (pv 2) pa_nil)) (pa_cons (pe_callB call_len_seq (by rfl) B.len_ (by decide +kernel) (pa_cons (pv 2) pa_nil)) pa_nil)))))) (pw_or1 (pt_not (pt_val (pe_callB (cr_all rfl) (by rfl) B.all_ (by decide +kernel) (pa_cons (pe_lc (own := [("one", 3)]) rfl sc_check_numbers.nd (pi_seq (pv 1)) (blkOk_by (own := [("one", 3)]) (by kernel_rfl)) (fun _ _ _ _ _ => (pg_name (i := 3) sc_check_numbers.nd rfl (Or.inl rfl))) (fun _ _ _ _ _ => pts_nil) (fun _ _ _ _ _ => (k_is_whole.call hr (by decide) (by rfl) (pa_cons (pv 3) pa_nil)))) pa_nil))))))) pss_never pss_nil)
      (pss_one (ps_ret (pv 2)))))),
    ((sdb_seq (sdb_drop (sde_call (sda_cons sde_var sda_nil))) (sdb_seq (sdb_set (sde_call (sda_cons sde_var sda_nil))) (sdb_seq (sdb_if (sdt_or (sdt_not (sdt_B (sde_call (sda_cons sde_var (sda_cons (sde_cb sdc_len (sdw_cons sde_var sdw_nil)) (sda_cons (sde_cb sdc_len (sdw_cons sde_var sdw_nil)) sda_nil)))))) (sdt_not (sdt_B (sde_cb sdc_all (sdw_cons (sde_lc (sdi_seq sde_var) sdg_name sdt_yes (sde_call (sda_cons sde_var sda_nil))) sdw_nil))))) sdb_never sdb_next) (sdb_ret sde_var))))).d⟩) gOf_ok
end
end K15
end
section
set_option Elab.async false
set_option linter.all false
set_option maxRecDepth 100000
set_option maxHeartbeats 4000000
namespace K15
open PySem PySem.Spec PyProof.Rows PySem.W L2 Pd
section
variable [TB] {P : Program} {w : World} {K : PySem.W.Frag} {mg : Str → Option Value} {base : Heap}
theorem sc_either : FnScope ["one", "other"] ["one", "other"] (defScope s_either) := ⟨rfl, rfl, rfl, by decide +kernel, rfl, by decide +kernel, by decide +kernel⟩
theorem kn_either (B : Bn mg) (h : Has K mg "either" s_either) (k_company_by : Kn P w K mg base 3 "company_by" ["guests", "lots"] (spF g_company_by)) (k_check_same : Kn P w K mg base 6 "check_same" ["one", "other"] (spF g_check_same))  : Kn P w K mg base 7 "either" ["one", "other"] (spF g_either) := by
  exact knF (mb := m_either) h sc_either (fun _ _ _ _ _ _ us hl => match us, hl with | [_, _], _ => rfl) (fun f cdv A outer s H E hr => ⟨_, (pss_cons (ps_expr (k_check_same.call hr (by decide) (by rfl) (pa_cons (pv 0) (pa_cons (pv 1) pa_nil))))
      (pss_one (ps_ret (k_company_by.call hr (by decide) (by rfl) (pa_cons (pe_ix ix_two (pv 0) pe_int (fun _ _ => rfl)) (pa_cons (pe_lst (StX.pa_star (pe_ix ix_two (pv 0) pe_int (fun _ _ => rfl)) (StX.pa_star (pe_ix ix_two (pv 1) pe_int (fun _ _ => rfl)) pa_nil))) pa_nil)))))),
    ((sdb_seq (sdb_drop (sde_call (sda_cons sde_var (sda_cons sde_var sda_nil)))) (sdb_ret (sde_call (sda_cons (sde_op sdr_ix sde_var sde_int) (sda_cons (sde_lst (sda_star (sde_op sdr_ix sde_var sde_int) (sda_star (sde_op sdr_ix sde_var sde_int) sda_nil))) sda_nil)))))).d⟩) gOf_ok
end
end K15
end
section
set_option Elab.async false
set_option linter.all false
set_option maxRecDepth 100000
set_option maxHeartbeats 4000000
namespace K15
open PySem PySem.Spec PyProof.Rows PySem.W L2 Pd
section
variable [TB] {P : Program} {w : World} {K : PySem.W.Frag} {mg : Str → Option Value} {base : Heap}
theorem sc_both : FnScope ["one", "other", "found", "lot", "its", "guest"] ["one", "other"] (defScope s_both) := ⟨rfl, rfl, rfl, by decide +kernel, rfl, by decide +kernel, by decide +kernel⟩
theorem kn_both (B : Bn mg) (h : Has K mg "both" s_both) (k_company_by : Kn P w K mg base 3 "company_by" ["guests", "lots"] (spF g_company_by)) (k_check_same : Kn P w K mg base 6 "check_same" ["one", "other"] (spF g_check_same))  : Kn P w K mg base 7 "both" ["one", "other"] (spF g_both) := by
  exact knF (mb := m_both) h sc_both (fun _ _ _ _ _ _ us hl => match us, hl with | [_, _], _ => rfl) (fun f cdv A outer s H E hr => ⟨_, (pss_cons (ps_expr (k_check_same.call hr (by decide) (by rfl) (pa_cons (pv 0) (pa_cons (pv 1) pa_nil))))
      (pss_cons (ps_set (i := 2) sc_both.nd rfl (Or.inl rfl) (pe_lst pa_nil))
      (pss_cons (ps_for PassesOwn.never rfl (pi_seq (pe_ix ix_two (pv 0) pe_int (fun _ _ => rfl))) (pg_name (i := 3) sc_both.nd rfl (Or.inr rfl))
      (pss_one (ps_expr (pe_bm PySem.F.plainAttrs_list PySem.F.slot_list_extend PySem.F.type_list_extend mt_extend (pv 2) (pa_cons (pe_lc (own := [("its", 4)]) rfl sc_both.nd (pi_seq (pe_ix ix_two (pv 1) pe_int (fun _ _ => rfl))) (blkOk_by (own := [("its", 4)]) (by kernel_rfl)) (fun _ _ _ _ _ => (pg_name (i := 4) sc_both.nd rfl (Or.inr rfl))) (fun _ _ _ _ _ => pts_nil) (fun _ _ _ _ _ => (pe_callTy call_tuple_of (by rfl) B.tuple_ (by decide +kernel) (pa_cons (pe_lc (own := [("guest", 5)]) rfl sc_both.nd (pi_seq (pv 3)) (blkOk_by (own := [("guest", 5)]) (by kernel_rfl)) (fun _ _ _ _ _ => (pg_name (i := 5) sc_both.nd rfl (Or.inl rfl))) (fun _ _ _ _ _ => (pts_one (pt_cmpR op_in_seq (pv 5) (pv 4) rfl))) (fun _ _ _ _ _ => (pv 5))) pa_nil)))) pa_nil)))))
      (pss_one (ps_ret (k_company_by.call hr (by decide) (by rfl) (pa_cons (pe_ix ix_two (pv 0) pe_int (fun _ _ => rfl)) (pa_cons (pv 2) pa_nil)))))))),
    ((sdb_seq (sdb_drop (sde_call (sda_cons sde_var (sda_cons sde_var sda_nil)))) (sdb_seq (sdb_set (sde_lst sda_nil)) (sdb_seq (sdb_for (sdif_seq (sde_op sdr_ix sde_var sde_int)) sdg_name.g (sdb_ext (sde_lc (sdi_seq (sde_op sdr_ix sde_var sde_int)) sdg_name sdt_yes (sde_cb sdc_tuple (sdw_cons (sde_lc (sdi_seq sde_var) sdg_name (sdt_val (sde_op (sdr_in false) sde_var sde_var)) sde_var) sdw_nil))))) (sdb_frzB 2 (sdb_ret (sde_call (sda_cons (sde_op sdr_ix sde_var sde_int) (sda_cons sde_var sda_nil))))))))).d⟩) gOf_ok
end
end K15
end
section
set_option Elab.async false
set_option linter.all false
set_option maxRecDepth 100000
set_option maxHeartbeats 4000000
namespace K15
open PySem PySem.Spec PyProof.Rows PySem.W L2 Pd
section
variable [TB] {P : Program} {w : World} {K : PySem.W.Frag} {mg : Str → Option Value} {base : Heap}
theorem sc_signed : FnScope ["company"] ["company"] (defScope s_signed) := ⟨rfl, rfl, rfl, by decide +kernel, rfl, by decide +kernel, by decide +kernel⟩
theorem kn_signed (B : Bn mg) (h : Has K mg "signed" s_signed) (k_check_company : Kn P w K mg base 5 "check_company" ["value"] (spF g_check_company)) (k_signed_of : Kn P w K mg base 6 "signed_of" ["company"] (spF g_signed_of))  : Kn P w K mg base 7 "signed" ["company"] (spF g_signed) := by
  exact knF (mb := m_signed) h sc_signed (fun _ _ _ _ _ _ us hl => match us, hl with | [_], _ => rfl) (fun f cdv A outer s H E hr => ⟨_, (pss_cons (ps_expr (k_check_company.call hr (by decide) (by rfl) (pa_cons (pv 0) pa_nil)))
      (pss_one (ps_ret (k_signed_of.call hr (by decide) (by rfl) (pa_cons (pv 0) pa_nil))))),
    ((sdb_seq (sdb_drop (sde_call (sda_cons sde_var sda_nil))) (sdb_ret (sde_call (sda_cons sde_var sda_nil))))).d⟩) gOf_ok
end
end K15
end
section
set_option Elab.async false
set_option linter.all false
set_option maxRecDepth 100000
set_option maxHeartbeats 4000000
namespace K15
open PySem PySem.Spec PyProof.Rows PySem.W L2 Pd
section
variable [TB] {P : Program} {w : World} {K : PySem.W.Frag} {mg : Str → Option Value} {base : Heap}
theorem sc_sign_above : FnScope ["company", "lot"] ["company", "lot"] (defScope s_sign_above) := ⟨rfl, rfl, rfl, by decide +kernel, rfl, by decide +kernel, by decide +kernel⟩
theorem kn_sign_above (B : Bn mg) (h : Has K mg "sign_above" s_sign_above) (k_check_company : Kn P w K mg base 5 "check_company" ["value"] (spF g_check_company)) (k_check_lot : Kn P w K mg base 4 "check_lot" ["company", "value"] (spF g_check_lot)) (k_is_asked : Kn P w K mg base 2 "is_asked" ["company", "lot"] (spF g_is_asked)) (k_link_of : Kn P w K mg base 4 "link_of" ["company", "lot"] (spF g_link_of)) (k_signed_of : Kn P w K mg base 6 "signed_of" ["company"] (spF g_signed_of))  : Kn P w K mg base 7 "sign_above" ["company", "lot"] (spF g_sign_above) := by
  exact knF (mb := m_sign_above) h sc_sign_above (fun _ _ _ _ _ _ us hl => match us, hl with | [_, _], _ => rfl) (fun f cdv A outer s H E hr => ⟨_, (pss_cons (ps_expr (k_check_company.call hr (by decide) (by rfl) (pa_cons (pv 0) pa_nil)))
      (pss_cons (ps_expr (k_check_lot.call hr (by decide) (by rfl) (pa_cons (pv 0) (pa_cons (pv 1) pa_nil))))
      (pss_cons (ps_if (pt_not (pt_val (k_is_asked.call hr (by decide) (by rfl) (pa_cons (pv 0) (pa_cons (pv 1) pa_nil))))) pss_never pss_nil)
      (pss_one (ps_ret (pe_un un_neg (k_signed_of.call hr (by decide) (by rfl) (pa_cons (k_link_of.call hr (by decide) (by rfl) (pa_cons (pv 0) (pa_cons (pv 1) pa_nil))) pa_nil)))))))),
    ((sdb_seq (sdb_drop (sde_call (sda_cons sde_var sda_nil))) (sdb_seq (sdb_drop (sde_call (sda_cons sde_var (sda_cons sde_var sda_nil)))) (sdb_seq (sdb_if (sdt_not (sdt_B (sde_call (sda_cons sde_var (sda_cons sde_var sda_nil))))) sdb_never sdb_next) (sdb_ret (sde_un sdu_neg (sde_call (sda_cons (sde_call (sda_cons sde_var (sda_cons sde_var sda_nil))) sda_nil)))))))).d⟩) gOf_ok
end
end K15
end
section
set_option Elab.async false
set_option linter.all false
set_option maxRecDepth 100000
set_option maxHeartbeats 4000000
namespace K15
open PySem PySem.Spec PyProof.Rows PySem.W L2 Pd
section
variable [TB] {P : Program} {w : World} {K : PySem.W.Frag} {mg : Str → Option Value} {base : Heap}
theorem sc_summed : FnScope ["company", "numbers"] ["company", "numbers"] (defScope s_summed) := ⟨rfl, rfl, rfl, by decide +kernel, rfl, by decide +kernel, by decide +kernel⟩
theorem kn_summed (B : Bn mg) (h : Has K mg "summed" s_summed) (k_check_numbers : Kn P w K mg base 6 "check_numbers" ["company", "value"] (spF g_check_numbers)) (k_along : Kn P w K mg base 4 "along" ["lots", "numbers", "sign", "guests"] (spF g_along))  : Kn P w K mg base 7 "summed" ["company", "numbers"] (spF g_summed) := by
  exact knF (mb := m_summed) h sc_summed (fun _ _ _ _ _ _ us hl => match us, hl with | [_, _], _ => rfl) (fun f cdv A outer s H E hr => ⟨_, (pss_one (ps_ret (k_along.call hr (by decide) (by rfl) (pa_cons (k_check_numbers.call hr (by decide) (by rfl) (pa_cons (pv 0) (pa_cons (pv 1) pa_nil))) (pa_cons (pv 1) (pa_cons pe_int (pa_cons (pe_ix ix_two (pv 0) pe_int (fun _ _ => rfl)) pa_nil))))))),
    ((sdb_ret (sde_call (sda_cons (sde_call (sda_cons sde_var (sda_cons sde_var sda_nil))) (sda_cons sde_var (sda_cons sde_int (sda_cons (sde_op sdr_ix sde_var sde_int) sda_nil))))))).d⟩) gOf_ok
end
end K15
end
section
set_option Elab.async false
set_option linter.all false
set_option maxRecDepth 100000
set_option maxHeartbeats 4000000
namespace K15
open PySem PySem.Spec PyProof.Rows PySem.W L2 Pd
section
variable [TB] {P : Program} {w : World} {K : PySem.W.Frag} {mg : Str → Option Value} {base : Heap}
theorem sc_unsummed : FnScope ["company", "numbers"] ["company", "numbers"] (defScope s_unsummed) := ⟨rfl, rfl, rfl, by decide +kernel, rfl, by decide +kernel, by decide +kernel⟩
theorem kn_unsummed (B : Bn mg) (h : Has K mg "unsummed" s_unsummed) (k_check_numbers : Kn P w K mg base 6 "check_numbers" ["company", "value"] (spF g_check_numbers)) (k_along : Kn P w K mg base 4 "along" ["lots", "numbers", "sign", "guests"] (spF g_along))  : Kn P w K mg base 7 "unsummed" ["company", "numbers"] (spF g_unsummed) := by
  exact knF (mb := m_unsummed) h sc_unsummed (fun _ _ _ _ _ _ us hl => match us, hl with | [_, _], _ => rfl) (fun f cdv A outer s H E hr => ⟨_, (pss_one (ps_ret (k_along.call hr (by decide) (by rfl) (pa_cons (k_check_numbers.call hr (by decide) (by rfl) (pa_cons (pv 0) (pa_cons (pv 1) pa_nil))) (pa_cons (pv 1) (pa_cons (pe_un un_neg pe_int) (pa_cons (pe_ix ix_two (pv 0) pe_int (fun _ _ => rfl)) pa_nil))))))),
    ((sdb_ret (sde_call (sda_cons (sde_call (sda_cons sde_var (sda_cons sde_var sda_nil))) (sda_cons sde_var (sda_cons (sde_un sdu_neg sde_int) (sda_cons (sde_op sdr_ix sde_var sde_int) sda_nil))))))).d⟩) gOf_ok
end
end K15
end
section
set_option Elab.async false
set_option linter.all false
set_option maxRecDepth 100000
set_option maxHeartbeats 4000000
namespace K15
open PySem PySem.Spec PyProof.Rows PySem.W L2 Pd
section
variable [TB] {P : Program} {w : World} {K : PySem.W.Frag} {mg : Str → Option Value} {base : Heap}
theorem sc_law_right : FnScope ["pot", "company", "lots", "worths", "lot", "told", "at", "other", "values", "value", "numbers", "known", "sums", "back", "whole", "second", "both_sum", "guest", "parts", "number", "part", "row"] ["pot"] (defScope s_law_right) := ⟨rfl, rfl, rfl, by decide +kernel, rfl, by decide +kernel, by decide +kernel⟩
theorem kn_law_right (B : Bn mg) (h : Has K mg "_law_right" s_law_right) (k_link : Kn P w K mg base 6 "link" ["company", "lot"] (spF g_link)) (k_without : Kn P w K mg base 6 "without" ["company", "lot"] (spF g_without)) (k_either : Kn P w K mg base 7 "either" ["one", "other"] (spF g_either)) (k_both : Kn P w K mg base 7 "both" ["one", "other"] (spF g_both)) (k_signed : Kn P w K mg base 7 "signed" ["company"] (spF g_signed)) (k_sign_above : Kn P w K mg base 7 "sign_above" ["company", "lot"] (spF g_sign_above)) (k_least_sums : Kn P w K mg base 6 "least_sums" ["company"] (spF g_least_sums)) (k_shows_sums : Kn P w K mg base 6 "shows_sums" ["company", "value"] (spF g_shows_sums)) (k_sum_by : Kn P w K mg base 6 "sum_by" ["company", "worths"] (spF g_sum_by)) (k_summed : Kn P w K mg base 7 "summed" ["company", "numbers"] (spF g_summed)) (k_unsummed : Kn P w K mg base 7 "unsummed" ["company", "numbers"] (spF g_unsummed)) (k_law_take : Kn P w K mg base 1 "_law_take" ["pot", "upto"] (spP g_law_take)) (k_law_of : Kn P w K mg base 2 "_law_of" ["pot", "some"] (spP g_law_of)) (k_law_parts : Kn P w K mg base 1 "_law_parts" ["lot"] (spF g_law_parts)) (k_law_company : Kn P w K mg base 2 "_law_company" ["guests", "lots"] (spF g_law_company)) (k_law_lots : Kn P w K mg base 2 "_law_lots" ["company"] (spF g_law_lots)) (k_law_drawn : Kn P w K mg base 3 "_law_drawn" ["pot", "least", "most"] (spP g_law_drawn)) (k_law_link : Kn P w K mg base 3 "_law_link" ["company", "lot"] (spF g_law_link)) (k_law_product : Kn P w K mg base 1 "_law_product" ["lot", "worths"] (spF g_law_product)) (k_law_signed : Kn P w K mg base 3 "_law_signed" ["company"] (spF g_law_signed)) (k_law_least_sums : Kn P w K mg base 5 "_law_least_sums" ["company"] (spF g_law_least_sums)) (k_law_is_sums : Kn P w K mg base 4 "_law_is_sums" ["company", "value"] (spF g_law_is_sums)) (k_law_all_sums : Kn P w K mg base 4 "_law_all_sums" ["company"] (spF g_law_all_sums))  : Kn P w K mg base 8 "_law_right" ["pot"] (spP g_law_right) := by
  exact knP (mb := m_law_right) h sc_law_right (fun _ _ _ _ _ _ us hl => match us, hl with | [_], _ => rfl) (fun f cdv A outer s H E hr => ⟨_, (pss_cons (ps_set (i := 1) sc_law_right.nd rfl (Or.inl rfl) (k_law_drawn.call hr (by decide) (by rfl) (pa_cons (pv 0) (pa_cons pe_int (pa_cons pe_int pa_nil)))))
      (pss_cons (ps_set (i := 2) sc_law_right.nd rfl (Or.inr rfl) (pe_callB (cr_sumL rfl) (by rfl) B.sum_ (by decide +kernel) (pa_cons (k_law_lots.call hr (by decide) (by rfl) (pa_cons (pv 1) pa_nil)) (pa_cons (pe_lst pa_nil) pa_nil))))
      (pss_cons (ps_if (pt_cmpR (op_neD hr.units) (k_signed.call hr (by decide) (by rfl) (pa_cons (pv 1) pa_nil)) (k_law_signed.call hr (by decide) (by rfl) (pa_cons (pv 1) pa_nil)) (nomark _)) (pss_one (ps_ret pe_bl)) pss_nil)
      (pss_cons (ps_set (i := 3) sc_law_right.nd rfl (Or.inr rfl) (pe_callTy call_tuple_of (by rfl) B.tuple_ (by decide +kernel) (pa_cons (pe_lc (own := [("guest", 17)]) rfl sc_law_right.nd (pi_range1 (by rfl) B.range_ (pa_cons (pe_ix ix_two (pv 1) pe_int (fun _ _ => rfl)) pa_nil)) (blkOk_by (own := [("guest", 17)]) (by kernel_rfl)) (fun _ _ _ _ _ => (pg_name (i := 17) sc_law_right.nd rfl (Or.inl rfl))) (fun _ _ _ _ _ => pts_nil) (fun _ _ _ _ _ => (k_law_of.call hr (by decide) (by rfl) (pa_cons (pv 0) (pa_cons (pe_lst (pa_cons pe_int (pa_cons pe_int (pa_cons (pe_un un_neg pe_int) (pa_cons pe_int (pa_cons (pe_un un_neg pe_int) (pa_cons pe_int pa_nil))))))) pa_nil))))) pa_nil)))
      (pss_cons (ps_if (pt_cmpR (op_neD hr.units) (k_sum_by.call hr (by decide) (by rfl) (pa_cons (pv 1) (pa_cons (pv 3) pa_nil))) (pe_callB (cr_sum rfl) (by rfl) B.sum_ (by decide +kernel) (pa_cons (pe_lc (own := [("lot", 4)]) rfl sc_law_right.nd (pi_seq (pv 2)) (blkOk_by (own := [("lot", 4)]) (by kernel_rfl)) (fun _ _ _ _ _ => (pg_name (i := 4) sc_law_right.nd rfl (Or.inl rfl))) (fun _ _ _ _ _ => pts_nil) (fun _ _ _ _ _ => (k_law_product.call hr (by decide) (by rfl) (pa_cons (pv 4) (pa_cons (pv 3) pa_nil))))) pa_nil)) (nomark _)) (pss_one (ps_ret pe_bl)) pss_nil)
      (pss_cons (ps_for PassesOwn.never rfl (pi_seq (pe_slice sl_two (pv 2) po_none (po_some (k_law_take.call hr (by decide) (by rfl) (pa_cons (pv 0) (pa_cons pe_int pa_nil)))))) (pg_name (i := 4) sc_law_right.nd rfl (Or.inr rfl))
      (pss_one (ps_if (pt_cmpR (op_neD hr.units) (k_sign_above.call hr (by decide) (by rfl) (pa_cons (pv 1) (pa_cons (pv 4) pa_nil))) (pe_un un_neg (k_law_signed.call hr (by decide) (by rfl) (pa_cons (k_law_link.call hr (by decide) (by rfl) (pa_cons (pv 1) (pa_cons (pv 4) pa_nil))) pa_nil))) (nomark _)) (pss_one (ps_ret pe_bl)) pss_nil)))
      (pss_cons (ps_set (i := 5) sc_law_right.nd rfl (Or.inl rfl) (k_least_sums.call hr (by decide) (by rfl) (pa_cons (pv 1) pa_nil)))
      (pss_cons (ps_if (PW.pt (pw_or (pt_cmpR (op_neD hr.units) (pv 5) (k_law_least_sums.call hr (by decide) (by rfl) (pa_cons (pv 1) pa_nil)) (nomark _)) (pw_or1 (pt_not (pt_val (k_law_is_sums.call hr (by decide) (by rfl) (pa_cons (pv 1) (pa_cons (pv 5) pa_nil)))))))) (pss_one (ps_ret pe_bl)) pss_nil)
      (pss_cons (ps_set (i := 6) sc_law_right.nd rfl (Or.inl rfl) (k_law_take.call hr (by decide) (by rfl) (pa_cons (pv 0) (pa_cons (pe_callB call_len_seq (by rfl) B.len_ (by decide +kernel) (pa_cons (pv 5) pa_nil)) pa_nil))))
      (pss_cons (ps_asg (pe_ix ix_two (pv 5) (pv 6) (fun _ _ => rfl)) (pg_tup (by rfl) (pgs_cons (pg_name (i := 4) sc_law_right.nd rfl (Or.inr rfl)) (pgs_cons (pg_name (i := 19) sc_law_right.nd rfl (Or.inl rfl)) pgs_nil))))
      (pss_cons (ps_set (i := 7) sc_law_right.nd rfl (Or.inr rfl) (k_law_of.call hr (by decide) (by rfl) (pa_cons (pv 0) (pa_cons (pv 2) pa_nil))))
      (pss_cons (ps_set (i := 8) sc_law_right.nd rfl (Or.inl rfl) (pe_lst (pa_cons (pv 5) (pa_cons (k_law_all_sums.call hr (by decide) (by rfl) (pa_cons (pv 1) pa_nil)) (pa_cons (pe_op op_add3 (pe_slice sl_two (pv 5) po_none (po_some (pv 6))) (pe_slice sl_two (pv 5) (po_some (pe_op op_add3 (pv 6) pe_int)) po_none)) (pa_cons (pe_op op_add3 (pe_op op_add3 (pe_slice sl_two (pv 5) po_none (po_some (pv 6))) (pe_tup (pa_cons (pe_tup (pa_cons (pv 4) (pa_cons (pe_op op_add3 (pv 19) pe_int) pa_nil))) pa_nil))) (pe_slice sl_two (pv 5) (po_some (pe_op op_add3 (pv 6) pe_int)) po_none)) pa_nil))))))
      (pss_cons (ps_expr (pe_bm PySem.F.plainAttrs_list PySem.F.slot_list_append PySem.F.type_list_append mt_append (pv 8) (pa_cons (pe_callTy call_tuple_of (by rfl) B.tuple_ (by decide +kernel) (pa_cons (pe_callB (cr_srt hr.units) (by rfl) B.sorted_ (by decide +kernel) (pa_cons (pe_op op_add3 (pe_lc (own := [("row", 21)]) rfl sc_law_right.nd (pi_seq (pv 5)) (blkOk_by (own := [("row", 21)]) (by kernel_rfl)) (fun _ _ _ _ _ => (pg_name (i := 21) sc_law_right.nd rfl (Or.inl rfl))) (fun _ _ _ _ _ => (pts_one (pt_cmpR (op_neD hr.units) (pe_ix ix_two (pv 21) pe_int (fun _ _ => rfl)) (pv 7) (nomark _)))) (fun _ _ _ _ _ => (pv 21))) (pe_lst (pa_cons (pe_tup (pa_cons (pv 7) (pa_cons (pe_op op_sub (k_law_take.call hr (by decide) (by rfl) (pa_cons (pv 0) (pa_cons pe_int pa_nil))) pe_int) pa_nil))) pa_nil))) pa_nil)) pa_nil)) pa_nil)))
      (pss_cons (ps_for PassesOwn.never rfl (pi_seq (pv 8)) (pg_name (i := 9) sc_law_right.nd rfl (Or.inl rfl))
      (pss_one (ps_if (pt_cmpR (op_neD hr.units) (pe_callB call_reprB (by rfl) B.repr_ (by decide +kernel) (pa_cons (k_shows_sums.call hr (by decide) (by rfl) (pa_cons (pv 1) (pa_cons (pv 9) pa_nil))) pa_nil)) (pe_callB call_reprB (by rfl) B.repr_ (by decide +kernel) (pa_cons (k_law_is_sums.call hr (by decide) (by rfl) (pa_cons (pv 1) (pa_cons (pv 9) pa_nil))) pa_nil)) (nomark _)) (pss_one (ps_ret pe_bl)) pss_nil)))
      (pss_cons (ps_set (i := 10) sc_law_right.nd rfl (Or.inl rfl) (pe_callTy call_tuple_of (by rfl) B.tuple_ (by decide +kernel) (pa_cons (pe_lc (own := [("lot", 4)]) rfl sc_law_right.nd (pi_seq (pv 2)) (blkOk_by (own := [("lot", 4)]) (by kernel_rfl)) (fun _ _ _ _ _ => (pg_name (i := 4) sc_law_right.nd rfl (Or.inl rfl))) (fun _ _ _ _ _ => pts_nil) (fun _ _ _ _ _ => (k_law_of.call hr (by decide) (by rfl) (pa_cons (pv 0) (pa_cons (pe_lst (pa_cons pe_int (pa_cons pe_int (pa_cons (pe_un un_neg pe_int) (pa_cons (pe_op op_powW pe_int pe_int) (pa_cons (k_law_take.call hr (by decide) (by rfl) (pa_cons (pv 0) (pa_cons pe_int pa_nil))) pa_nil)))))) pa_nil))))) pa_nil)))
      (pss_cons (ps_set (i := 11) sc_law_right.nd rfl (Or.inr rfl) (pe_callTy (cr_dictL rfl hr.units) (by rfl) B.dict_ (by decide +kernel) (pa_cons (pe_lzip rfl (by rfl) B.list_ (by rfl) B.zip_ (pa_cons (pv 2) (pa_cons (pv 10) pa_nil))) pa_nil)))
      (pss_cons (ps_set (i := 12) sc_law_right.nd rfl (Or.inr rfl) (pe_callTy call_tuple_of (by rfl) B.tuple_ (by decide +kernel) (pa_cons (pe_lc (own := [("lot", 4)]) rfl sc_law_right.nd (pi_seq (pv 2)) (blkOk_by (own := [("lot", 4)]) (by kernel_rfl)) (fun _ _ _ _ _ => (pg_name (i := 4) sc_law_right.nd rfl (Or.inl rfl))) (fun _ _ _ _ _ => pts_nil) (fun _ _ _ _ _ => (pe_callB (cr_sum rfl) (by rfl) B.sum_ (by decide +kernel) (pa_cons (pe_lc (own := [("part", 20)]) rfl sc_law_right.nd (pi_seq (k_law_parts.call hr (by decide) (by rfl) (pa_cons (pv 4) pa_nil))) (blkOk_by (own := [("part", 20)]) (by kernel_rfl)) (fun _ _ _ _ _ => (pg_name (i := 20) sc_law_right.nd rfl (Or.inl rfl))) (fun _ _ _ _ _ => pts_nil) (fun _ _ _ _ _ => (pe_dget (hu_of hr) (pv 11) (pv 20) (fun _ _ => rfl)))) pa_nil)))) pa_nil)))
      (pss_cons (ps_if (PW.pt (pw_or (pt_cmpR (op_neD hr.units) (k_summed.call hr (by decide) (by rfl) (pa_cons (pv 1) (pa_cons (pv 10) pa_nil))) (pv 12) (nomark _)) (pw_or1 (pt_cmpR (op_neD hr.units) (k_unsummed.call hr (by decide) (by rfl) (pa_cons (pv 1) (pa_cons (pv 12) pa_nil))) (pv 10) (nomark _))))) (pss_one (ps_ret pe_bl)) pss_nil)
      (pss_cons (ps_set (i := 13) sc_law_right.nd rfl (Or.inl rfl) (pe_lst pa_nil))
      (pss_cons (ps_for PassesOwn.never rfl (pi_seq (pv 2)) (pg_name (i := 4) sc_law_right.nd rfl (Or.inr rfl))
      (pss_one (ps_expr (pe_bm PySem.F.plainAttrs_list PySem.F.slot_list_append PySem.F.type_list_append mt_append (pv 13) (pa_cons (pe_callB (cr_sum rfl) (by rfl) B.sum_ (by decide +kernel) (pa_cons (pe_lc (own := [("part", 20)]) rfl sc_law_right.nd (pi_seq (k_law_parts.call hr (by decide) (by rfl) (pa_cons (pv 4) pa_nil))) (blkOk_by (own := [("part", 20)]) (by kernel_rfl)) (fun _ _ _ _ _ => (pg_name (i := 20) sc_law_right.nd rfl (Or.inl rfl))) (fun _ _ _ _ _ => pts_nil) (fun _ _ _ _ _ => (pe_op op_mul (pe_dget (hu_of hr) (pv 11) (pv 20) (fun _ _ => rfl)) (pe_ifExp (pt_cmpR (op_eqD hr.units) (pe_op op_mod (pe_op op_sub (pe_callB call_len_seq (by rfl) B.len_ (by decide +kernel) (pa_cons (pv 4) pa_nil)) (pe_callB call_len_seq (by rfl) B.len_ (by decide +kernel) (pa_cons (pv 20) pa_nil))) pe_int) pe_int (nomark _)) pe_int (pe_un un_neg pe_int))))) pa_nil)) pa_nil)))))
      (pss_cons (ps_if (PW.pt (pw_or (pt_cmpR (op_neD hr.units) (k_unsummed.call hr (by decide) (by rfl) (pa_cons (pv 1) (pa_cons (pv 10) pa_nil))) (pe_callTy call_tuple_of (by rfl) B.tuple_ (by decide +kernel) (pa_cons (pv 13) pa_nil)) (nomark _)) (pw_or1 (pt_cmpR (op_neD hr.units) (k_summed.call hr (by decide) (by rfl) (pa_cons (pv 1) (pa_cons (pe_callTy call_tuple_of (by rfl) B.tuple_ (by decide +kernel) (pa_cons (pv 13) pa_nil)) pa_nil))) (pv 10) (nomark _))))) (pss_one (ps_ret pe_bl)) pss_nil)
      (pss_cons (ps_set (i := 14) sc_law_right.nd rfl (Or.inl rfl) (pe_callB (cr_sum rfl) (by rfl) B.sum_ (by decide +kernel) (pa_cons (pe_lc (own := [("lot", 4), ("number", 19)]) (g := gTup K 2 (gCons (gName 4) (gCons (gName 19) gNil))) rfl sc_law_right.nd (pi_seq (pv 5)) (blkOk_by (own := [("lot", 4), ("number", 19)]) (by kernel_rfl)) (fun _ _ _ _ _ => (pg_tup (by rfl) (pgs_cons (pg_name (i := 4) sc_law_right.nd rfl (Or.inl rfl)) (pgs_cons (pg_name (i := 19) sc_law_right.nd rfl (Or.inl rfl)) pgs_nil)))) (fun _ _ _ _ _ => pts_nil) (fun _ _ _ _ _ => (pe_op op_mul (pv 19) (pe_ix ix_two (pv 12) (pe_bm PySem.F.plainAttrs_list PySem.F.slot_list_index PySem.F.type_list_index (mt_indexD (hu65 hr)) (pv 2) (pa_cons (pv 4) pa_nil)) (fun _ _ => rfl))))) pa_nil)))
      (pss_cons (ps_if (pt_cmpR (op_neD hr.units) (pv 14) (pe_callB (cr_sumT rfl) (by rfl) B.sum_ (by decide +kernel) (pa_cons (pv 10) pa_nil)) (nomark _)) (pss_one (ps_ret pe_bl)) pss_nil)
      (pss_cons (ps_set (i := 15) sc_law_right.nd rfl (Or.inl rfl) (k_law_company.call hr (by decide) (by rfl) (pa_cons (pe_ix ix_two (pv 1) pe_int (fun _ _ => rfl)) (pa_cons (pe_ix ix_two (k_law_drawn.call hr (by decide) (by rfl) (pa_cons (pv 0) (pa_cons (pe_ix ix_two (pv 1) pe_int (fun _ _ => rfl)) (pa_cons (pe_ix ix_two (pv 1) pe_int (fun _ _ => rfl)) pa_nil)))) pe_int (fun _ _ => rfl)) pa_nil))))
      (pss_cons (ps_set (i := 16) sc_law_right.nd rfl (Or.inl rfl) (pe_op op_add3 (k_sum_by.call hr (by decide) (by rfl) (pa_cons (k_either.call hr (by decide) (by rfl) (pa_cons (pv 1) (pa_cons (pv 15) pa_nil))) (pa_cons (pv 3) pa_nil))) (k_sum_by.call hr (by decide) (by rfl) (pa_cons (k_both.call hr (by decide) (by rfl) (pa_cons (pv 1) (pa_cons (pv 15) pa_nil))) (pa_cons (pv 3) pa_nil)))))
      (pss_cons (ps_if (pt_cmpR (op_neD hr.units) (pv 16) (pe_op op_add3 (k_sum_by.call hr (by decide) (by rfl) (pa_cons (pv 1) (pa_cons (pv 3) pa_nil))) (k_sum_by.call hr (by decide) (by rfl) (pa_cons (pv 15) (pa_cons (pv 3) pa_nil)))) (nomark _)) (pss_one (ps_ret pe_bl)) pss_nil)
      (pss_cons (ps_set (i := 17) sc_law_right.nd rfl (Or.inl rfl) (k_law_take.call hr (by decide) (by rfl) (pa_cons (pv 0) (pa_cons (pe_ix ix_two (pv 1) pe_int (fun _ _ => rfl)) pa_nil))))
      (pss_cons (ps_set (i := 18) sc_law_right.nd rfl (Or.inl rfl) (pe_op op_add3 (k_sum_by.call hr (by decide) (by rfl) (pa_cons (k_without.call hr (by decide) (by rfl) (pa_cons (pv 1) (pa_cons (pe_tup (pa_cons (pv 17) pa_nil)) pa_nil))) (pa_cons (pv 3) pa_nil))) (pe_op op_mul (pe_ix ix_two (pv 3) (pv 17) (fun _ _ => rfl)) (k_sum_by.call hr (by decide) (by rfl) (pa_cons (k_link.call hr (by decide) (by rfl) (pa_cons (pv 1) (pa_cons (pe_tup (pa_cons (pv 17) pa_nil)) pa_nil))) (pa_cons (pv 3) pa_nil))))))
      (pss_one (ps_ret (pe_cmpR (op_eqD hr.units) (k_sum_by.call hr (by decide) (by rfl) (pa_cons (pv 1) (pa_cons (pv 3) pa_nil))) (pv 18) (nomark _)))))))))))))))))))))))))))))))),
    ((sdb_seq (sdb_set (sde_callP (sda_cons sde_int (sda_cons sde_int sda_nil)))) (sdb_seq (sdb_frzB 1 (sdb_set (sde_cb sdc_sumL (sdw_cons (sde_call (sda_cons sde_var sda_nil)) (sdw_cons (sde_lst sda_nil) sdw_nil))))) (sdb_seq (sdb_frzB 1 (sdb_if (sdt_val (sde_op sdr_ne (sde_call (sda_cons sde_var sda_nil)) (sde_call (sda_cons sde_var sda_nil)))) (sdb_ret sde_bl) sdb_next)) (sdb_seq (sdb_set (sde_cb sdc_tuple (sdw_cons (sde_lc (SIF.i (sdif_rng1 (sdw_cons (sde_op sdr_ix sde_var sde_int) sdw_nil))) sdg_name sdt_yes (sde_callP (sda_cons (sde_lst (sda_cons sde_int (sda_cons sde_int (sda_cons (sde_un sdu_neg sde_int) (sda_cons sde_int (sda_cons (sde_un sdu_neg sde_int) (sda_cons sde_int sda_nil))))))) sda_nil))) sdw_nil))) (sdb_seq (sdb_frzB 1 (sdb_if (sdt_val (sde_op sdr_ne (sde_call (sda_cons sde_var (sda_cons sde_var sda_nil))) (sde_cb sdc_sum (sdw_cons (sde_lc (sdi_seq sde_var) sdg_name sdt_yes (sde_call (sda_cons sde_var (sda_cons sde_var sda_nil)))) sdw_nil)))) (sdb_ret sde_bl) sdb_next)) (sdb_seq (sdb_for (sdif_seq (sde_sl sde_var sdo_none (sdo_some (sde_callP (sda_cons sde_int sda_nil))))) sdg_name.g (sdb_frzB 1 (sdb_if (sdt_val (sde_op sdr_ne (sde_call (sda_cons sde_var (sda_cons sde_var sda_nil))) (sde_un sdu_neg (sde_call (sda_cons (sde_call (sda_cons sde_var (sda_cons sde_var sda_nil))) sda_nil))))) (sdb_ret sde_bl) sdb_next))) (sdb_seq (sdb_frzB 1 (sdb_set (sde_call (sda_cons sde_var sda_nil)))) (sdb_seq (sdb_frzB 5 (sdb_frzB 1 (sdb_if (sdt_or (sdt_val (sde_op sdr_ne sde_var (sde_call (sda_cons sde_var sda_nil)))) (sdt_not (sdt_B (sde_call (sda_cons sde_var (sda_cons sde_var sda_nil)))))) (sdb_ret sde_bl) sdb_next))) (sdb_seq (sdb_set (sde_callP (sda_cons (sde_cb sdc_len (sdw_cons sde_var sdw_nil)) sda_nil))) (sdb_seq (sdb_asg (sde_op sdr_ix sde_var sde_var) sdg_two.g) (sdb_seq (sdb_frzB 2 (sdb_set (sde_callP (sda_cons sde_var sda_nil)))) (sdb_seq (sdb_frzB 1 (sdb_set (sde_lst (sda_cons sde_var (sda_cons (sde_call (sda_cons sde_var sda_nil)) (sda_cons (sde_op sdr_add (sde_sl sde_var sdo_none (sdo_some sde_var)) (sde_sl sde_var (sdo_some (sde_op sdr_add sde_var sde_int)) sdo_none)) (sda_cons (sde_op sdr_add (sde_op sdr_add (sde_sl sde_var sdo_none (sdo_some sde_var)) (sde_tup (sda_cons (sde_tup (sda_cons sde_var (sda_cons (sde_op sdr_add sde_var sde_int) sda_nil))) sda_nil))) (sde_sl sde_var (sdo_some (sde_op sdr_add sde_var sde_int)) sdo_none)) sda_nil))))))) (sdb_seq (sdb_app (sde_cb sdc_tuple (sdw_cons (sde_cb sdc_sorted (sdw_cons (sde_op sdr_add (sde_lc (sdi_seq sde_var) sdg_name (sdt_val (sde_op sdr_ne (sde_op sdr_ix sde_var sde_int) sde_var)) sde_var) (sde_lst (sda_cons (sde_tup (sda_cons sde_var (sda_cons (sde_op sdr_I (sde_callP (sda_cons sde_int sda_nil)) sde_int) sda_nil))) sda_nil))) sdw_nil)) sdw_nil))) (sdb_seq (sdb_frzB 8 (sdb_for (sdif_seq sde_var) sdg_name.g (sdb_frzB 1 (sdb_if (sdt_val (sde_op sdr_ne (sde_cb sdc_reprB (sdw_cons (sde_call (sda_cons sde_var (sda_cons sde_var sda_nil))) sdw_nil)) (sde_cb sdc_reprB (sdw_cons (sde_call (sda_cons sde_var (sda_cons sde_var sda_nil))) sdw_nil)))) (sdb_ret sde_bl) sdb_next)))) (sdb_seq (sdb_set (sde_cb sdc_tuple (sdw_cons (sde_lc (sdi_seq sde_var) sdg_name sdt_yes (sde_callP (sda_cons (sde_lst (sda_cons sde_int (sda_cons sde_int (sda_cons (sde_un sdu_neg sde_int) (sda_cons (sde_op sdr_powW sde_int sde_int) (sda_cons (sde_callP (sda_cons sde_int sda_nil)) sda_nil)))))) sda_nil))) sdw_nil))) (sdb_seq (sdb_set (sde_dictL (sde_lzip (sdw_cons sde_var (sdw_cons sde_var sdw_nil))))) (sdb_seq (sdb_set (sde_cb sdc_tuple (sdw_cons (sde_lc (sdi_seq sde_var) sdg_name sdt_yes (sde_cb sdc_sum (sdw_cons (sde_lc (sdi_seq (sde_call (sda_cons sde_var sda_nil))) sdg_name sdt_yes (sde_dget sde_var sde_var)) sdw_nil))) sdw_nil))) (sdb_seq (sdb_frzB 1 (sdb_if (sdt_or (sdt_val (sde_op sdr_ne (sde_call (sda_cons sde_var (sda_cons sde_var sda_nil))) sde_var)) (sdt_val (sde_op sdr_ne (sde_call (sda_cons sde_var (sda_cons sde_var sda_nil))) sde_var))) (sdb_ret sde_bl) sdb_next)) (sdb_seq (sdb_set (sde_lst sda_nil)) (sdb_seq (sdb_frzB 2 (sdb_for (sdif_seq sde_var) sdg_name.g (sdb_app (sde_cb sdc_sum (sdw_cons (sde_lc (sdi_seq (sde_call (sda_cons sde_var sda_nil))) sdg_name sdt_yes (sde_op sdr_mul (sde_dget sde_var sde_var) (sde_if (sdt_val (sde_op sdr_eq (sde_op sdr_mod (sde_op sdr_I (sde_cb sdc_len (sdw_cons sde_var sdw_nil)) (sde_cb sdc_len (sdw_cons sde_var sdw_nil))) sde_int) sde_int)) sde_int (sde_un sdu_neg sde_int)))) sdw_nil))))) (sdb_seq (sdb_frzB 1 (sdb_if (sdt_or (sdt_val (sde_op sdr_ne (sde_call (sda_cons sde_var (sda_cons sde_var sda_nil))) (sde_cb sdc_tuple (sdw_cons sde_var sdw_nil)))) (sdt_val (sde_op sdr_ne (sde_call (sda_cons sde_var (sda_cons (sde_cb sdc_tuple (sdw_cons sde_var sdw_nil)) sda_nil))) sde_var))) (sdb_ret sde_bl) sdb_next)) (sdb_seq (sdb_set (sde_cb sdc_sum (sdw_cons (sde_lc (sdi_seq sde_var) sdg_two sdt_yes (sde_op sdr_mul sde_var (sde_op sdr_ix sde_var (sde_index sde_var sde_var)))) sdw_nil))) (sdb_seq (sdb_if (sdt_val (sde_op sdr_ne sde_var (sde_cb sdc_sumT (sdw_cons sde_var sdw_nil)))) (sdb_ret sde_bl) sdb_next) (sdb_seq (sdb_set (sde_call (sda_cons (sde_op sdr_ix sde_var sde_int) (sda_cons (sde_op sdr_ix (sde_callP (sda_cons (sde_op sdr_ix sde_var sde_int) (sda_cons (sde_op sdr_ix sde_var sde_int) sda_nil))) sde_int) sda_nil)))) (sdb_seq (sdb_frzB 15 (sdb_frzB 1 (sdb_set (sde_op sdr_add (sde_call (sda_cons (sde_call (sda_cons sde_var (sda_cons sde_var sda_nil))) (sda_cons sde_var sda_nil))) (sde_call (sda_cons (sde_call (sda_cons sde_var (sda_cons sde_var sda_nil))) (sda_cons sde_var sda_nil))))))) (sdb_seq (sdb_frzB 15 (sdb_frzB 1 (sdb_if (sdt_val (sde_op sdr_ne sde_var (sde_op sdr_add (sde_call (sda_cons sde_var (sda_cons sde_var sda_nil))) (sde_call (sda_cons sde_var (sda_cons sde_var sda_nil)))))) (sdb_ret sde_bl) sdb_next))) (sdb_seq (sdb_set (sde_callP (sda_cons (sde_op sdr_ix sde_var sde_int) sda_nil))) (sdb_seq (sdb_frzB 1 (sdb_set (sde_op sdr_add (sde_call (sda_cons (sde_call (sda_cons sde_var (sda_cons (sde_tup (sda_cons sde_var sda_nil)) sda_nil))) (sda_cons sde_var sda_nil))) (sde_op sdr_mul (sde_op sdr_ix sde_var sde_var) (sde_call (sda_cons (sde_call (sda_cons sde_var (sda_cons (sde_tup (sda_cons sde_var sda_nil)) sda_nil))) (sda_cons sde_var sda_nil))))))) (sdb_frzB 1 (sdb_ret (sde_op sdr_eq (sde_call (sda_cons sde_var (sda_cons sde_var sda_nil))) sde_var)))))))))))))))))))))))))))))))).d⟩) gOfP_ok
end
end K15
end
section
set_option Elab.async false
set_option linter.all false
set_option maxRecDepth 100000
set_option maxHeartbeats 0
namespace K15
open PySem PySem.Spec PyProof.Rows PySem.W L2 Pd
def dOf (n : Str) (s : Stmt) : He.DefD := ⟨(n, none), n, n, defArgs s, defBody s, defScope s, [], []⟩
def fnL : List He.DefD := ([dOf "is_tuple" s_is_tuple, dOf "is_whole" s_is_whole, dOf "is_integer" s_is_integer, dOf "is_rising" s_is_rising, dOf "lot_place" s_lot_place, dOf "is_lot" s_is_lot, dOf "is_within" s_is_within, dOf "greatest_of" s_greatest_of, dOf "parts_of" s_parts_of, dOf "lots_of" s_lots_of, dOf "by_sizes" s_by_sizes, dOf "is_company" s_is_company, dOf "check_company" s_check_company, dOf "check_lot" s_check_lot, dOf "company_by" s_company_by, dOf "is_asked" s_is_asked, dOf "link_of" s_link_of, dOf "link" s_link, dOf "without_of" s_without_of, dOf "without" s_without] : List He.DefD) ++
  ([dOf "check_same" s_check_same, dOf "either" s_either, dOf "both" s_both, dOf "signed_of" s_signed_of, dOf "signed" s_signed, dOf "sign_above" s_sign_above, dOf "meets_of" s_meets_of, dOf "least_rows" s_least_rows, dOf "least_sums" s_least_sums, dOf "is_row" s_is_row, dOf "shows_sums" s_shows_sums, dOf "sum_by" s_sum_by, dOf "check_numbers" s_check_numbers, dOf "along" s_along, dOf "summed" s_summed, dOf "unsummed" s_unsummed, dOf "_law_pot_of" s_law_pot_of, dOf "_law_take" s_law_take, dOf "_law_of" s_law_of, dOf "_law_stir" s_law_stir] : List He.DefD) ++
  ([dOf "_law_parts" s_law_parts, dOf "_law_is_part" s_law_is_part, dOf "_law_company" s_law_company, dOf "_law_lots" s_law_lots, dOf "_law_drawn" s_law_drawn, dOf "_law_link" s_law_link, dOf "_law_known_lots" s_law_known_lots, dOf "_law_product" s_law_product, dOf "_law_signed" s_law_signed, dOf "_law_meets" s_law_meets, dOf "_law_least_sums" s_law_least_sums, dOf "_law_is_sums" s_law_is_sums, dOf "_law_all_sums" s_law_all_sums, dOf "_law_right" s_law_right, dOf "law" s_law] : List He.DefD)
def faL : List He.Fa := ([.glo "is_tuple", .glo "is_whole", .glo "is_integer", .glo "is_rising", .glo "lot_place", .glo "is_lot", .glo "is_within", .glo "greatest_of", .glo "parts_of", .glo "lots_of", .glo "by_sizes", .glo "is_company", .glo "check_company", .glo "check_lot", .glo "company_by", .glo "is_asked", .glo "link_of", .glo "link", .glo "without_of", .glo "without"] : List He.Fa) ++
  ([.glo "check_same", .glo "either", .glo "both", .glo "signed_of", .glo "signed", .glo "sign_above", .glo "meets_of", .glo "least_rows", .glo "least_sums", .glo "is_row", .glo "shows_sums", .glo "sum_by", .glo "check_numbers", .glo "along", .glo "summed", .glo "unsummed", .glo "_law_pot_of", .glo "_law_take", .glo "_law_of", .glo "_law_stir"] : List He.Fa) ++
  ([.glo "_law_parts", .glo "_law_is_part", .glo "_law_company", .glo "_law_lots", .glo "_law_drawn", .glo "_law_link", .glo "_law_known_lots", .glo "_law_product", .glo "_law_signed", .glo "_law_meets", .glo "_law_least_sums", .glo "_law_is_sums", .glo "_law_all_sums", .glo "_law_right", .glo "law", .free "abs", .free "all", .free "any", .free "bool", .free "dict"] : List He.Fa) ++
  ([.free "enumerate", .free "int", .free "isinstance", .free "len", .free "list", .free "max", .free "min", .free "range", .free "repr", .free "set", .free "sorted", .free "sum", .free "tuple", .free "zip", .int "MOST_GUESTS" 10, .int "PAIR_companies" 2, .int "MOST_WORTH" 1000, .int "PAIR_signs" 2] : List He.Fa)
def looseL : List Str := (["is_tuple", "is_whole", "is_integer", "is_rising", "HostError", "BadCompany", "BadLot", "BadRow", "NotLet", "BadWorths", "MOST_GUESTS", "PAIR_companies", "lot_place", "is_lot", "is_within", "greatest_of", "parts_of", "lots_of", "by_sizes", "is_company"] : List Str) ++
  (["check_company", "check_lot", "company_by", "is_asked", "link_of", "link", "without_of", "without", "check_same", "either", "both", "MOST_WORTH", "PAIR_signs", "signed_of", "signed", "sign_above", "meets_of", "least_rows", "least_sums", "is_row"] : List Str) ++
  (["shows_sums", "sum_by", "check_numbers", "along", "summed", "unsummed", "_law_pot_of", "_law_take", "_law_of", "_law_stir", "_law_parts", "_law_is_part", "_law_company", "_law_lots", "_law_drawn", "_law_link", "_law_known_lots", "_law_product", "_law_signed", "_law_meets"] : List Str) ++
  (["_law_least_sums", "_law_is_sums", "_law_all_sums", "_law_right"] : List Str)
abbrev R : PySem.W.OpenRow := PySem.W.OpenLaw.row PySem.Challenge.rw_hollowwithin_k15_whole_sums_over_all_lot
def tfL : List He.Defn := [("meets_of", none), ("along", none), ("_law_meets", none)]
def exB (K : PySem.W.Frag) : Bool := decide (¬ (He.cT K ("meets_of", none)).2 = (He.cT K ("along", none)).2) && decide (¬ (He.cT K ("meets_of", none)).2 = (He.cT K ("_law_meets", none)).2) && decide (¬ (He.cT K ("along", none)).2 = (He.cT K ("_law_meets", none)).2)
abbrev hk : PySem.W.Hook := He.hookX 4 faL fnL [] tfL exB
def ob (s : PySem.W.SharedT) : He.AlX := He.obsX 4 faL fnL [] tfL exB (HandSHeadRun.getT s)
theorem ob_eq (s : PySem.W.SharedT) : ob s = hk.obs s.abs := He.obsX_eq (HandSHeadRun.getT_eq s)
theorem run (w : World) : HandSHeadRun.RunEq R (PySem.W.view R.prog [69]) hk ob 3000 looseL w := by
  intro os
  kernel_rfl
end K15
end
section
set_option Elab.async false
set_option linter.all false
set_option maxRecDepth 100000
set_option maxHeartbeats 0
namespace K15
open PySem PySem.Spec PyProof.Rows PySem.W L2 Pd
/-! ### from the head: each def, its code object, its table -/
section
variable {w : World} {K : PySem.W.Frag} {h : Heap} {mg : Str → Option Value} (X : K.In h) (Gn : h.Ns mainGlobals mg) (c : He.SaysD faL fnL K)
include X Gn c
theorem has_of {x : Str} {st : Stmt} {i j : Nat} (hd : fnL[i]? = some (dOf x st)) (hf : faL[j]? = some (.glo x)) : Has K mg x st := by
  obtain ⟨fd, F⟩ := c.def_ i hd
  exact ⟨_, fd, F, He.glo_ok X Gn (c.fact j hf)⟩
theorem hasL_of {x : Str} {st : Stmt} {i j : Nat} (hd : fnL[i]? = some (dOf x st)) (hf : faL[j]? = some (.glo x)) : HasL K mg x st (He.cT K (x, none)).1 := by
  obtain ⟨fd, F⟩ := c.def_ i hd
  have hm := He.glo_ok X Gn (c.fact j hf)
  have kp := F.kp
  obtain ⟨oc, od, dV, kV, doc, pm, an, cdv, ct, osl, e0, lk, hcd, hd, hk⟩ := F.ex
  obtain ⟨c0, rfl⟩ := He.codeIn_ref hcd
  subst e0
  have e : (He.cT K (x, none)).1 = c0 := He.codeOf_eq (p := (x, none)) lk rfl
  rw [e]
  exact ⟨_, oc, od, dV, kV, doc, pm, an, ct, osl, lk, hcd, hd, hk, kp, hm⟩
theorem bn_of : Bn mg := ⟨He.free_ok X Gn (c.fact 62 (f := .free "isinstance") rfl), He.free_ok X Gn (c.fact 63 (f := .free "len") rfl), He.free_ok X Gn (c.fact 56 (f := .free "all") rfl), He.free_ok X Gn (c.fact 57 (f := .free "any") rfl), He.free_ok X Gn (c.fact 71 (f := .free "sum") rfl), He.free_ok X Gn (c.fact 65 (f := .free "max") rfl), He.free_ok X Gn (c.fact 66 (f := .free "min") rfl), He.free_ok X Gn (c.fact 55 (f := .free "abs") rfl), He.free_ok X Gn (c.fact 61 (f := .free "int") rfl), He.free_ok X Gn (c.fact 58 (f := .free "bool") rfl), He.free_ok X Gn (c.fact 64 (f := .free "list") rfl), He.free_ok X Gn (c.fact 72 (f := .free "tuple") rfl), He.free_ok X Gn (c.fact 70 (f := .free "sorted") rfl), He.free_ok X Gn (c.fact 68 (f := .free "repr") rfl), He.free_ok X Gn (c.fact 69 (f := .free "set") rfl), He.free_ok X Gn (c.fact 59 (f := .free "dict") rfl), He.free_ok X Gn (c.fact 67 (f := .free "range") rfl), He.free_ok X Gn (c.fact 60 (f := .free "enumerate") rfl), He.free_ok X Gn (c.fact 73 (f := .free "zip") rfl)⟩
end
abbrev tT (K : PySem.W.Frag) : List (Addr × Str) := tfL.map fun p => ((He.cT K p).2, (p.1 ++ ".<locals>." ++ "<lambda>" : Str))
abbrev tbK (K : PySem.W.Frag) : TB := ⟨tT K⟩
theorem tT_mem (K : PySem.W.Frag) {x : Str} (hx : (x, none) ∈ tfL) : ((He.cT K (x, none)).2, (x ++ ".<locals>." ++ "<lambda>" : Str)) ∈ tT K := List.mem_map.mpr ⟨(x, none), hx, rfl⟩
theorem tT_uni {K : PySem.W.Frag} (dis : exB K = true) {x : Str} (hx : (x, none) ∈ tfL) {p : Addr × Str} (hp : p ∈ tT K) (e : p.1 = (He.cT K (x, none)).2) : p.2 = (x ++ ".<locals>." ++ "<lambda>" : Str) := by
  obtain ⟨q, hq, rfl⟩ := List.mem_map.mp hp
  have key : ∀ q ∈ tfL, ∀ r ∈ tfL, (He.cT K q).2 = (He.cT K r).2 → q = r := by
    unfold exB at dis
    simp only [Bool.and_eq_true, decide_eq_true_eq] at dis
    intro q hq r hr e
    simp only [tfL, List.mem_cons, List.not_mem_nil, or_false] at hq hr
    rcases hq with rfl | rfl | rfl <;> rcases hr with rfl | rfl | rfl <;> first | rfl | exact absurd e (by simp_all) | exact absurd e.symm (by simp_all)
  have := key q hq (x, none) hx e
  subst this
  rfl
theorem joined {P : Program} {w : World} {K : PySem.W.Frag} {h base : Heap} {mg : Str → Option Value} {f : Addr} {fd : FuncData} (X : K.In h) (Gn : h.Ns mainGlobals mg) (c : He.SaysD faL fnL K) (dis : exB K = true) (tabs : ∀ p ∈ tfL.map (He.cT K), LamX.TabB base mg p.1 p.2)
    (F : FunD K "law" "law" (defArgs s_law) (defBody s_law) (defScope s_law) [] [] f fd) : @FnOk P w K mg base CX0 9 f fd ["script"] (@spLaw (tbK K) K) := by
  letI : TB := tbK K
  have B := bn_of X Gn c
  have k_is_tuple := kn_is_tuple (P := P) (w := w) (base := base) B (has_of X Gn c (i := 0) (j := 0) rfl rfl)  
  have k_is_whole := kn_is_whole (P := P) (w := w) (base := base) B (has_of X Gn c (i := 1) (j := 1) rfl rfl)  
  have k_is_integer := kn_is_integer (P := P) (w := w) (base := base) B (has_of X Gn c (i := 2) (j := 2) rfl rfl) k_is_whole 
  have k_is_rising := kn_is_rising (P := P) (w := w) (base := base) B (has_of X Gn c (i := 3) (j := 3) rfl rfl)  
  have k_lot_place := kn_lot_place (P := P) (w := w) (base := base) B (has_of X Gn c (i := 4) (j := 4) rfl rfl)  
  have k_is_lot := kn_is_lot (P := P) (w := w) (base := base) B (has_of X Gn c (i := 5) (j := 5) rfl rfl) k_is_integer k_is_rising 
  have k_is_within := kn_is_within (P := P) (w := w) (base := base) B (has_of X Gn c (i := 6) (j := 6) rfl rfl)  
  have k_greatest_of := kn_greatest_of (P := P) (w := w) (base := base) B (has_of X Gn c (i := 7) (j := 7) rfl rfl) k_is_within 
  have k_parts_of := kn_parts_of (P := P) (w := w) (base := base) B (has_of X Gn c (i := 8) (j := 8) rfl rfl)  
  have k_lots_of := kn_lots_of (P := P) (w := w) (base := base) B (has_of X Gn c (i := 9) (j := 9) rfl rfl) k_lot_place k_parts_of 
  have k_by_sizes := kn_by_sizes (P := P) (w := w) (base := base) B (has_of X Gn c (i := 10) (j := 10) rfl rfl) k_lots_of 
  have k_is_company := kn_is_company (P := P) (w := w) (base := base) B (has_of X Gn c (i := 11) (j := 11) rfl rfl) k_is_tuple k_is_integer k_is_lot k_greatest_of (He.int_ok X Gn (c.fact 74 (f := .int "MOST_GUESTS" 10) rfl)) (He.int_ok X Gn (c.fact 75 (f := .int "PAIR_companies" 2) rfl))
  have k_check_company := kn_check_company (P := P) (w := w) (base := base) B (has_of X Gn c (i := 12) (j := 12) rfl rfl) k_is_company 
  have k_check_lot := kn_check_lot (P := P) (w := w) (base := base) B (has_of X Gn c (i := 13) (j := 13) rfl rfl) k_is_lot 
  have k_company_by := kn_company_by (P := P) (w := w) (base := base) B (has_of X Gn c (i := 14) (j := 14) rfl rfl) k_greatest_of 
  have k_is_asked := kn_is_asked (P := P) (w := w) (base := base) B (has_of X Gn c (i := 15) (j := 15) rfl rfl) k_is_within 
  have k_link_of := kn_link_of (P := P) (w := w) (base := base) B (has_of X Gn c (i := 16) (j := 16) rfl rfl) k_is_within k_company_by 
  have k_link := kn_link (P := P) (w := w) (base := base) B (has_of X Gn c (i := 17) (j := 17) rfl rfl) k_check_company k_check_lot k_link_of 
  have k_without_of := kn_without_of (P := P) (w := w) (base := base) B (has_of X Gn c (i := 18) (j := 18) rfl rfl) k_is_within k_company_by 
  have k_without := kn_without (P := P) (w := w) (base := base) B (has_of X Gn c (i := 19) (j := 19) rfl rfl) k_check_company k_check_lot k_without_of 
  have k_check_same := kn_check_same (P := P) (w := w) (base := base) B (has_of X Gn c (i := 20) (j := 20) rfl rfl) k_is_company k_check_company 
  have k_either := kn_either (P := P) (w := w) (base := base) B (has_of X Gn c (i := 21) (j := 21) rfl rfl) k_company_by k_check_same 
  have k_both := kn_both (P := P) (w := w) (base := base) B (has_of X Gn c (i := 22) (j := 22) rfl rfl) k_company_by k_check_same 
  have k_signed_of := kn_signed_of (P := P) (w := w) (base := base) B (has_of X Gn c (i := 23) (j := 23) rfl rfl) k_by_sizes 
  have k_signed := kn_signed (P := P) (w := w) (base := base) B (has_of X Gn c (i := 24) (j := 24) rfl rfl) k_check_company k_signed_of 
  have k_sign_above := kn_sign_above (P := P) (w := w) (base := base) B (has_of X Gn c (i := 25) (j := 25) rfl rfl) k_check_company k_check_lot k_is_asked k_link_of k_signed_of 
  have k_meets_of := kn_meets_of (P := P) (w := w) (base := base) B (hasL_of X Gn c (i := 26) (j := 26) rfl rfl) (tabs _ (List.mem_map.mpr ⟨("meets_of", none), by simp [tfL], rfl⟩)) (tT_mem K (by simp [tfL])) (fun p hp e => tT_uni dis (by simp [tfL]) hp e)  
  have k_least_rows := kn_least_rows (P := P) (w := w) (base := base) B (has_of X Gn c (i := 27) (j := 27) rfl rfl) k_is_within k_meets_of 
  have k_least_sums := kn_least_sums (P := P) (w := w) (base := base) B (has_of X Gn c (i := 28) (j := 28) rfl rfl) k_check_company k_least_rows 
  have k_is_row := kn_is_row (P := P) (w := w) (base := base) B (has_of X Gn c (i := 29) (j := 29) rfl rfl) k_is_tuple k_is_whole k_is_lot k_is_asked (He.int_ok X Gn (c.fact 77 (f := .int "PAIR_signs" 2) rfl))
  have k_shows_sums := kn_shows_sums (P := P) (w := w) (base := base) B (has_of X Gn c (i := 30) (j := 30) rfl rfl) k_is_within k_lots_of k_check_company k_is_row 
  have k_sum_by := kn_sum_by (P := P) (w := w) (base := base) B (has_of X Gn c (i := 31) (j := 31) rfl rfl) k_is_tuple k_is_integer k_check_company k_least_rows (He.int_ok X Gn (c.fact 76 (f := .int "MOST_WORTH" 1000) rfl))
  have k_check_numbers := kn_check_numbers (P := P) (w := w) (base := base) B (has_of X Gn c (i := 32) (j := 32) rfl rfl) k_is_tuple k_is_whole k_lots_of k_check_company 
  have k_along := kn_along (P := P) (w := w) (base := base) B (hasL_of X Gn c (i := 33) (j := 33) rfl rfl) (tabs _ (List.mem_map.mpr ⟨("along", none), by simp [tfL], rfl⟩)) (tT_mem K (by simp [tfL])) (fun p hp e => tT_uni dis (by simp [tfL]) hp e)  
  have k_summed := kn_summed (P := P) (w := w) (base := base) B (has_of X Gn c (i := 34) (j := 34) rfl rfl) k_check_numbers k_along 
  have k_unsummed := kn_unsummed (P := P) (w := w) (base := base) B (has_of X Gn c (i := 35) (j := 35) rfl rfl) k_check_numbers k_along 
  have k_law_take := kn_law_take (P := P) (w := w) (base := base) B (has_of X Gn c (i := 37) (j := 37) rfl rfl)  
  have k_law_of := kn_law_of (P := P) (w := w) (base := base) B (has_of X Gn c (i := 38) (j := 38) rfl rfl) k_law_take 
  have k_law_stir := kn_law_stir (P := P) (w := w) (base := base) B (has_of X Gn c (i := 39) (j := 39) rfl rfl) k_law_take 
  have k_law_parts := kn_law_parts (P := P) (w := w) (base := base) B (has_of X Gn c (i := 40) (j := 40) rfl rfl)  
  have k_law_is_part := kn_law_is_part (P := P) (w := w) (base := base) B (has_of X Gn c (i := 41) (j := 41) rfl rfl)  
  have k_law_company := kn_law_company (P := P) (w := w) (base := base) B (has_of X Gn c (i := 42) (j := 42) rfl rfl) k_law_is_part 
  have k_law_lots := kn_law_lots (P := P) (w := w) (base := base) B (has_of X Gn c (i := 43) (j := 43) rfl rfl) k_law_parts 
  have k_law_drawn := kn_law_drawn (P := P) (w := w) (base := base) B (has_of X Gn c (i := 44) (j := 44) rfl rfl) k_law_take k_law_of k_law_stir k_law_company 
  have k_law_link := kn_law_link (P := P) (w := w) (base := base) B (has_of X Gn c (i := 45) (j := 45) rfl rfl) k_law_is_part k_law_company 
  have k_law_known_lots := kn_law_known_lots (P := P) (w := w) (base := base) B (has_of X Gn c (i := 46) (j := 46) rfl rfl) k_law_lots 
  have k_law_product := kn_law_product (P := P) (w := w) (base := base) B (has_of X Gn c (i := 47) (j := 47) rfl rfl)  
  have k_law_signed := kn_law_signed (P := P) (w := w) (base := base) B (has_of X Gn c (i := 48) (j := 48) rfl rfl) k_law_lots 
  have k_law_meets := kn_law_meets (P := P) (w := w) (base := base) B (hasL_of X Gn c (i := 49) (j := 49) rfl rfl) (tabs _ (List.mem_map.mpr ⟨("_law_meets", none), by simp [tfL], rfl⟩)) (tT_mem K (by simp [tfL])) (fun p hp e => tT_uni dis (by simp [tfL]) hp e)  
  have k_law_least_sums := kn_law_least_sums (P := P) (w := w) (base := base) B (has_of X Gn c (i := 50) (j := 50) rfl rfl) k_law_is_part k_law_meets 
  have k_law_is_sums := kn_law_is_sums (P := P) (w := w) (base := base) B (has_of X Gn c (i := 51) (j := 51) rfl rfl) k_law_is_part k_law_known_lots 
  have k_law_all_sums := kn_law_all_sums (P := P) (w := w) (base := base) B (has_of X Gn c (i := 52) (j := 52) rfl rfl) k_law_link k_law_known_lots k_law_signed 
  have k_law_right := kn_law_right (P := P) (w := w) (base := base) B (has_of X Gn c (i := 53) (j := 53) rfl rfl) k_link k_without k_either k_both k_signed k_sign_above k_least_sums k_shows_sums k_sum_by k_summed k_unsummed k_law_take k_law_of k_law_parts k_law_company k_law_lots k_law_drawn k_law_link k_law_product k_law_signed k_law_least_sums k_law_is_sums k_law_all_sums 
  have k_law_pot_of := kn_law_pot_of (P := P) (w := w) (base := base) B (has_of X Gn c (i := 36) (j := 36) rfl rfl)
  exact ok_law B F k_law_pot_of k_law_right
theorem facts {w : World} {K : PySem.W.Frag} {h : Heap} {mg : Str → Option Value} {f : Addr} (X : K.In h) (Gn : h.Ns mainGlobals mg) (hfa : mg ("law" : Str) = some (.ref f)) (c : He.SaysX faL fnL [] tfL exB w h K) : LamX.LawAtS PySem.Challenge.rw_hollowwithin_k15_whole_sums_over_all_lot w K CX0 9 63 "script" mg f h := by
  obtain ⟨fd, F⟩ := c.t.d.def_ 54 (d := dOf "law" s_law) rfl
  have e := hfa.symm.trans (He.glo_ok X Gn (c.t.d.fact 54 (f := .glo "law") rfl))
  cases e
  letI : TB := tbK K
  have b := FunD.bindsA (ps := ["script"]) F fun _ _ _ _ _ _ us hl => match us, hl with | [_], _ => rfl
  refine ⟨fd, tfL.map (He.cT K), @spLaw (tbK K) K, fun p hp => ?_, fun p hp => ?_, fun p hp => ?_, fun s v => b s [v] rfl, fun H a ns hl _ hT hS => ⟨a, ns, rfl, ⟨hS, fun p hp => ?_, hl⟩, fun _ => rfl⟩, fun base KX Ns tabs => joined KX Ns c.t.d c.more tabs F⟩
  · obtain ⟨q, hq, rfl⟩ := List.mem_map.mp hp
    exact c.empty q hq
  · obtain ⟨q, hq, rfl⟩ := List.mem_map.mp hp
    exact c.out q hq
  · obtain ⟨q, hq, rfl⟩ := List.mem_map.mp hp
    exact PySem.W.codeHd_of_K X (c.hd q hq)
  · obtain ⟨q, hq, rfl⟩ := List.mem_map.mp hp
    exact LamX.TabS.nil (hT _ (List.mem_map.mpr ⟨q, hq, rfl⟩))
end K15

end
open PySem PySem.W PySem.Calls PyProof.Rows
set_option Elab.async false
set_option linter.all false
set_option maxRecDepth 100000 in
set_option maxHeartbeats 0 in
theorem PySem.Challenge.cw_hollowwithin_k15_whole_sums_over_all_lot_holds : PySem.Challenge.rw_hollowwithin_k15_whole_sums_over_all_lot.Holds := by
  w_on; o_law
  refine HandSHeadRun.head_any (r := OpenLaw.row PySem.Challenge.rw_hollowwithin_k15_whole_sums_over_all_lot) (q := view (OpenLaw.row PySem.Challenge.rw_hollowwithin_k15_whole_sums_over_all_lot).prog [69]) (H := K15.hk) (ob := K15.ob) (M := 3000) (loose := K15.looseL) (d := HandSHeadRun.topDef (OpenLaw.row PySem.Challenge.rw_hollowwithin_k15_whole_sums_over_all_lot).prog 69) (kwd := []) K15.ob_eq
    (by kernel_rfl) (fun s => by kernel_rfl) K15.run (by kernel_rfl) (by kernel_rfl) (by kernel_rfl) (by rfl) (by first | assumption | decide +kernel) (by decide +kernel) ⟨rfl, rfl, rfl, rfl, rfl, by decide +kernel⟩ ?hw ?hc
  case hw => w_witness2
  case hc =>
    refine LamX.walk_ofTsE (l := PySem.Challenge.rw_hollowwithin_k15_whole_sums_over_all_lot) (n := 63) (k := 9) (x := "script") (CX := fun _ => L2.CX0) rfl (by decide) (by kernel_rfl) ⟨rfl, by decide, by decide⟩ ?F (fun _ _ _ _ _ z => z)
    intro w mg fa h Y Gn hmg0
    obtain ⟨K, KX, c⟩ := Y
    have hmg : mg ("law" : PySem.Str) = some (.ref fa) := by
      have e : (HandSHeadRun.topDef (OpenLaw.row PySem.Challenge.rw_hollowwithin_k15_whole_sums_over_all_lot).prog 69).name = ("law" : PySem.Str) := by kernel_rfl
      rw [← e]
      exact hmg0
    exact ⟨K, KX, K15.facts KX Gn hmg c⟩