import PyProof.Rows.All
import Wide.All
import OpenK.AllK
import Wide.FinOn
import HandS.ForMost
import HandS.IsInst
import HandS.TupAny
import HandS.TupMul
import HandS.Wide
import HandS.Style
import HandS.Flow
import HandS.Deep
import KE.DataMinMax
import KE.DataCmp
import KE.SortData
import KE.DataFind
import PyProof.Rows.InDataRows
import KE.SortKeyHeap
import KE.GoesEnum
import KE.GoesMore
import HandS.Conv
import HandS.Strs
import HandS.SetFor
import KE.SortCalls
import HandS.TupSets
import KE.KSortKey
import HandS.Small
import HandS.DictTup
import KE.KDictSum
import KE.KDictList
import HandS.CallLocal
import KE.KDictCopyH
import KE.DatumOrd
import KE.BitLaws
import HandS.WideBits
import PySem.Challenge.RW_nearhouses_k35_whole_cores
set_option Elab.async false
set_option linter.all false
set_option maxRecDepth 100000
namespace L2
open PySem PySem.Spec PyProof.Rows
theorem sameT {K : PySem.W.Frag} {H H' : Hp} {a : Addr} {xs : List V} (e : Same H H') (h : SqT K H a xs) : SqT K H' a xs := by
  rcases h with (h | ⟨o, h⟩) | h
  · exact .inl (.inl (e _ _ h))
  · exact .inl (.inr ⟨o, e _ _ h⟩)
  · exact .inr h
end L2
namespace DL
open PySem PySem.Spec PyProof.Rows L2
def kD : Key → PyData
  | .inl i => .int i
  | .inr x => .str x
theorem sqT_of {K : PySem.W.Frag} {H : Hp} {a : Addr} {xs : List V} (h : H a = some (.tup xs)) : SqT K H a xs := .inl (.inl h)
mutual
inductive Dp (K : PySem.W.Frag) (H : Hp) : V → PyData → Prop
  | non : Dp K H .non .none
  | bl (b : Bool) : Dp K H (.bl b) (.bool b)
  | int (i : Int) : Dp K H (.int i) (.int i)
  | str (x : Str) : Dp K H (.str x) (.str x)
  | dic {a : Addr} {kvs : List (Key × V)} {ks : List (PyData × PyData)} : Rd H a (.dK kvs) → ks.map (·.1) = kvs.map (fun p => kD p.1) → DpAll K H (kvs.map (·.2)) (ks.map (·.2)) → Dp K H (.ref a) (.dict ks)
  | lst {a : Addr} {xs : List V} {ds : List PyData} : SqL K H a xs → DpAll K H xs ds → Dp K H (.ref a) (.list ds)
  | tup {a : Addr} {xs : List V} {ds : List PyData} : H a = some (.tup xs) → DpAll K H xs ds → Dp K H (.ref a) (.tuple ds)
inductive DpAll (K : PySem.W.Frag) (H : Hp) : List V → List PyData → Prop
  | nil : DpAll K H [] []
  | cons {v : V} {vs : List V} {d : PyData} {ds : List PyData} : Dp K H v d → DpAll K H vs ds → DpAll K H (v :: vs) (d :: ds)
end
section
variable {X : Cx} {pins : List (Addr × Obj)} {σ : L2.St} {H : Hp} {s : Shared}
theorem dic_reads {P : Program} {w : World} {h : Heap} : ∀ {kvs : List (Key × V)} {zs : List (Key × Value)} {es : List DictEntry}, KV kvs zs → Pairs (mixKind P w) es zs → Vals (kvs.map (·.2)) (es.map (·.val)) ∧ ∃ as, ReadsAll h (es.map (·.key)) (kvs.map fun p => kD p.1) as
  | _, _, _, .nil, .nil => ⟨.nil, _, .nil⟩
  | _, _, _, .cons r t, .cons e1 e2 e3 => by
    obtain ⟨v1, as, v2⟩ := dic_reads t e3
    refine ⟨.cons (by have q := r.2; rw [← e2] at q; exact q) v1, ?_⟩
    have e1 : keyIs _ _ = true := e1
    rw [← r.1] at e1
    rcases keyIs_shape e1 with ⟨i, t, e4, e5⟩ | ⟨x, t, e4, e5⟩
    · refine ⟨[] ++ as, ?_⟩
      rw [List.map_cons, List.map_cons, e4, e5]
      exact .cons (.int i t) v2
    · refine ⟨[] ++ as, ?_⟩
      rw [List.map_cons, List.map_cons, e4, e5]
      exact .cons (.str x t) v2
mutual
theorem Dp.reads (I : Inv X pins σ H s) : ∀ (d : PyData) (v : V) (u : Value), Dp X.K H v d → RelV v u → ∃ as, Reads s.heap u d as
  | _, _, _, .non, r => by cases r; exact ⟨[], .none⟩
  | _, _, _, .bl b, r => by cases r; exact ⟨[], .bool b⟩
  | _, _, _, .int i, ⟨t, r⟩ => by subst r; exact ⟨[], .int i t⟩
  | _, _, _, .str x, ⟨t, r⟩ => by subst r; exact ⟨[], .str x t⟩
  | _, _, _, .dic k ek ks, r => by
    cases r
    obtain ⟨_, _, zs, pz, ob, arr, e0, h1, h2, h3, _, h4, _⟩ := k.ok I.hok
    obtain ⟨rv, as, ra⟩ := dic_reads (h := s.heap) pz h4
    obtain ⟨bs, rb⟩ := Dp.readsAll I _ _ _ ks rv
    exact ⟨_, .dict h1 h2.1 h3 (by rw [ek]; exact ra) rb⟩
  | _, _, _, .lst k ks, r => by
    cases r
    obtain ⟨zs, vz, ⟨ob, m, h1, h2, _, h3⟩, _⟩ := I.list k
    obtain ⟨bs, hb⟩ := Dp.readsAll I _ _ zs ks vz
    exact ⟨_, .list h1 h2 h3 hb⟩
  | _, _, _, .tup k ks, r => by
    cases r
    obtain ⟨zs, vz, ⟨ob, h1, h2, m, h3⟩, _⟩ := I.tuple (sqT_of k)
    obtain ⟨bs, hb⟩ := Dp.readsAll I _ _ zs ks vz
    exact ⟨_, .tuple h1 h2 h3 hb⟩
theorem Dp.readsAll (I : Inv X pins σ H s) : ∀ (ds : List PyData) (vs : List V) (us : List Value), DpAll X.K H vs ds → Vals vs us → ∃ as, ReadsAll s.heap us ds as
  | _, _, _, .nil, r => by cases r; exact ⟨[], .nil⟩
  | _, _, _, .cons k ks, r => by
    cases r with
    | cons r1 r2 =>
      obtain ⟨a1, h1⟩ := Dp.reads I _ _ _ k r1
      obtain ⟨a2, h2⟩ := Dp.readsAll I _ _ _ ks r2
      exact ⟨a1 ++ a2, .cons h1 h2⟩
end
end
theorem rdMono {F F' : Hp} {a : Addr} {u : HO} (e : Same F F') (h : Rd F a u) : Rd F' a u := by
  rcases h with h | ⟨o, h⟩
  · exact .inl (e _ _ h)
  · exact .inr ⟨o, e _ _ h⟩
section
variable {K : PySem.W.Frag} {F F' : Hp}
mutual
theorem Dp.mono (e : Same F F') : ∀ {v : V} {d : PyData}, Dp K F v d → Dp K F' v d
  | _, _, .non => .non
  | _, _, .bl b => .bl b
  | _, _, .int i => .int i
  | _, _, .str s => .str s
  | _, _, .dic h ek t => .dic (rdMono e h) ek (DpAll.mono e t)
  | _, _, .tup h t => .tup (e _ _ h) (DpAll.mono e t)
  | _, _, .lst h t => .lst (e.seq h) (DpAll.mono e t)
theorem DpAll.mono (e : Same F F') : ∀ {vs : List V} {ds : List PyData}, DpAll K F vs ds → DpAll K F' vs ds
  | _, _, .nil => .nil
  | _, _, .cons h t => .cons (Dp.mono e h) (DpAll.mono e t)
end
theorem DpAll.length : ∀ {vs : List V} {ds : List PyData}, DpAll K F vs ds → vs.length = ds.length
  | _, _, .nil => rfl
  | _, _, .cons _ t => congrArg (· + 1) t.length
theorem DpAll.get : ∀ {vs : List V} {ds : List PyData} {i : Nat} {d : PyData}, DpAll K F vs ds → ds[i]? = some d → ∃ v, vs[i]? = some v ∧ Dp K F v d
  | _, _, _, _, .nil, e => by simp at e
  | _, _, 0, _, .cons h _, e => by
    simp at e
    subst e
    exact ⟨_, rfl, h⟩
  | _, _, i + 1, _, .cons _ t, e => by
    obtain ⟨v, h1, h2⟩ := DpAll.get (i := i) t (by simpa using e)
    exact ⟨v, by simpa using h1, h2⟩
theorem DpAll.get' : ∀ {vs : List V} {ds : List PyData} {i : Nat} {v : V}, DpAll K F vs ds → vs[i]? = some v → ∃ d, ds[i]? = some d ∧ Dp K F v d
  | _, _, _, _, .nil, e => by simp at e
  | _, _, 0, _, .cons h _, e => by
    simp at e
    subst e
    exact ⟨_, rfl, h⟩
  | _, _, i + 1, _, .cons _ t, e => by
    obtain ⟨v, h1, h2⟩ := DpAll.get' (i := i) t (by simpa using e)
    exact ⟨v, by simpa using h1, h2⟩
theorem DpAll.append : ∀ {vs ws : List V} {ds es : List PyData}, DpAll K F vs ds → DpAll K F ws es → DpAll K F (vs ++ ws) (ds ++ es)
  | _, _, _, _, .nil, s => s
  | _, _, _, _, .cons r t, s => .cons r (DpAll.append t s)
theorem DpAll.take : ∀ {vs : List V} {ds : List PyData} (n : Nat), DpAll K F vs ds → DpAll K F (vs.take n) (ds.take n)
  | _, _, 0, _ => .nil
  | _, _, _ + 1, .nil => .nil
  | _, _, n + 1, .cons r t => .cons r (DpAll.take n t)
theorem DpAll.drop : ∀ {vs : List V} {ds : List PyData} (n : Nat), DpAll K F vs ds → DpAll K F (vs.drop n) (ds.drop n)
  | _, _, 0, r => r
  | _, _, _ + 1, .nil => .nil
  | _, _, n + 1, .cons _ t => DpAll.drop n t
theorem DpAll.set : ∀ {vs : List V} {ds : List PyData} {v : V} {d : PyData} (n : Nat), DpAll K F vs ds → Dp K F v d → DpAll K F (vs.set n v) (ds.set n d)
  | _, _, _, _, _, .nil, _ => .nil
  | _, _, _, _, 0, .cons _ t, r => .cons r t
  | _, _, _, _, n + 1, .cons h t, r => .cons h (DpAll.set n t r)
theorem DpAll.rep {vs : List V} {ds : List PyData} (h : DpAll K F vs ds) : ∀ n : Nat, DpAll K F (List.replicate n vs).flatten (List.replicate n ds).flatten
  | 0 => .nil
  | n + 1 => by
    rw [List.replicate_succ, List.replicate_succ, List.flatten_cons, List.flatten_cons]
    exact h.append (DpAll.rep h n)
theorem DpAll.reverse : ∀ {vs : List V} {ds : List PyData}, DpAll K F vs ds → DpAll K F vs.reverse ds.reverse
  | _, _, .nil => .nil
  | _, _, .cons h t => by
    rw [List.reverse_cons, List.reverse_cons]
    exact (DpAll.reverse t).append (.cons h .nil)
theorem DpAll.ints : ∀ {vs : List V} {ns : List Int}, DpAll K F vs (ns.map PyData.int) → vs = ns.map V.int
  | _, [], .nil => rfl
  | _, n :: ns, .cons (.int _) t => congrArg (V.int n :: ·) (DpAll.ints t)
theorem DpAll.of_ints : ∀ (ns : List Int), DpAll K F (ns.map V.int) (ns.map PyData.int)
  | [] => .nil
  | n :: ns => .cons (.int n) (DpAll.of_ints ns)
end
abbrev D := PyData
abbrev Rep (K : PySem.W.Frag) (F : Hp) : V → D → Prop := Dp K F
abbrev RepL (K : PySem.W.Frag) (F : Hp) : List V → List D → Prop := DpAll K F
def ext (F H H' : Hp) : Hp := fun a => if (H a).isSome then F a else H' a
section
variable {F H H' H1 H2 : Hp}
theorem ext_self (s : Same F H) : ext F H H = F := by
  funext a
  unfold ext
  cases h : H a with
  | none => simp [s.free h]
  | some o => simp
theorem ext_ext (s1 : Same H H1) (s2 : Same H1 H2) : ext (ext F H H1) H1 H2 = ext F H H2 := by
  funext a
  unfold ext
  cases h : H a with
  | some o => simp [s1 _ _ h]
  | none =>
    cases h1 : H1 a with
    | none => simp
    | some o => simp [s2 _ _ h1]
theorem same_ext (s : Same F H) : Same F (ext F H H') := fun a o e => by
  unfold ext
  simp [s _ _ e, e]
theorem ext_sub (s : Same F H) (s1 : Same H H') : Same (ext F H H') H' := fun a o e => by
  unfold ext at e
  cases h : H a with
  | none => simpa [h] using e
  | some u =>
    simp [h] at e
    exact s1 _ _ (s _ _ e)
theorem ext_new (s : Same F H) {p : Addr} {o : HO} (h : H p = none) : ext F H (upd H p o) = upd F p o := by
  funext a
  unfold ext
  by_cases e : a = p
  · subst e
    rw [upd_same, upd_same]
    simp [h]
  · rw [upd_ne e, upd_ne e]
    cases q : H a with
    | none => simp [s.free q]
    | some u => simp
theorem same_new {p : Addr} {o : HO} (h : H p = none) : Same H (upd H p o) := fun b x e => by
  rw [upd_ne (ne_of_none e h)]
  exact e
theorem ext_mono {F1 : Hp} (s : Same F F1) : Same (ext F H H') (ext F1 H H') := fun a o e => by
  unfold ext at e ⊢
  cases h : H a with
  | none => simpa [h] using e
  | some u =>
    simp [h] at e
    simp
    exact s _ _ e
theorem Same.upd2 (s : Same F H) {p : Addr} {o : HO} (hn : F p = none) : Same F (upd H p o) := fun a x e => by
  rw [upd_ne (ne_of_none e hn)]
  exact s _ _ e
end
inductive E where
  | sh (d : D)
  | own (d : D)
  | own2 (d : D)
  | row (d : D)
  | dk (l : Bool) (ks : List (Key × D))
  | dt (l : Bool) (ks : List (List Key × D))
  | fn (j : Nat) (f : Addr)
abbrev Env := List (Option E)
structure Z where
  H0 : Hp
  F0 : Hp
  B : Addr → Prop
/-- a mutable object at p, its items shared -/
def Obj1 (K : PySem.W.Frag) (F H : Hp) (p : Addr) : D → Prop
  | .list ds => ∃ vs, H p = some (.lst vs) ∧ RepL K F vs ds
  | _ => False
inductive Objs (K : PySem.W.Frag) (F H : Hp) : List Addr → List D → Prop
  | nil : Objs K F H [] []
  | cons {p : Addr} {ps : List Addr} {d : D} {ds : List D} : Obj1 K F H p d → Objs K F H ps ds → Objs K F H (p :: ps) (d :: ds)
/-- an object of one's own, or one that is locked -/
def LkO (z : Z) (F H : Hp) (p : Addr) (u : HO) (l : Bool) (as : List Addr) : Prop := (l = false ∧ as = [p] ∧ z.H0 p = none ∧ H p = some u) ∨ (l = true ∧ as = [] ∧ ∃ o, F p = some (.frz o u))
theorem LkO.mono {z : Z} {F F' H H' : Hp} {p : Addr} {u : HO} {l : Bool} {as : List Addr} (h : LkO z F H p u l as) (s : Same F F') (k : ∀ a ∈ as, H' a = H a) : LkO z F' H' p u l as := by
  rcases h with ⟨h1, h2, h3, h4⟩ | ⟨h1, h2, o, h3⟩
  · exact .inl ⟨h1, h2, h3, (k p (by rw [h2]; exact List.mem_cons_self)).trans h4⟩
  · exact .inr ⟨h1, h2, o, s _ _ h3⟩
def Ent (K : PySem.W.Frag) (z : Z) (F H : Hp) (v : V) : E → List Addr → Prop
  | .sh d, as => as = [] ∧ Rep K F v d
  | .own d, as => ∃ p, v = .ref p ∧ as = [p] ∧ z.H0 p = none ∧ Obj1 K F H p d
  | .row d, as => ∃ p, v = .ref p ∧ as = [p] ∧ z.B p ∧ Obj1 K F H p d
  | .dk l ks, as => ∃ p kvs, v = .ref p ∧ kvs.map (·.1) = ks.map (·.1) ∧ RepL K F (kvs.map (·.2)) (ks.map (·.2)) ∧ LkO z F H p (.dK kvs) l as
  | .dt l ks, as => ∃ p kvs, v = .ref p ∧ kvs.map (·.1) = ks.map (·.1) ∧ RepL K F (kvs.map (·.2)) (ks.map (·.2)) ∧ LkO z F H p (.dT kvs) l as
  | .fn _ f, as => as = [] ∧ v = .ref f
  | .own2 d, as => ∃ p qs ds, v = .ref p ∧ as = p :: qs ∧ d = .list ds ∧ H p = some (.lst (qs.map V.ref)) ∧ (p :: qs).Nodup ∧ (∀ a ∈ p :: qs, z.H0 a = none) ∧ Objs K F H qs ds
theorem Obj1.mono {K : PySem.W.Frag} {F F' H H' : Hp} {p : Addr} {d : D} (h : Obj1 K F H p d) (s : Same F F') (e : H' p = H p) : Obj1 K F' H' p d := by
  cases d with
  | list ds =>
    obtain ⟨vs, h1, h2⟩ := h
    exact ⟨vs, e.trans h1, h2.mono s⟩
  | _ => exact h.elim
theorem Obj1.some {K : PySem.W.Frag} {F H : Hp} {p : Addr} {d : D} (h : Obj1 K F H p d) : ∃ o, H p = some o := by
  cases d with
  | list ds =>
    obtain ⟨vs, h1, _⟩ := h
    exact ⟨_, h1⟩
  | _ => exact h.elim
theorem Objs.mono {K : PySem.W.Frag} {F F' H H' : Hp} (s : Same F F') : ∀ {ps : List Addr} {ds : List D}, Objs K F H ps ds → (∀ p ∈ ps, H' p = H p) → Objs K F' H' ps ds
  | _, _, .nil, _ => .nil
  | _, _, .cons h t, e => .cons (h.mono s (e _ List.mem_cons_self)) (t.mono s fun p hp => e p (List.mem_cons_of_mem _ hp))
theorem Objs.length {K : PySem.W.Frag} {F H : Hp} : ∀ {ps : List Addr} {ds : List D}, Objs K F H ps ds → ps.length = ds.length
  | _, _, .nil => rfl
  | _, _, .cons _ t => congrArg (· + 1) t.length
theorem Objs.get {K : PySem.W.Frag} {F H : Hp} : ∀ {ps : List Addr} {ds : List D} {i : Nat} {d : D}, Objs K F H ps ds → ds[i]? = some d → ∃ p, ps[i]? = some p ∧ Obj1 K F H p d
  | _, _, _, _, .nil, e => by simp at e
  | _, _, 0, _, .cons h _, e => by
    simp at e
    subst e
    exact ⟨_, rfl, h⟩
  | _, _, i + 1, _, .cons _ t, e => by
    obtain ⟨v, h1, h2⟩ := Objs.get (i := i) t (by simpa using e)
    exact ⟨v, by simpa using h1, h2⟩
theorem Objs.some {K : PySem.W.Frag} {F H : Hp} : ∀ {ps : List Addr} {ds : List D}, Objs K F H ps ds → ∀ p ∈ ps, ∃ o, H p = some o
  | _, _, .nil, _, h => by cases h
  | _, _, .cons h t, p, hp => by
    rcases List.mem_cons.mp hp with e | hp
    · subst e
      exact h.some
    · exact t.some p hp
theorem Ent.mono {K : PySem.W.Frag} {z : Z} {F F' H H' : Hp} {v : V} {e : E} {as : List Addr} (h : Ent K z F H v e as) (s : Same F F') (k : ∀ a ∈ as, H' a = H a) : Ent K z F' H' v e as := by
  cases e with
  | sh d => exact ⟨h.1, h.2.mono s⟩
  | fn j f => exact h
  | own d =>
    obtain ⟨p, e1, e2, e3, h⟩ := h
    subst e2
    exact ⟨p, e1, rfl, e3, h.mono s (k p List.mem_cons_self)⟩
  | row d =>
    obtain ⟨p, e1, e2, e3, h⟩ := h
    subst e2
    exact ⟨p, e1, rfl, e3, h.mono s (k p List.mem_cons_self)⟩
  | dk l ks =>
    obtain ⟨p, kvs, e1, e2, e3, h⟩ := h
    exact ⟨p, kvs, e1, e2, e3.mono s, h.mono s k⟩
  | dt l ks =>
    obtain ⟨p, kvs, e1, e2, e3, h⟩ := h
    exact ⟨p, kvs, e1, e2, e3.mono s, h.mono s k⟩
  | own2 d =>
    obtain ⟨p, qs, ds, e1, e2, e3, h1, h2, h3, h4⟩ := h
    subst e2
    exact ⟨p, qs, ds, e1, rfl, e3, (k p List.mem_cons_self).trans h1, h2, h3, h4.mono s fun q hq => k q (List.mem_cons_of_mem _ hq)⟩
/-- all tuples of the heap are shared -/
def AllT (F H : Hp) : Prop := ∀ a vs, H a = some (.tup vs) → F a = some (.tup vs)
theorem AllT.refl (H : Hp) : AllT H H := fun _ _ h => h
theorem AllT.ext {F H H' : Hp} (t : AllT F H) (s : Same H H') : AllT (DL.ext F H H') H' := fun a vs e => by
  unfold DL.ext
  cases q : H a with
  | none => simpa using e
  | some o =>
    have := s _ _ q
    rw [e] at this
    cases this
    simpa using t a vs q
theorem AllT.up {F H : Hp} (t : AllT F H) {p : Addr} {o : HO} (ho : ∀ vs, o ≠ .tup vs) : AllT F (upd H p o) := fun a vs e => by
  by_cases q : a = p
  · rw [q, upd_same] at e
    exact absurd (Option.some.inj e) (ho vs)
  · rw [upd_ne q] at e
    exact t a vs e
structure Rel (K : PySem.W.Frag) (z : Z) (ρ : Env) (σ : L2.St) (F H : Hp) (O : Nat → List Addr) : Prop where
  len : ρ.length = σ.length
  sub : Same F H
  ent : ∀ (i : Nat) (e : E), ρ[i]? = some (some e) → ∃ v, σ[i]? = some (some v) ∧ Ent K z F H v e (O i)
  off : ∀ (i : Nat) (a : Addr), a ∈ O i → F a = none ∧ H a ≠ none
  apt : ∀ (i j : Nat) (a : Addr), a ∈ O i → a ∈ O j → i = j
  old : ∀ a, z.H0 a ≠ none → z.F0 a = none → F a = none
  oldH : ∀ a, z.H0 a ≠ none → H a ≠ none
  keep : ∀ a o, z.H0 a = some o → ¬ z.B a → H a = some o
  f0 : Same z.F0 F
  tup : AllT F H
/-- nothing tracked has changed: the shared part may take in what is new -/
theorem Rel.grow {K : PySem.W.Frag} {z : Z} {ρ : Env} {σ : L2.St} {F H H' : Hp} {O : Nat → List Addr} (R : Rel K z ρ σ F H O) (s : Same H H') : Rel K z ρ σ (ext F H H') H' O where
  len := R.len
  sub := ext_sub R.sub s
  ent := fun i e h => by
    obtain ⟨v, h1, h2⟩ := R.ent i e h
    refine ⟨v, h1, h2.mono (same_ext R.sub) fun a ha => ?_⟩
    obtain ⟨_, n⟩ := R.off i a ha
    cases q : H a with
    | none => exact absurd q n
    | some o => exact s _ _ q
  off := fun i a ha => by
    obtain ⟨f, n⟩ := R.off i a ha
    cases q : H a with
    | none => exact absurd q n
    | some o =>
      refine ⟨?_, by rw [s _ _ q]; exact fun z => nomatch z⟩
      unfold ext
      simp [q, f]
  apt := R.apt
  old := fun a h0 f0 => by
    have f := R.old a h0 f0
    have n := R.oldH a h0
    unfold ext
    cases q : H a with
    | none => exact absurd q n
    | some o => simp [f]
  oldH := fun a h0 => by
    have n := R.oldH a h0
    cases q : H a with
    | none => exact absurd q n
    | some o =>
      rw [s _ _ q]
      exact fun z => nomatch z
  keep := fun a o h b => s _ _ (R.keep a o h b)
  f0 := R.f0.trans (same_ext R.sub)
  tup := R.tup.ext s
def tP (K : PySem.W.Frag) (z : Z) (f : Env → Option D) : TE := fun σ H Q => ∃ ρ F O d, Rel K z ρ σ F H O ∧ f ρ = some d ∧ ∀ v H', Same H H' → Rep K (ext F H H') v d → Q v H'
def tPs (K : PySem.W.Frag) (z : Z) (f : Env → Option (List D)) : TA := fun σ H Q => ∃ ρ F O ds, Rel K z ρ σ F H O ∧ f ρ = some ds ∧ ∀ vs H', Same H H' → RepL K (ext F H H') vs ds → Q vs H'
def tB (K : PySem.W.Frag) (z : Z) (f : Env → Option Bool) : TT := fun σ H Q => ∃ ρ F O b, Rel K z ρ σ F H O ∧ f ρ = some b ∧ ∀ H', Same H H' → Q b H'
section
variable {X : Cx}
theorem _root_.L2.PE.mono {e : Expr} {t t' : TE} (h : PE X e t) (i : ∀ σ H Q, t' σ H Q → t σ H Q) : PE X e t' := ⟨fun pins s σ H Q I q => h.run pins s σ H Q I (i _ _ _ q)⟩
theorem _root_.L2.PT.mono {e : Expr} {t t' : TT} (h : PT X e t) (i : ∀ σ H Q, t' σ H Q → t σ H Q) : PT X e t' := ⟨fun pins s σ H Q I q => h.run pins s σ H Q I (i _ _ _ q)⟩
theorem _root_.L2.PA.mono {es : List Expr} {t t' : TA} (h : PA X es t) (i : ∀ σ H Q, t' σ H Q → t σ H Q) : PA X es t' := ⟨fun pos pins s σ H Q I q => h.run pos pins s σ H Q I (i _ _ _ q)⟩
theorem _root_.L2.PW.mono {e : Expr} {t t' : TT} (h : PW X e t) (i : ∀ σ H Q, t' σ H Q → t σ H Q) : PW X e t' := ⟨fun w pins s σ H Q I q => h.run w pins s σ H Q I (i _ _ _ q)⟩
theorem _root_.L2.PS.mono {st : Stmt} {t t' : TS} (h : PS X st t) (i : ∀ D σ H, t' D σ H → t D σ H) : PS X st t' := ⟨fun pins s σ H D I q => h.run pins s σ H D I (i _ _ _ q)⟩
theorem _root_.L2.PSs.mono {st : List Stmt} {t t' : TS} (h : PSs X st t) (i : ∀ D σ H, t' D σ H → t D σ H) : PSs X st t' := ⟨fun pins s σ H D I q => h.run pins s σ H D I (i _ _ _ q)⟩
theorem _root_.L2.PI.mono {tg e : Expr} {t t' : TI} (h : PI X tg e t) (i : ∀ σ H Q, t' σ H Q → t σ H Q) : PI X tg e t' := ⟨fun pins s σ H Q I q => h.run pins s σ H Q I (i _ _ _ q)⟩
def cVar (i : Nat) : Env → Option D := fun ρ => match ρ[i]? with
  | some (some (.sh d)) => some d
  | _ => none
def cK (d : D) : Env → Option D := fun _ => some d
variable {z : Z}
theorem q_var (i : Nat) {x : Str} {pos : Pos} (hN : X.N[i]? = some x := by rfl) (hv : Vis X.env.scope x := by first | exact Or.inl rfl | exact Or.inr (Or.inl rfl) | exact Or.inr (Or.inr rfl)) (hd : (x == ("__debug__" : Str)) = false := by decide)
    (hcd : (x == ("__classdict__" : Str)) = false := by decide) : PE X (.Name x pos) (tP X.K z (cVar i)) := by
  refine (pe_var hN hv hd hcd).mono fun σ H Q ⟨ρ, F, O, d, R, e, q⟩ => ?_
  unfold cVar at e
  split at e
  · next d' h =>
    cases e
    obtain ⟨v, h1, _, h2⟩ := R.ent i _ h
    refine ⟨v, h1, q v H (Same.refl _) ?_⟩
    rw [ext_self R.sub]
    exact h2
  · cases e
theorem q_const {e : Expr} {v : V} {d : D} (h : PE X e (tC v)) (r : ∀ F, Rep X.K F v d) : PE X e (tP X.K z (cK d)) :=
  h.mono fun σ H Q ⟨ρ, F, O, d', R, e, q⟩ => by
    cases e
    exact q v H (Same.refl _) (r _)
theorem q_int {i : Int} {j pos} : PE X (.Constant (.int i) j pos) (tP X.K z (cK (.int i))) := q_const pe_int fun _ => .int i
theorem q_bl {b j pos} : PE X (.Constant (.bool b) j pos) (tP X.K z (cK (.bool b))) := q_const pe_bl fun _ => .bl b
theorem q_non {j pos} : PE X (.Constant .none j pos) (tP X.K z (cK .none)) := q_const pe_non fun _ => .non
theorem q_globI {x : Str} {i : Int} {u : Value} {pos : Pos} (hg : Gl X x) (hm : X.mg x = some u) (r : RelV (.int i) u) (hd : (x == ("__debug__" : Str)) = false := by decide) : PE X (.Name x pos) (tP X.K z (cK (.int i))) := q_const (pe_glob hg hm r hd) fun _ => .int i
structure Op2 (K : PySem.W.Frag) (r : R2) (o : D → D → Option D) : Prop where
  run : ∀ (F H : Hp) (x y : V) (a b d : D) (Q : VK), Same F H → Rep K F x a → Rep K F y b → o a b = some d → (∀ v H', Same H H' → Rep K (ext F H H') v d → Q v H') → r x y H Q
def c2 (o : D → D → Option D) (f g : Env → Option D) : Env → Option D := fun ρ => (f ρ).bind fun a => (g ρ).bind fun b => o a b
theorem bind_some {α β : Type} {x : Option α} {f : α → Option β} {b : β} (h : x.bind f = some b) : ∃ a, x = some a ∧ f a = some b := by
  cases x with
  | none => cases h
  | some a => exact ⟨a, rfl, h⟩
theorem tP2 {K : PySem.W.Frag} {r : R2} {o : D → D → Option D} (ho : Op2 K r o) {f g : Env → Option D} {σ : L2.St} {H : Hp} {Q : VK} (h : tP K z (c2 o f g) σ H Q) : tOp r (tP K z f) (tP K z g) σ H Q := by
  obtain ⟨ρ, F, O, d, R, e, q⟩ := h
  obtain ⟨a, ea, e⟩ := bind_some e
  obtain ⟨b, eb, e⟩ := bind_some e
  refine ⟨ρ, F, O, a, R, ea, fun v1 H1 s1 r1 => ?_⟩
  refine ⟨ρ, _, O, b, R.grow s1, eb, fun v2 H2 s2 r2 => ?_⟩
  rw [ext_ext s1 s2] at r2
  have R2 := R.grow (s1.trans s2)
  refine ho.run (ext F H H2) H2 v1 v2 a b d Q R2.sub (r1.mono ?_) r2 e fun v H3 s3 r3 => ?_
  · rw [← ext_ext s1 s2]
    exact same_ext (R.grow s1).sub
  · rw [ext_ext (s1.trans s2) s3] at r3
    exact q v H3 ((s1.trans s2).trans s3) r3
theorem q_op {a b : Expr} {pos : Pos} {op : Operator} {r : R2} {o : D → D → Option D} {f g : Env → Option D} (hr : OpR X (binaryOp op) r) (ho : Op2 X.K r o) (ha : PE X a (tP X.K z f)) (hb : PE X b (tP X.K z g)) : PE X (.BinOp a op b pos) (tP X.K z (c2 o f g)) :=
  (pe_op hr ha hb).mono fun _ _ _ h => tP2 ho h
theorem q_cmp {a b : Expr} {pos : Pos} {op : CmpOp} {r : R2} {o : D → D → Option D} {f g : Env → Option D} (hr : OpR X (compareOp op) r) (ho : Op2 X.K r o) (ha : PE X a (tP X.K z f)) (hb : PE X b (tP X.K z g)) (hm : behindInMarks op b = false) : PE X (.Compare a [op] [b] pos) (tP X.K z (c2 o f g)) :=
  (pe_cmpR hr ha hb hm).mono fun _ _ _ h => tP2 ho h
theorem q_ix {a b : Expr} {pos : Pos} {r : R2} {o : D → D → Option D} {f g : Env → Option D} (hr : IxR X r) (ho : Op2 X.K r o) (ha : PE X a (tP X.K z f)) (hb : PE X b (tP X.K z g)) (hs : PlainIx b := by exact fun _ _ => rfl) : PE X (.Subscript a b pos) (tP X.K z (c2 o f g)) :=
  (pe_ix hr ha hb hs).mono fun _ _ _ h => tP2 ho h
structure Op1 (K : PySem.W.Frag) (r : V → Hp → VK → Prop) (o : D → Option D) : Prop where
  run : ∀ (F H : Hp) (x : V) (a d : D) (Q : VK), Same F H → Rep K F x a → o a = some d → (∀ v H', Same H H' → Rep K (ext F H H') v d → Q v H') → r x H Q
structure OpN (K : PySem.W.Frag) (r : List V → Hp → VK → Prop) (o : List D → Option D) : Prop where
  run : ∀ (F H : Hp) (xs : List V) (as : List D) (d : D) (Q : VK), Same F H → RepL K F xs as → o as = some d → (∀ v H', Same H H' → Rep K (ext F H H') v d → Q v H') → r xs H Q
def c1 (o : D → Option D) (f : Env → Option D) : Env → Option D := fun ρ => (f ρ).bind o
def cN (o : List D → Option D) (f : Env → Option (List D)) : Env → Option D := fun ρ => (f ρ).bind o
def cNil : Env → Option (List D) := fun _ => some []
def cCons (f : Env → Option D) (g : Env → Option (List D)) : Env → Option (List D) := fun ρ => (f ρ).bind fun a => (g ρ).bind fun as => some (a :: as)
theorem tP1 {K : PySem.W.Frag} {r : V → Hp → VK → Prop} {o : D → Option D} (ho : Op1 K r o) {f : Env → Option D} {σ : L2.St} {H : Hp} {Q : VK} (h : tP K z (c1 o f) σ H Q) : tP K z f σ H fun x H1 => r x H1 Q := by
  obtain ⟨ρ, F, O, d, R, e, q⟩ := h
  obtain ⟨a, ea, e⟩ := bind_some e
  refine ⟨ρ, F, O, a, R, ea, fun v1 H1 s1 r1 => ho.run _ H1 v1 a d Q (R.grow s1).sub r1 e fun v H3 s3 r3 => ?_⟩
  rw [ext_ext s1 s3] at r3
  exact q v H3 (s1.trans s3) r3
theorem tPN {K : PySem.W.Frag} {r : List V → Hp → VK → Prop} {o : List D → Option D} (ho : OpN K r o) {f : Env → Option (List D)} {σ : L2.St} {H : Hp} {Q : VK} (h : tP K z (cN o f) σ H Q) : tPs K z f σ H fun x H1 => r x H1 Q := by
  obtain ⟨ρ, F, O, d, R, e, q⟩ := h
  obtain ⟨a, ea, e⟩ := bind_some e
  refine ⟨ρ, F, O, a, R, ea, fun v1 H1 s1 r1 => ho.run _ H1 v1 a d Q (R.grow s1).sub r1 e fun v H3 s3 r3 => ?_⟩
  rw [ext_ext s1 s3] at r3
  exact q v H3 (s1.trans s3) r3
theorem q_un {a : Expr} {pos : Pos} {op : UnaryOp} {r : V → Hp → VK → Prop} {o : D → Option D} {f : Env → Option D} (hr : UnR X (unaryOp op) r) (ho : Op1 X.K r o) (ha : PE X a (tP X.K z f)) : PE X (.UnaryOp op a pos) (tP X.K z (c1 o f)) :=
  (pe_un hr ha).mono fun _ _ _ h => tP1 ho h
theorem q_nil : PA X [] (tPs X.K z cNil) := pa_nil.mono fun σ H Q ⟨ρ, F, O, ds, R, e, q⟩ => by
  cases e
  exact q [] H (Same.refl _) .nil
theorem q_cons {e : Expr} {es : List Expr} {f : Env → Option D} {g : Env → Option (List D)} (ha : PE X e (tP X.K z f)) (hr : PA X es (tPs X.K z g)) (hs : starEach (e :: es) X.env = (false, eval e X.env) :: starEach es X.env := by rfl) : PA X (e :: es) (tPs X.K z (cCons f g)) := by
  refine (pa_cons ha hr hs).mono fun σ H Q ⟨ρ, F, O, ds, R, e, q⟩ => ?_
  obtain ⟨a, ea, e⟩ := bind_some e
  obtain ⟨as, eb, e⟩ := bind_some e
  cases e
  refine ⟨ρ, F, O, a, R, ea, fun v1 H1 s1 r1 => ?_⟩
  refine ⟨ρ, _, O, as, R.grow s1, eb, fun v2 H2 s2 r2 => ?_⟩
  rw [ext_ext s1 s2] at r2
  refine q _ _ (s1.trans s2) (.cons (r1.mono ?_) r2)
  rw [← ext_ext s1 s2]
  exact same_ext (R.grow s1).sub
theorem q_callB {x : Str} {p pos : Pos} {e : Expr} {es : List Expr} {id : String} {r : List V → Hp → VK → Prop} {o : List D → Option D} {f : Env → Option (List D)} (hc : CallR X (.builtin id) r) (ho : OpN X.K r o) (hg : Gl X x) (hm : X.mg x = none) (hv : bootBuiltins x = some (.builtin id))
    (ha : PA X (e :: es) (tPs X.K z f)) (hn : x ≠ "__name__" := by decide) (hdb : (x == ("__debug__" : Str)) = false := by decide)
    (he : starEach (e :: es) X.env = (false, eval e X.env) :: starEach es X.env := by rfl) (hpl : (backTo pos (starEach es X.env)).any (·.1) = false := by rfl) : PE X (.Call (.Name x p) (e :: es) [] pos) (tP X.K z (cN o f)) :=
  (pe_callB hc hg hm hv ha hn hdb he hpl).mono fun _ _ _ h => tPN ho h
theorem q_callTy {x : Str} {p pos : Pos} {e : Expr} {es : List Expr} {id : String} {r : List V → Hp → VK → Prop} {o : List D → Option D} {f : Env → Option (List D)} (hc : CallR X (.type id) r) (ho : OpN X.K r o) (hg : Gl X x) (hm : X.mg x = none) (hv : bootBuiltins x = some (.type id))
    (ha : PA X (e :: es) (tPs X.K z f)) (hn : x ≠ "__name__" := by decide) (hdb : (x == ("__debug__" : Str)) = false := by decide)
    (he : starEach (e :: es) X.env = (false, eval e X.env) :: starEach es X.env := by rfl) (hpl : (backTo pos (starEach es X.env)).any (·.1) = false := by rfl) : PE X (.Call (.Name x p) (e :: es) [] pos) (tP X.K z (cN o f)) :=
  (pe_callTy hc hg hm hv ha hn hdb he hpl).mono fun _ _ _ h => tPN ho h
/-- displays -/
def cTup (f : Env → Option (List D)) : Env → Option D := fun ρ => (f ρ).bind fun ds => if ds.length ≤ 1000 then some (.tuple ds) else none
def cLst (f : Env → Option (List D)) : Env → Option D := fun ρ => (f ρ).bind fun ds => if ds.length ≤ 1000 then some (.list ds) else none
theorem le1000 {n : Nat} (h : n ≤ 1000) : n ≤ sizeLine := Nat.le_of_lt (small1000 h)
theorem q_tup {es : List Expr} {x1} {pos : Pos} {f : Env → Option (List D)} (h : PA X es (tPs X.K z f)) : PE X (.Tuple es x1 pos) (tP X.K z (cTup f)) := by
  refine (pe_tup h).mono fun σ H Q ⟨ρ, F, O, d, R, e, q⟩ => ?_
  obtain ⟨ds, ea, e⟩ := bind_some e
  split at e
  · next hl =>
    cases e
    refine ⟨ρ, F, O, ds, R, ea, fun vs H1 s1 r1 => ⟨le1000 (by rw [r1.length]; exact hl), fun p hp => ?_⟩⟩
    have R1 := R.grow s1
    refine q _ _ (s1.trans (same_new hp)) ?_
    rw [← ext_ext s1 (same_new hp), ext_new R1.sub hp]
    exact .tup upd_same (r1.mono (same_new (R1.sub.free hp)))
  · cases e
theorem q_lst {es : List Expr} {pos : Pos} {f : Env → Option (List D)} (h : PA X es (tPs X.K z f)) : PE X (.List es pos) (tP X.K z (cLst f)) := by
  refine (pe_lst h).mono fun σ H Q ⟨ρ, F, O, d, R, e, q⟩ => ?_
  obtain ⟨ds, ea, e⟩ := bind_some e
  split at e
  · next hl =>
    cases e
    refine ⟨ρ, F, O, ds, R, ea, fun vs H1 s1 r1 => ⟨le1000 (by rw [r1.length]; exact hl), fun p hp => ?_⟩⟩
    have R1 := R.grow s1
    refine q _ _ (s1.trans (same_new hp)) ?_
    rw [← ext_ext s1 (same_new hp), ext_new R1.sub hp]
    exact .lst (.of upd_same) (r1.mono (same_new (R1.sub.free hp)))
  · cases e
end
end DL
namespace DL
open PySem PySem.Spec PyProof.Rows L2
theorem OpR.or {X : Cx} {f : Value → Value → Sem Value} {r r' : R2} (h : OpR X f r) (h' : OpR X f r') : OpR X f (fun x y H Q => r x y H Q ∨ r' x y H Q) := by
  intro pins s σ H x y v u Q I rx ry q
  rcases q with q | q
  · exact h pins s σ H x y v u Q I rx ry q
  · exact h' pins s σ H x y v u Q I rx ry q
theorem done {K : PySem.W.Frag} {F H : Hp} {v : V} {d : D} {Q : VK} (s : Same F H) (h : ∀ v H', Same H H' → Rep K (ext F H H') v d → Q v H') (r : Rep K F v d) : Q v H := h v H (Same.refl _) (by rw [ext_self s]; exact r)
theorem doneL {K : PySem.W.Frag} {F H : Hp} {vs : List V} {ds : List D} {Q : VK} (s : Same F H) (h : ∀ v H', Same H H' → Rep K (ext F H H') v (.list ds) → Q v H') (r : RepL K F vs ds) {p : Addr} (hp : H p = none) : Q (.ref p) (upd H p (.lst vs)) :=
  h _ _ (same_new hp) (by rw [ext_new s hp]; exact .lst (.of upd_same) (r.mono (same_new (s.free hp))))
theorem doneT {K : PySem.W.Frag} {F H : Hp} {vs : List V} {ds : List D} {Q : VK} (s : Same F H) (h : ∀ v H', Same H H' → Rep K (ext F H H') v (.tuple ds) → Q v H') (r : RepL K F vs ds) {p : Addr} (hp : H p = none) : Q (.ref p) (upd H p (.tup vs)) :=
  h _ _ (same_new hp) (by rw [ext_new s hp]; exact .tup upd_same (r.mono (same_new (s.free hp))))
def b64 (i : Int) : Bool := decide (-18446744073709551616 < i) && decide (i < 18446744073709551616)
def oAdd : D → D → Option D
  | .int i, .int j => some (.int (i + j))
  | .tuple xs, .tuple ys => if xs.length + ys.length ≤ 1000000 then some (.tuple (xs ++ ys)) else none
  | .list xs, .list ys => if xs.length + ys.length ≤ 1000000 then some (.list (xs ++ ys)) else none
  | .str x, .str y => if x.length + y.length ≤ 1000000 then some (.str (x ++ y)) else none
  | _, _ => none
def oSub : D → D → Option D
  | .int i, .int j => some (.int (i - j))
  | _, _ => none
def oMul : D → D → Option D
  | .int i, .int j => if b64 i || b64 j then some (.int (i * j)) else none
  | .tuple xs, .int k => if xs.length ≤ 1000 then (if xs.isEmpty then none else if 2 ≤ k then (if k ≤ 1000 then some (.tuple (List.replicate k.toNat xs).flatten) else none) else (if k = 1 then some (.tuple xs) else none)) else none
  | _, _ => none
def oDiv : D → D → Option D
  | .int i, .int j => if j = 0 then none else if j.natAbs < 2 ^ 200 then some (.int (i.fdiv j)) else none
  | _, _ => none
def oMod : D → D → Option D
  | .int i, .int j => if j = 0 then none else some (.int (i.fmod j))
  | _, _ => none
def oPow : D → D → Option D
  | .int i, .int j => if 0 ≤ j then (if j ≤ 1000 then (if i.natAbs < 1000000 then some (.int (i ^ j.toNat)) else none) else none) else none
  | _, _ => none
def oNeg : D → Option D
  | .int i => some (.int (-i))
  | _ => none
section
variable {K : PySem.W.Frag}
theorem op2I {g : Int → Int → Int} {o : D → D → Option D} (h : ∀ a b d, o a b = some d → ∃ i j, a = .int i ∧ b = .int j ∧ d = .int (g i j)) : Op2 K (rI0 fun i j => .int (g i j)) o := ⟨fun F H x y a b d Q s ra rb e q => by
  obtain ⟨i, j, rfl, rfl, rfl⟩ := h a b d e
  cases ra
  cases rb
  exact ⟨i, j, rfl, rfl, done s q (.int _)⟩⟩
theorem op2C {C : Int → Int → Prop} {g : Int → Int → Int} {o : D → D → Option D} (h : ∀ a b d, o a b = some d → ∃ i j, a = .int i ∧ b = .int j ∧ C i j ∧ d = .int (g i j)) : Op2 K (rI C fun i j => .int (g i j)) o := ⟨fun F H x y a b d Q s ra rb e q => by
  obtain ⟨i, j, rfl, rfl, c, rfl⟩ := h a b d e
  cases ra
  cases rb
  exact ⟨i, j, rfl, rfl, c, done s q (.int _)⟩⟩
theorem w_sub : Op2 K (rI0 fun i j => .int (i - j)) oSub := op2I fun a b d e => by
  unfold oSub at e
  split at e
  · cases e
    exact ⟨_, _, rfl, rfl, rfl⟩
  · cases e
def CDivW (i j : Int) : Prop := j ≠ 0 ∧ j.natAbs < 2 ^ 200
theorem op_fdivW : OpR X (binaryOp .FloorDiv) (rI CDivW fun i j => .int (i.fdiv j)) := opI fun _ j _ _ _ _ _ hc q => floordiv_int hc.1 q (.inl (PyProof.noPylong_of_log2 (by
  have h1 : j ≠ 0 := hc.1
  have h2 : j.natAbs < 2 ^ 200 := hc.2
  have : j.natAbs.log2 < 200 := (Nat.log2_lt (by omega)).mpr h2
  omega)))
theorem w_div : Op2 K (rI CDivW fun i j => .int (i.fdiv j)) oDiv := op2C fun a b d e => by
  unfold oDiv at e
  split at e
  · split at e
    · cases e
    · split at e
      · cases e
        exact ⟨_, _, rfl, rfl, ⟨by assumption, by assumption⟩, rfl⟩
      · cases e
  · cases e
theorem w_mod : Op2 K (rI (fun _ j => j ≠ 0) fun i j => .int (i.fmod j)) oMod := op2C fun a b d e => by
  unfold oMod at e
  split at e
  · split at e
    · cases e
    · cases e
      exact ⟨_, _, rfl, rfl, by assumption, rfl⟩
  · cases e
theorem cpow_of {i j : Int} (h0 : 0 ≤ j) (h1 : j ≤ 1000) (h2 : i.natAbs < 1000000) : CPow i j := ⟨h0, by omega, by omega⟩
theorem w_pow : Op2 K (rI CPow fun i j => .int (i ^ j.toNat)) oPow := op2C fun a b d e => by
  unfold oPow at e
  split at e
  · split at e
    · split at e
      · split at e
        · cases e
          exact ⟨_, _, rfl, rfl, cpow_of (by assumption) (by assumption) (by assumption), rfl⟩
        · cases e
      · cases e
    · cases e
  · cases e
def rNeg : V → Hp → VK → Prop := rU fun i => .int (-i)
theorem w_neg : Op1 K rNeg oNeg := ⟨fun F H x a d Q s ra e q => by
  unfold oNeg at e
  split at e
  · cases e
    cases ra
    exact ⟨_, rfl, done s q (.int _)⟩
  · cases e⟩
/-- list + list, whatever the lists -/
def rCatL (K : PySem.W.Frag) : R2 := fun x y H Q => ∃ l b xs zs, x = .ref l ∧ y = .ref b ∧ SqL K H l xs ∧ SqL K H b zs ∧ xs.length + zs.length ≤ sizeLine ∧ ∀ p, H p = none → Q (.ref p) (upd H p (.lst (xs ++ zs)))
theorem op_catL {X : Cx} : OpR X (binaryOp .Add) (rCatL X.K) := by
  intro pins s σ H x y v u Q I rx ry h
  obtain ⟨l, b, xs, zs, rfl, rfl, hH, hB, hz, q⟩ := h
  cases rx
  cases ry
  obtain ⟨its, r, pl, _⟩ := I.list hH
  obtain ⟨its2, r2, pl2, _⟩ := I.list hB
  obtain ⟨⟨cls, dd, data, sl⟩, ho, hc, n, hd⟩ := pl.isList
  obtain ⟨⟨cls2, dd2, data2, sl2⟩, ho2, hc2, n2, hd2⟩ := pl2.isList
  simp only at hc hd hc2 hd2
  subst hc hd hc2 hd2
  have l1 := r.length
  have l2 := r2.length
  have ea : its.toArray ++ its2.toArray = (its ++ its2).toArray := by simp
  refine PySem.concat_meets ⟨_, ho, rfl⟩ ⟨_, ho2, rfl⟩ PySem.noFill_list_add PySem.seq_list_add PySem.F.slot_list_add PySem.F.entry_list_add (PySem.F.args_list_add_2 _ _) (PyProof.Rows.list_addW l b its.toArray its2.toArray n n2 dd dd2 sl sl2 (by simp only [List.size_toArray]; omega)) ⟨ho, ho2, ?_⟩
  rw [ea]
  exact ⟨.ref _, _, I.lnew (t' := s.toks) (r.append r2) (by rw [List.length_append]; omega), rfl, q _ I.fresh⟩
def rAddA (K : PySem.W.Frag) : R2 := fun x y H Q => (rI0 (fun i j => .int (i + j)) x y H Q ∨ rCatA K x y H Q) ∨ (rCatL K x y H Q ∨ ∃ i j, x = .str i ∧ y = .str j ∧ i.length + j.length ≤ sizeLine ∧ Q (.str (i ++ j)) H)
theorem op_addA {X : Cx} : OpR X (binaryOp .Add) (rAddA X.K) := OpR.or (OpR.or op_add op_catA) (OpR.or op_catL op_add_str)
theorem leM {n : Nat} (h : n ≤ 1000000) : n ≤ sizeLine := by rw [sizeLine_eq]; omega
theorem w_add : Op2 K (rAddA K) oAdd := ⟨fun F H x y a b d Q s ra rb e q => by
  unfold oAdd at e
  split at e
  · cases e
    cases ra
    cases rb
    exact .inl (.inl ⟨_, _, rfl, rfl, done s q (.int _)⟩)
  · next xs ys =>
    split at e
    · next hl =>
      cases e
      cases ra with
      | tup h1 t1 =>
        cases rb with
        | tup h2 t2 =>
          have l1 := t1.length
          have l2 := t2.length
          refine .inl (.inr ⟨_, _, _, _, rfl, rfl, sameT s (sqT_of h1), sameT s (sqT_of h2), leM (by omega), fun z => ?_, fun _ z => ?_, fun _ _ p hp => ?_⟩)
          · subst z
            cases t1
            exact done s q (.tup h2 t2)
          · subst z
            cases t2
            rw [List.append_nil] at q
            exact done s q (.tup h1 t1)
          · exact doneT s q (t1.append t2) hp
    · cases e
  · next xs ys =>
    split at e
    · next hl =>
      cases e
      cases ra with
      | lst h1 t1 =>
        cases rb with
        | lst h2 t2 =>
          have l1 := t1.length
          have l2 := t2.length
          exact .inr (.inl ⟨_, _, _, _, rfl, rfl, s.seq h1, s.seq h2, leM (by omega), fun p hp => doneL s q (t1.append t2) hp⟩)
    · cases e
  · split at e
    · next hl =>
      cases e
      cases ra
      cases rb
      exact .inr (.inr ⟨_, _, rfl, rfl, leM hl, done s q (.str _)⟩)
    · cases e
  · cases e⟩
theorem tuple_mul1 (l : Addr) (items : Array Value) (n : Nat) (dd : Option Addr) (sl : Array (Option Value)) (u : Tok) :
    Meets (Builtin.«tuple.__mul__» ⟨[.ref l, .int 1 u], []⟩) (fun _ R s => s.heap.get? l = some { cls := .type "tuple", dict := dd, data := .seq items n, slots := sl } ∧ R (.ok (.ret (Value.ref l))) s) :=
  .of_wp fun prog w A R s h => by
    obtain ⟨hp, g, d, tk, os⟩ := s
    obtain ⟨hl, h⟩ := h
    have f1 := AutoSeq1.idx_int
    have c1 : (items.isEmpty || (1 : Int) == 1) = true := by simp
    wp_walk using wpAny_loadPart' hl
    repeat (first
      | (refine wpAny_ite_false (decide_eq_false (by decide)) ?_; wp_walk using wpAny_loadPart' hl)
      | (refine wpAny_ite_true (decide_eq_true c1) ?_; wp_walk using wpAny_loadPart' hl))
    exact ⟨_, rfl, h⟩
/-- a tuple taken once is itself -/
def rRep1 (K : PySem.W.Frag) : R2 := fun x y H Q => ∃ l xs, x = .ref l ∧ y = .int 1 ∧ SqT K H l xs ∧ Q (.ref l) H
theorem op_rep1 {X : Cx} : OpR X (binaryOp .Mult) (rRep1 X.K) := by
  intro pins s σ H x y v u Q I rx ry h
  obtain ⟨l, xs, rfl, rfl, hT, q⟩ := h
  cases rx
  obtain ⟨t, rfl⟩ := ry
  obtain ⟨its, r, ⟨⟨cls, dd, data, sl⟩, ho, hc, n, hd⟩, hs⟩ := I.tuple hT
  simp only at hc hd
  subst hc hd
  exact wpAny_binaryOp_repeat_ref (T := "tuple") (U := "int") (by decide) ⟨_, ho, rfl⟩ (fun s' => typeIs_int s' 1 t) noFill_tuple_mul F.fills_int_mul F.slot_int_rmul repeat_tuple F.slot_int_index.lookup
    (call_meets F.slot_int_rmul (typeIs_int s 1 t) F.entry_int_rmul (F.args_int_rmul_2 _ _) (int_rmul_tuple 1 t l its.toArray n dd sl)
      ⟨ho, rfl, ⟨_, ho, rfl⟩, call_meets F.slot_tuple_mul ⟨_, ho, rfl⟩ F.entry_tuple_mul (F.args_tuple_mul_2 _ _) (tuple_mul1 l its.toArray n dd sl t) ⟨ho, ⟨.ref l, H, I, rfl, q⟩⟩⟩)
def rMulA (K : PySem.W.Frag) : R2 := fun x y H Q => (rI CMul (fun i j => .int (i * j)) x y H Q ∨ rRepT K x y H Q) ∨ rRep1 K x y H Q
theorem op_mulA {X : Cx} : OpR X (binaryOp .Mult) (rMulA X.K) := OpR.or (OpR.or op_mul op_repT) op_rep1
theorem b64_of {i : Int} (h : b64 i = true) : -(2 ^ 64) < i ∧ i < 2 ^ 64 := by
  unfold b64 at h
  rw [Bool.and_eq_true] at h
  have h1 := of_decide_eq_true h.1
  have h2 := of_decide_eq_true h.2
  exact ⟨by omega, by omega⟩
theorem w_mul : Op2 K (rMulA K) oMul := ⟨fun F H x y a b d Q s ra rb e q => by
  unfold oMul at e
  split at e
  · split at e
    · next i j hb =>
      cases e
      cases ra
      cases rb
      refine .inl (.inl ⟨_, _, rfl, rfl, ?_, done s q (.int _)⟩)
      rcases Bool.or_eq_true_iff.mp hb with h | h
      · exact .inl (b64_of h)
      · exact .inr (b64_of h)
    · cases e
  · next xs k =>
    split at e
    · next hl =>
      split at e
      · cases e
      · next hne =>
        split at e
        · next h2 =>
          split at e
          · next h1k =>
            cases e
            cases rb
            cases ra with
            | tup h1 t1 =>
              have l1 := t1.length
              refine .inl (.inr ⟨_, _, _, rfl, rfl, sameT s (sqT_of h1), fun z => ?_, h2, h1k, by omega, fun p hp => doneT s q (t1.rep _) hp⟩)
              subst z
              cases t1
              exact hne rfl
          · cases e
        · split at e
          · next h1k =>
            cases e
            cases rb
            cases ra with
            | tup h1 t1 =>
              subst h1k
              exact .inr ⟨_, _, rfl, rfl, sameT s (sqT_of h1), done s q (.tup h1 t1)⟩
          · cases e
    · cases e
  · cases e⟩
def okD (d : D) : Bool := SeqAt.shaped d
def oEq (a b : D) : Option D := if okD a && okD b then some (.bool (PyData.eqv a b)) else none
def oNe (a b : D) : Option D := if okD a && okD b then some (.bool (!PyData.eqv a b)) else none
/-- equality of plain data -/
def rEqQ (K : PySem.W.Frag) : R2 := fun x y H Q => ∃ a b, (Dp K H x a ∧ Dp K H y b) ∧ (okD a = true ∧ okD b = true) ∧ Q (.bl (PyData.eqv a b)) H
def rNeQ (K : PySem.W.Frag) : R2 := fun x y H Q => ∃ a b, (Dp K H x a ∧ Dp K H y b) ∧ (okD a = true ∧ okD b = true) ∧ Q (.bl (!PyData.eqv a b)) H
def rInQ (K : PySem.W.Frag) : R2 := fun x y H Q => ∃ a bs, (Dp K H x a ∧ Dp K H y (.list bs)) ∧ (okD a = true ∧ okD (.list bs) = true) ∧ Q (.bl (bs.any fun z => PyData.eqv z a)) H
def rNotInQ (K : PySem.W.Frag) : R2 := fun x y H Q => ∃ a bs, (Dp K H x a ∧ Dp K H y (.list bs)) ∧ (okD a = true ∧ okD (.list bs) = true) ∧ Q (.bl (!bs.any fun z => PyData.eqv z a)) H
section
variable {X : Cx}
theorem op_eqQ (hu : X.A.units + 64 < cLine) : OpR X (compareOp .Eq) (rEqQ X.K) := fun _ _ _ H _ _ _ _ _ I rx ry ⟨_, _, ⟨ka, kb⟩, ⟨sa, sb⟩, q⟩ =>
  (Dp.reads I _ _ _ ka rx).elim fun _ h1 => (Dp.reads I _ _ _ kb ry).elim fun _ h2 => SeqAt.compareEq_shaped h1 h2 sa sb hu ⟨.bl _, H, I, rfl, q⟩
theorem op_neQ (hu : X.A.units + 64 < cLine) : OpR X (compareOp .NotEq) (rNeQ X.K) := fun _ _ _ H _ _ _ _ _ I rx ry ⟨_, _, ⟨ka, kb⟩, ⟨sa, sb⟩, q⟩ =>
  (Dp.reads I _ _ _ ka rx).elim fun _ h1 => (Dp.reads I _ _ _ kb ry).elim fun _ h2 => SeqAt.compareNe_shaped h1 h2 sa sb hu ⟨.bl _, H, I, rfl, q⟩
theorem op_inQ (hu : X.A.units + 65 < cLine) : OpR X (compareOp .In) (rInQ X.K) := fun _ _ _ H _ _ _ _ _ I rx ry ⟨_, _, ⟨ka, kb⟩, ⟨sa, sb⟩, q⟩ =>
  (Dp.reads I _ _ _ ka rx).elim fun _ h1 => (Dp.reads I _ _ _ kb ry).elim fun _ h2 => SeqAt.in_list_reads h2 h1 (SeqAt.canLay_of_shaped sb) (SeqAt.canLay_of_shaped sa) (room_in_shaped sa hu) ⟨.bl _, H, I, rfl, q⟩
theorem op_notInQ (hu : X.A.units + 65 < cLine) : OpR X (compareOp .NotIn) (rNotInQ X.K) := fun _ _ _ H _ _ _ _ _ I rx ry ⟨_, _, ⟨ka, kb⟩, ⟨sa, sb⟩, q⟩ =>
  (Dp.reads I _ _ _ ka rx).elim fun _ h1 => (Dp.reads I _ _ _ kb ry).elim fun _ h2 => SeqAt.notIn_list_reads h2 h1 (SeqAt.canLay_of_shaped sb) (SeqAt.canLay_of_shaped sa) (room_in_shaped sa hu) ⟨.bl _, H, I, rfl, q⟩
end
theorem w_eq : Op2 K (rEqQ K) oEq := ⟨fun F H x y a b d Q s ra rb e q => by
  unfold oEq at e
  split at e
  · next h =>
    cases e
    rw [Bool.and_eq_true] at h
    exact ⟨a, b, ⟨ra.mono s, rb.mono s⟩, h, done s q (.bl _)⟩
  · cases e⟩
theorem w_ne : Op2 K (rNeQ K) oNe := ⟨fun F H x y a b d Q s ra rb e q => by
  unfold oNe at e
  split at e
  · next h =>
    cases e
    rw [Bool.and_eq_true] at h
    exact ⟨a, b, ⟨ra.mono s, rb.mono s⟩, h, done s q (.bl _)⟩
  · cases e⟩
def isN : D → Bool
  | .none => true
  | _ => false
theorem isN_not {d : D} (h : isN d = false) : d ≠ .none := fun e => by
  subst e
  cases h
def cmpOk (a b : D) : Bool := PySem.W.alike a b && !isN a && decide (a.depth ≤ 60)
def oLt (a b : D) : Option D := if cmpOk a b then some (.bool (PySem.W.dataLt a b)) else none
def oGt (a b : D) : Option D := if cmpOk a b then some (.bool (PySem.W.dataLt b a)) else none
def oLe (a b : D) : Option D := if cmpOk a b then some (.bool (!PySem.W.dataLt b a)) else none
def oGe (a b : D) : Option D := if cmpOk a b then some (.bool (!PySem.W.dataLt a b)) else none
def rCmp (K : PySem.W.Frag) (g : D → D → Bool) : R2 := fun x y H Q => ∃ d e, Dp K H x d ∧ Dp K H y e ∧ cmpOk d e = true ∧ Q (.bl (g d e)) H
theorem cmpOk_of {a b : D} (h : cmpOk a b = true) : PySem.W.alike a b = true ∧ a ≠ .none ∧ a.depth ≤ 60 := by
  unfold cmpOk at h
  rw [Bool.and_eq_true, Bool.and_eq_true] at h
  exact ⟨h.1.1, isN_not (by simpa using h.1.2), of_decide_eq_true h.2⟩
section
variable {X : Cx}
theorem op_cmpD {op : CmpOp} {g : D → D → Bool} (hu : X.A.units + 64 < cLine)
    (rule : ∀ {A : Around} {E : Value → Shared → Prop} {s : Shared} {a b : Value} {da db : PyData} {as bs : List Addr} {Q : Value → Shared → Prop}, Reads s.heap a da as → Reads s.heap b db bs → PySem.W.alike da db = true → da ≠ .none → A.units + min da.depth db.depth < cLine → Q (.bool (g da db)) s → wpAny (model X.prog X.w) A (compareOp op a b) Q E s) : OpR X (compareOp op) (rCmp X.K g) := by
  intro pins s σ H x y v u Q I rx ry h
  obtain ⟨d, e, hd, he, c, q⟩ := h
  obtain ⟨as, r1⟩ := Dp.reads I d x v hd rx
  obtain ⟨bs, r2⟩ := Dp.reads I e y u he ry
  obtain ⟨c1, c2, c3⟩ := cmpOk_of c
  have := Nat.min_le_left d.depth e.depth
  exact rule r1 r2 c1 c2 (by omega) ⟨.bl _, H, I, rfl, q⟩
theorem op_ltD (hu : X.A.units + 64 < cLine) : OpR X (compareOp .Lt) (rCmp X.K fun a b => PySem.W.dataLt a b) := op_cmpD hu PySem.W.lt_data
theorem op_gtD (hu : X.A.units + 64 < cLine) : OpR X (compareOp .Gt) (rCmp X.K fun a b => PySem.W.dataLt b a) := op_cmpD hu PySem.W.gt_data
theorem op_leD (hu : X.A.units + 64 < cLine) : OpR X (compareOp .LtE) (rCmp X.K fun a b => !PySem.W.dataLt b a) := op_cmpD hu PySem.W.le_data
theorem op_geD (hu : X.A.units + 64 < cLine) : OpR X (compareOp .GtE) (rCmp X.K fun a b => !PySem.W.dataLt a b) := op_cmpD hu PySem.W.ge_data
end
theorem w_cmp {g : D → D → Bool} : Op2 K (rCmp K g) (fun a b => if cmpOk a b then some (.bool (g a b)) else none) := ⟨fun F H x y a b d Q s ra rb e q => by
  split at e
  · next h =>
    cases e
    exact ⟨a, b, ra.mono s, rb.mono s, h, done s q (.bl _)⟩
  · cases e⟩
theorem w_lt : Op2 K (rCmp K fun a b => PySem.W.dataLt a b) oLt := w_cmp
theorem w_gt : Op2 K (rCmp K fun a b => PySem.W.dataLt b a) oGt := w_cmp
theorem w_le : Op2 K (rCmp K fun a b => !PySem.W.dataLt b a) oLe := w_cmp
theorem w_ge : Op2 K (rCmp K fun a b => !PySem.W.dataLt a b) oGe := w_cmp
/-- is None, is True -/
def oIs : D → D → Option D
  | a, .none => some (.bool (isN a))
  | .bool j, .bool k => some (.bool (decide (j = k)))
  | _, _ => none
theorem isN_dec {F : Hp} {x : V} {a : D} (r : Rep K F x a) : decide (x = .non) = isN a := by
  cases r <;> rfl
def rIsA : R2 := fun x y H Q => (y = .non ∧ Q (.bl (decide (x = .non))) H) ∨ rIsB x y H Q
theorem op_isA {X : Cx} : OpR X (compareOp .Is) rIsA := OpR.or op_isN op_isBl
theorem w_is : Op2 K rIsA oIs := ⟨fun F H x y a b d Q s ra rb e q => by
  unfold oIs at e
  split at e
  · cases e
    cases rb
    exact .inl ⟨rfl, done s q (by rw [isN_dec ra]; exact .bl _)⟩
  · cases e
    cases ra
    cases rb
    exact .inr ⟨_, _, rfl, rfl, done s q (.bl _)⟩
  · cases e⟩
/-- x in xs -/
def oIn : D → D → Option D
  | d, .list ds => if okD d && okD (.list ds) then some (.bool (ds.any fun z => PyData.eqv z d)) else none
  | d, .tuple ds => if okD d && okD (.tuple ds) then some (.bool (ds.any fun z => PyData.eqv z d)) else none
  | _, _ => none
def oNotIn : D → D → Option D
  | d, .list ds => if okD d && okD (.list ds) then some (.bool (!ds.any fun z => PyData.eqv z d)) else none
  | d, .tuple ds => if okD d && okD (.tuple ds) then some (.bool (!ds.any fun z => PyData.eqv z d)) else none
  | _, _ => none
def rInT (K : PySem.W.Frag) : R2 := fun x y H Q => ∃ d ds, Dp K H x d ∧ Dp K H y (.tuple ds) ∧ SeqAt.shaped d = true ∧ SeqAt.shaped (.tuple ds) = true ∧ Q (.bl (ds.any fun z => PyData.eqv z d)) H
def rNotInT (K : PySem.W.Frag) : R2 := fun x y H Q => ∃ d ds, Dp K H x d ∧ Dp K H y (.tuple ds) ∧ SeqAt.shaped d = true ∧ SeqAt.shaped (.tuple ds) = true ∧ Q (.bl (!ds.any fun z => PyData.eqv z d)) H
section
variable {X : Cx}
theorem op_inT (hu : X.A.units + 65 < cLine) : OpR X (compareOp .In) (rInT X.K) := by
  intro pins s σ H x y v u Q I rx ry h
  obtain ⟨d, ds, hd, he, sd, se, q⟩ := h
  obtain ⟨as, r1⟩ := Dp.reads I d x v hd rx
  obtain ⟨bs, r2⟩ := Dp.reads I (.tuple ds) y u he ry
  exact SeqAt.in_tuple_reads r2 r1 (SeqAt.canLay_of_shaped se) (SeqAt.canLay_of_shaped sd) (room_in_shaped sd hu) ⟨.bl _, H, I, rfl, q⟩
theorem op_notInT (hu : X.A.units + 65 < cLine) : OpR X (compareOp .NotIn) (rNotInT X.K) := by
  intro pins s σ H x y v u Q I rx ry h
  obtain ⟨d, ds, hd, he, sd, se, q⟩ := h
  obtain ⟨as, r1⟩ := Dp.reads I d x v hd rx
  obtain ⟨bs, r2⟩ := Dp.reads I (.tuple ds) y u he ry
  exact SeqAt.notIn_tuple_reads r2 r1 (SeqAt.canLay_of_shaped se) (SeqAt.canLay_of_shaped sd) (room_in_shaped sd hu) ⟨.bl _, H, I, rfl, q⟩
def rInA (K : PySem.W.Frag) : R2 := fun x y H Q => rInQ K x y H Q ∨ rInT K x y H Q
def rNotInA (K : PySem.W.Frag) : R2 := fun x y H Q => rNotInQ K x y H Q ∨ rNotInT K x y H Q
theorem op_inA (hu : X.A.units + 65 < cLine) : OpR X (compareOp .In) (rInA X.K) := OpR.or (op_inQ hu) (op_inT hu)
theorem op_notInA (hu : X.A.units + 65 < cLine) : OpR X (compareOp .NotIn) (rNotInA X.K) := OpR.or (op_notInQ hu) (op_notInT hu)
end
theorem w_in : Op2 K (rInA K) oIn := ⟨fun F H x y a b d Q s ra rb e q => by
  unfold oIn at e
  split at e
  · split at e
    · next h =>
      cases e
      rw [Bool.and_eq_true] at h
      exact .inl ⟨_, _, ⟨ra.mono s, rb.mono s⟩, h, done s q (.bl _)⟩
    · cases e
  · split at e
    · next h =>
      cases e
      rw [Bool.and_eq_true] at h
      exact .inr ⟨_, _, ra.mono s, rb.mono s, h.1, h.2, done s q (.bl _)⟩
    · cases e
  · cases e⟩
theorem w_notIn : Op2 K (rNotInA K) oNotIn := ⟨fun F H x y a b d Q s ra rb e q => by
  unfold oNotIn at e
  split at e
  · split at e
    · next h =>
      cases e
      rw [Bool.and_eq_true] at h
      exact .inl ⟨_, _, ⟨ra.mono s, rb.mono s⟩, h, done s q (.bl _)⟩
    · cases e
  · split at e
    · next h =>
      cases e
      rw [Bool.and_eq_true] at h
      exact .inr ⟨_, _, ra.mono s, rb.mono s, h.1, h.2, done s q (.bl _)⟩
    · cases e
  · cases e⟩
def oIx : D → D → Option D
  | .list ds, .int i => atI ds i
  | .tuple ds, .int i => atI ds i
  | .str z, .int i => if z.length ≤ 1000000 then (atI z.cps.toList i).map fun c => .str ⟨#[c]⟩ else none
  | _, _ => none
theorem atI_rep {F : Hp} {vs : List V} {ds : List D} {i : Int} {d : D} (t : RepL K F vs ds) (e : atI ds i = some d) : ∃ v, atI vs i = some v ∧ Rep K F v d := by
  unfold atI at e ⊢
  obtain ⟨j, ej, e⟩ := bind_some e
  rw [t.length, ej]
  exact t.get e
theorem w_ix : Op2 K (rIx K) oIx := ⟨fun F H x y a b d Q s ra rb e q => by
  unfold oIx at e
  split at e
  · cases rb
    cases ra with
    | lst h1 t1 =>
      obtain ⟨v, h2, r⟩ := atI_rep t1 e
      exact .inl ⟨_, _, _, _, rfl, rfl, s.seq h1, h2, done s q r⟩
  · cases rb
    cases ra with
    | tup h1 t1 =>
      obtain ⟨v, h2, r⟩ := atI_rep t1 e
      exact .inr (.inl ⟨_, _, _, _, rfl, rfl, sameT s (sqT_of h1), h2, done s q r⟩)
  · split at e
    · next hl =>
      cases rb
      cases ra
      rw [Option.map_eq_some_iff] at e
      obtain ⟨c, h1, h2⟩ := e
      subst h2
      exact .inr (.inr ⟨_, _, _, rfl, rfl, leM hl, h1, done s q (.str _)⟩)
    · cases e
  · cases e⟩
def cutD (ds : List D) (lo hi : Option Int) : List D := (ds.drop (HT.sIx ds.length 0 lo)).take (HT.sIx ds.length ds.length hi - HT.sIx ds.length 0 lo)
def cNoPart : Env → Option (Option Int) := fun _ => some none
def cPart (f : Env → Option D) : Env → Option (Option Int) := fun ρ => (f ρ).bind fun d => match d with
  | .int i => some (some i)
  | _ => none
def tO (K : PySem.W.Frag) (z : Z) (f : Env → Option (Option Int)) : TO := fun σ H Q => ∃ ρ F O o, Rel K z ρ σ F H O ∧ f ρ = some o ∧ ∀ H', Same H H' → Q o H'
def oSl : D → Option Int → Option Int → Option D
  | .list ds, lo, hi => some (.list (cutD ds lo hi))
  | .tuple ds, lo, hi => some (.tuple (cutD ds lo hi))
  | .str z, lo, hi => none
  | _, _, _ => none
def cSl (f : Env → Option D) (l h : Env → Option (Option Int)) : Env → Option D := fun ρ => (f ρ).bind fun d => (l ρ).bind fun lo => (h ρ).bind fun hi => oSl d lo hi
section
variable {X : Cx} {z : Z}
theorem _root_.L2.PO.mono {e : Option Expr} {t t' : TO} (h : PO X e t) (i : ∀ σ H Q, t' σ H Q → t σ H Q) : PO X e t' := ⟨fun pins s σ H Q I q => h.run pins s σ H Q I (i _ _ _ q)⟩
theorem q_nopart : PO X none (tO X.K z cNoPart) := po_none.mono fun σ H Q ⟨ρ, F, O, o, R, e, q⟩ => by
  cases e
  exact q H (Same.refl _)
theorem q_part {e : Expr} {f : Env → Option D} (h : PE X e (tP X.K z f)) : PO X (some e) (tO X.K z (cPart f)) := (po_some h).mono fun σ H Q ⟨ρ, F, O, o, R, e, q⟩ => by
  obtain ⟨d, h1, h2⟩ := bind_some e
  split at h2
  · cases h2
    refine ⟨ρ, F, O, _, R, h1, fun v H1 s1 r1 => ?_⟩
    cases r1
    exact ⟨_, rfl, q H1 s1⟩
  · cases h2
theorem cutV_rep {K : PySem.W.Frag} {F : Hp} {vs : List V} {ds : List D} (t : RepL K F vs ds) (lo hi : Option Int) : RepL K F (cutV vs lo hi) (cutD ds lo hi) := by
  unfold cutV cutD
  rw [t.length]
  exact (t.drop _).take _
def rSlAll (K : PySem.W.Frag) : V → Option Int → Option Int → Hp → VK → Prop := fun x lo hi H Q => rSlL K x lo hi H Q ∨ rSlA K x lo hi H Q
theorem q_slice {e : Expr} {lo hi : Option Expr} {pos p2 : Pos} {f : Env → Option D} {l h : Env → Option (Option Int)} (he : PE X e (tP X.K z f)) (hl : PO X lo (tO X.K z l)) (hh : PO X hi (tO X.K z h)) : PE X (.Subscript e (.Slice lo hi none p2) pos) (tP X.K z (cSl f l h)) := by
  refine (pe_slice (r := rSlAll X.K) (SlR.or sl_list sl_tupA) he hl hh).mono fun σ H Q ⟨ρ, F, O, d, R, e, q⟩ => ?_
  obtain ⟨a, ea, e⟩ := bind_some e
  obtain ⟨li, el, e⟩ := bind_some e
  obtain ⟨hi, eh, e⟩ := bind_some e
  refine ⟨ρ, F, O, a, R, ea, fun v1 H1 s1 r1 => ?_⟩
  refine ⟨ρ, _, O, li, R.grow s1, el, fun H2 s2 => ?_⟩
  refine ⟨ρ, _, O, hi, R.grow (s1.trans s2), eh, fun H3 s3 => ?_⟩
  have s13 := (s1.trans s2).trans s3
  have R3 := R.grow s13
  have r3 : Rep X.K (ext F H H3) v1 a := r1.mono (by
    rw [← ext_ext s1 (s2.trans s3)]
    exact same_ext (R.grow s1).sub)
  have q3 : ∀ v H', Same H3 H' → Rep X.K (ext (ext F H H3) H3 H') v d → Q v H' := fun v H' s' r' => q v H' (s13.trans s') (by
    rw [ext_ext s13 s'] at r'
    exact r')
  unfold oSl at e
  split at e
  · cases e
    cases r3 with
    | lst h1 t1 => exact .inl ⟨_, _, rfl, R3.sub.seq h1, fun p hp => doneL R3.sub q3 (cutV_rep t1 li hi) hp⟩
  · next ds lo' hi' =>
    cases e
    cases r3 with
    | tup h1 t1 =>
      refine .inr ⟨_, _, rfl, sameT R3.sub (sqT_of h1), fun ⟨z1, z2⟩ => ?_, fun _ p hp => doneT R3.sub q3 (cutV_rep t1 li hi) hp⟩
      refine done R3.sub q3 ?_
      have e1 : cutD ds li hi = ds := by
        unfold cutD
        rw [← t1.length, z1, z2, t1.length]
        simp
      rw [e1]
      exact .tup h1 t1
  · cases e
  · cases e
end
end
end DL
namespace DL
open PySem PySem.Spec PyProof.Rows L2
def oLen : List D → Option D
  | [.list ds] => some (.int ds.length)
  | [.tuple ds] => some (.int ds.length)
  | [.str z] => if z.length ≤ 1000000 then some (.int z.length) else none
  | _ => none
def oAbs : List D → Option D
  | [.int i] => some (.int (if i < 0 then -i else i))
  | _ => none
def oInt : List D → Option D
  | [.int i] => some (.int i)
  | [.bool k] => some (.int (if k then 1 else 0))
  | _ => none
def oList : List D → Option D
  | [.list ds] => some (.list ds)
  | [.tuple ds] => some (.list ds)
  | _ => none
def oTuple : List D → Option D
  | [.list ds] => some (.tuple ds)
  | [.tuple ds] => some (.tuple ds)
  | _ => none
def intsOf : List D → Option (List Int)
  | [] => some []
  | .int i :: r => (intsOf r).map (i :: ·)
  | _ :: _ => none
theorem intsOf_eq : ∀ {ds : List D} {ns : List Int}, intsOf ds = some ns → ds = ns.map PyData.int
  | [], ns, h => by
    cases h
    rfl
  | .int i :: r, ns, h => by
    unfold intsOf at h
    rw [Option.map_eq_some_iff] at h
    obtain ⟨m, h1, h2⟩ := h
    subst h2
    rw [intsOf_eq h1]
    rfl
  | .none :: _, _, h => by cases h
  | .bool _ :: _, _, h => by cases h
  | .str _ :: _, _, h => by cases h
  | .list _ :: _, _, h => by cases h
  | .tuple _ :: _, _, h => by cases h
  | .dict _ :: _, _, h => by cases h
def sumI : List Int → Int
  | [] => 0
  | i :: r => i + sumI r
theorem sumI_eq : ∀ ns : List Int, sumI ns = ns.sum
  | [] => rfl
  | i :: r => by
    rw [List.sum_cons, ← sumI_eq r]
    rfl
def oSum : List D → Option D
  | [.list ds] => (intsOf ds).map fun ns => .int (sumI ns)
  | [.tuple ds] => (intsOf ds).map fun ns => .int (sumI ns)
  | _ => none
def allAlike (xs : List D) : Bool := xs.all fun x => xs.all fun y => PySem.W.alike x y
def minOk (xs : List D) : Bool := allAlike xs && xs.all (fun x => !isN x) && decide (PyData.depthAll xs ≤ 60)
def oMin : List D → Option D
  | [.int i, .int j] => some (.int (if j < i then j else i))
  | [.list (x :: xs)] => if minOk (x :: xs) then some (PySem.W.minD x xs) else none
  | [.tuple (x :: xs)] => if minOk (x :: xs) then some (PySem.W.minD x xs) else none
  | _ => none
def oMax : List D → Option D
  | [.int i, .int j] => some (.int (if j > i then j else i))
  | [.list (x :: xs)] => if minOk (x :: xs) then some (PySem.W.maxD x xs) else none
  | [.tuple (x :: xs)] => if minOk (x :: xs) then some (PySem.W.maxD x xs) else none
  | _ => none
section
variable {X : Cx} {K : PySem.W.Frag}
def rLen (K : PySem.W.Frag) : List V → Hp → VK → Prop := fun xs H Q => ∃ x n, xs = [x] ∧ LenV K x H n ∧ Q (.int n) H
theorem w_len : OpN K (rLen K) oLen := ⟨fun F H xs as d Q s ra e q => by
  unfold oLen at e
  split at e
  · cases e
    cases ra with
    | cons r t =>
      cases t
      cases r with
      | lst h1 t1 => exact ⟨_, _, rfl, .inl ⟨_, s.seq h1, rfl⟩, done s q (by rw [t1.length]; exact .int _)⟩
  · cases e
    cases ra with
    | cons r t =>
      cases t
      cases r with
      | tup h1 t1 => exact ⟨_, _, rfl, .inr ⟨_, sameT s (sqT_of h1), rfl⟩, done s q (by rw [t1.length]; exact .int _)⟩
  · split at e
    · next hl =>
      cases e
      cases ra with
      | cons r t =>
        cases t
        cases r
        exact ⟨_, _, rfl, ⟨leM hl, rfl⟩, done s q (.int _)⟩
    · cases e
  · cases e⟩
def rInt : List V → Hp → VK → Prop := fun xs H Q => (∃ i, xs = [.int i] ∧ Q (.int i) H) ∨ ∃ k, xs = [.bl k] ∧ Q (.int (if k then 1 else 0)) H
theorem w_int : OpN K rInt oInt := ⟨fun F H xs as d Q s ra e q => by
  unfold oInt at e
  split at e
  · cases e
    cases ra with
    | cons r t =>
      cases t
      cases r
      exact .inl ⟨_, rfl, done s q (.int _)⟩
  · cases e
    cases ra with
    | cons r t =>
      cases t
      cases r
      exact .inr ⟨_, rfl, done s q (.int _)⟩
  · cases e⟩
def rListOf (K : PySem.W.Frag) : List V → Hp → VK → Prop := fun xs H Q => ∃ p ys, xs = [.ref p] ∧ (SqL K H p ys ∨ SqT K H p ys) ∧ ∀ l, H l = none → Q (.ref l) (upd H l (.lst ys))
theorem w_list : OpN K (rListOf K) oList := ⟨fun F H xs as d Q s ra e q => by
  unfold oList at e
  split at e
  · cases e
    cases ra with
    | cons r t =>
      cases t
      cases r with
      | lst h1 t1 => exact ⟨_, _, rfl, .inl (s.seq h1), fun p hp => doneL s q t1 hp⟩
  · cases e
    cases ra with
    | cons r t =>
      cases t
      cases r with
      | tup h1 t1 => exact ⟨_, _, rfl, .inr (sameT s (sqT_of h1)), fun p hp => doneL s q t1 hp⟩
  · cases e⟩
def rTupleOf (K : PySem.W.Frag) : List V → Hp → VK → Prop := fun xs H Q => ∃ p ys, xs = [.ref p] ∧ ((SqL K H p ys ∧ ∀ l, H l = none → Q (.ref l) (upd H l (.tup ys))) ∨ (SqT K H p ys ∧ Q (.ref p) H))
theorem w_tuple : OpN K (rTupleOf K) oTuple := ⟨fun F H xs as d Q s ra e q => by
  unfold oTuple at e
  split at e
  · cases e
    cases ra with
    | cons r t =>
      cases t
      cases r with
      | lst h1 t1 => exact ⟨_, _, rfl, .inl ⟨s.seq h1, fun p hp => doneT s q t1 hp⟩⟩
  · cases e
    cases ra with
    | cons r t =>
      cases t
      cases r with
      | tup h1 t1 => exact ⟨_, _, rfl, .inr ⟨sameT s (sqT_of h1), done s q (.tup h1 t1)⟩⟩
  · cases e⟩
section
variable {prog : Program} {w : World} {A : Around} {E : Value → Shared → Prop} {s : Shared}
theorem iter_tupleI {l : Addr} {items : Array Value} {Q : Value → Shared → Prop} (hl : s.heap.IsTuple l items)
    (h : ∀ s₂ : Shared, s₂ = { s with heap := s.heap.push { cls := .type "tuple_iterator", data := .fields #[.ref l, .int 0 0] } } →
      (s₂.heap.IsTupleIter s.heap.objs.size l 0 ∧ s₂.heap.IsTuple l items) → (∀ b ∈ [s.heap.objs.size, l], b < s₂.heap.objs.size) → l ≠ s.heap.objs.size → Q (.ref s.heap.objs.size) s₂) :
    wpAny (model prog w) A (pyIter (.ref l)) Q E s := by
  have hlt : l < s.heap.objs.size := by obtain ⟨_, e, _⟩ := hl; exact Heap.lt_size e
  refine PyProof.Rows.iter_tuple hl (h _ rfl ⟨⟨_, Heap.get?_push_size _ rfl, rfl, rfl⟩, ?_⟩ (fun b hb => ?_) (Nat.ne_of_lt hlt))
  · obtain ⟨o, e, c⟩ := hl
    exact ⟨o, Heap.get?_push_of_some _ e, c⟩
  · show b < (s.heap.push _).objs.size
    rw [Heap.size_push]
    rcases List.mem_cons.mp hb with rfl | hb
    · exact Nat.lt_succ_self _
    · rcases List.mem_cons.mp hb with rfl | hb
      · exact Nat.lt_succ_of_lt hlt
      · cases hb
theorem tuple_kept {l : Addr} {h' : Heap} (hk : ∀ b o, b ∉ [s.heap.objs.size] → (s.heap.push { cls := .type "tuple_iterator", data := .fields #[.ref l, .int 0 0] }).get? b = some o → h'.get? b = some o) :
    ∀ b o, s.heap.get? b = some o → h'.get? b = some o := fun b o e => by
  refine hk b o (fun hm => ?_) (Heap.get?_push_of_some _ e)
  rcases List.mem_cons.mp hm with e1 | hm
  · exact absurd (e1 ▸ Heap.lt_size e) (Nat.lt_irrefl _)
  · cases hm
theorem tuple_sum_raw {l : Addr} {its : List Value} {ns : List Int} {Q : Value → Shared → Prop} (hh : A.handled = none) (hl : s.heap.IsTuple l its.toArray) (hi : IntsAre its ns)
    (h : ∀ h' tk t', (∀ b o, s.heap.get? b = some o → h'.get? b = some o) → Q (.int ns.sum t') { s with heap := h', toks := tk }) : wpAny (model prog w) A (call (.builtin "sum") [.ref l]) Q E s := by
  obtain ⟨xs, e⟩ := hi.allInts.items
  have hn : numsOf (intItems xs).toList = ns := by rw [← e]; exact hi.numsOf
  rw [nums_intItems] at hn
  rw [e] at hl
  refine PySem.call_sum_walkG (iter_tupleI hl fun s₂ e st hfp hlI => ?_)
  subst e
  refine ⟨_, _, _, _, _, _, numAt xs, rfl, Walks.tuple (A := A.in1) hh _ l hlI (intItems xs), st, hfp, (fun _ _ => intItems_at), fun h' tk t' hk => ?_⟩
  have := h h' tk t' (tuple_kept hk)
  rw [← hn] at this
  have e2 : preSum (numAt xs) (intItems xs).size = (List.map (·.1) xs.toList).sum := by
    rw [preSum_eq, List.take_of_length_le (by simp [intItems])]
  rw [e2]
  exact this
end
def rSumA (K : PySem.W.Frag) : List V → Hp → VK → Prop := fun vs H Q => rSum K vs H Q ∨ ∃ (a : Addr) (ns : List Int), vs = [V.ref a] ∧ SqT K H a (ns.map V.int) ∧ Q (.int ns.sum) H
theorem cr_sumA (hc : X.calm = true) : CallR X (.builtin "sum") (rSumA X.K) := CallR.or (cr_sum hc) (by
  intro pins s σ H vs us Q I r h
  obtain ⟨a, ns, rfl, hs, q⟩ := h
  obtain ⟨its, rv, hl, _⟩ := I.tuple hs
  rw [Vals.ref1 r]
  exact tuple_sum_raw (I.ok.hd hc) hl rv.ints fun h' tk t' hk => ⟨.int _, H, I.kept hk, ⟨_, rfl⟩, q⟩)
theorem w_sum : OpN K (rSumA K) oSum := ⟨fun F H xs as d Q s ra e q => by
  unfold oSum at e
  split at e
  · rw [Option.map_eq_some_iff] at e
    obtain ⟨ns, h1, h2⟩ := e
    subst h2
    have e2 := intsOf_eq h1
    subst e2
    cases ra with
    | cons r t =>
      cases t
      cases r with
      | lst h1 t1 =>
        rw [t1.ints] at h1
        exact .inl ⟨_, _, rfl, s.seq h1, done s q (by rw [sumI_eq]; exact .int _)⟩
  · rw [Option.map_eq_some_iff] at e
    obtain ⟨ns, h1, h2⟩ := e
    subst h2
    have e2 := intsOf_eq h1
    subst e2
    cases ra with
    | cons r t =>
      cases t
      cases r with
      | tup h1 t1 =>
        rw [t1.ints] at h1
        exact .inr ⟨_, _, rfl, sameT s (sqT_of h1), done s q (by rw [sumI_eq]; exact .int _)⟩
  · cases e⟩
theorem alike_of {xs : List D} (h : allAlike xs = true) : ∀ x ∈ xs, ∀ y ∈ xs, PySem.W.alike x y = true := fun x hx y hy => by
  unfold allAlike at h
  rw [List.all_eq_true] at h
  have h1 := h x hx
  rw [List.all_eq_true] at h1
  exact h1 y hy
theorem minOk_of {xs : List D} (h : minOk xs = true) : PySem.W.AlikeAll xs ∧ PyData.depthAll xs ≤ 60 := by
  unfold minOk at h
  rw [Bool.and_eq_true, Bool.and_eq_true] at h
  refine ⟨⟨alike_of h.1.1, fun x hx => ?_⟩, of_decide_eq_true h.2⟩
  have h1 := h.1.2
  rw [List.all_eq_true] at h1
  exact isN_not (by simpa using h1 x hx)
theorem min_at {A : Around} {E : Value → Shared → Prop} {s : Shared} {prog : Program} {w : World} {l : Addr} {vs : Array Value} {x : PyData} {xs : List PyData} {as : List Addr} {Q : Value → Shared → Prop} (hh : A.handled = none) (hl : s.heap.IsList l vs ∨ s.heap.IsTuple l vs) (hr : ReadsAll s.heap vs.toList (x :: xs) as) (ha : PySem.W.AlikeAll (x :: xs)) (hu : A.units + 1 + PyData.depthAll (x :: xs) < cLine)
    (h : ∀ (i : Nat) v h' tk, vs[i]? = some v → (x :: xs)[i]? = some (PySem.W.minD x xs) → (∀ b o, s.heap.get? b = some o → h'.get? b = some o) → Q v { s with heap := h', toks := tk }) :
    wpAny (model prog w) A (call (.builtin "min") [.ref l]) Q E s := by
  have hn : vs.size = xs.length + 1 := PySem.W.readsAll_len hr
  have e1 : vs.size - 1 = xs.length := by omega
  have e2 := PySem.W.argBest_fold PySem.W.dataLt PyData.none x xs xs.length (Nat.le_refl _)
  rw [List.take_length] at e2
  have e3 : ∀ {i : Nat}, i ≤ xs.length → (x :: xs).getD i .none = PySem.W.minD x xs → (x :: xs)[i]? = some (PySem.W.minD x xs) := fun {i} hi e => by
    have hlt : i < (x :: xs).length := Nat.lt_succ_of_le hi
    rw [List.getD_eq_getElem?_getD, List.getElem?_eq_getElem hlt] at e
    rw [List.getElem?_eq_getElem hlt]
    exact congrArg some e
  rcases hl with hl | hl
  · refine PySem.call_min_walkH (PySem.W.iter_listW (A := A.in1) hh hl fun s₂ e W st hfp hw hk => ?_)
    refine ⟨_, _, _, _, _, _, _, s.heap, _, rfl, W, st, hfp, by omega, hw, hk, PySem.W.cmpIn_lt (A := A.in1) hr ha (by show A.units + 1 + _ < _; exact hu), fun v s' hP m => ?_⟩
    obtain ⟨h', tk, rfl, hk'⟩ := PySem.W.moved_old e rfl m
    rw [e1] at hP
    exact h _ v h' tk hP (e3 e2.1 e2.2) hk'
  · refine PySem.call_min_walkH (PySem.W.iter_tupleW (A := A.in1) hh hl fun s₂ e W st hfp hw hk => ?_)
    refine ⟨_, _, _, _, _, _, _, s.heap, _, rfl, W, st, hfp, by omega, hw, hk, PySem.W.cmpIn_lt (A := A.in1) hr ha (by show A.units + 1 + _ < _; exact hu), fun v s' hP m => ?_⟩
    obtain ⟨h', tk, rfl, hk'⟩ := PySem.W.moved_old e rfl m
    rw [e1] at hP
    exact h _ v h' tk hP (e3 e2.1 e2.2) hk'
theorem max_at {A : Around} {E : Value → Shared → Prop} {s : Shared} {prog : Program} {w : World} {l : Addr} {vs : Array Value} {x : PyData} {xs : List PyData} {as : List Addr} {Q : Value → Shared → Prop} (hh : A.handled = none) (hl : s.heap.IsList l vs ∨ s.heap.IsTuple l vs) (hr : ReadsAll s.heap vs.toList (x :: xs) as) (ha : PySem.W.AlikeAll (x :: xs)) (hu : A.units + 1 + PyData.depthAll (x :: xs) < cLine)
    (h : ∀ (i : Nat) v h' tk, vs[i]? = some v → (x :: xs)[i]? = some (PySem.W.maxD x xs) → (∀ b o, s.heap.get? b = some o → h'.get? b = some o) → Q v { s with heap := h', toks := tk }) :
    wpAny (model prog w) A (call (.builtin "max") [.ref l]) Q E s := by
  have hn : vs.size = xs.length + 1 := PySem.W.readsAll_len hr
  have e1 : vs.size - 1 = xs.length := by omega
  have e2 := PySem.W.argBest_fold (fun y a => PySem.W.dataLt a y) PyData.none x xs xs.length (Nat.le_refl _)
  rw [List.take_length] at e2
  have e3 : ∀ {i : Nat}, i ≤ xs.length → (x :: xs).getD i .none = PySem.W.maxD x xs → (x :: xs)[i]? = some (PySem.W.maxD x xs) := fun {i} hi e => by
    have hlt : i < (x :: xs).length := Nat.lt_succ_of_le hi
    rw [List.getD_eq_getElem?_getD, List.getElem?_eq_getElem hlt] at e
    rw [List.getElem?_eq_getElem hlt]
    exact congrArg some e
  rcases hl with hl | hl
  · refine PySem.call_max_walkH (PySem.W.iter_listW (A := A.in1) hh hl fun s₂ e W st hfp hw hk => ?_)
    refine ⟨_, _, _, _, _, _, _, s.heap, _, rfl, W, st, hfp, by omega, hw, hk, PySem.W.cmpIn_gt (A := A.in1) hr ha (by show A.units + 1 + _ < _; exact hu), fun v s' hP m => ?_⟩
    obtain ⟨h', tk, rfl, hk'⟩ := PySem.W.moved_old e rfl m
    rw [e1] at hP
    exact h _ v h' tk hP (e3 e2.1 e2.2) hk'
  · refine PySem.call_max_walkH (PySem.W.iter_tupleW (A := A.in1) hh hl fun s₂ e W st hfp hw hk => ?_)
    refine ⟨_, _, _, _, _, _, _, s.heap, _, rfl, W, st, hfp, by omega, hw, hk, PySem.W.cmpIn_gt (A := A.in1) hr ha (by show A.units + 1 + _ < _; exact hu), fun v s' hP m => ?_⟩
    obtain ⟨h', tk, rfl, hk'⟩ := PySem.W.moved_old e rfl m
    rw [e1] at hP
    exact h _ v h' tk hP (e3 e2.1 e2.2) hk'
def rBest (K : PySem.W.Frag) (g : PyData → List PyData → PyData) : List V → Hp → VK → Prop := fun as H Q => ∃ a vs x xs, as = [V.ref a] ∧ (SqL K H a vs ∨ SqT K H a vs) ∧ DpAll K H vs (x :: xs) ∧ minOk (x :: xs) = true ∧ ∀ (i : Nat) v, vs[i]? = some v → (x :: xs)[i]? = some (g x xs) → Q v H
theorem cr_best {id : String} {g : PyData → List PyData → PyData} (hc : X.calm = true) (hu : X.A.units + 64 < cLine)
    (rule : ∀ {A : Around} {E : Value → Shared → Prop} {s : Shared} {l : Addr} {vs : Array Value} {x : PyData} {xs : List PyData} {as : List Addr} {Q : Value → Shared → Prop}, A.handled = none → (s.heap.IsList l vs ∨ s.heap.IsTuple l vs) → ReadsAll s.heap vs.toList (x :: xs) as → PySem.W.AlikeAll (x :: xs) → A.units + 1 + PyData.depthAll (x :: xs) < cLine →
      (∀ (i : Nat) v h' tk, vs[i]? = some v → (x :: xs)[i]? = some (g x xs) → (∀ b o, s.heap.get? b = some o → h'.get? b = some o) → Q v { s with heap := h', toks := tk }) → wpAny (model X.prog X.w) A (call (.builtin id) [.ref l]) Q E s) : CallR X (.builtin id) (rBest X.K g) := by
  intro pins s σ H vs us Q I r h
  obtain ⟨a, ws, x, xs, rfl, hs, hd, ok, q⟩ := h
  rw [Vals.ref1 r]
  obtain ⟨al, dp⟩ := minOk_of ok
  have fin : ∀ {its : List Value}, Vals ws its → (s.heap.IsList a its.toArray ∨ s.heap.IsTuple a its.toArray) → wpAny (model X.prog X.w) X.A (call (.builtin id) [.ref a]) (EP X pins σ Q) X.xe s := fun {its} rv hl => by
    obtain ⟨as, hr⟩ := Dp.readsAll I _ _ its hd rv
    refine rule (I.ok.hd hc) hl (show ReadsAll s.heap its.toArray.toList (x :: xs) as from hr) al (by omega) fun i v h' tk hi hd2 hk => ?_
    obtain ⟨y, hy, _⟩ := hd.get hd2
    obtain ⟨u, hu2, ru⟩ := rv.get hy
    have e : u = v := by
      have hi' : its[i]? = some v := by simpa using hi
      rw [hu2] at hi'
      exact Option.some.inj hi'
    subst e
    exact ⟨y, H, I.kept hk, ru, q i y hy hd2⟩
  rcases hs with hs | hs
  · obtain ⟨its, rv, hl, _⟩ := I.list hs
    exact fin rv (.inl hl.isList)
  · obtain ⟨its, rv, hl, _⟩ := I.tuple hs
    exact fin rv (.inr hl)
def rMin2 : List V → Hp → VK → Prop := fun xs H Q => ∃ i j, xs = [.int i, .int j] ∧ Q (.int (if j < i then j else i)) H
def rMax2 : List V → Hp → VK → Prop := fun xs H Q => ∃ i j, xs = [.int i, .int j] ∧ Q (.int (if j > i then j else i)) H
def rMinA (K : PySem.W.Frag) : List V → Hp → VK → Prop := fun xs H Q => rMin2 xs H Q ∨ rBest K PySem.W.minD xs H Q
def rMaxA (K : PySem.W.Frag) : List V → Hp → VK → Prop := fun xs H Q => rMax2 xs H Q ∨ rBest K PySem.W.maxD xs H Q
theorem cr_minA (hc : X.calm = true) (hu : X.A.units + 64 < cLine) : CallR X (.builtin "min") (rMinA X.K) := CallR.or (call_min2 hc) (cr_best hc hu min_at)
theorem cr_maxA (hc : X.calm = true) (hu : X.A.units + 64 < cLine) : CallR X (.builtin "max") (rMaxA X.K) := CallR.or (call_max2 hc) (cr_best hc hu max_at)
theorem w_best {F H : Hp} {v : V} {x : D} {xs : List D} {Q : VK} {g : D → List D → D} (s : Same F H) (r : Rep K F v (.list (x :: xs)) ∨ Rep K F v (.tuple (x :: xs))) (h : minOk (x :: xs) = true) (q : ∀ v H', Same H H' → Rep K (ext F H H') v (g x xs) → Q v H') : rBest K g [v] H Q := by
  rcases r with r | r
  · cases r with
    | lst h1 t1 =>
      refine ⟨_, _, x, xs, rfl, .inl (s.seq h1), t1.mono s, h, fun i v hv hd => done s q ?_⟩
      obtain ⟨d, hd2, rd⟩ := t1.get' hv
      rw [hd] at hd2
      cases hd2
      exact rd
  · cases r with
    | tup h1 t1 =>
      refine ⟨_, _, x, xs, rfl, .inr (sameT s (sqT_of h1)), t1.mono s, h, fun i v hv hd => done s q ?_⟩
      obtain ⟨d, hd2, rd⟩ := t1.get' hv
      rw [hd] at hd2
      cases hd2
      exact rd
theorem w_min : OpN K (rMinA K) oMin := ⟨fun F H xs as d Q s ra e q => by
  unfold oMin at e
  split at e
  · cases e
    cases ra with
    | cons r1 t =>
      cases t with
      | cons r2 t =>
        cases t
        cases r1
        cases r2
        exact .inl ⟨_, _, rfl, done s q (.int _)⟩
  · split at e
    · next h =>
      cases e
      cases ra with
      | cons r t =>
        cases t
        exact .inr (w_best s (.inl r) h q)
    · cases e
  · split at e
    · next h =>
      cases e
      cases ra with
      | cons r t =>
        cases t
        exact .inr (w_best s (.inr r) h q)
    · cases e
  · cases e⟩
theorem w_max : OpN K (rMaxA K) oMax := ⟨fun F H xs as d Q s ra e q => by
  unfold oMax at e
  split at e
  · cases e
    cases ra with
    | cons r1 t =>
      cases t with
      | cons r2 t =>
        cases t
        cases r1
        cases r2
        exact .inl ⟨_, _, rfl, done s q (.int _)⟩
  · split at e
    · next h =>
      cases e
      cases ra with
      | cons r t =>
        cases t
        exact .inr (w_best s (.inl r) h q)
    · cases e
  · split at e
    · next h =>
      cases e
      cases ra with
      | cons r t =>
        cases t
        exact .inr (w_best s (.inr r) h q)
    · cases e
  · cases e⟩
def ins {α : Type} (le : α → α → Bool) (x : α) : List α → List α
  | [] => [x]
  | y :: r => if le x y then x :: y :: r else y :: ins le x r
def isort {α : Type} (le : α → α → Bool) : List α → List α
  | [] => []
  | x :: r => ins le x (isort le r)
section
variable {α : Type} {le : α → α → Bool}
theorem ins_mem {x z : α} : ∀ {l : List α}, z ∈ ins le x l ↔ z = x ∨ z ∈ l
  | [] => by simp [ins]
  | y :: r => by
    unfold ins
    split
    · simp
    · simp only [List.mem_cons, ins_mem (l := r)]
      constructor
      · rintro (h | h | h)
        · exact .inr (.inl h)
        · exact .inl h
        · exact .inr (.inr h)
      · rintro (h | h | h)
        · exact .inr (.inl h)
        · exact .inl h
        · exact .inr (.inr h)
theorem ins_pw (T : PySem.W.TotalLe le) {x : α} : ∀ {l : List α}, l.Pairwise (fun a b => le a b = true) → (ins le x l).Pairwise (fun a b => le a b = true)
  | [], _ => by simp [ins]
  | y :: r, h => by
    have h1 := List.pairwise_cons.mp h
    unfold ins
    split
    · next e => exact List.pairwise_cons.mpr ⟨fun z hz => by
        rcases List.mem_cons.mp hz with q | q
        · rw [q]
          exact e
        · exact T.trans _ _ _ e (h1.1 z q), h⟩
    · next e =>
      refine List.pairwise_cons.mpr ⟨fun z hz => ?_, ins_pw T h1.2⟩
      rcases ins_mem.mp hz with q | q
      · rw [q]
        exact (T.total x y).resolve_left e
      · exact h1.1 z q
theorem isort_pw (T : PySem.W.TotalLe le) : ∀ l : List α, (isort le l).Pairwise (fun a b => le a b = true)
  | [] => List.Pairwise.nil
  | x :: r => ins_pw T (isort_pw T r)
theorem ins_filter (T : PySem.W.TotalLe le) (c : α) {x : α} : ∀ {l : List α}, (ins le x l).filter (PySem.W.sameRank le c) = (x :: l).filter (PySem.W.sameRank le c)
  | [] => rfl
  | y :: r => by
    unfold ins
    split
    · rfl
    · next e =>
      have ih := ins_filter T c (x := x) (l := r)
      rw [List.filter_cons, ih, List.filter_cons, List.filter_cons, List.filter_cons]
      by_cases hx : PySem.W.sameRank le c x = true
      · have hy : PySem.W.sameRank le c y = false := by
          rw [Bool.eq_false_iff]
          intro hy
          unfold PySem.W.sameRank at hx hy
          rw [Bool.and_eq_true] at hx hy
          exact e (T.trans _ _ _ hx.2 hy.1)
        rw [hx, hy]
        simp
      · rw [if_neg hx, if_neg hx]
theorem isort_filter (T : PySem.W.TotalLe le) (c : α) : ∀ l : List α, (isort le l).filter (PySem.W.sameRank le c) = l.filter (PySem.W.sameRank le c)
  | [] => rfl
  | x :: r => by
    show (ins le x (isort le r)).filter _ = _
    rw [ins_filter T c, List.filter_cons, List.filter_cons, isort_filter T c r]
theorem isort_eq (T : PySem.W.TotalLe le) (l : List α) : isort le l = l.mergeSort le := PySem.W.sort_unique T (isort_pw T l) fun c => isort_filter T c l
end
def leD (a b : D) : Bool := !PySem.W.dataLt b a
theorem leD_total : PySem.W.TotalLe leD := PySem.W.sortLe_total (PyProof.Rows.listOrd PyProof.Rows.itemOrd) false PySem.W.keyToks
def sortOk (ds : List D) : Bool := allAlike ds && (ds.all (fun d => match d with
  | .tuple (_ :: _) => true
  | _ => false) || ds.all (fun d => match d with
  | .none => false
  | .tuple _ => false
  | _ => true)) && decide (PyData.depthAll ds ≤ 60)
theorem depth_mem : ∀ {ds : List PyData} {d : PyData}, d ∈ ds → d.depth ≤ PyData.depthAll ds
  | x :: r, d, h => by
    rw [PyData.depthAll]
    rcases List.mem_cons.mp h with e | e
    · rw [e]
      exact Nat.le_max_left _ _
    · exact Nat.le_trans (depth_mem e) (Nat.le_max_right _ _)
theorem sortOk_of {ds : List D} (h : sortOk ds = true) : PySem.W.AllAlike ds ∧ PySem.W.Sortable ds ∧ PyData.depthAll ds ≤ 60 := by
  unfold sortOk at h
  rw [Bool.and_eq_true, Bool.and_eq_true] at h
  refine ⟨fun x hx y hy => alike_of h.1.1 x hx y hy, ?_, of_decide_eq_true h.2⟩
  rcases Bool.or_eq_true_iff.mp h.1.2 with q | q
  · refine .inl fun d hd => ?_
    rw [List.all_eq_true] at q
    have := q d hd
    split at this
    · exact ⟨_, _, rfl⟩
    · cases this
  · refine .inr fun d hd => ?_
    rw [List.all_eq_true] at q
    have := q d hd
    split at this
    · cases this
    · cases this
    · next h1 h2 => exact ⟨h1, fun xs => h2 xs⟩
theorem each_of {K : PySem.W.Frag} {F : Hp} : ∀ {vs : List V} {ds : List D}, RepL K F vs ds → PySem.W.EachIs (Rep K F) vs ds
  | _, _, .nil => .nil
  | _, _, .cons h t => .cons h (each_of t)
theorem of_each {K : PySem.W.Frag} {F : Hp} : ∀ {vs : List V} {ds : List D}, PySem.W.EachIs (Rep K F) vs ds → RepL K F vs ds
  | _, _, .nil => .nil
  | _, _, .cons h t => .cons h (of_each t)
theorem each_vals {Φ : V → D → Prop} : ∀ {vs : List V} {us : List Value} {ds : List D}, Vals vs us → PySem.W.EachIs Φ vs ds → PySem.W.EachIs (fun u d => ∃ v, RelV v u ∧ Φ v d) us ds
  | _, _, _, .nil, .nil => .nil
  | _, _, _, .cons r t, .cons h k => .cons ⟨_, r, h⟩ (each_vals t k)
theorem vals_each {Φ : V → D → Prop} : ∀ {us : List Value} {ds : List D}, PySem.W.EachIs (fun u d => ∃ v, RelV v u ∧ Φ v d) us ds → ∃ vs, Vals vs us ∧ PySem.W.EachIs Φ vs ds
  | _, _, .nil => ⟨[], .nil, .nil⟩
  | _, _, .cons ⟨v, r, h⟩ t => by
    obtain ⟨vs, h1, h2⟩ := vals_each t
    exact ⟨v :: vs, .cons r h1, .cons h h2⟩
def rSortedD (K : PySem.W.Frag) : List V → Hp → VK → Prop := fun xs H Q => ∃ (a : Addr) (vs : List V) (ds : List D) (Φ : V → D → Prop), xs = [V.ref a] ∧ SqL K H a vs ∧ DpAll K H vs ds ∧ PySem.W.EachIs Φ vs ds ∧ sortOk ds = true ∧
  ∀ vs' p, H p = none → PySem.W.EachIs Φ vs' (isort leD ds) → Q (.ref p) (upd H p (.lst vs'))
section
variable {X : Cx} {K : PySem.W.Frag}
theorem cr_sortedD (hu : X.A.units + 64 < cLine) : CallR X (.builtin "sorted") (rSortedD X.K) := by
  intro pins s σ H xs us Q I r h
  obtain ⟨a, vs, ds, Φ, rfl, hs, hd, hΦ, ok, q⟩ := h
  rw [Vals.ref1 r]
  obtain ⟨al, so, dp⟩ := sortOk_of ok
  obtain ⟨its, rv, hl, hz⟩ := I.list hs
  obtain ⟨as, hr⟩ := Dp.readsAll I _ _ its hd rv
  have l1 := hd.length
  have ms : ds.map (fun d => d) = ds := List.map_id' ds
  refine PySem.W.sorted_data (enc := fun d : PyData => d) (R := fun u d => ∃ v, RelV v u ∧ Φ v d) hl.isList (each_vals rv hΦ) (PySem.W.readsAll_each (fun d => d) (by rw [ms]; exact hr)) (by rw [ms]; exact al) (by rw [ms]; exact so) (by omega) (fun d hd => ?_) fun out hlen he => ?_
  · have := depth_mem hd
    omega
  · obtain ⟨vs', rv', hv'⟩ := vals_each he
    obtain ⟨ep, he'⟩ := PyProof.Rows.sortedAll_at s.heap its out.toArray
    have e : ds.mergeSort (PySem.W.dataLe false fun d => d) = isort leD ds := (isort_eq leD_total ds).symm
    rw [e] at hv'
    refine ⟨.ref _, upd H (s.heap.objs.size + 1) (.lst vs'), I.laid (t' := s.toks) (fun _ _ => PyProof.Rows.sortedAll_old) (Nat.le_succ _) ⟨?_, out, ep, rv', he'⟩, rfl, q _ _ (I.hok.fresh (Nat.le_succ _)) hv'⟩
    rw [rv'.length, hlen]
    omega
def tyName : D → String
  | .none => "NoneType"
  | .bool _ => "bool"
  | .int _ => "int"
  | .str _ => "str"
  | .list _ => "list"
  | .tuple _ => "tuple"
  | .dict _ => "dict"
theorem ty_of {F : Hp} {v : V} {d : D} (r : Rep K F v d) : TyX K F v (.type (tyName d)) := by
  cases r with
  | non => exact .base .non
  | bl b => exact .base (.bl b)
  | int i => exact .base (.int i)
  | str s => exact .base (.str s)
  | dic h _ _ =>
    rcases h with h | ⟨o, h⟩
    · exact .base (.dK h)
    · exact .fDict h
  | lst h t =>
    rcases h with (h | ⟨o, h⟩) | ⟨o, its, n, h, c, _⟩
    · exact .base (.lst h)
    · exact .base (.frz h)
    · exact .kList h c
  | tup h t => exact .base (.tup h)
/-- the built-in types that are asked for -/
inductive Ty where
  | int | bool | str | list | tuple
def Ty.name : Ty → String
  | .int => "int"
  | .bool => "bool"
  | .str => "str"
  | .list => "list"
  | .tuple => "tuple"
def isTyN : Ty → String → Bool
  | .int, n => n == "int" || n == "bool"
  | .bool, n => n == "bool"
  | .str, n => n == "str"
  | .list, n => n == "list"
  | .tuple, n => n == "tuple"
def isTy : Ty → D → Bool
  | .int, .int _ => true
  | .int, .bool _ => true
  | .bool, .bool _ => true
  | .str, .str _ => true
  | .list, .list _ => true
  | .tuple, .tuple _ => true
  | _, _ => false
theorem kit_all (t : Ty) : ["NoneType", "bool", "int", "str", "list", "tuple", "dict"].all (fun n => decide (kitB n t.name = some (isTyN t n))) = true := by
  cases t <;> decide +kernel
theorem isTy_N (t : Ty) (d : D) : isTyN t (tyName d) = isTy t d := by
  cases t <;> cases d <;> simp [isTyN, isTy, tyName]
theorem isTy_kit (t : Ty) (d : D) : kitB (tyName d) t.name = some (isTy t d) := by
  have h := List.all_eq_true.mp (kit_all t) (tyName d) (by cases d <;> simp [tyName])
  rw [of_decide_eq_true h, isTy_N]
def cIsi (T : Ty) (f : Env → Option D) : Env → Option D := fun ρ => (f ρ).bind fun d => some (.bool (isTy T d))
variable {z : Z}
theorem q_isi {e : Expr} {T : Ty} {x : Str} {p q pos : Pos} {f : Env → Option D} (he : PE X e (tP X.K z f)) (hg : Gl X "isinstance") (hm : X.mg "isinstance" = none) (hb : bootBuiltins "isinstance" = some (.builtin "isinstance")) (ht : PE X (.Name x q) (tC (.ty T.name)))
    (hes : starEach [e, .Name x q] X.env = (false, eval e X.env) :: starEach [.Name x q] X.env := by rfl) (hes2 : starEach [.Name x q] X.env = (false, eval (.Name x q) X.env) :: starEach [] X.env := by rfl) (hpl : (backTo pos (starEach [.Name x q] X.env)).any (·.1) = false := by rfl) :
    PE X (.Call (.Name "isinstance" p) [e, .Name x q] [] pos) (tP X.K z (cIsi T f)) := by
  refine (pe_callB call_isi hg hm hb (pa_cons he (pa_cons ht pa_nil hes2) hes) (by decide) (by decide) hes hpl).mono fun σ H Q ⟨ρ, F, O, d, R, e, q⟩ => ?_
  obtain ⟨a, ea, e⟩ := bind_some e
  cases e
  refine ⟨ρ, F, O, a, R, ea, fun v1 H1 s1 r1 => ?_⟩
  have R1 := R.grow s1
  exact ⟨v1, .ty T.name, _, _, _, rfl, .ty T.name, ty_of (r1.mono R1.sub), kit_ty (isTy_kit T a), q _ H1 s1 (.bl _)⟩
def cIsi2 (T U : Ty) (f : Env → Option D) : Env → Option D := fun ρ => (f ρ).bind fun d => some (.bool (isTy T d || isTy U d))
theorem q_isi2 {e : Expr} {T U : Ty} {x y : Str} {p q q2 pos tpos : Pos} {k : Nat} {f : Env → Option D} (he : PE X e (tP X.K z f)) (hg : Gl X "isinstance") (hm : X.mg "isinstance" = none) (hb : bootBuiltins "isinstance" = some (.builtin "isinstance")) (ht : PE X (.Name x q) (tC (.ty T.name))) (hu : PE X (.Name y q2) (tC (.ty U.name)))
    (hes : starEach [e, .Tuple [.Name x q, .Name y q2] k tpos] X.env = (false, eval e X.env) :: starEach [.Tuple [.Name x q, .Name y q2] k tpos] X.env := by rfl)
    (hpl : (backTo pos (starEach [.Tuple [.Name x q, .Name y q2] k tpos] X.env)).any (·.1) = false := by rfl) :
    PE X (.Call (.Name "isinstance" p) [e, .Tuple [.Name x q, .Name y q2] k tpos] [] pos) (tP X.K z (cIsi2 T U f)) := by
  refine (pe_callB call_isiT hg hm hb (pa_cons he (pa_cons (pe_tup (pa_cons ht (pa_cons hu pa_nil))) pa_nil) hes) (by decide) (by decide) hes hpl).mono fun σ H Q ⟨ρ, F, O, d, R, e, q⟩ => ?_
  obtain ⟨a, ea, e⟩ := bind_some e
  cases e
  refine ⟨ρ, F, O, a, R, ea, fun v1 H1 s1 r1 => ⟨by show 2 ≤ sizeLine; decide, fun t ht => ?_⟩⟩
  have R1 := R.grow s1
  have sn := same_new (o := .tup [V.ty T.name, V.ty U.name]) ht
  refine ⟨v1, t, [.ty T.name, .ty U.name], _, [.type T.name, .type U.name], (isTy T a || isTy U a), rfl, upd_same, .cons (.ty _) (.cons (.ty _) .nil), ty_of ((r1.mono R1.sub).mono sn), kitAny_cons (kit_ty (isTy_kit T a)) (fun e1 => ?_) (fun e1 => ?_), q _ _ (s1.trans sn) (.bl _)⟩
  · rw [e1, Bool.false_or]
    refine kitAny_cons (kit_ty (isTy_kit U a)) (fun e2 => ?_) (fun e2 => e2)
    rw [e2]
    exact kitAny_nil
  · rw [e1]
    rfl
end
end
end DL
namespace DL
open PySem PySem.Spec PyProof.Rows L2
structure Kp (F H F' H' : Hp) (O : Nat → List Addr) : Prop where
  same : Same F F'
  keep : ∀ a o, H a = some o → (∀ i, a ∉ O i) → H' a = some o
  out : ∀ a, H a ≠ none → F a = none → F' a = none
  dom : ∀ a, H a ≠ none → H' a ≠ none
theorem Kp.refl {F H : Hp} {O : Nat → List Addr} : Kp F H F H O := ⟨Same.refl _, fun _ _ h _ => h, fun _ _ h => h, fun _ h => h⟩
theorem Kp.trans {F H F1 H1 F2 H2 : Hp} {O : Nat → List Addr} (a : Kp F H F1 H1 O) (b : Kp F1 H1 F2 H2 O) : Kp F H F2 H2 O :=
  ⟨a.same.trans b.same, fun x o h n => b.keep x o (a.keep x o h n) n, fun x h f => b.out x (a.dom x h) (a.out x h f), fun x h => b.dom x (a.dom x h)⟩
theorem ne_none {α : Type} {x : Option α} {a : α} (h : x = some a) : x ≠ none := by
  rw [h]
  exact fun z => nomatch z
theorem some_of {α : Type} {x : Option α} (h : x ≠ none) : ∃ a, x = some a := by
  cases x with
  | none => exact absurd rfl h
  | some a => exact ⟨a, rfl⟩
theorem Kp.of_same {F H H' : Hp} {O : Nat → List Addr} (s0 : Same F H) (s : Same H H') : Kp F H (ext F H H') H' O :=
  ⟨same_ext s0, fun a o h _ => s _ _ h, fun a h f => by
    obtain ⟨o, q⟩ := some_of h
    unfold ext
    simp [q, f], fun a h => by
    obtain ⟨o, q⟩ := some_of h
    exact ne_none (s _ _ q)⟩
section
variable {K : PySem.W.Frag} {z : Z} {ρ : Env} {σ : L2.St} {F H : Hp} {O : Nat → List Addr}
/-- an address that nothing tells of changes -/
theorem Rel.other (R : Rel K z ρ σ F H O) {p : Addr} {o : HO} (hF : F p = none) (hO : ∀ i, p ∉ O i) (h0 : z.H0 p = none) (ho : ∀ vs, o ≠ .tup vs := by intro _ q; cases q) : Rel K z ρ σ F (upd H p o) O where
  len := R.len
  sub := DL.Same.upd2 R.sub hF
  ent := fun i e h => by
    obtain ⟨v, h1, h2⟩ := R.ent i e h
    exact ⟨v, h1, h2.mono (Same.refl _) fun a ha => upd_ne (show a ≠ p from fun q => hO i (q ▸ ha))⟩
  off := fun i a ha => ⟨(R.off i a ha).1, by
    rw [upd_ne (show a ≠ p from fun q => hO i (q ▸ ha))]
    exact (R.off i a ha).2⟩
  apt := R.apt
  old := R.old
  oldH := fun a h => by
    by_cases e : a = p
    · rw [e, upd_same]
      exact fun z => nomatch z
    · rw [upd_ne e]
      exact R.oldH a h
  keep := fun a o' h b => by
    have e : a ≠ p := fun e => by
      rw [e, h0] at h
      cases h
    rw [upd_ne e]
    exact R.keep a o' h b
  f0 := R.f0
  tup := R.tup.up ho
/-- slot i gets a new entry with its own addresses -/
def setO (O : Nat → List Addr) (i : Nat) (as : List Addr) : Nat → List Addr := fun j => if j = i then as else O j
theorem Rel.setE (R : Rel K z ρ σ F H O) {i : Nat} {e : E} {v : V} {as : List Addr} (h : Ent K z F H v e as) (hn : ∀ a ∈ as, F a = none ∧ H a ≠ none ∧ ∀ j, j ≠ i → a ∉ O j) : Rel K z (ρ.set i (some e)) (σ.set i (some v)) F H (setO O i as) where
  len := by rw [List.length_set, List.length_set, R.len]
  sub := R.sub
  ent := fun j e' hj => by
    unfold setO
    by_cases q : j = i
    · subst q
      have hl : j < ρ.length := by
        have := (List.getElem?_eq_some_iff.mp hj).1
        rw [List.length_set] at this
        exact this
      rw [List.getElem?_set_self hl] at hj
      cases hj
      rw [if_pos rfl]
      exact ⟨v, List.getElem?_set_self (by rw [← R.len]; exact hl), h⟩
    · rw [List.getElem?_set_ne (Ne.symm q)] at hj
      rw [if_neg q, List.getElem?_set_ne (Ne.symm q)]
      exact R.ent j e' hj
  off := fun j a ha => by
    unfold setO at ha
    by_cases q : j = i
    · rw [if_pos q] at ha
      exact ⟨(hn a ha).1, (hn a ha).2.1⟩
    · rw [if_neg q] at ha
      exact R.off j a ha
  apt := fun j k a hj hk => by
    unfold setO at hj hk
    by_cases q : j = i
    · by_cases q2 : k = i
      · rw [q, q2]
      · rw [if_pos q] at hj
        rw [if_neg q2] at hk
        exact absurd hk ((hn a hj).2.2 k q2)
    · by_cases q2 : k = i
      · rw [if_neg q] at hj
        rw [if_pos q2] at hk
        exact absurd hj ((hn a hk).2.2 j q)
      · rw [if_neg q] at hj
        rw [if_neg q2] at hk
        exact R.apt j k a hj hk
  old := R.old
  oldH := R.oldH
  keep := R.keep
  f0 := R.f0
  tup := R.tup
theorem Rel.setD (R : Rel K z ρ σ F H O) {i : Nat} {d : D} {v : V} (h : Rep K F v d) : Rel K z (ρ.set i (some (.sh d))) (σ.set i (some v)) F H (setO O i []) :=
  R.setE (e := .sh d) ⟨rfl, h⟩ fun a ha => by cases ha
/-- some slots are forgotten -/
theorem Rel.weak (R : Rel K z ρ σ F H O) {ρ' : Env} {σ' : L2.St} (hl : ρ'.length = σ'.length) (h : ∀ (i : Nat) e, ρ'[i]? = some (some e) → ρ[i]? = some (some e) ∧ σ'[i]? = σ[i]?) : Rel K z ρ' σ' F H O where
  len := hl
  sub := R.sub
  ent := fun i e hi => by
    obtain ⟨h1, h2⟩ := h i e hi
    obtain ⟨v, h3, h4⟩ := R.ent i e h1
    exact ⟨v, h2.trans h3, h4⟩
  off := R.off
  apt := R.apt
  old := R.old
  oldH := R.oldH
  keep := R.keep
  f0 := R.f0
  tup := R.tup
end
def tR (K : PySem.W.Frag) (z : Z) (f : Env → Option (D × Env)) : TE := fun σ H Q => ∃ ρ F O d ρ', Rel K z ρ σ F H O ∧ f ρ = some (d, ρ') ∧ ∀ v F' H', Rel K z ρ' σ F' H' O → Kp F H F' H' O → Rep K F' v d → Q v H'
def tRs (K : PySem.W.Frag) (z : Z) (f : Env → Option (List D × Env)) : TA := fun σ H Q => ∃ ρ F O ds ρ', Rel K z ρ σ F H O ∧ f ρ = some (ds, ρ') ∧ ∀ vs F' H', Rel K z ρ' σ F' H' O → Kp F H F' H' O → RepL K F' vs ds → Q vs H'
def tBR (K : PySem.W.Frag) (z : Z) (f : Env → Option (Bool × Env)) : TT := fun σ H Q => ∃ ρ F O b ρ', Rel K z ρ σ F H O ∧ f ρ = some (b, ρ') ∧ ∀ F' H', Rel K z ρ' σ F' H' O → Kp F H F' H' O → Q b H'
/-- a new value with objects of its own -/
def tW (K : PySem.W.Frag) (z : Z) (f : Env → Option (E × Env)) : TE := fun σ H Q => ∃ ρ F O e ρ', Rel K z ρ σ F H O ∧ f ρ = some (e, ρ') ∧ ∀ v F' H' as, Rel K z ρ' σ F' H' O → Kp F H F' H' O → Ent K z F' H' v e as → (∀ a ∈ as, H a = none ∧ F' a = none ∧ H' a ≠ none) → Q v H'
def lf (f : Env → Option D) : Env → Option (D × Env) := fun ρ => (f ρ).map fun d => (d, ρ)
def lfs (f : Env → Option (List D)) : Env → Option (List D × Env) := fun ρ => (f ρ).map fun d => (d, ρ)
def lfb (f : Env → Option Bool) : Env → Option (Bool × Env) := fun ρ => (f ρ).map fun d => (d, ρ)
def wsh (f : Env → Option (D × Env)) : Env → Option (E × Env) := fun ρ => (f ρ).map fun p => (.sh p.1, p.2)
section
variable {X : Cx} {z : Z}
theorem map_some {α β : Type} {x : Option α} {f : α → β} {b : β} (h : x.map f = some b) : ∃ a, x = some a ∧ f a = b := Option.map_eq_some_iff.mp h
theorem r_lf {e : Expr} {f : Env → Option D} (h : PE X e (tP X.K z f)) : PE X e (tR X.K z (lf f)) := h.mono fun σ H Q ⟨ρ, F, O, d, ρ', R, e, q⟩ => by
  obtain ⟨a, h1, h2⟩ := map_some e
  cases h2
  exact ⟨ρ, F, O, d, R, h1, fun v H' s r => q v _ H' (R.grow s) (.of_same R.sub s) r⟩
theorem r_lfs {es : List Expr} {f : Env → Option (List D)} (h : PA X es (tPs X.K z f)) : PA X es (tRs X.K z (lfs f)) := h.mono fun σ H Q ⟨ρ, F, O, d, ρ', R, e, q⟩ => by
  obtain ⟨a, h1, h2⟩ := map_some e
  cases h2
  exact ⟨ρ, F, O, d, R, h1, fun v H' s r => q v _ H' (R.grow s) (.of_same R.sub s) r⟩
theorem r_lfb {e : Expr} {f : Env → Option Bool} (h : PT X e (tB X.K z f)) : PT X e (tBR X.K z (lfb f)) := h.mono fun σ H Q ⟨ρ, F, O, d, ρ', R, e, q⟩ => by
  obtain ⟨a, h1, h2⟩ := map_some e
  cases h2
  exact ⟨ρ, F, O, d, R, h1, fun H' s => q _ H' (R.grow s) (.of_same R.sub s)⟩
theorem w_sh {e : Expr} {f : Env → Option (D × Env)} (h : PE X e (tR X.K z f)) : PE X e (tW X.K z (wsh f)) := h.mono fun σ H Q ⟨ρ, F, O, en, ρ', R, e, q⟩ => by
  obtain ⟨⟨d, ρ2⟩, h1, h2⟩ := map_some e
  cases h2
  exact ⟨ρ, F, O, d, _, R, h1, fun v F' H' R' k r => q v F' H' [] R' k ⟨rfl, r⟩ fun a ha => by cases ha⟩
/-- own objects are shared -/
def frzE : E → D
  | .sh d => d
  | .own d => d
  | .own2 d => d
  | .row d => d
  | .dk _ ks => .dict (ks.map fun p => (kD p.1, p.2))
  | .dt _ _ => .none
  | .fn _ _ => .none
def canFz : E → Bool
  | .row _ => false
  | .dt _ _ => false
  | .fn _ _ => false
  | _ => true
theorem objs_rep {K : PySem.W.Frag} {F H : Hp} : ∀ {qs : List Addr} {ds : List D}, Objs K F H qs ds → (∀ q ∈ qs, F q = none) → ∃ F', Same F F' ∧ (∀ a, F' a ≠ F a → a ∈ qs ∧ F' a = H a) ∧ RepL K F' (qs.map V.ref) ds
  | _, _, .nil, _ => ⟨F, Same.refl _, fun a h => absurd rfl h, .nil⟩
  | _, _, .cons (p := p) (ps := ps) (d := d) (ds := ds) h t, hn => by
    obtain ⟨F1, s1, c1, r1⟩ := objs_rep t fun q hq => hn q (List.mem_cons_of_mem _ hq)
    cases d with
    | list es =>
      obtain ⟨vs, h1, h2⟩ := h
      by_cases hp : F1 p = none
      · refine ⟨upd F1 p (.lst vs), s1.trans (same_new hp), fun a ha => ?_, .cons (.lst (.of upd_same) ((h2.mono s1).mono (same_new hp))) (r1.mono (same_new hp))⟩
        by_cases e : a = p
        · rw [e, upd_same]
          exact ⟨List.mem_cons_self, h1.symm⟩
        · rw [upd_ne e] at ha ⊢
          exact ⟨List.mem_cons_of_mem _ (c1 a ha).1, (c1 a ha).2⟩
      · have e1 : F1 p = H p := (c1 p (by
          rw [hn p List.mem_cons_self]
          exact hp)).2
        exact ⟨F1, s1, fun a ha => ⟨List.mem_cons_of_mem _ (c1 a ha).1, (c1 a ha).2⟩, .cons (.lst (.of (e1.trans h1)) (h2.mono s1)) r1⟩
    | _ => exact h.elim
/-- the shared part may take in the addresses of one entry -/
theorem ent_rep {K : PySem.W.Frag} {z : Z} {F H : Hp} {v : V} {e : E} {as : List Addr} (h : Ent K z F H v e as) (hr : canFz e = true) (hn : ∀ a ∈ as, F a = none) : ∃ F', Same F F' ∧ (∀ a, F' a ≠ F a → a ∈ as ∧ F' a = H a) ∧ Rep K F' v (frzE e) := by
  cases e with
  | sh d => exact ⟨F, Same.refl _, fun a q => absurd rfl q, h.2⟩
  | row d => cases hr
  | dt l ks => cases hr
  | fn j f => cases hr
  | dk l ks =>
    obtain ⟨p, kvs, e1, e2, e3, h⟩ := h
    subst e1
    have ek : (ks.map fun p => (kD p.1, p.2)).map (·.1) = kvs.map (fun p => kD p.1) := by
      have := congrArg (List.map kD) e2
      rw [List.map_map, List.map_map] at this
      rw [List.map_map]
      exact this.symm
    have ev : (ks.map fun p => (kD p.1, p.2)).map (·.2) = ks.map (·.2) := by rw [List.map_map]; rfl
    rcases h with ⟨h1, h2, _, h4⟩ | ⟨h1, h2, o, h3⟩
    · subst h2
      have hp := hn p List.mem_cons_self
      refine ⟨upd F p (.dK kvs), same_new hp, fun a ha => ?_, .dic (.of upd_same) ek (by rw [ev]; exact e3.mono (same_new hp))⟩
      by_cases e : a = p
      · rw [e, upd_same]
        exact ⟨List.mem_cons_self, h4.symm⟩
      · rw [upd_ne e] at ha
        exact absurd rfl ha
    · exact ⟨F, Same.refl _, fun a q => absurd rfl q, .dic (.inr ⟨o, h3⟩) ek (by rw [ev]; exact e3)⟩
  | own d =>
    obtain ⟨p, e1, e2, _, h⟩ := h
    subst e1 e2
    cases d with
    | list es =>
      obtain ⟨vs, h1, h2⟩ := h
      have hp := hn p List.mem_cons_self
      refine ⟨upd F p (.lst vs), same_new hp, fun a ha => ?_, .lst (.of upd_same) (h2.mono (same_new hp))⟩
      by_cases e : a = p
      · rw [e, upd_same]
        exact ⟨List.mem_cons_self, h1.symm⟩
      · rw [upd_ne e] at ha
        exact absurd rfl ha
    | _ => exact h.elim
  | own2 d =>
    obtain ⟨p, qs, ds, e1, e2, e3, h1, h2, _, h4⟩ := h
    subst e1 e2 e3
    obtain ⟨F1, s1, c1, r1⟩ := objs_rep h4 fun q hq => hn q (List.mem_cons_of_mem _ hq)
    have hp : F1 p = none := by
      cases q : F1 p with
      | none => rfl
      | some o =>
        have := (c1 p (by rw [q, hn p List.mem_cons_self]; exact fun z => nomatch z)).1
        exact absurd this (List.nodup_cons.mp h2).1
    refine ⟨upd F1 p (.lst (qs.map V.ref)), s1.trans (same_new hp), fun a ha => ?_, .lst (.of upd_same) (r1.mono (same_new hp))⟩
    by_cases e : a = p
    · rw [e, upd_same]
      exact ⟨List.mem_cons_self, h1.symm⟩
    · rw [upd_ne e] at ha ⊢
      exact ⟨List.mem_cons_of_mem _ (c1 a ha).1, (c1 a ha).2⟩
def r2 (o : D → D → Option D) (f g : Env → Option (D × Env)) : Env → Option (D × Env) := fun ρ => (f ρ).bind fun p => (g p.2).bind fun q => (o p.1 q.1).map fun d => (d, q.2)
def r1 (o : D → Option D) (f : Env → Option (D × Env)) : Env → Option (D × Env) := fun ρ => (f ρ).bind fun p => (o p.1).map fun d => (d, p.2)
def rN (o : List D → Option D) (f : Env → Option (List D × Env)) : Env → Option (D × Env) := fun ρ => (f ρ).bind fun p => (o p.1).map fun d => (d, p.2)
def rNil : Env → Option (List D × Env) := fun ρ => some ([], ρ)
def rCons (f : Env → Option (D × Env)) (g : Env → Option (List D × Env)) : Env → Option (List D × Env) := fun ρ => (f ρ).bind fun p => (g p.2).bind fun q => some (p.1 :: q.1, q.2)
theorem tR2 {K : PySem.W.Frag} {r : R2} {o : D → D → Option D} (ho : Op2 K r o) {f g : Env → Option (D × Env)} {σ : L2.St} {H : Hp} {Q : VK} (h : tR K z (r2 o f g) σ H Q) : tOp r (tR K z f) (tR K z g) σ H Q := by
  obtain ⟨ρ, F, O, d, ρ', R, e, q⟩ := h
  obtain ⟨⟨a, ρ1⟩, ea, e⟩ := bind_some e
  obtain ⟨⟨b, ρ2⟩, eb, e⟩ := bind_some e
  obtain ⟨d2, ed, e⟩ := map_some e
  cases e
  refine ⟨ρ, F, O, a, ρ1, R, ea, fun v1 F1 H1 R1 k1 r1 => ?_⟩
  refine ⟨ρ1, F1, O, b, ρ2, R1, eb, fun v2 F2 H2 R2 k2 r2 => ?_⟩
  exact ho.run F2 H2 v1 v2 a b d Q R2.sub (r1.mono k2.same) r2 ed fun v H3 s3 r3 => q v _ H3 (R2.grow s3) ((k1.trans k2).trans (.of_same R2.sub s3)) r3
theorem r_op {a b : Expr} {pos : Pos} {op : Operator} {r : R2} {o : D → D → Option D} {f g : Env → Option (D × Env)} (hr : OpR X (binaryOp op) r) (ho : Op2 X.K r o) (ha : PE X a (tR X.K z f)) (hb : PE X b (tR X.K z g)) : PE X (.BinOp a op b pos) (tR X.K z (r2 o f g)) :=
  (pe_op hr ha hb).mono fun _ _ _ h => tR2 ho h
theorem r_ix {a b : Expr} {pos : Pos} {r : R2} {o : D → D → Option D} {f g : Env → Option (D × Env)} (hr : IxR X r) (ho : Op2 X.K r o) (ha : PE X a (tR X.K z f)) (hb : PE X b (tR X.K z g)) (hs : PlainIx b := by exact fun _ _ => rfl) : PE X (.Subscript a b pos) (tR X.K z (r2 o f g)) :=
  (pe_ix hr ha hb hs).mono fun _ _ _ h => tR2 ho h
theorem r_nil : PA X [] (tRs X.K z rNil) := pa_nil.mono fun σ H Q ⟨ρ, F, O, ds, ρ', R, e, q⟩ => by
  cases e
  exact q [] F H R .refl .nil
theorem r_cons {e : Expr} {es : List Expr} {f : Env → Option (D × Env)} {g : Env → Option (List D × Env)} (ha : PE X e (tR X.K z f)) (hr : PA X es (tRs X.K z g)) (hs : starEach (e :: es) X.env = (false, eval e X.env) :: starEach es X.env := by rfl) : PA X (e :: es) (tRs X.K z (rCons f g)) := by
  refine (pa_cons ha hr hs).mono fun σ H Q ⟨ρ, F, O, ds, ρ', R, e, q⟩ => ?_
  obtain ⟨⟨a, ρ1⟩, ea, e⟩ := bind_some e
  obtain ⟨⟨as, ρ2⟩, eb, e⟩ := bind_some e
  cases e
  refine ⟨ρ, F, O, a, ρ1, R, ea, fun v1 F1 H1 R1 k1 r1 => ?_⟩
  refine ⟨ρ1, F1, O, as, ρ2, R1, eb, fun v2 F2 H2 R2 k2 r2 => ?_⟩
  exact q _ F2 H2 R2 (k1.trans k2) (.cons (r1.mono k2.same) r2)
def dTup (ds : List D) : Option D := if ds.length ≤ 1000 then some (.tuple ds) else none
def dLst (ds : List D) : Option D := if ds.length ≤ 1000 then some (.list ds) else none
theorem new_kp {F H : Hp} {O : Nat → List Addr} {p : Addr} {o : HO} (s0 : Same F H) (hp : H p = none) : Kp F H (upd F p o) (upd H p o) O := by
  have := Kp.of_same (O := O) s0 (same_new (o := o) hp)
  rwa [ext_new s0 hp] at this
theorem Rel.newS {K : PySem.W.Frag} {ρ : Env} {σ : L2.St} {F H : Hp} {O : Nat → List Addr} {p : Addr} {o : HO} (R : Rel K z ρ σ F H O) (hp : H p = none) : Rel K z ρ σ (upd F p o) (upd H p o) O := by
  have := R.grow (same_new (o := o) hp)
  rwa [ext_new R.sub hp] at this
theorem r_tup {es : List Expr} {x1} {pos : Pos} {f : Env → Option (List D × Env)} (h : PA X es (tRs X.K z f)) : PE X (.Tuple es x1 pos) (tR X.K z (rN dTup f)) := by
  refine (pe_tup h).mono fun σ H Q ⟨ρ, F, O, d, ρ', R, e, q⟩ => ?_
  obtain ⟨⟨ds, ρ1⟩, ea, e⟩ := bind_some e
  obtain ⟨d2, ed, e⟩ := map_some e
  cases e
  have ed : dTup ds = some _ := ed
  unfold dTup at ed
  split at ed
  · next hl =>
    cases ed
    refine ⟨ρ, F, O, ds, ρ1, R, ea, fun vs F1 H1 R1 k1 r1 => ⟨le1000 (by rw [r1.length]; exact hl), fun p hp => ?_⟩⟩
    exact q _ _ _ (R1.newS hp) (k1.trans (new_kp R1.sub hp)) (.tup upd_same (r1.mono (same_new (R1.sub.free hp))))
  · cases ed
theorem r_lst {es : List Expr} {pos : Pos} {f : Env → Option (List D × Env)} (h : PA X es (tRs X.K z f)) : PE X (.List es pos) (tR X.K z (rN dLst f)) := by
  refine (pe_lst h).mono fun σ H Q ⟨ρ, F, O, d, ρ', R, e, q⟩ => ?_
  obtain ⟨⟨ds, ρ1⟩, ea, e⟩ := bind_some e
  obtain ⟨d2, ed, e⟩ := map_some e
  cases e
  have ed : dLst ds = some _ := ed
  unfold dLst at ed
  split at ed
  · next hl =>
    cases ed
    refine ⟨ρ, F, O, ds, ρ1, R, ea, fun vs F1 H1 R1 k1 r1 => ⟨le1000 (by rw [r1.length]; exact hl), fun p hp => ?_⟩⟩
    exact q _ _ _ (R1.newS hp) (k1.trans (new_kp R1.sub hp)) (.lst (.of upd_same) (r1.mono (same_new (R1.sub.free hp))))
  · cases ed
/-- a fresh list that is nobody's yet -/
theorem Rel.newW {K : PySem.W.Frag} {ρ : Env} {σ : L2.St} {F H : Hp} {O : Nat → List Addr} {p : Addr} {o : HO} (R : Rel K z ρ σ F H O) (hp : H p = none) (ho : ∀ vs, o ≠ .tup vs := by intro _ q; cases q) : Rel K z ρ σ F (upd H p o) O :=
  R.other (R.sub.free hp) (fun i hi => (R.off i p hi).2 hp) (by
    cases q : z.H0 p with
    | none => rfl
    | some u => exact absurd hp (R.oldH p (ne_none q))) ho
theorem newW_kp {F H : Hp} {O : Nat → List Addr} {p : Addr} {o : HO} (s0 : Same F H) (hp : H p = none) : Kp F H F (upd H p o) O :=
  ⟨Same.refl _, fun a x h _ => by rw [upd_ne (ne_of_none h hp)]; exact h, fun a _ f => f, fun a h => by
    obtain ⟨x, q⟩ := some_of h
    rw [upd_ne (ne_of_none q hp)]
    exact h⟩
theorem H0_of {K : PySem.W.Frag} {ρ : Env} {σ : L2.St} {F H : Hp} {O : Nat → List Addr} {p : Addr} (R : Rel K z ρ σ F H O) (hp : H p = none) : z.H0 p = none := by
  cases q : z.H0 p with
  | none => rfl
  | some u => exact absurd hp (R.oldH p (ne_none q))
theorem Kp.none_back {F H F' H' : Hp} {O : Nat → List Addr} (k : Kp F H F' H' O) {p : Addr} (h : H' p = none) : H p = none := by
  cases q : H p with
  | none => rfl
  | some o => exact absurd h (k.dom p (ne_none q))
/-- Q of a fresh list p of vs: as an own object -/
theorem fin_own {K : PySem.W.Frag} {ρ' : Env} {σ : L2.St} {F H F1 H1 : Hp} {O : Nat → List Addr} {Q : VK} {vs : List V} {ds : List D} {p : Addr} (R1 : Rel K z ρ' σ F1 H1 O) (k1 : Kp F H F1 H1 O)
    (q : ∀ v F' H' as, Rel K z ρ' σ F' H' O → Kp F H F' H' O → Ent K z F' H' v (.own (.list ds)) as → (∀ a ∈ as, H a = none ∧ F' a = none ∧ H' a ≠ none) → Q v H') (r : RepL K F1 vs ds) (hp : H1 p = none) : Q (.ref p) (upd H1 p (.lst vs)) :=
  q _ F1 _ [p] (R1.newW hp) (k1.trans (newW_kp R1.sub hp)) ⟨p, rfl, rfl, H0_of R1 hp, vs, upd_same, r⟩ fun a ha => by
    rcases List.mem_cons.mp ha with e | e
    · subst e
      exact ⟨k1.none_back hp, R1.sub.free hp, by rw [upd_same]; exact fun z => nomatch z⟩
    · cases e
def wN (o : List D → Option (List D)) (f : Env → Option (List D × Env)) : Env → Option (E × Env) := fun ρ => (f ρ).bind fun p => (o p.1).map fun ds => (.own (.list ds), p.2)
def few (ds : List D) : Option (List D) := if ds.length ≤ 1000 then some ds else none
theorem w_lst {es : List Expr} {pos : Pos} {f : Env → Option (List D × Env)} (h : PA X es (tRs X.K z f)) : PE X (.List es pos) (tW X.K z (wN few f)) := by
  refine (pe_lst h).mono fun σ H Q ⟨ρ, F, O, en, ρ', R, e, q⟩ => ?_
  obtain ⟨⟨ds, ρ1⟩, ea, e⟩ := bind_some e
  obtain ⟨d2, ed, e⟩ := map_some e
  cases e
  have ed : few ds = some d2 := ed
  unfold few at ed
  split at ed
  · next hl =>
    cases ed
    exact ⟨ρ, F, O, ds, _, R, ea, fun vs F1 H1 R1 k1 r1 => ⟨le1000 (by rw [r1.length]; exact hl), fun p hp => fin_own R1 k1 q r1 hp⟩⟩
  · cases ed
/-- [x, ..] * n -/
def wRep (f : Env → Option (List D × Env)) (g : Env → Option (D × Env)) : Env → Option (E × Env) := fun ρ => (f ρ).bind fun p => (g p.2).bind fun q => match q.1 with
  | .int k => if p.1.length ≤ 1000 then (if k ≤ 1000 then (if -1000 ≤ k then some (.own (.list (List.replicate k.toNat p.1).flatten), q.2) else none) else none) else none
  | _ => none
end
end DL
namespace DL
open PySem PySem.Spec PyProof.Rows L2
section
open Sem (wp)
open AutoSeq1 (wpAny_loadPart')
set_option maxHeartbeats 1000000 in
theorem meets_enum1 {v : Value} {o : Obj} {H : Heap → Prop} (B : PySem.Begins v o H) :
    Meets (Builtin.«enumerate.__new__» ⟨[.type "enumerate", v], []⟩) (fun _ R s => H s.heap ∧
      R (.ok (.ret (.ref (s.heap.push o).objs.size))) { s with heap := (s.heap.push o).push { cls := .type "enumerate", data := .fields #[.none, .bool false, .ref s.heap.objs.size, rawInt 0, .none, .none] } }) :=
  .of_wp fun prog w A R s h => by
    obtain ⟨hp, g, d, tk, os⟩ := s; obtain ⟨h1, h⟩ := h
    have hsub := sub_enumerate
    have q1 : ∀ {A' : Around} {E : Value → Shared → Prop} {Q : Value → Shared → Prop}, Q (.ref hp.objs.size) ⟨hp.push o, g, d, tk, os⟩ → wpAny (model prog w) A' (pyIter v) Q E ⟨hp, g, d, tk, os⟩ :=
      fun q => B.iter prog w _ _ ⟨hp, g, d, tk, os⟩ _ h1 q
    wp_walk using q1
    refine wpAny_stack_any fun st => wpAny_pure ?_
    split
    · rename_i c _ _ _ _ _
      cases (c == Value.type "enumerate")
      · wp_walk using q1
        exact ⟨_, rfl, h⟩
      · wp_walk using q1
        exact ⟨_, rfl, h⟩
    · wp_walk using q1
      exact ⟨_, rfl, h⟩
end
section
variable {prog : Program} {w : World} {A : Around} {E : Value → Shared → Prop} {s : Shared}
theorem enum_begins1 {v : Value} {o : Obj} {H : Heap → Prop} {Q : Value → Shared → Prop} (B : PySem.Begins v o H) (h1 : H s.heap)
    (h : ∀ h', IsEnum h' (s.heap.objs.size + 1) s.heap.objs.size 0 .none → h'.get? s.heap.objs.size = some o → h'.objs.size = s.heap.objs.size + 2 →
      (∀ b o, s.heap.get? b = some o → h'.get? b = some o) → Q (.ref (s.heap.objs.size + 1)) { s with heap := h' }) :
    wpAny (model prog w) A (call (.type "enumerate") [v]) Q E s := by
  refine callType_new F.called_enumerate (by decide) (F.typeCall_enumerate_1 _) (F.newCall_enumerate_1 _) (fun obj => F.args_object_init_2 obj _) F.entry_enumerate_new
    (meets_enum1 B) ⟨h1, ?_⟩
  have hz : (s.heap.push o).objs.size = s.heap.objs.size + 1 := Heap.size_push ..
  show _ ∧ _
  rw [hz]
  have he : IsEnum ((s.heap.push o).push { cls := .type "enumerate", data := .fields #[.none, .bool false, .ref s.heap.objs.size, rawInt 0, .none, .none] }) (s.heap.objs.size + 1) s.heap.objs.size 0 .none := by
    have := Heap.get?_push_size (s.heap.push o) (o := { cls := .type "enumerate", data := .fields #[.none, .bool false, .ref s.heap.objs.size, rawInt 0, .none, .none] }) rfl
    rw [hz] at this; exact this
  refine ⟨⟨_, he, rfl⟩, h _ he (Heap.get?_push_of_some _ (Heap.get?_push_size _ B.free)) (by rw [Heap.size_push, hz]) fun b o x => Heap.get?_push_of_some _ (Heap.get?_push_of_some _ x)⟩
end
/-- a list (true) or a tuple (false) of xs stands at a -/
def Sq (K : PySem.W.Frag) (H : Hp) (k : Bool) (a : Addr) (xs : List V) : Prop := match k with
  | true => SqL K H a xs
  | false => SqT K H a xs
theorem Sq.mono {K : PySem.W.Frag} {H H' : Hp} {k : Bool} {a : Addr} {xs : List V} (h : Sq K H k a xs) (s : Same H H') : Sq K H' k a xs := by
  cases k with
  | true => exact s.seq h
  | false => exact sameT s h
def ItAt (k : Bool) (h : Heap) (it a : Addr) (i : Nat) : Prop := match k with
  | true => h.IsListIter it a i
  | false => h.IsTupleIter it a i
def HSeq (k : Bool) (h : Heap) (a : Addr) (its : Array Value) : Prop := match k with
  | true => h.IsList a its
  | false => h.IsTuple a its
theorem ItAt.at {k : Bool} {h h' : Heap} {it a : Addr} {i : Nat} (x : ItAt k h it a i) (e : ∀ o, h.get? it = some o → h'.get? it = some o) : ItAt k h' it a i := by
  cases k with
  | true => exact Heap.IsListIter.at x e
  | false => exact Heap.IsTupleIter.at x e
theorem ItAt.ob {k : Bool} {h : Heap} {it a : Addr} {i : Nat} (x : ItAt k h it a i) : ∃ o, h.get? it = some o ∧ ∀ v, o.data ≠ .cell v := by
  cases k with
  | true =>
    obtain ⟨o, ho, _, hd⟩ := x
    exact ⟨o, ho, fun v q => by rw [hd] at q; cases q⟩
  | false =>
    obtain ⟨o, ho, _, hd⟩ := x
    exact ⟨o, ho, fun v q => by rw [hd] at q; cases q⟩
theorem draws (k : Bool) {prog : Program} {w : World} {A : Around} (hh : A.handled = none) (it a : Addr) (hne : a ≠ it) (items : Array Value) :
    Draws prog w A it [it, a] items.size (fun i v => items[i]? = some v) (fun i h => ItAt k h it a i ∧ HSeq k h a items) := by
  cases k with
  | true => exact Draws.list hh it a hne items
  | false => exact Draws.tuple hh it a hne items
def itObj (k : Bool) (a : Addr) : Obj := match k with
  | true => { cls := .type "list_iterator", data := .fields #[.ref a, .int 0 0] }
  | false => { cls := .type "tuple_iterator", data := .fields #[.ref a, .int 0 0] }
theorem begins (k : Bool) (a : Addr) (items : Array Value) : PySem.Begins (.ref a) (itObj k a) fun h => HSeq k h a items := by
  cases k with
  | true => exact begins_list a items
  | false => exact begins_tuple a items
theorem itObj_at {k : Bool} {h : Heap} {it a : Addr} (e : h.get? it = some (itObj k a)) : ItAt k h it a 0 := by
  cases k with
  | true => exact ⟨_, e, rfl, rfl⟩
  | false => exact ⟨_, e, rfl, rfl⟩
section
variable {X : Cx} {pins : List (Addr × Obj)} {σ : L2.St} {H : Hp} {s : Shared}
theorem invSq (I : Inv X pins σ H s) {k : Bool} {a : Addr} {xs : List V} (h : Sq X.K H k a xs) : ∃ its : List Value, Vals xs its ∧ HSeq k s.heap a its.toArray := by
  cases k with
  | true =>
    obtain ⟨its, r, pl, _⟩ := I.list h
    exact ⟨its, r, pl.isList⟩
  | false =>
    obtain ⟨its, r, pl, _⟩ := I.tuple h
    exact ⟨its, r, pl⟩
theorem invSq_inj (I : Inv X pins σ H s) {k : Bool} {a : Addr} {xs ys : List V} (h : Sq X.K H k a xs) (h' : Sq X.K H k a ys) : xs = ys := by
  cases k with
  | true => exact I.list_inj h h'
  | false => exact I.tuple_inj h h'
end
theorem HSeq.lt {k : Bool} {h : Heap} {a : Addr} {its : Array Value} (x : HSeq k h a its) : a < h.objs.size := by
  cases k with
  | true =>
    obtain ⟨o, e, _⟩ := x
    exact Heap.lt_size e
  | false =>
    obtain ⟨o, e, _⟩ := x
    exact Heap.lt_size e
/-- enumerate: each item in a new pair -/
def ItE (K : PySem.W.Frag) (k : Bool) (a : Addr) : It :=
  ⟨fun i H => ∃ (xs : List V) (x : V), Sq K H k a xs ∧ xs[i]? = some x, fun i H v H' => ∃ T x, v = .ref T ∧ H T = none ∧ H' = upd H T (.tup [.int (i : Nat), x]) ∧ ∀ xs, Sq K H k a xs → xs[i]? = some x, fun i H => ∃ xs : List V, Sq K H k a xs ∧ xs.length = i⟩
theorem turn_enumK {P : Program} {w : World} {K : PySem.W.Frag} {elts : List Expr} {kk : Nat} {tpos : Pos} {k : Bool} (a e it : Addr) :
    Turn P w K (.Tuple elts kk tpos) (ItE K k a) [e, it] e (fun i h => (∃ old, IsEnum h e it ((i : Nat) : Int) old) ∧ ItAt k h it a i ∧ e ≠ it ∧ a ≠ it ∧ a ≠ e) where
  mem := by simp
  obj := fun i h st b hb => by
    obtain ⟨⟨old, he⟩, hi, _⟩ := st
    have e' : b = e ∨ b = it := by simpa using hb
    rcases e' with z | z
    · rw [z]; exact ⟨_, he, fun v q => nomatch q⟩
    · rw [z]; exact hi.ob
  keep := fun i h h' st k => let ⟨⟨old, he⟩, hi, hne⟩ := st; ⟨⟨old, k e (by simp) _ he⟩, hi.at fun o q => k it (by simp) o q, hne⟩
  item := by
    intro X hP hw hK hc i pins s σ H E I hf st hg
    subst hP hw hK
    obtain ⟨⟨old, he⟩, hit, hne, hai, hae⟩ := st
    obtain ⟨xs, x, hq, hx⟩ := hg
    obtain ⟨its, rv, p⟩ := invSq I hq
    obtain ⟨u, hu, ru⟩ := rv.get hx
    have hlt : i < its.toArray.size := by
      have := (List.getElem?_eq_some_iff.mp hu).1
      simpa using this
    have hel : e < s.heap.objs.size := Heap.lt_size he
    have hil : it < s.heap.objs.size := by obtain ⟨_, q, _⟩ := hit.ob; exact Heap.lt_size q
    have D := draws k (prog := X.prog) (w := X.w) (A := X.A.in1) (I.ok.hd hc) it a hai its.toArray
    refine wpAny_pyNext_enum_itemD D he ⟨hit, p⟩ hlt hne (by simp [hne, hae.symm]) fun x' h' tk hP ho hit' hT hsz hk => ?_
    have ex : x' = u := by
      have hP' : its[i]? = some x' := by simpa using hP
      rw [hu] at hP'
      exact (Option.some.inj hP').symm
    subst ex
    refine ⟨_, rfl, wpAny_letOwnedTupleGo_enum (s := { s with heap := h', toks := tk + 1 }) ho fun h'' he' sb => ?_⟩
    have hT2 : h''.get? s.heap.objs.size = some { cls := .type "tuple", data := .seq #[.int i tk, x'] } := (sb.2 _ (Nat.ne_of_gt hel)).trans hT
    have new : ObjOk X.prog X.w (upd H s.heap.objs.size (.tup [.int (i : Nat), x])) h'' s.heap.objs.size (.tup [.int (i : Nat), x]) :=
      ⟨by show 2 ≤ sizeLine; decide, [.int i tk, x'], .cons ⟨_, rfl⟩ (.cons ru .nil), ⟨_, hT2, rfl, _, rfl⟩⟩
    have I1 : Inv X pins σ (upd H s.heap.objs.size (.tup [.int (i : Nat), x])) { s with heap := h'', toks := tk + 1 } :=
      I.turnedNew (ch := [e, it]) (fun b ob hb q => (sb.2 b (fun z => hb (by simp [z]))).trans (hk b ob (fun z => hb (by simp [z])) (fun z => hb (by simp [z])) q)) hf (Nat.le_refl _) new
    refine ⟨.ref s.heap.objs.size, _, I1, rfl, ⟨_, x, rfl, I.hok.fresh (Nat.le_refl _), rfl, fun ys hy => by rw [invSq_inj I hy hq]; exact hx⟩, ⟨⟨x', ?_⟩, hit'.1.at fun o q => (sb.2 it (Ne.symm hne)).trans q, hne, hai, hae⟩, fun b hb => ?_⟩
    · have e1 : ((i + 1 : Nat) : Int) = (i : Int) + 1 := by omega
      rw [e1]; exact he'
    · have hb' : b < s.heap.objs.size := by
        have e' : b = e ∨ b = it := by simpa using hb
        rcases e' with z | z
        · rw [z]; exact hel
        · rw [z]; exact hil
      rw [upd_ne (Nat.ne_of_lt hb')]
      exact (hf b hb).1
  done := by
    intro X hP hw hK hc i pins s σ H E I hf st hg
    subst hP hw hK
    obtain ⟨⟨old, he⟩, hit, hne, hai, hae⟩ := st
    obtain ⟨xs, hq, hx⟩ := hg
    obtain ⟨its, rv, p⟩ := invSq I hq
    obtain ⟨f0, f1, f2, f3, f4, f5⟩ := hf it (by simp)
    have hl := rv.length
    have D := draws k (prog := X.prog) (w := X.w) (A := X.A.in1) (I.ok.hd hc) it a hai its.toArray
    have hi : i = its.toArray.size := by
      rw [List.size_toArray]
      omega
    exact wpAny_pyNext_enum_endD D he (by rw [← hi]; exact ⟨hit, p⟩) fun h' eb => ⟨rfl, I.turned (t' := s.toks) (fun b o hb q => eb b o hb q) f0 f1 f3 f4 f5⟩
  self := fun A i s Q E st h => let ⟨⟨_, he⟩, _⟩ := st; wpAny_pyIter_enum he h
def iEnumK (K : PySem.W.Frag) (k : Bool) (ta : TA) : TI := fun σ H R => ta σ H fun vs H1 => ∃ a xs, vs = [.ref a] ∧ Sq K H1 k a xs ∧ R (ItE K k a) H1
theorem pi_enumK {X : Cx} {e : Expr} {ta : TA} {p pos tpos : Pos} {elts : List Expr} {kk : Nat} {k : Bool} (hg : Gl X "enumerate") (hm : X.mg "enumerate" = none) (ha : PA X [e] ta) (hs : starEach [e] X.env = [(false, eval e X.env)] := by rfl) :
    PI X (.Tuple elts kk tpos) (.Call (.Name "enumerate" p) [e] [] pos) (iEnumK X.K k ta) := by
  refine ⟨fun pins s σ H R I h => ?_⟩
  refine Call_ (ld_blt I hg hm boot_enumerate (PyProof.Rows.callWith_type1 (thn (ha.run pos pins s σ H _ I h) fun us s1 ⟨vs, H1, I1, r1, q1⟩ => ?_) hs rfl))
  obtain ⟨a, xs, ex, hq, q⟩ := q1
  subst ex
  cases r1 with
  | cons r rr =>
    cases rr
    cases r
    obtain ⟨its, rv, p'⟩ := invSq I1 hq
    have la := p'.lt
    refine enum_begins1 (begins k a its.toArray) p' fun h' he hit hsz hk => wpAny_pyIter_enum he ?_
    have I2 : Inv X pins σ H1 { s1 with heap := h' } := I1.kept (t' := s1.toks) hk
    refine ⟨s1.heap.objs.size + 1, [s1.heap.objs.size + 1, s1.heap.objs.size], _, _, H1, rfl, I2, turn_enumK a (s1.heap.objs.size + 1) s1.heap.objs.size, ⟨⟨.none, he⟩, itObj_at hit, Nat.succ_ne_self _, Nat.ne_of_lt la, Nat.ne_of_lt (Nat.lt_succ_of_lt la)⟩, fun b hb => ?_, q⟩
    have e' : b = s1.heap.objs.size + 1 ∨ b = s1.heap.objs.size := by simpa using hb
    have hle : s1.heap.objs.size ≤ b := by
      rcases e' with z | z
      · rw [z]; exact Nat.le_add_right _ _
      · rw [z]; exact Nat.le_refl _
    exact I1.fpOk hle (I1.hok.fresh hle)
/-- zip: both items in a new pair -/
def ItZ (K : PySem.W.Frag) (k l : Bool) (a b : Addr) : It :=
  ⟨fun i H => ∃ (xs ys : List V) (x y : V), Sq K H k a xs ∧ Sq K H l b ys ∧ xs[i]? = some x ∧ ys[i]? = some y,
    fun i H v H' => ∃ T x y, v = .ref T ∧ H T = none ∧ H' = upd H T (.tup [x, y]) ∧ (∀ xs, Sq K H k a xs → xs[i]? = some x) ∧ ∀ ys, Sq K H l b ys → ys[i]? = some y,
    fun i H => ∃ xs ys : List V, Sq K H k a xs ∧ Sq K H l b ys ∧ i ≤ xs.length ∧ i ≤ ys.length ∧ (i = xs.length ∨ i = ys.length)⟩
/-- the cells of a zip over a and b -/
structure ZApart (z TI TO i1 i2 a b : Addr) : Prop where
  S : ZipSep2 z TI TO i1 i2 [i1, a] [i2, b]
  a1 : a ≠ i1
  b2 : b ≠ i2
theorem turn_zipK {P : Program} {w : World} {K : PySem.W.Frag} {elts : List Expr} {kk : Nat} {tpos : Pos} {k l : Bool} {a b z TI TO i1 i2 : Addr} (D : ZApart z TI TO i1 i2 a b) :
    Turn P w K (.Tuple elts kk tpos) (ItZ K k l a b) [z, TI, TO, i1, i2] z (fun i h => IsZip h z TI TO .none ∧ IsTupOf2 h TI (.ref i1) (.ref i2) ∧ (∃ x y, IsTupOf2 h TO x y) ∧ ItAt k h i1 a i ∧ ItAt l h i2 b i) where
  mem := by simp
  obj := fun i h st c hc => by
    obtain ⟨hz, hTI, ⟨x, y, hTO⟩, h1, h2⟩ := st
    have e' : c = z ∨ c = TI ∨ c = TO ∨ c = i1 ∨ c = i2 := by simpa using hc
    rcases e' with q | q | q | q | q
    · rw [q]; exact ⟨_, hz, fun v q => nomatch q⟩
    · rw [q]; exact ⟨_, hTI, fun v q => nomatch q⟩
    · rw [q]; exact ⟨_, hTO, fun v q => nomatch q⟩
    · rw [q]; exact h1.ob
    · rw [q]; exact h2.ob
  keep := fun i h h' st k => by
    obtain ⟨hz, hTI, ⟨x, y, hTO⟩, h1, h2⟩ := st
    exact ⟨k z (by simp) _ hz, k TI (by simp) _ hTI, ⟨x, y, k TO (by simp) _ hTO⟩, h1.at fun o q => k i1 (by simp) o q, h2.at fun o q => k i2 (by simp) o q⟩
  item := by
    intro X hP hw hK hc i pins s σ H E I hf st hg
    subst hP hw hK
    obtain ⟨hz, hTI, ⟨x0, y0, hTO⟩, h1, h2⟩ := st
    obtain ⟨xs, ys, x, y, hqx, hqy, hx, hy⟩ := hg
    obtain ⟨its, rv, p⟩ := invSq I hqx
    obtain ⟨its2, rv2, p2⟩ := invSq I hqy
    obtain ⟨u, hu, ru⟩ := rv.get hx
    obtain ⟨u2, hu2, ru2⟩ := rv2.get hy
    have hlt : i < its.toArray.size := by
      have := (List.getElem?_eq_some_iff.mp hu).1
      simpa using this
    have hlt2 : i < its2.toArray.size := by
      have := (List.getElem?_eq_some_iff.mp hu2).1
      simpa using this
    have hzl : z < s.heap.objs.size := Heap.lt_size hz
    have D1 := draws k (prog := X.prog) (w := X.w) (A := X.A.in1) (I.ok.hd hc) i1 a D.a1 its.toArray
    have D2 := draws l (prog := X.prog) (w := X.w) (A := X.A.in1) (I.ok.hd hc) i2 b D.b2 its2.toArray
    refine wpAny_pyNext_zipD2_item D.S D1 D2 hz hTI hTO ⟨h1, p⟩ ⟨h2, p2⟩ hlt hlt2 fun x1 x2 h' tk hP1 hP2 z' TO' h1' h2' hT hsz hk => ?_
    have e1 : x1 = u := by
      have hP' : its[i]? = some x1 := by simpa using hP1
      rw [hu] at hP'
      exact (Option.some.inj hP').symm
    have e2 : x2 = u2 := by
      have hP' : its2[i]? = some x2 := by simpa using hP2
      rw [hu2] at hP'
      exact (Option.some.inj hP').symm
    subst e1 e2
    refine ⟨_, rfl, wpAny_letOwnedTupleGo_zip (s := { s with heap := h', toks := tk }) z' fun h'' z'' sb => ?_⟩
    have hT2 : h''.get? s.heap.objs.size = some { cls := .type "tuple", data := .seq #[x1, x2] } := (sb.2 _ (Nat.ne_of_gt hzl)).trans hT
    have new : ObjOk X.prog X.w (upd H s.heap.objs.size (.tup [x, y])) h'' s.heap.objs.size (.tup [x, y]) :=
      ⟨by show 2 ≤ sizeLine; decide, [x1, x2], .cons ru (.cons ru2 .nil), ⟨_, hT2, rfl, _, rfl⟩⟩
    have I1 : Inv X pins σ (upd H s.heap.objs.size (.tup [x, y])) { s with heap := h'', toks := tk } :=
      I.turnedNew (t' := tk) (ch := [z, TI, TO, i1, i2]) (fun c o hb q => (sb.2 c (fun q' => hb (by simp [q']))).trans (hk c o (fun q' => hb (by simp [q'])) (fun q' => hb (by simp [q'])) (fun q' => hb (by simp [q'])) (fun q' => hb (by simp [q'])) q)) hf (Nat.le_refl _) new
    refine ⟨.ref s.heap.objs.size, _, I1, rfl, ⟨_, x, y, rfl, I.hok.fresh (Nat.le_refl _), rfl, fun l hl => by rw [invSq_inj I hl hqx]; exact hx, fun l hl => by rw [invSq_inj I hl hqy]; exact hy⟩, ⟨z'', ?_, ⟨x1, x2, ?_⟩, ?_, ?_⟩, fun c hcm => ?_⟩
    · exact (sb.2 _ D.S.TIz).trans (hk _ _ D.S.TIz D.S.TITO D.S.TIi1 D.S.TIi2 hTI)
    · exact (sb.2 _ D.S.TOz).trans TO'
    · exact h1'.1.at fun o q => (sb.2 _ D.S.zi1.symm).trans q
    · exact h2'.1.at fun o q => (sb.2 _ D.S.zi2.symm).trans q
    · have hlt : c < s.heap.objs.size := by
        have e' : c = z ∨ c = TI ∨ c = TO ∨ c = i1 ∨ c = i2 := by simpa using hcm
        rcases e' with q | q | q | q | q
        · rw [q]; exact hzl
        · rw [q]; exact Heap.lt_size hTI
        · rw [q]; exact Heap.lt_size hTO
        · rw [q]; obtain ⟨_, e1, _⟩ := h1.ob; exact Heap.lt_size e1
        · rw [q]; obtain ⟨_, e2, _⟩ := h2.ob; exact Heap.lt_size e2
      rw [upd_ne (Nat.ne_of_lt hlt)]
      exact (hf c hcm).1
  done := by
    intro X hP hw hK hc i pins s σ H E I hf st hg
    subst hP hw hK
    obtain ⟨hz, hTI, ⟨x0, y0, hTO⟩, h1, h2⟩ := st
    obtain ⟨xs, ys, hqx, hqy, hl1, hl2, hend⟩ := hg
    obtain ⟨its, rv, p⟩ := invSq I hqx
    obtain ⟨its2, rv2, p2⟩ := invSq I hqy
    have l1 := rv.length
    have l2 := rv2.length
    have D1 := draws k (prog := X.prog) (w := X.w) (A := X.A.in1) (I.ok.hd hc) i1 a D.a1 its.toArray
    have D2 := draws l (prog := X.prog) (w := X.w) (A := X.A.in1) (I.ok.hd hc) i2 b D.b2 its2.toArray
    exact wpAny_pyNext_zipD2_end D.S D1 D2 hz hTI hTO ⟨h1, p⟩ ⟨h2, p2⟩ (by rw [List.size_toArray]; omega) (by rw [List.size_toArray]; omega) (by rw [List.size_toArray, List.size_toArray]; omega) fun h' tk hk => ⟨rfl, I.turnedL (t' := tk) (ch := [z, TI, TO, i1, i2]) (fun c o hb q =>
      hk c o (fun q' => hb (by simp [q'])) (fun q' => hb (by simp [q'])) (fun q' => hb (by simp [q'])) (fun q' => hb (by simp [q'])) q) hf⟩
  self := fun A i s Q E st h => wpAny_pyIter_zip st.1 h
def iZipK (K : PySem.W.Frag) (k l : Bool) (ta : TA) : TI := fun σ H R => ta σ H fun vs H1 => ∃ a b xs ys, vs = [.ref a, .ref b] ∧ Sq K H1 k a xs ∧ Sq K H1 l b ys ∧ R (ItZ K k l a b) H1
theorem pi_zipK {X : Cx} {e e2 : Expr} {ta : TA} {p pos tpos : Pos} {elts : List Expr} {kk : Nat} {k l : Bool} (hg : Gl X "zip") (hm : X.mg "zip" = none) (ha : PA X [e, e2] ta)
    (hs : starEach [e, e2] X.env = (false, eval e X.env) :: starEach [e2] X.env := by rfl) (hpl : (backTo pos (starEach [e2] X.env)).any (·.1) = false := by rfl) :
    PI X (.Tuple elts kk tpos) (.Call (.Name "zip" p) [e, e2] [] pos) (iZipK X.K k l ta) := by
  refine ⟨fun pins s σ H R I h => ?_⟩
  refine Call_ (ld_blt I hg hm PyProof.Rows.boot_zip (PyProof.Rows.callWith_type1 (thn (ha.run pos pins s σ H _ I h) fun us s1 ⟨vs, H1, I1, r1, q1⟩ => ?_) hs hpl))
  obtain ⟨a, b, xs, ys, ex, hqx, hqy, q⟩ := q1
  subst ex
  cases r1 with
  | cons r rr =>
    cases rr with
    | cons r' rr =>
      cases rr
      cases r
      cases r'
      obtain ⟨its, rv, p1⟩ := invSq I1 hqx
      obtain ⟨its2, rv2, p2⟩ := invSq I1 hqy
      have la : a < s1.heap.objs.size := p1.lt
      have lb : b < s1.heap.objs.size := p2.lt
      refine zip_begins2 (begins k a its.toArray) (begins l b its2.toArray) p1 p2 fun h' hz hTI hTO h1 h2 hsz hk => wpAny_pyIter_zip hz ?_
      have I2 : Inv X pins σ H1 { s1 with heap := h' } := I1.kept (t' := s1.toks) hk
      have S := zip_sep2 (N := s1.heap.objs.size) (fp1 := [a]) (fp2 := [b]) (fun c hc => by rw [List.mem_singleton.mp hc]; exact la) (fun c hc => by rw [List.mem_singleton.mp hc]; exact lb)
      refine ⟨s1.heap.objs.size + 4, [s1.heap.objs.size + 4, s1.heap.objs.size + 2, s1.heap.objs.size + 3, s1.heap.objs.size, s1.heap.objs.size + 1], _, _, H1, rfl, I2, turn_zipK ⟨S, Nat.ne_of_lt la, Nat.ne_of_lt (Nat.lt_succ_of_lt lb)⟩, ⟨hz, hTI, ⟨_, _, hTO⟩, itObj_at h1, itObj_at h2⟩, fun c hcm => ?_, q⟩
      have e' : c = s1.heap.objs.size + 4 ∨ c = s1.heap.objs.size + 2 ∨ c = s1.heap.objs.size + 3 ∨ c = s1.heap.objs.size ∨ c = s1.heap.objs.size + 1 := by simpa using hcm
      have hle : s1.heap.objs.size ≤ c := by
        rcases e' with z | z | z | z | z
        · rw [z]; exact Nat.le_add_right _ _
        · rw [z]; exact Nat.le_add_right _ _
        · rw [z]; exact Nat.le_add_right _ _
        · rw [z]; exact Nat.le_refl _
        · rw [z]; exact Nat.le_add_right _ _
      exact I1.fpOk hle (I1.hok.fresh hle)
end DL
namespace DL
open PySem PySem.Spec PyProof.Rows L2
def truth : D → Option Bool
  | .none => some false
  | .bool b => some b
  | .int i => some (i != 0)
  | .str s => if s.length ≤ 1000000 then some ((s.length : Int) != 0) else none
  | .list ds => some (!ds.isEmpty)
  | .tuple ds => some (!ds.isEmpty)
  | .dict _ => none
def isB : D → Option Bool
  | .bool b => some b
  | _ => none
def bT (f : Env → Option D) : Env → Option Bool := fun ρ => (f ρ).bind truth
def bV (f : Env → Option D) : Env → Option Bool := fun ρ => (f ρ).bind isB
def bTR (f : Env → Option (D × Env)) : Env → Option (Bool × Env) := fun ρ => (f ρ).bind fun p => (truth p.1).map fun b => (b, p.2)
def bVR (f : Env → Option (D × Env)) : Env → Option (Bool × Env) := fun ρ => (f ρ).bind fun p => (isB p.1).map fun b => (b, p.2)
def bAnd (f g : Env → Option Bool) : Env → Option Bool := fun ρ => (f ρ).bind fun a => if a = true then g ρ else some false
def bOr (f g : Env → Option Bool) : Env → Option Bool := fun ρ => (f ρ).bind fun a => if a = true then some true else g ρ
def bNot (f : Env → Option Bool) : Env → Option Bool := fun ρ => (f ρ).bind fun a => some (!a)
def bAndR (f g : Env → Option (Bool × Env)) : Env → Option (Bool × Env) := fun ρ => (f ρ).bind fun p => if p.1 = true then g p.2 else some (false, p.2)
def bOrR (f g : Env → Option (Bool × Env)) : Env → Option (Bool × Env) := fun ρ => (f ρ).bind fun p => if p.1 = true then some (true, p.2) else g p.2
def bNotR (f : Env → Option (Bool × Env)) : Env → Option (Bool × Env) := fun ρ => (f ρ).bind fun p => some (!p.1, p.2)
section
variable {X : Cx} {z : Z}
theorem rep_len {K : PySem.W.Frag} {F : Hp} {vs : List V} {ds : List D} (t : RepL K F vs ds) : vs.isEmpty = ds.isEmpty := by
  cases t <;> rfl
theorem truth_ok {K : PySem.W.Frag} {F H : Hp} {v : V} {d : D} {b : Bool} (s : Same F H) (r : Rep K F v d) (e : truth d = some b) : TruV K v H b := by
  cases r with
  | non =>
    cases e
    exact rfl
  | bl b =>
    cases e
    exact rfl
  | int i =>
    cases e
    exact rfl
  | str x =>
    have e : (if x.length ≤ 1000000 then some ((x.length : Int) != 0) else none) = some b := e
    split at e
    · cases e
      exact ⟨leM (by assumption), rfl⟩
    · cases e
  | dic h _ _ => cases e
  | lst h t =>
    cases e
    exact .inl ⟨_, s.seq h, by rw [rep_len t]⟩
  | tup h t =>
    cases e
    exact .inr (.inl ⟨_, sameT s (sqT_of h), by rw [rep_len t]⟩)
abbrev PlainT (X : Cx) (e : Expr) : Prop := ∀ whole, isTrue e X.env whole = (do let v ← whole; standAt e.pos; holding [v] (truthy v))
theorem b_val {e : Expr} {f : Env → Option D} (h : PE X e (tP X.K z f)) (he : PlainT X e := by intro _; rfl) : PT X e (tB X.K z (bT f)) :=
  (pt_truth h he).mono fun σ H Q ⟨ρ, F, O, b, R, e, q⟩ => by
    obtain ⟨d, h1, h2⟩ := bind_some e
    exact ⟨ρ, F, O, d, R, h1, fun v H' s r => ⟨b, truth_ok (R.grow s).sub r h2, q H' s⟩⟩
theorem isB_of {d : D} {b : Bool} (h : isB d = some b) : d = .bool b := by
  unfold isB at h
  split at h
  · cases h
    rfl
  · cases h
theorem b_cmp {a b : Expr} {pos : Pos} {op : CmpOp} {r : R2} {o : D → D → Option D} {f g : Env → Option D} (hr : OpR X (compareOp op) r) (ho : Op2 X.K r o) (ha : PE X a (tP X.K z f)) (hb : PE X b (tP X.K z g)) (hm : behindInMarks op b = false) : PT X (.Compare a [op] [b] pos) (tB X.K z (bV (c2 o f g))) :=
  (pt_cmpR hr ha hb hm).mono fun σ H Q ⟨ρ, F, O, b, R, e, q⟩ => by
    obtain ⟨d, h1, h2⟩ := bind_some e
    refine tP2 (z := z) ho ⟨ρ, F, O, d, R, h1, fun v H' s r => ⟨b, ?_, q H' s⟩⟩
    rw [isB_of h2] at r
    cases r
    rfl
theorem b_not {a : Expr} {pos : Pos} {f : Env → Option Bool} (h : PT X a (tB X.K z f)) : PT X (.UnaryOp .Not a pos) (tB X.K z (bNot f)) :=
  (pt_not h).mono fun σ H Q ⟨ρ, F, O, b, R, e, q⟩ => by
    obtain ⟨d, h1, h2⟩ := bind_some e
    cases h2
    exact ⟨ρ, F, O, d, R, h1, fun H' s => q H' s⟩
theorem b_and1 {a : Expr} {pos : Pos} {f : Env → Option Bool} (h : PT X a (tB X.K z f)) : PW X (.BoolOp .And [a] pos) (tB X.K z f) := pw_and1 h
theorem b_or1 {a : Expr} {pos : Pos} {f : Env → Option Bool} (h : PT X a (tB X.K z f)) : PW X (.BoolOp .Or [a] pos) (tB X.K z f) := pw_or1 h
theorem b_and {a b : Expr} {rest : List Expr} {pos : Pos} {f g : Env → Option Bool} (h : PT X a (tB X.K z f)) (k : PW X (.BoolOp .And (b :: rest) pos) (tB X.K z g)) : PW X (.BoolOp .And (a :: b :: rest) pos) (tB X.K z (bAnd f g)) :=
  (pw_and h k).mono fun σ H Q ⟨ρ, F, O, c, R, e, q⟩ => by
    obtain ⟨d, h1, h2⟩ := bind_some e
    refine ⟨ρ, F, O, d, R, h1, fun H' s => ?_⟩
    split at h2
    · next hd =>
      rw [if_pos hd]
      exact ⟨ρ, _, O, c, R.grow s, h2, fun H2 s2 => q H2 (s.trans s2)⟩
    · next hd =>
      rw [if_neg hd]
      cases h2
      exact q H' s
theorem b_or {a b : Expr} {rest : List Expr} {pos : Pos} {f g : Env → Option Bool} (h : PT X a (tB X.K z f)) (k : PW X (.BoolOp .Or (b :: rest) pos) (tB X.K z g)) : PW X (.BoolOp .Or (a :: b :: rest) pos) (tB X.K z (bOr f g)) :=
  (pw_or h k).mono fun σ H Q ⟨ρ, F, O, c, R, e, q⟩ => by
    obtain ⟨d, h1, h2⟩ := bind_some e
    refine ⟨ρ, F, O, d, R, h1, fun H' s => ?_⟩
    split at h2
    · next hd =>
      rw [if_pos hd]
      cases h2
      exact q H' s
    · next hd =>
      rw [if_neg hd]
      exact ⟨ρ, _, O, c, R.grow s, h2, fun H2 s2 => q H2 (s.trans s2)⟩
def cAnd (f g : Env → Option D) : Env → Option D := fun ρ => (f ρ).bind fun d => (isB d).bind fun a => if a = true then g ρ else some (.bool false)
def cOr (f g : Env → Option D) : Env → Option D := fun ρ => (f ρ).bind fun d => (isB d).bind fun a => if a = true then some (.bool true) else g ρ
def cNot (f : Env → Option D) : Env → Option D := fun ρ => (f ρ).bind fun d => (isB d).bind fun a => some (.bool (!a))
def cIf (c : Env → Option Bool) (f g : Env → Option D) : Env → Option D := fun ρ => (c ρ).bind fun b => if b = true then f ρ else g ρ
def rIf (c : Env → Option (Bool × Env)) (f g : Env → Option (D × Env)) : Env → Option (D × Env) := fun ρ => (c ρ).bind fun p => if p.1 = true then f p.2 else g p.2
theorem q_one {op} {a : Expr} {pos : Pos} {t : TE} (h : PE X a t) : PE X (.BoolOp op [a] pos) t := pe_one h
theorem q_and {a b : Expr} {rest : List Expr} {pos : Pos} {f g : Env → Option D} (h : PE X a (tP X.K z f)) (k : PE X (.BoolOp .And (b :: rest) pos) (tP X.K z g)) : PE X (.BoolOp .And (a :: b :: rest) pos) (tP X.K z (cAnd f g)) :=
  (pe_and h k).mono fun σ H Q ⟨ρ, F, O, c, R, e, q⟩ => by
    obtain ⟨d, h1, h2⟩ := bind_some e
    obtain ⟨a, ha, h2⟩ := bind_some h2
    rw [isB_of ha] at h1
    refine ⟨ρ, F, O, _, R, h1, fun v H' s r => ?_⟩
    cases r
    refine ⟨a, rfl, ?_⟩
    split at h2
    · next hd =>
      rw [if_pos hd]
      refine ⟨ρ, _, O, c, R.grow s, h2, fun v2 H2 s2 r2 => q v2 H2 (s.trans s2) ?_⟩
      rw [ext_ext s s2] at r2
      exact r2
    · next hd =>
      rw [if_neg hd]
      cases h2
      exact q _ H' s (.bl _)
theorem q_not {a : Expr} {pos : Pos} {f : Env → Option D} (h : PE X a (tP X.K z f)) : PE X (.UnaryOp .Not a pos) (tP X.K z (cNot f)) :=
  (pe_not h).mono fun σ H Q ⟨ρ, F, O, c, R, e, q⟩ => by
    obtain ⟨d, h1, h2⟩ := bind_some e
    obtain ⟨a, ha, h2⟩ := bind_some h2
    rw [isB_of ha] at h1
    cases h2
    refine ⟨ρ, F, O, _, R, h1, fun v H' s r => ?_⟩
    cases r
    exact ⟨a, rfl, q _ H' s (.bl _)⟩
theorem q_if {c a b : Expr} {pos : Pos} {t : Env → Option Bool} {f g : Env → Option D} (hc : PT X c (tB X.K z t)) (ha : PE X a (tP X.K z f)) (hb : PE X b (tP X.K z g)) : PE X (.IfExp c a b pos) (tP X.K z (cIf t f g)) :=
  (pe_ifExp hc ha hb).mono fun σ H Q ⟨ρ, F, O, d, R, e, q⟩ => by
    obtain ⟨k, h1, h2⟩ := bind_some e
    refine ⟨ρ, F, O, k, R, h1, fun H' s => ?_⟩
    split at h2
    · next hd =>
      rw [if_pos hd]
      refine ⟨ρ, _, O, d, R.grow s, h2, fun v2 H2 s2 r2 => q v2 H2 (s.trans s2) ?_⟩
      rw [ext_ext s s2] at r2
      exact r2
    · next hd =>
      rw [if_neg hd]
      refine ⟨ρ, _, O, d, R.grow s, h2, fun v2 H2 s2 r2 => q v2 H2 (s.trans s2) ?_⟩
      rw [ext_ext s s2] at r2
      exact r2
/-- a op1 b op2 c -/
def cChain (o o' : D → D → Option D) (f g h : Env → Option D) : Env → Option D := fun ρ => (f ρ).bind fun a => (g ρ).bind fun b => (o a b).bind fun d => (isB d).bind fun k => if k = true then (h ρ).bind fun c => o' b c else some (.bool false)
theorem chain_ok {r r' : R2} {o o' : D → D → Option D} {f g h : Env → Option D} (h1 : Op2 X.K r o) (h2 : Op2 X.K r' o') {σ : L2.St} {H : Hp} {Q : VK} (hq : tP X.K z (cChain o o' f g h) σ H Q) : tChain r r' (tP X.K z f) (tP X.K z g) (tP X.K z h) σ H Q := by
  obtain ⟨ρ, F, O, d, R, e, q⟩ := hq
  obtain ⟨a, ea, e⟩ := bind_some e
  obtain ⟨b, eb, e⟩ := bind_some e
  obtain ⟨d1, ed, e⟩ := bind_some e
  obtain ⟨k, ek, e⟩ := bind_some e
  rw [isB_of ek] at ed
  refine ⟨ρ, F, O, a, R, ea, fun v1 H1 s1 r1 => ?_⟩
  refine ⟨ρ, _, O, b, R.grow s1, eb, fun v2 H2 s2 r2 => ?_⟩
  rw [ext_ext s1 s2] at r2
  have R2 := R.grow (s1.trans s2)
  have r1' : Rep X.K (ext F H H2) v1 a := r1.mono (by
    rw [← ext_ext s1 s2]
    exact same_ext (R.grow s1).sub)
  refine h1.run (ext F H H2) H2 v1 v2 a b (.bool k) _ R2.sub r1' r2 ed fun v H3 s3 r3 => ?_
  cases r3
  refine ⟨k, rfl, ?_⟩
  split at e
  · next hk =>
    rw [if_pos hk]
    obtain ⟨c, ec, e⟩ := bind_some e
    have s13 := (s1.trans s2).trans s3
    refine ⟨ρ, _, O, c, R.grow s13, ec, fun v4 H4 s4 r4 => ?_⟩
    rw [ext_ext s13 s4] at r4
    have s14 := s13.trans s4
    have R4 := R.grow s14
    have r24 : Rep X.K (ext F H H4) v2 b := r2.mono (by
      rw [← ext_ext (s1.trans s2) (s3.trans s4)]
      exact same_ext R2.sub)
    refine h2.run (ext F H H4) H4 v2 v4 b c d Q R4.sub r24 r4 e fun v H5 s5 r5 => q v H5 (s14.trans s5) ?_
    rw [ext_ext s14 s5] at r5
    exact r5
  · next hk =>
    rw [if_neg hk]
    cases e
    exact q _ H3 ((s1.trans s2).trans s3) (.bl _)
theorem q_chain {a b c : Expr} {pos : Pos} {op op' : CmpOp} {r r' : R2} {o o' : D → D → Option D} {f g h : Env → Option D} (hr : OpR X (compareOp op) r) (ho : Op2 X.K r o) (hr' : OpR X (compareOp op') r') (ho' : Op2 X.K r' o') (ha : PE X a (tP X.K z f)) (hb : PE X b (tP X.K z g)) (hc : PE X c (tP X.K z h))
    (hm : lastMarks [op, op'] [b, c] = false := by with_unfolding_all rfl) : PE X (.Compare a [op, op'] [b, c] pos) (tP X.K z (cChain o o' f g h)) := (pe_chain hr hr' ha hb hc hm).mono fun _ _ _ hq => chain_ok ho ho' hq
theorem b_chain {a b c : Expr} {pos : Pos} {op op' : CmpOp} {r r' : R2} {o o' : D → D → Option D} {f g h : Env → Option D} (hr : OpR X (compareOp op) r) (ho : Op2 X.K r o) (hr' : OpR X (compareOp op') r') (ho' : Op2 X.K r' o') (ha : PE X a (tP X.K z f)) (hb : PE X b (tP X.K z g)) (hc : PE X c (tP X.K z h))
    (hm : lastMarks [op, op'] [b, c] = false := by with_unfolding_all rfl) : PT X (.Compare a [op, op'] [b, c] pos) (tB X.K z (bV (cChain o o' f g h))) := (pt_chain hr hr' ha hb hc hm).mono fun σ H Q ⟨ρ, F, O, b, R, e, q⟩ => by
    obtain ⟨d, h1, h2⟩ := bind_some e
    refine chain_ok ho ho' ⟨ρ, F, O, d, R, h1, fun v H' s r => ⟨b, ?_, q H' s⟩⟩
    rw [isB_of h2] at r
    cases r
    rfl
end
structure Yld0 (K : PySem.W.Frag) (J : It) (F : Hp) (ds : List D) : Prop where
  go : ∀ i H, Same F H → i < ds.length → J.go i H
  yld : ∀ (i : Nat) H x H' d, Same F H → J.yld i H x H' → ds[i]? = some d → Same H H' ∧ Rep K (ext F H H') x d
  stop : ∀ i H, Same F H → i = ds.length → J.stop i H
structure Yld (K : PySem.W.Frag) (J : It) (F : Hp) (ds : List D) : Prop where
  go : ∀ i H, Same F H → i < ds.length → J.go i H
  yld : ∀ (i : Nat) F' H x H' d, Same F F' → Same F' H → AllT F' H → J.yld i H x H' → ds[i]? = some d → Same H H' ∧ Rep K (ext F' H H') x d
  stop : ∀ i H, Same F H → i = ds.length → J.stop i H
theorem Yld0.of {K : PySem.W.Frag} {J : It} {F : Hp} {ds : List D} (y : Yld0 K J F ds) : Yld K J F ds :=
  ⟨y.go, fun i F' H x H' d s h _ hy hd => by
    obtain ⟨h1, h2⟩ := y.yld i H x H' d (s.trans h) hy hd
    exact ⟨h1, h2.mono (ext_mono s)⟩, y.stop⟩
theorem Yld.mono {K : PySem.W.Frag} {J : It} {F F' : Hp} {ds : List D} (y : Yld K J F ds) (s : Same F F') : Yld K J F' ds :=
  ⟨fun i H h hi => y.go i H (s.trans h) hi, fun i F2 H x H' d s2 h t hy hd => y.yld i F2 H x H' d (s.trans s2) h t hy hd, fun i H h hi => y.stop i H (s.trans h) hi⟩
theorem yld_list0 {K : PySem.W.Frag} {F : Hp} {a : Addr} {vs : List V} {ds : List D} (h : SqL K F a vs) (t : RepL K F vs ds) : Yld0 K (Itl K a) F ds where
  go := fun i H s hi => by
    have hl := t.length
    exact ⟨vs, vs[i]'(by omega), s.seq h, List.getElem?_eq_getElem _⟩
  yld := fun i H x H' d s ⟨e, hx⟩ hd => by
    subst e
    refine ⟨Same.refl _, ?_⟩
    rw [ext_self s]
    obtain ⟨v, h1, h2⟩ := t.get hd
    rw [hx _ (s.seq h)] at h1
    cases h1
    exact h2
  stop := fun i H s hi => ⟨vs, s.seq h, by rw [t.length]; omega⟩
theorem yld_list {K : PySem.W.Frag} {F : Hp} {a : Addr} {vs : List V} {ds : List D} (h : SqL K F a vs) (t : RepL K F vs ds) : Yld K (Itl K a) F ds := (yld_list0 h t).of
theorem yld_tup0 {K : PySem.W.Frag} {F : Hp} {a : Addr} {vs : List V} {ds : List D} (h : SqT K F a vs) (t : RepL K F vs ds) : Yld0 K (Itt K a) F ds where
  go := fun i H s hi => by
    have hl := t.length
    exact ⟨vs, vs[i]'(by omega), sameT s h, List.getElem?_eq_getElem _⟩
  yld := fun i H x H' d s ⟨e, hx⟩ hd => by
    subst e
    refine ⟨Same.refl _, ?_⟩
    rw [ext_self s]
    obtain ⟨v, h1, h2⟩ := t.get hd
    rw [hx _ (sameT s h)] at h1
    cases h1
    exact h2
  stop := fun i H s hi => ⟨vs, sameT s h, by rw [t.length]; omega⟩
theorem yld_tup {K : PySem.W.Frag} {F : Hp} {a : Addr} {vs : List V} {ds : List D} (h : SqT K F a vs) (t : RepL K F vs ds) : Yld K (Itt K a) F ds := (yld_tup0 h t).of
def rangeD (lo : Int) (n : Nat) : List D := (List.range n).map fun i => .int (lo + (i : Nat))
theorem rangeD_len {lo : Int} {n : Nat} : (rangeD lo n).length = n := by
  unfold rangeD
  rw [List.length_map, List.length_range]
theorem yld_range0 {K : PySem.W.Frag} {F : Hp} {lo : Int} {n : Nat} : Yld0 K (Itr lo n) F (rangeD lo n) where
  go := fun i H s hi => by
    rw [rangeD_len] at hi
    exact hi
  yld := fun i H x H' d s ⟨e, hx⟩ hd => by
    subst e hx
    refine ⟨Same.refl _, ?_⟩
    unfold rangeD at hd
    rw [List.getElem?_map] at hd
    obtain ⟨j, h1, h2⟩ := map_some hd
    have h3 := (List.getElem?_eq_some_iff.mp h1).2
    rw [List.getElem_range] at h3
    subst h3 h2
    exact .int _
  stop := fun i H s hi => by
    rw [rangeD_len] at hi
    exact Nat.le_of_eq hi.symm
theorem yld_range {K : PySem.W.Frag} {F : Hp} {lo : Int} {n : Nat} : Yld K (Itr lo n) F (rangeD lo n) := (yld_range0).of
def enumD : Nat → List D → List D
  | _, [] => []
  | k, d :: r => .tuple [.int k, d] :: enumD (k + 1) r
theorem enumD_len : ∀ (k : Nat) (ds : List D), (enumD k ds).length = ds.length
  | _, [] => rfl
  | k, d :: r => congrArg (· + 1) (enumD_len (k + 1) r)
theorem enumD_get : ∀ (k : Nat) (ds : List D) (i : Nat) (x : D), (enumD k ds)[i]? = some x → ∃ d, ds[i]? = some d ∧ x = .tuple [.int ((k + i : Nat) : Int), d]
  | _, [], i, x, h => by simp [enumD] at h
  | k, d :: r, 0, x, h => by
    cases h
    exact ⟨d, rfl, rfl⟩
  | k, d :: r, i + 1, x, h => by
    obtain ⟨d', h1, h2⟩ := enumD_get (k + 1) r i x h
    refine ⟨d', h1, ?_⟩
    rw [h2, show k + 1 + i = k + (i + 1) by omega]
theorem Sq.of_rep {K : PySem.W.Frag} {F : Hp} {v : V} {ds : List D} {k : Bool} (r : Rep K F v (if k then .list ds else .tuple ds)) : ∃ a vs, v = .ref a ∧ Sq K F k a vs ∧ RepL K F vs ds := by
  cases k with
  | true =>
    cases r with
    | lst h t => exact ⟨_, _, rfl, h, t⟩
  | false =>
    cases r with
    | tup h t => exact ⟨_, _, rfl, sqT_of h, t⟩
theorem yld_enum0 {K : PySem.W.Frag} {F : Hp} {k : Bool} {a : Addr} {vs : List V} {ds : List D} (h : Sq K F k a vs) (t : RepL K F vs ds) : Yld0 K (ItE K k a) F (enumD 0 ds) where
  go := fun i H s hi => by
    have hl := t.length
    rw [enumD_len] at hi
    exact ⟨vs, vs[i]'(by omega), h.mono s, List.getElem?_eq_getElem _⟩
  yld := fun i H x H' d s ⟨T, y, e1, hT, e2, hy⟩ hd => by
    subst e1 e2
    obtain ⟨d', h1, h2⟩ := enumD_get 0 ds i d hd
    obtain ⟨v, h3, h4⟩ := t.get h1
    rw [hy _ (h.mono s)] at h3
    cases h3
    refine ⟨same_new hT, ?_⟩
    rw [ext_new s hT, h2, Nat.zero_add]
    exact .tup upd_same (.cons (.int _) (.cons (h4.mono (same_new (s.free hT))) .nil))
  stop := fun i H s hi => ⟨vs, h.mono s, by rw [t.length]; rw [enumD_len] at hi; omega⟩
theorem yld_enum {K : PySem.W.Frag} {F : Hp} {k : Bool} {a : Addr} {vs : List V} {ds : List D} (h : Sq K F k a vs) (t : RepL K F vs ds) : Yld K (ItE K k a) F (enumD 0 ds) := (yld_enum0 h t).of
def zipD : List D → List D → List D
  | a :: r, b :: q => .tuple [a, b] :: zipD r q
  | _, _ => []
theorem zipD_len : ∀ (xs ys : List D), (zipD xs ys).length = min xs.length ys.length
  | [], _ => by simp [zipD]
  | _ :: _, [] => by simp [zipD]
  | a :: r, b :: q => by
    show (zipD r q).length + 1 = _
    rw [zipD_len r q, List.length_cons, List.length_cons]
    omega
theorem zipD_get : ∀ (xs ys : List D) (i : Nat) (x : D), (zipD xs ys)[i]? = some x → ∃ a b, xs[i]? = some a ∧ ys[i]? = some b ∧ x = .tuple [a, b]
  | [], _, i, x, h => by simp [zipD] at h
  | _ :: _, [], i, x, h => by simp [zipD] at h
  | a :: r, b :: q, 0, x, h => by
    cases h
    exact ⟨a, b, rfl, rfl, rfl⟩
  | a :: r, b :: q, i + 1, x, h => zipD_get r q i x h
theorem yld_zip0 {K : PySem.W.Frag} {F : Hp} {k l : Bool} {a b : Addr} {vs ws : List V} {ds es : List D} (h : Sq K F k a vs) (t : RepL K F vs ds) (h' : Sq K F l b ws) (t' : RepL K F ws es) : Yld0 K (ItZ K k l a b) F (zipD ds es) where
  go := fun i H s hi => by
    have hl := t.length
    have hl' := t'.length
    rw [zipD_len] at hi
    exact ⟨vs, ws, vs[i]'(by omega), ws[i]'(by omega), h.mono s, h'.mono s, List.getElem?_eq_getElem _, List.getElem?_eq_getElem _⟩
  yld := fun i H x H' d s ⟨T, y, y', e1, hT, e2, hy, hy'⟩ hd => by
    subst e1 e2
    obtain ⟨d1, d2, h1, h2, h3⟩ := zipD_get ds es i d hd
    obtain ⟨v, h4, h5⟩ := t.get h1
    obtain ⟨v', h6, h7⟩ := t'.get h2
    rw [hy _ (h.mono s)] at h4
    rw [hy' _ (h'.mono s)] at h6
    cases h4
    cases h6
    refine ⟨same_new hT, ?_⟩
    rw [ext_new s hT, h3]
    exact .tup upd_same (.cons (h5.mono (same_new (s.free hT))) (.cons (h7.mono (same_new (s.free hT))) .nil))
  stop := fun i H s hi => by
    have hl := t.length
    have hl' := t'.length
    rw [zipD_len] at hi
    exact ⟨vs, ws, h.mono s, h'.mono s, by omega, by omega, by omega⟩
theorem yld_zip {K : PySem.W.Frag} {F : Hp} {k l : Bool} {a b : Addr} {vs ws : List V} {ds es : List D} (h : Sq K F k a vs) (t : RepL K F vs ds) (h' : Sq K F l b ws) (t' : RepL K F ws es) : Yld K (ItZ K k l a b) F (zipD ds es) := (yld_zip0 h t h' t').of
def tIP (K : PySem.W.Frag) (z : Z) (it : Env → Option (List D)) : TI := fun σ H R => ∃ ρ F O ds, Rel K z ρ σ F H O ∧ it ρ = some ds ∧ ∀ J H', Same H H' → Yld K J (ext F H H') ds → R J H'
def tIR (K : PySem.W.Frag) (z : Z) (it : Env → Option (List D × Env)) : TI := fun σ H R => ∃ ρ F O ds ρ', Rel K z ρ σ F H O ∧ it ρ = some (ds, ρ') ∧ ∀ J F' H', Rel K z ρ' σ F' H' O → Kp F H F' H' O → Yld K J F' ds → R J H'
def seqOf : D → Option (List D)
  | .list ds => some ds
  | .tuple ds => some ds
  | _ => none
def ok62 (i : Int) : Bool := decide (-4611686018427387904 ≤ i) && decide (i < 4611686018427387904)
theorem ok62_of {i : Int} (h : ok62 i = true) : -(2 ^ 62) ≤ i ∧ i < 2 ^ 62 := by
  unfold ok62 at h
  rw [Bool.and_eq_true] at h
  have h1 := of_decide_eq_true h.1
  have h2 := of_decide_eq_true h.2
  exact ⟨by omega, by omega⟩
def rg1 : List D → Option (List D)
  | [.int j] => if ok62 j then some (rangeD 0 j.toNat) else none
  | _ => none
def rg2 : List D → Option (List D)
  | [.int i, .int j] => if ok62 i && ok62 j then some (rangeD i (j - i).toNat) else none
  | _ => none
def en1 : List D → Option (List D)
  | [.list ds] => some (enumD 0 ds)
  | [.tuple ds] => some (enumD 0 ds)
  | _ => none
def zp2 : List D → Option (List D)
  | [a, b] => (seqOf a).bind fun xs => (seqOf b).bind fun ys => some (zipD xs ys)
  | _ => none
def iS (f : Env → Option D) : Env → Option (List D) := fun ρ => (f ρ).bind seqOf
def iSR (f : Env → Option (D × Env)) : Env → Option (List D × Env) := fun ρ => (f ρ).bind fun p => (seqOf p.1).map fun ds => (ds, p.2)
def iN (o : List D → Option (List D)) (f : Env → Option (List D)) : Env → Option (List D) := fun ρ => (f ρ).bind o
def iNR (o : List D → Option (List D)) (f : Env → Option (List D × Env)) : Env → Option (List D × Env) := fun ρ => (f ρ).bind fun p => (o p.1).map fun ds => (ds, p.2)
section
variable {X : Cx} {z : Z} {tg : Expr}
theorem i_lf {e : Expr} {it : Env → Option (List D)} (h : PI X tg e (tIP X.K z it)) : PI X tg e (tIR X.K z (lfs it)) := h.mono fun σ H Q ⟨ρ, F, O, ds, ρ', R, e, q⟩ => by
  obtain ⟨a, h1, h2⟩ := map_some e
  cases h2
  exact ⟨ρ, F, O, _, R, h1, fun J H' s y => q J _ H' (R.grow s) (.of_same R.sub s) y⟩
theorem seqOf_of {d : D} {ds : List D} (h : seqOf d = some ds) : d = .list ds ∨ d = .tuple ds := by
  unfold seqOf at h
  split at h
  · cases h
    exact .inl rfl
  · cases h
    exact .inr rfl
  · cases h
theorem i_seq {e : Expr} {f : Env → Option D} (h : PE X e (tP X.K z f)) : PI X tg e (tIP X.K z (iS f)) := by
  refine ⟨fun pins s σ H Rr I ⟨ρ, F, O, ds, R, e, q⟩ => ?_⟩
  obtain ⟨d, h1, h2⟩ := bind_some e
  rcases seqOf_of h2 with k | k
  · subst k
    refine (pi_list h).run pins s σ H Rr I ⟨ρ, F, O, _, R, h1, fun v H' s r => ?_⟩
    cases r with
    | lst hs t => exact ⟨_, rfl, ⟨_, (R.grow s).sub.seq hs⟩, q _ H' s (yld_list hs t)⟩
  · subst k
    refine (pi_tup h).run pins s σ H Rr I ⟨ρ, F, O, _, R, h1, fun v H' s r => ?_⟩
    cases r with
    | tup hs t => exact ⟨_, rfl, ⟨_, sameT (R.grow s).sub (sqT_of hs)⟩, q _ H' s (yld_tup (sqT_of hs) t)⟩
theorem rg1_of {as ds : List D} (h : rg1 as = some ds) : ∃ j, as = [.int j] ∧ (-(2 ^ 62) ≤ j ∧ j < 2 ^ 62) ∧ ds = rangeD 0 j.toNat := by
  unfold rg1 at h
  split at h
  · split at h
    · cases h
      exact ⟨_, rfl, ok62_of (by assumption), rfl⟩
    · cases h
  · cases h
theorem rg2_of {as ds : List D} (h : rg2 as = some ds) : ∃ i j, as = [.int i, .int j] ∧ (-(2 ^ 62) ≤ i ∧ i < 2 ^ 62) ∧ (-(2 ^ 62) ≤ j ∧ j < 2 ^ 62) ∧ ds = rangeD i (j - i).toNat := by
  unfold rg2 at h
  split at h
  · split at h
    · next hk =>
      cases h
      rw [Bool.and_eq_true] at hk
      exact ⟨_, _, rfl, ok62_of hk.1, ok62_of hk.2, rfl⟩
    · cases h
  · cases h
theorem reps1 {K : PySem.W.Frag} {F : Hp} {vs : List V} {j : Int} (r : RepL K F vs [.int j]) : vs = [.int j] := by
  cases r with
  | cons r t =>
    cases r
    cases t
    rfl
theorem reps2 {K : PySem.W.Frag} {F : Hp} {vs : List V} {i j : Int} (r : RepL K F vs [.int i, .int j]) : vs = [.int i, .int j] := by
  cases r with
  | cons r t =>
    cases r
    rw [reps1 t]
theorem i_range1 {a : Expr} {f : Env → Option (List D)} {p pos : Pos} (hg : Gl X "range") (hm : X.mg "range" = none) (ha : PA X [a] (tPs X.K z f)) (hs : starEach [a] X.env = [(false, eval a X.env)] := by rfl) : PI X tg (.Call (.Name "range" p) [a] [] pos) (tIP X.K z (iN rg1 f)) :=
  (pi_range1 hg hm ha hs).mono fun σ H Q ⟨ρ, F, O, ds, R, e, q⟩ => by
    obtain ⟨as, h1, h2⟩ := bind_some e
    obtain ⟨j, e1, b1, e2⟩ := rg1_of h2
    subst e1 e2
    exact ⟨ρ, F, O, _, R, h1, fun vs H' s r => ⟨j, reps1 r, b1.1, b1.2, q _ H' s yld_range⟩⟩
theorem i_range1R {a : Expr} {f : Env → Option (List D × Env)} {p pos : Pos} (hg : Gl X "range") (hm : X.mg "range" = none) (ha : PA X [a] (tRs X.K z f)) (hs : starEach [a] X.env = [(false, eval a X.env)] := by rfl) : PI X tg (.Call (.Name "range" p) [a] [] pos) (tIR X.K z (iNR rg1 f)) :=
  (pi_range1 hg hm ha hs).mono fun σ H Q ⟨ρ, F, O, ds, ρ', R, e, q⟩ => by
    obtain ⟨⟨as, ρ1⟩, h1, h2⟩ := bind_some e
    obtain ⟨ds', h3, e3⟩ := map_some h2
    cases e3
    obtain ⟨j, e1, b1, e2⟩ := rg1_of h3
    dsimp only at e1
    subst e1 e2
    exact ⟨ρ, F, O, _, _, R, h1, fun vs F' H' R' kp r => ⟨j, reps1 r, b1.1, b1.2, q _ F' H' R' kp yld_range⟩⟩
theorem i_range2 {a b : Expr} {f : Env → Option (List D)} {p pos : Pos} (hg : Gl X "range") (hm : X.mg "range" = none) (ha : PA X [a, b] (tPs X.K z f)) (hs : starEach [a, b] X.env = [(false, eval a X.env), (false, eval b X.env)] := by rfl) (hs2 : starEach [b] X.env = [(false, eval b X.env)] := by rfl) : PI X tg (.Call (.Name "range" p) [a, b] [] pos) (tIP X.K z (iN rg2 f)) :=
  (pi_range2 hg hm ha hs hs2).mono fun σ H Q ⟨ρ, F, O, ds, R, e, q⟩ => by
    obtain ⟨as, h1, h2⟩ := bind_some e
    obtain ⟨i, j, e1, b1, b2, e2⟩ := rg2_of h2
    subst e1 e2
    exact ⟨ρ, F, O, _, R, h1, fun vs H' s r => ⟨i, j, reps2 r, ⟨b1.1, b1.2, b2.1, b2.2⟩, q _ H' s yld_range⟩⟩
theorem en1_of {as ds : List D} (h : en1 as = some ds) : ∃ (k : Bool) (es : List D), as = [if k then .list es else .tuple es] ∧ ds = enumD 0 es := by
  unfold en1 at h
  split at h
  · cases h
    exact ⟨true, _, rfl, rfl⟩
  · cases h
    exact ⟨false, _, rfl, rfl⟩
  · cases h
theorem i_enum {e : Expr} {f : Env → Option (List D)} {p pos tpos : Pos} {elts : List Expr} {kk : Nat} (hg : Gl X "enumerate") (hm : X.mg "enumerate" = none) (ha : PA X [e] (tPs X.K z f)) (hs : starEach [e] X.env = [(false, eval e X.env)] := by rfl) :
    PI X (.Tuple elts kk tpos) (.Call (.Name "enumerate" p) [e] [] pos) (tIP X.K z (iN en1 f)) := by
  refine ⟨fun pins s σ H Rr I ⟨ρ, F, O, ds, R, e, q⟩ => ?_⟩
  obtain ⟨as, h1, h2⟩ := bind_some e
  obtain ⟨k, es, e1, e2⟩ := en1_of h2
  subst e1 e2
  refine (pi_enumK (k := k) hg hm ha hs).run pins s σ H Rr I ⟨ρ, F, O, _, R, h1, fun vs H' s r => ?_⟩
  cases r with
  | cons r t =>
    cases t
    obtain ⟨a, ws, e3, h3, h4⟩ := Sq.of_rep r
    subst e3
    exact ⟨a, ws, rfl, h3.mono (R.grow s).sub, q _ H' s (yld_enum h3 h4)⟩
theorem zp2_of {as ds : List D} (h : zp2 as = some ds) : ∃ (k l : Bool) (xs ys : List D), as = [if k then .list xs else .tuple xs, if l then .list ys else .tuple ys] ∧ ds = zipD xs ys := by
  unfold zp2 at h
  split at h
  · obtain ⟨xs, h1, h⟩ := bind_some h
    obtain ⟨ys, h2, h⟩ := bind_some h
    cases h
    rcases seqOf_of h1 with k | k <;> rcases seqOf_of h2 with l | l <;> subst k l
    · exact ⟨true, true, _, _, rfl, rfl⟩
    · exact ⟨true, false, _, _, rfl, rfl⟩
    · exact ⟨false, true, _, _, rfl, rfl⟩
    · exact ⟨false, false, _, _, rfl, rfl⟩
  · cases h
theorem i_zip {e e2 : Expr} {f : Env → Option (List D)} {p pos tpos : Pos} {elts : List Expr} {kk : Nat} (hg : Gl X "zip") (hm : X.mg "zip" = none) (ha : PA X [e, e2] (tPs X.K z f))
    (hs : starEach [e, e2] X.env = (false, eval e X.env) :: starEach [e2] X.env := by rfl) (hpl : (backTo pos (starEach [e2] X.env)).any (·.1) = false := by rfl) :
    PI X (.Tuple elts kk tpos) (.Call (.Name "zip" p) [e, e2] [] pos) (tIP X.K z (iN zp2 f)) := by
  refine ⟨fun pins s σ H Rr I ⟨ρ, F, O, ds, R, e, q⟩ => ?_⟩
  obtain ⟨as, h1, h2⟩ := bind_some e
  obtain ⟨k, l, xs, ys, e1, e2⟩ := zp2_of h2
  subst e1 e2
  refine (pi_zipK (k := k) (l := l) hg hm ha hs hpl).run pins s σ H Rr I ⟨ρ, F, O, _, R, h1, fun vs H' s r => ?_⟩
  cases r with
  | cons r t =>
    cases t with
    | cons r' t =>
      cases t
      obtain ⟨a, ws, e3, h3, h4⟩ := Sq.of_rep r
      obtain ⟨b, ws', e5, h5, h6⟩ := Sq.of_rep r'
      subst e3 e5
      exact ⟨a, b, ws, ws', rfl, h3.mono (R.grow s).sub, h5.mono (R.grow s).sub, q _ H' s (yld_zip h3 h4 h5 h6)⟩
end
end DL
namespace DL
open PySem PySem.Spec PyProof.Rows L2
/-- what a target may have stored to: the slots js -/
structure Stp (js : Nat → Bool) (σ σ' : L2.St) (O O' : Nat → List Addr) : Prop where
  wp : ∀ vs : List Nat, (∀ j, js j = true → j ∈ vs) → wipe σ' vs = wipe σ vs
  oo : ∀ i, js i = false → O' i = O i
  sub : ∀ i a, a ∈ O' i → a ∈ O i
theorem Stp.refl {js : Nat → Bool} {σ : L2.St} {O : Nat → List Addr} : Stp js σ σ O O := ⟨fun _ _ => rfl, fun _ _ => rfl, fun _ _ h => h⟩
theorem Stp.trans {js : Nat → Bool} {σ σ1 σ2 : L2.St} {O O1 O2 : Nat → List Addr} (a : Stp js σ σ1 O O1) (b : Stp js σ1 σ2 O1 O2) : Stp js σ σ2 O O2 :=
  ⟨fun vs h => (b.wp vs h).trans (a.wp vs h), fun i h => (b.oo i h).trans (a.oo i h), fun i x h => a.sub i x (b.sub i x h)⟩
theorem wipe_set {σ : L2.St} {i : Nat} {v : Option V} : ∀ {vs : List Nat}, i ∈ vs → wipe (σ.set i v) vs = wipe σ vs
  | w :: vs, h => by
    show (wipe (σ.set i v) vs).set w none = (wipe σ vs).set w none
    by_cases hi : i ∈ vs
    · rw [wipe_set hi]
    · have e : i = w := by
        rcases List.mem_cons.mp h with h | h
        · exact h
        · exact absurd h hi
      subst e
      have aux : ∀ {us : List Nat}, i ∉ us → wipe (σ.set i v) us = (wipe σ us).set i v := fun {us} => by
        induction us with
        | nil => exact fun _ => rfl
        | cons u us ih =>
          intro hu
          show (wipe (σ.set i v) us).set u none = ((wipe σ us).set u none).set i v
          rw [ih fun m => hu (List.mem_cons_of_mem _ m), List.set_comm _ _ (fun e => hu (by rw [e]; exact List.mem_cons_self))]
      rw [aux hi, List.set_set]
theorem Stp.set {js : Nat → Bool} {σ : L2.St} {O : Nat → List Addr} {i : Nat} {v : Option V} (h : js i = true) : Stp js σ (σ.set i v) O (setO O i []) :=
  ⟨fun vs hv => wipe_set (hv i h), fun j hj => by
    unfold setO
    rw [if_neg (fun e => by rw [e, h] at hj; cases hj)], fun j a ha => by
    unfold setO at ha
    split at ha
    · cases ha
    · exact ha⟩
abbrev allJ : Nat → Bool := fun _ => true
abbrev ofJ (vs : List Nat) : Nat → Bool := fun i => vs.contains i
def tG (K : PySem.W.Frag) (z : Z) (js : Nat → Bool) (b : D → Env → Option Env) : TG := fun v σ H Q => ∃ ρ F O d ρ', Rel K z ρ σ F H O ∧ Rep K F v d ∧ b d ρ = some ρ' ∧ ∀ σ' O', Rel K z ρ' σ' F H O' → Stp js σ σ' O O' → Q σ' H
def tGs (K : PySem.W.Frag) (z : Z) (js : Nat → Bool) (b : List D → Env → Option Env) : TGs := fun vs σ H Q => ∃ ρ F O ds ρ', Rel K z ρ σ F H O ∧ RepL K F vs ds ∧ b ds ρ = some ρ' ∧ ∀ σ' O', Rel K z ρ' σ' F H O' → Stp js σ σ' O O' → Q σ' H
def bNm (i : Nat) : D → Env → Option Env := fun d ρ => some (ρ.set i (some (.sh d)))
def bNil : List D → Env → Option Env := fun ds ρ => match ds with
  | [] => some ρ
  | _ => none
def bCons (b : D → Env → Option Env) (g : List D → Env → Option Env) : List D → Env → Option Env := fun ds ρ => match ds with
  | d :: r => (b d ρ).bind (g r)
  | [] => none
def bTp (n : Nat) (g : List D → Env → Option Env) : D → Env → Option Env := fun d ρ => match d with
  | .tuple ds => if ds.length = n then g ds ρ else none
  | _ => none
section
variable {X : Cx} {z : Z} {js : Nat → Bool}
theorem _root_.L2.PG.mono {e : Expr} {t t' : TG} (h : PG X e t) (i : ∀ v σ H Q, t' v σ H Q → t v σ H Q) : PG X e t' := ⟨fun pins s σ H v u Q I r q => h.run pins s σ H v u Q I r (i _ _ _ _ q)⟩
theorem _root_.L2.PGs.mono {e : List Expr} {t t' : TGs} (h : PGs X e t) (i : ∀ v σ H Q, t' v σ H Q → t v σ H Q) : PGs X e t' := ⟨fun pins s σ H v u Q I r q => h.run pins s σ H v u Q I r (i _ _ _ _ q)⟩
theorem g_nm (i : Nat) {x : Str} {pos : Pos} (hN : X.N.Nodup) (hi : X.N[i]? = some x := by rfl) (hx : Loc X.env.scope x := by first | exact Or.inl rfl | exact Or.inr rfl) (hf : X.fn x = true ∨ X.env.scope.names.lookup x = some .local := by first | exact .inl rfl | exact .inr rfl) (hj : js i = true := by rfl) : PG X (.Name x pos) (tG X.K z js (bNm i)) :=
  (pg_name hN hi hx hf).mono fun v σ H Q ⟨ρ, F, O, d, ρ', R, r, e, q⟩ => by
    cases e
    exact q _ _ (R.setD r) (.set hj)
theorem g_nil : PGs X [] (tGs X.K z js bNil) := pgs_nil.mono fun vs σ H Q ⟨ρ, F, O, ds, ρ', R, r, e, q⟩ => by
  unfold bNil at e
  split at e
  · cases e
    cases r
    exact ⟨rfl, q _ _ R .refl⟩
  · cases e
theorem g_cons {e : Expr} {es : List Expr} {b : D → Env → Option Env} {g : List D → Env → Option Env} (h1 : PG X e (tG X.K z js b)) (h2 : PGs X es (tGs X.K z js g))
    (hs : (assignEach (e :: es) X.env).map (·.2) = assign e X.env :: (assignEach es X.env).map (·.2) := by rfl) : PGs X (e :: es) (tGs X.K z js (bCons b g)) :=
  (pgs_cons h1 h2 hs).mono fun vs σ H Q ⟨ρ, F, O, ds, ρ', R, r, e, q⟩ => by
    unfold bCons at e
    split at e
    · obtain ⟨ρ1, h1, h2⟩ := bind_some e
      cases r with
      | cons r t => exact ⟨_, _, rfl, ρ, F, O, _, ρ1, R, r, h1, fun σ' O' R' s => ⟨ρ1, F, O', _, ρ', R', t, h2, fun σ2 O2 R2 s2 => q σ2 O2 R2 (s.trans s2)⟩⟩
    · cases e
theorem g_tup {es : List Expr} {k n : Nat} {pos : Pos} {g : List D → Env → Option Env} (hc : X.calm = true) (h : PGs X es (tGs X.K z js g))
    (hn : (assignEach es X.env).length = n := by rfl) (hst : (assignEach es X.env).findIdx? (·.1) = none := by rfl) : PG X (.Tuple es k pos) (tG X.K z js (bTp n g)) :=
  (pg_tup hc h hn hst).mono fun v σ H Q ⟨ρ, F, O, d, ρ', R, r, e, q⟩ => by
    unfold bTp at e
    split at e
    · split at e
      · cases r with
        | tup hs t => exact ⟨_, _, rfl, sameT R.sub (sqT_of hs), by rw [t.length]; assumption, ρ, F, O, _, ρ', R, t, e, q⟩
      · cases e
    · cases e
end
inductive Fl where
  | nx
  | bk
  | ct
  | ret (d : D)
abbrev Gs := Env → Option (Fl × Env)
def FinS (K : PySem.W.Frag) (z : Z) (F : Hp) (D : Ends) (ρ : Env) : Fl → Prop
  | .nx => ∀ σ F' H O, Rel K z ρ σ F' H O → Same F F' → D.nx σ H
  | .bk => ∀ σ F' H O, Rel K z ρ σ F' H O → Same F F' → D.bk σ H
  | .ct => ∀ σ F' H O, Rel K z ρ σ F' H O → Same F F' → D.ct σ H
  | .ret d => ∀ v σ F' H O, Rel K z ρ σ F' H O → Same F F' → Rep K F' v d → D.rt v H
theorem FinS.from {K : PySem.W.Frag} {z : Z} {F F1 : Hp} {D : Ends} {ρ : Env} {fl : Fl} (h : FinS K z F D ρ fl) (s : Same F F1) : FinS K z F1 D ρ fl := by
  cases fl with
  | nx => exact fun σ F' H O R s' => h σ F' H O R (s.trans s')
  | bk => exact fun σ F' H O R s' => h σ F' H O R (s.trans s')
  | ct => exact fun σ F' H O R s' => h σ F' H O R (s.trans s')
  | ret d => exact fun v σ F' H O R s' => h v σ F' H O R (s.trans s')
def tS (K : PySem.W.Frag) (z : Z) (g : Gs) : TS := fun D σ H => ∃ ρ F O fl ρ', Rel K z ρ σ F H O ∧ g ρ = some (fl, ρ') ∧ FinS K z F D ρ' fl
def gNx : Gs := fun ρ => some (.nx, ρ)
def gBk : Gs := fun ρ => some (.bk, ρ)
def gCt : Gs := fun ρ => some (.ct, ρ)
def gNever : Gs := fun _ => none
def gSeq (g h : Gs) : Gs := fun ρ => (g ρ).bind fun p => match p.1 with
  | .nx => h p.2
  | _ => some p
def gAsg (f : Env → Option (D × Env)) (b : D → Env → Option Env) : Gs := fun ρ => (f ρ).bind fun p => (b p.1 p.2).map fun ρ' => (.nx, ρ')
def gSetW (i : Nat) (f : Env → Option (E × Env)) : Gs := fun ρ => (f ρ).map fun p => (.nx, p.2.set i (some p.1))
def gRet (f : Env → Option (D × Env)) : Gs := fun ρ => (f ρ).map fun p => (.ret p.1, p.2)
def gExpr (f : Env → Option (D × Env)) : Gs := fun ρ => (f ρ).map fun p => (.nx, p.2)
def gIf (c : Env → Option (Bool × Env)) (g h : Gs) : Gs := fun ρ => (c ρ).bind fun p => if p.1 = true then g p.2 else h p.2
def gLoop (b : D → Env → Option Env) (g : Gs) : List D → Gs
  | [], ρ => some (.nx, ρ)
  | d :: r, ρ => (b d ρ).bind fun ρ1 => (g ρ1).bind fun p => match p.1 with
    | .nx => gLoop b g r p.2
    | .ct => gLoop b g r p.2
    | .bk => some (.nx, p.2)
    | .ret d => some (.ret d, p.2)
def gFor (it : Env → Option (List D × Env)) (b : D → Env → Option Env) (g : Gs) : Gs := fun ρ => (it ρ).bind fun p => gLoop b g p.1 p.2
def gWhile (c : Env → Option (Bool × Env)) (g : Gs) : Nat → Gs
  | 0, _ => none
  | n + 1, ρ => (c ρ).bind fun p => if p.1 = true then (g p.2).bind fun q => match q.1 with
      | .nx => gWhile c g n q.2
      | .ct => gWhile c g n q.2
      | .bk => some (.nx, q.2)
      | .ret d => some (.ret d, q.2)
    else some (.nx, p.2)
section
variable {X : Cx} {z : Z}
theorem s_nil : PSs X [] (tS X.K z gNx) := pss_nil.mono fun D σ H ⟨ρ, F, O, fl, ρ', R, e, q⟩ => by
  cases e
  exact q σ F H O R (Same.refl _)
theorem s_cons {st : Stmt} {rest : List Stmt} {g h : Gs} (h1 : PS X st (tS X.K z g)) (h2 : PSs X rest (tS X.K z h)) : PSs X (st :: rest) (tS X.K z (gSeq g h)) :=
  (pss_cons h1 h2).mono fun D σ H ⟨ρ, F, O, fl, ρ', R, e, q⟩ => by
    obtain ⟨⟨fl1, ρ1⟩, h1, h2⟩ := bind_some e
    refine ⟨ρ, F, O, fl1, ρ1, R, h1, ?_⟩
    cases fl1 with
    | nx => exact fun σ' F' H' O' R' s => ⟨ρ1, F', O', fl, ρ', R', h2, q.from s⟩
    | bk =>
      cases h2
      exact q
    | ct =>
      cases h2
      exact q
    | ret d =>
      cases h2
      exact q
theorem s_one {st : Stmt} {g : Gs} (h : PS X st (tS X.K z g)) : PSs X [st] (tS X.K z g) := pss_one h
theorem s_never {st : Stmt} : PS X st (tS X.K z gNever) := ps_never.mono fun D σ H ⟨ρ, F, O, fl, ρ', R, e, q⟩ => by cases e
theorem s_set (i : Nat) {x : Str} {e : Expr} {pos pos' : Pos} {f : Env → Option (D × Env)} (hN : X.N.Nodup) (he : PE X e (tR X.K z f)) (hi : X.N[i]? = some x := by rfl) (hx : Loc X.env.scope x := by first | exact Or.inl rfl | exact Or.inr rfl)
    (hs : swapsWith e (some (.Name x pos')) pos.line X.env = pure false := by rfl) (hf : X.fn x = true ∨ X.env.scope.names.lookup x = some .local := by first | exact .inl rfl | exact .inr rfl) : PS X (.Assign [.Name x pos'] e pos) (tS X.K z (gAsg f (bNm i))) :=
  (ps_set hN hi hx he hs hf).mono fun D σ H ⟨ρ, F, O, fl, ρ', R, e, q⟩ => by
    obtain ⟨⟨d, ρ1⟩, h1, h2⟩ := bind_some e
    cases h2
    exact ⟨ρ, F, O, d, ρ1, R, h1, fun v F' H' R' k r => q _ _ _ _ (R'.setD r) k.same⟩
theorem setE_new {K : PySem.W.Frag} {ρ : Env} {σ : L2.St} {H F' H' : Hp} {O : Nat → List Addr} {e : E} {v : V} {as : List Addr} {i : Nat} (R0 : ∀ i a, a ∈ O i → H a ≠ none) (R : Rel K z ρ σ F' H' O) (h : Ent K z F' H' v e as) (hf : ∀ a ∈ as, H a = none ∧ F' a = none ∧ H' a ≠ none) :
    Rel K z (ρ.set i (some e)) (σ.set i (some v)) F' H' (setO O i as) :=
  R.setE h fun a ha => ⟨(hf a ha).2.1, (hf a ha).2.2, fun j _ hj => R0 j a hj (hf a ha).1⟩
theorem s_setW (i : Nat) {x : Str} {e : Expr} {pos pos' : Pos} {f : Env → Option (E × Env)} (hN : X.N.Nodup) (he : PE X e (tW X.K z f)) (hi : X.N[i]? = some x := by rfl) (hx : Loc X.env.scope x := by first | exact Or.inl rfl | exact Or.inr rfl)
    (hs : swapsWith e (some (.Name x pos')) pos.line X.env = pure false := by rfl) (hf : X.fn x = true ∨ X.env.scope.names.lookup x = some .local := by first | exact .inl rfl | exact .inr rfl) : PS X (.Assign [.Name x pos'] e pos) (tS X.K z (gSetW i f)) :=
  (ps_set hN hi hx he hs hf).mono fun D σ H ⟨ρ, F, O, fl, ρ', R, e, q⟩ => by
    obtain ⟨⟨d, ρ1⟩, h1, h2⟩ := map_some e
    cases h2
    exact ⟨ρ, F, O, d, ρ1, R, h1, fun v F' H' as R' k r hf => q _ _ _ _ (setE_new (fun i a ha => (R.off i a ha).2) R' r hf) k.same⟩
theorem s_ret {e : Expr} {pos : Pos} {f : Env → Option (D × Env)} (he : PE X e (tR X.K z f)) : PS X (.Return (some e) pos) (tS X.K z (gRet f)) :=
  (ps_ret he).mono fun D σ H ⟨ρ, F, O, fl, ρ', R, e, q⟩ => by
    obtain ⟨⟨d, ρ1⟩, h1, h2⟩ := map_some e
    cases h2
    exact ⟨ρ, F, O, d, ρ1, R, h1, fun v F' H' R' k r => q v σ F' H' O R' k.same r⟩
theorem s_expr {e : Expr} {pos : Pos} {f : Env → Option (D × Env)} (he : PE X e (tR X.K z f)) (hs : swapsWith e none pos.line X.env = pure false := by rfl) : PS X (.Expr e pos) (tS X.K z (gExpr f)) :=
  (ps_expr he hs).mono fun D σ H ⟨ρ, F, O, fl, ρ', R, e, q⟩ => by
    obtain ⟨⟨d, ρ1⟩, h1, h2⟩ := map_some e
    cases h2
    exact ⟨ρ, F, O, d, ρ1, R, h1, fun v F' H' R' k r => q σ F' H' O R' k.same⟩
theorem s_if {c : Expr} {a b : List Stmt} {pos : Pos} {tc : Env → Option (Bool × Env)} {g h : Gs} (hc : PT X c (tBR X.K z tc)) (ha : PSs X a (tS X.K z g)) (hb : PSs X b (tS X.K z h)) : PS X (.If c a b pos) (tS X.K z (gIf tc g h)) :=
  (ps_if hc ha hb).mono fun D σ H ⟨ρ, F, O, fl, ρ', R, e, q⟩ => by
    obtain ⟨⟨b, ρ1⟩, h1, h2⟩ := bind_some e
    refine ⟨ρ, F, O, b, ρ1, R, h1, fun F' H' R' k => ?_⟩
    cases b with
    | true => exact ⟨ρ1, F', O, fl, ρ', R', h2, q.from k.same⟩
    | false => exact ⟨ρ1, F', O, fl, ρ', R', h2, q.from k.same⟩
theorem s_for {tg iter : Expr} {body : List Stmt} {pos : Pos} {it : Env → Option (List D × Env)} {b : D → Env → Option Env} {g : Gs} (hc : X.calm = true) (hi : PI X tg iter (tIR X.K z it)) (hg : PG X tg (tG X.K z allJ b)) (hb : PSs X body (tS X.K z g))
    (hp : PassesOwn (model X.prog X.w) X.A X.env X.xe) (hs : ∀ x, foldedSetIterable iter X.env x = pure x := by intro _; rfl) : PS X (.For tg iter body [] pos) (tS X.K z (gFor it b g)) :=
  (ps_for hp hc hi hg hb hs).mono fun D σ H ⟨ρ, F, O, fl, ρ', R, e, q⟩ => by
    obtain ⟨⟨ds, ρ1⟩, h1, h2⟩ := bind_some e
    refine ⟨ρ, F, O, ds, ρ1, R, h1, fun J F1 H1 R1 k1 y => ?_⟩
    refine ⟨fun i m σ H => m = ds.length - i ∧ i ≤ ds.length ∧ ∃ ρ2 F2 O2, Rel X.K z ρ2 σ F2 H O2 ∧ Same F1 F2 ∧ gLoop b g (ds.drop i) ρ2 = some (fl, ρ'), ⟨ds.length, by simp, Nat.zero_le _, ρ1, F1, O, R1, Same.refl _, h2⟩, ?_⟩
    rintro i m σ2 H2 ⟨rfl, hi, ρ2, F2, O2, R2, s2, e2⟩
    by_cases hlt : i < ds.length
    · have ed : ds.drop i = ds[i] :: ds.drop (i + 1) := by rw [List.drop_eq_getElem_cons hlt]
      rw [ed] at e2
      obtain ⟨ρ3, e3, e4⟩ := bind_some e2
      obtain ⟨⟨fl4, ρ4⟩, e5, e6⟩ := bind_some e4
      have sH : Same F1 H2 := s2.trans R2.sub
      refine .inr ⟨y.go i H2 sH hlt, fun σ' H' => ∃ ρ2 F2 O2, Rel X.K z ρ2 σ' F2 H' O2 ∧ Same F1 F2 ∧ gLoop b g (ds.drop (i + 1)) ρ2 = some (fl, ρ'), fun σ' H' n => ⟨ds.length - (i + 1), by omega, rfl, by omega, n⟩, fun x H' yx => ?_⟩
      obtain ⟨sx, rx⟩ := y.yld i F2 H2 x H' _ s2 R2.sub R2.tup yx (List.getElem?_eq_getElem hlt)
      have R3 := R2.grow sx
      refine ⟨ρ2, _, O2, _, ρ3, R3, rx, e3, fun σ5 O5 R5 _ => ⟨ρ3, _, O5, fl4, ρ4, R5, e5, ?_⟩⟩
      have s5 : Same F1 (ext F2 H2 H') := s2.trans (same_ext R2.sub)
      cases fl4 with
      | nx => exact fun σ6 F6 H6 O6 R6 s6 => ⟨ρ4, F6, O6, R6, s5.trans s6, e6⟩
      | ct => exact fun σ6 F6 H6 O6 R6 s6 => ⟨ρ4, F6, O6, R6, s5.trans s6, e6⟩
      | bk =>
        cases e6
        exact fun σ6 F6 H6 O6 R6 s6 => q σ6 F6 H6 O6 R6 ((k1.same.trans s5).trans s6)
      | ret d =>
        cases e6
        exact fun v σ6 F6 H6 O6 R6 s6 r => q v σ6 F6 H6 O6 R6 ((k1.same.trans s5).trans s6) r
    · have ei : i = ds.length := by omega
      subst ei
      rw [List.drop_length] at e2
      cases e2
      exact .inl ⟨y.stop _ H2 (s2.trans R2.sub) rfl, q σ2 F2 H2 O2 R2 (k1.same.trans s2)⟩
theorem s_while {c : Expr} {body : List Stmt} {pos : Pos} {tc : Env → Option (Bool × Env)} {g : Gs} (n : Nat) (hc : PT X c (tBR X.K z tc)) (hb : PSs X body (tS X.K z g)) (hp : PassesOwn (model X.prog X.w) X.A X.env X.xe) : PS X (.While c body [] pos) (tS X.K z (gWhile tc g n)) :=
  (ps_while hp hc hb).mono fun D σ H ⟨ρ, F, O, fl, ρ', R, e, q⟩ => by
    refine ⟨fun m σ H => ∃ ρ2 F2 O2, Rel X.K z ρ2 σ F2 H O2 ∧ Same F F2 ∧ gWhile tc g m ρ2 = some (fl, ρ'), ⟨n, ρ, F, O, R, Same.refl _, e⟩, ?_⟩
    rintro m σ2 H2 ⟨ρ2, F2, O2, R2, s2, e2⟩
    cases m with
    | zero => cases e2
    | succ m =>
      obtain ⟨⟨b, ρ3⟩, e3, e4⟩ := bind_some e2
      refine ⟨ρ2, F2, O2, b, ρ3, R2, e3, fun F' H' R' k => ?_⟩
      have sF := s2.trans k.same
      cases b with
      | false =>
        show D.nx σ2 H'
        rw [if_neg Bool.false_ne_true] at e4
        cases e4
        exact q σ2 F' H' O2 R' sF
      | true =>
        rw [if_pos rfl] at e4
        obtain ⟨⟨fl4, ρ4⟩, e5, e6⟩ := bind_some e4
        refine ⟨fun σ' H' => ∃ ρ2 F2 O2, Rel X.K z ρ2 σ' F2 H' O2 ∧ Same F F2 ∧ gWhile tc g m ρ2 = some (fl, ρ'), fun σ' H' h => ⟨m, Nat.lt_succ_self _, h⟩, ρ3, F', O2, fl4, ρ4, R', e5, ?_⟩
        cases fl4 with
        | nx => exact fun σ6 F6 H6 O6 R6 s6 => ⟨ρ4, F6, O6, R6, sF.trans s6, e6⟩
        | ct => exact fun σ6 F6 H6 O6 R6 s6 => ⟨ρ4, F6, O6, R6, sF.trans s6, e6⟩
        | bk =>
          cases e6
          exact fun σ6 F6 H6 O6 R6 s6 => q σ6 F6 H6 O6 R6 (sF.trans s6)
        | ret d =>
          cases e6
          exact fun v σ6 F6 H6 O6 R6 s6 r => q v σ6 F6 H6 O6 R6 (sF.trans s6) r
end
end DL
namespace DL
open PySem PySem.Spec PyProof.Rows L2
def isAt : D → Bool
  | .none => true
  | .bool _ => true
  | .int _ => true
  | .str _ => true
  | _ => false
def thE : Option E → Option E
  | some (.own d) => some (.sh d)
  | some (.own2 d) => some (.sh d)
  | some (.row d) => some (.sh d)
  | some (.dk l ks) => some (.sh (frzE (.dk l ks)))
  | some (.dt _ _) => none
  | some (.fn _ _) => none
  | e => e
def cBor (f : Env → Option D) : Env → Option D := fun ρ => (f (ρ.map thE)).bind fun d => if isAt d then some d else none
def bBor (f : Env → Option Bool) : Env → Option Bool := fun ρ => f (ρ.map thE)
section
variable {X : Cx} {z : Z}
theorem Obj1.rep {K : PySem.W.Frag} {F H : Hp} {p : Addr} {d : D} (s : Same F H) (h : Obj1 K F H p d) : Rep K H (.ref p) d := by
  cases d with
  | list ds =>
    obtain ⟨vs, h1, h2⟩ := h
    exact .lst (.of h1) (h2.mono s)
  | _ => exact h.elim
theorem Objs.rep {K : PySem.W.Frag} {F H : Hp} (s : Same F H) : ∀ {ps : List Addr} {ds : List D}, Objs K F H ps ds → RepL K H (ps.map V.ref) ds
  | _, _, .nil => .nil
  | _, _, .cons h t => .cons (h.rep s) (Objs.rep s t)
theorem Ent.rep {K : PySem.W.Frag} {z : Z} {F H : Hp} {v : V} {e : E} {as : List Addr} (s : Same F H) (h : Ent K z F H v e as) (hd : (∀ l ks, e ≠ .dt l ks) ∧ ∀ j f, e ≠ .fn j f) : Rep K H v (frzE e) := by
  cases e with
  | dt l ks => exact absurd rfl (hd.1 l ks)
  | fn j f => exact absurd rfl (hd.2 j f)
  | dk l ks =>
    obtain ⟨p, kvs, e1, e2, e3, h⟩ := h
    subst e1
    have ek : (ks.map fun p => (kD p.1, p.2)).map (·.1) = kvs.map (fun p => kD p.1) := by
      have := congrArg (List.map kD) e2
      rw [List.map_map, List.map_map] at this
      rw [List.map_map]
      exact this.symm
    have ev : (ks.map fun p => (kD p.1, p.2)).map (·.2) = ks.map (·.2) := by rw [List.map_map]; rfl
    refine .dic ?_ ek (by rw [ev]; exact e3.mono s)
    rcases h with ⟨_, _, _, h4⟩ | ⟨_, _, o, h3⟩
    · exact .of h4
    · exact .inr ⟨o, s _ _ h3⟩
  | sh d => exact h.2.mono s
  | own d =>
    obtain ⟨p, e1, _, _, h⟩ := h
    subst e1
    exact h.rep s
  | row d =>
    obtain ⟨p, e1, _, _, h⟩ := h
    subst e1
    exact h.rep s
  | own2 d =>
    obtain ⟨p, qs, ds, e1, e2, e3, h1, h2, _, h4⟩ := h
    subst e1 e3
    exact .lst (.of h1) (h4.rep s)
theorem thE_some {e : Option E} {e' : E} (h : thE e = some e') : ∃ e0, e = some e0 ∧ e' = .sh (frzE e0) ∧ (∀ l ks, e0 ≠ .dt l ks) ∧ ∀ j f, e0 ≠ .fn j f := by
  cases e with
  | none => cases h
  | some e =>
    refine ⟨e, rfl, ?_⟩
    cases e <;> first | (cases h; exact ⟨rfl, (fun _ _ q => nomatch q), fun _ _ q => nomatch q⟩) | cases h
theorem Rel.thaw {K : PySem.W.Frag} {z : Z} {ρ : Env} {σ : L2.St} {F H : Hp} {O : Nat → List Addr} (R : Rel K z ρ σ F H O) : Rel K ⟨H, H, fun _ => False⟩ (ρ.map thE) σ H H (fun _ => []) where
  len := by rw [List.length_map, R.len]
  sub := Same.refl _
  ent := fun i e h => by
    rw [List.getElem?_map] at h
    obtain ⟨e1, h1, h2⟩ := map_some h
    obtain ⟨e0, h3, h4, h5⟩ := thE_some h2
    subst h3 h4
    obtain ⟨v, hv, hE⟩ := R.ent i e0 h1
    exact ⟨v, hv, rfl, hE.rep R.sub h5⟩
  off := fun i a ha => by cases ha
  apt := fun i j a ha => by cases ha
  old := fun a h f => absurd f h
  oldH := fun a h => h
  keep := fun a o h _ => h
  f0 := Same.refl _
  tup := AllT.refl _
theorem rep_at {K : PySem.W.Frag} {F F' : Hp} {v : V} {d : D} (h : isAt d = true) (r : Rep K F v d) : Rep K F' v d := by
  cases r with
  | non => exact .non
  | bl b => exact .bl b
  | int i => exact .int i
  | str s => exact .str s
  | _ => cases h
theorem q_bor {e : Expr} {f : Env → Option D} (h : ∀ z : Z, PE X e (tP X.K z f)) : PE X e (tP X.K z (cBor f)) :=
  ⟨fun pins s σ H Q I ⟨ρ, F, O, d, R, e, q⟩ => by
    obtain ⟨d', h1, h2⟩ := bind_some e
    split at h2
    · next ha =>
      cases h2
      exact (h ⟨H, H, fun _ => False⟩).run pins s σ H Q I ⟨_, H, _, _, R.thaw, h1, fun v H' sm r => q v H' sm (rep_at ha r)⟩
    · cases h2⟩
theorem b_bor {e : Expr} {f : Env → Option Bool} (h : ∀ z : Z, PT X e (tB X.K z f)) : PT X e (tB X.K z (bBor f)) :=
  ⟨fun pins s σ H Q I ⟨ρ, F, O, b, R, e, q⟩ =>
    (h ⟨H, H, fun _ => False⟩).run pins s σ H Q I ⟨_, H, _, _, R.thaw, e, q⟩⟩
def ownL (e : Option (Option E)) : Option (List D) := match e with
  | some (some (.own (.list ds))) => some ds
  | some (some (.row (.list ds))) => some ds
  | _ => none
theorem ownL_of {K : PySem.W.Frag} {z : Z} {ρ : Env} {σ : L2.St} {F H : Hp} {O : Nat → List Addr} {i : Nat} {ds : List D} (R : Rel K z ρ σ F H O) (h : ownL ρ[i]? = some ds) : ∃ p vs, σ[i]? = some (some (.ref p)) ∧ O i = [p] ∧ H p = some (.lst vs) ∧ RepL K F vs ds ∧ (z.H0 p = none ∨ z.B p) ∧ ((ρ[i]? = some (some (.own (.list ds))) ∧ z.H0 p = none) ∨ (ρ[i]? = some (some (.row (.list ds))) ∧ z.B p)) := by
  unfold ownL at h
  split at h
  · next hi =>
    cases h
    obtain ⟨v, h1, p, e1, e2, e3, vs, h2, h3⟩ := R.ent i _ hi
    subst e1
    exact ⟨p, vs, h1, e2, h2, h3, .inl e3, .inl ⟨hi, e3⟩⟩
  · next hi =>
    cases h
    obtain ⟨v, h1, p, e1, e2, e3, vs, h2, h3⟩ := R.ent i _ hi
    subst e1
    exact ⟨p, vs, h1, e2, h2, h3, .inr e3, .inr ⟨hi, e3⟩⟩
  · cases h
def cIxO (i : Nat) (f : Env → Option D) : Env → Option D := fun ρ => (ownL ρ[i]?).bind fun ds => (f ρ).bind fun k => match k with
  | .int k => atI ds k
  | _ => none
theorem q_ixO (i : Nat) {x : Str} {e : Expr} {pos p2 : Pos} {f : Env → Option D} (he : PE X e (tP X.K z f)) (hN : X.N[i]? = some x := by rfl) (hv : Vis X.env.scope x := by first | exact Or.inl rfl | exact Or.inr (Or.inl rfl) | exact Or.inr (Or.inr rfl)) (hd : (x == ("__debug__" : Str)) = false := by decide)
    (hcd : (x == ("__classdict__" : Str)) = false := by decide) (hs : PlainIx e := by exact fun _ _ => rfl) : PE X (.Subscript (.Name x pos) e p2) (tP X.K z (cIxO i f)) :=
  (pe_ix ix_seq (pe_var hN hv hd hcd) he hs).mono fun σ H Q ⟨ρ, F, O, d, R, e, q⟩ => by
    obtain ⟨ds, h1, e⟩ := bind_some e
    obtain ⟨k, h2, e⟩ := bind_some e
    obtain ⟨p, vs, s1, s2, s3, s4, _⟩ := ownL_of R h1
    refine ⟨_, s1, ρ, F, O, k, R, h2, fun v H1 sm r => ?_⟩
    split at e
    · cases r
      obtain ⟨w, w1, w2⟩ := atI_rep s4 e
      exact .inl ⟨p, vs, _, w, rfl, rfl, .of (sm _ _ s3), w1, q w H1 sm (w2.mono (same_ext R.sub))⟩
    · cases e
theorem Rel.freeze {K : PySem.W.Frag} {ρ : Env} {σ : L2.St} {F H : Hp} {O : Nat → List Addr} {i : Nat} {e : E} (R : Rel K z ρ σ F H O) (h : ρ[i]? = some (some e)) (hr : canFz e = true) : ∃ F', Same F F' ∧ Rel K z (ρ.set i (some (.sh (frzE e)))) σ F' H (setO O i []) := by
  obtain ⟨v, hv, hE⟩ := R.ent i e h
  obtain ⟨F', s, c, r⟩ := ent_rep hE hr fun a ha => (R.off i a ha).1
  have h0 : ∀ a ∈ O i, z.H0 a = none := fun a ha => by
    cases e with
    | sh d =>
      rw [hE.1] at ha
      cases ha
    | row d => cases hr
    | dt l ks => cases hr
    | fn j f => cases hr
    | dk l ks =>
      obtain ⟨p, kvs, _, _, _, q⟩ := hE
      rcases q with ⟨_, e2, e3, _⟩ | ⟨_, e2, _⟩
      · rw [e2] at ha
        rcases List.mem_cons.mp ha with q | q
        · rw [q]
          exact e3
        · cases q
      · rw [e2] at ha
        cases ha
    | own d =>
      obtain ⟨p, _, e2, e3, _⟩ := hE
      rw [e2] at ha
      rcases List.mem_cons.mp ha with q | q
      · rw [q]
        exact e3
      · cases q
    | own2 d =>
      obtain ⟨p, qs, ds, _, e2, _, _, _, e3, _⟩ := hE
      rw [e2] at ha
      exact e3 a ha
  refine ⟨F', s, ⟨?_, ?_, ?_, ?_, ?_, ?_, R.oldH, R.keep, R.f0.trans s, fun a vs e => by
    by_cases q : F' a = F a
    · rw [q]
      exact R.tup a vs e
    · rw [(c a q).2]
      exact e⟩⟩
  · rw [List.length_set, R.len]
  · intro a o ea
    by_cases q : F' a = F a
    · exact R.sub a o (q ▸ ea)
    · rw [← (c a q).2]
      exact ea
  · intro j e' hj
    unfold setO
    by_cases q : j = i
    · subst q
      have hl : j < ρ.length := (List.getElem?_eq_some_iff.mp h).1
      rw [List.getElem?_set_self hl] at hj
      cases hj
      rw [if_pos rfl]
      exact ⟨v, hv, rfl, r⟩
    · rw [List.getElem?_set_ne (Ne.symm q)] at hj
      rw [if_neg q]
      obtain ⟨w, h1, h2⟩ := R.ent j e' hj
      exact ⟨w, h1, h2.mono s fun _ _ => rfl⟩
  · intro j a ha
    unfold setO at ha
    split at ha
    · cases ha
    · next q =>
      refine ⟨?_, (R.off j a ha).2⟩
      by_cases q2 : F' a = F a
      · rw [q2]
        exact (R.off j a ha).1
      · exact absurd (R.apt j i a ha (c a q2).1) q
  · intro j k a hj hk
    unfold setO at hj hk
    split at hj
    · cases hj
    · split at hk
      · cases hk
      · exact R.apt j k a hj hk
  · intro a h1 h2
    by_cases q2 : F' a = F a
    · rw [q2]
      exact R.old a h1 h2
    · exact absurd (h0 a (c a q2).1) h1
def fz (i : Nat) (ρ : Env) : Env := match ρ[i]? with
  | some (some (.own d)) => ρ.set i (some (.sh d))
  | some (some (.own2 d)) => ρ.set i (some (.sh d))
  | some (some (.dk l ks)) => ρ.set i (some (.sh (frzE (.dk l ks))))
  | _ => ρ
def gFz (i : Nat) (g : Gs) : Gs := fun ρ => g (fz i ρ)
theorem Rel.fz {K : PySem.W.Frag} {ρ : Env} {σ : L2.St} {F H : Hp} {O : Nat → List Addr} (i : Nat) (R : Rel K z ρ σ F H O) : ∃ F' O', Same F F' ∧ Rel K z (DL.fz i ρ) σ F' H O' := by
  unfold DL.fz
  split
  · next h =>
    obtain ⟨F', s, R'⟩ := R.freeze h rfl
    exact ⟨F', _, s, R'⟩
  · next h =>
    obtain ⟨F', s, R'⟩ := R.freeze h rfl
    exact ⟨F', _, s, R'⟩
  · next h =>
    obtain ⟨F', s, R'⟩ := R.freeze h rfl
    exact ⟨F', _, s, R'⟩
  · exact ⟨F, O, Same.refl _, R⟩
theorem fz_in {t : TS} {g : Gs} (i : Nat) {D : Ends} {σ : L2.St} {H : Hp} {K : PySem.W.Frag} (h : tS K z (gFz i g) D σ H) : tS K z g D σ H := by
  obtain ⟨ρ, F, O, fl, ρ', R, e, q⟩ := h
  obtain ⟨F', O', s, R'⟩ := R.fz i
  exact ⟨_, F', O', fl, ρ', R', e, q.from s⟩
theorem s_fz (i : Nat) {st : Stmt} {g : Gs} (h : PS X st (tS X.K z g)) : PS X st (tS X.K z (gFz i g)) := h.mono fun D σ H q => fz_in (t := tNext) i q
theorem Rel.mut {K : PySem.W.Frag} {ρ : Env} {σ : L2.St} {F H : Hp} {O : Nat → List Addr} {i : Nat} {a : Addr} {o : HO} {e : E} {v : V} (R : Rel K z ρ σ F H O) (ha : a ∈ O i) (hz : z.H0 a = none ∨ z.B a) (hv : σ[i]? = some (some v)) (he : Ent K z F (upd H a o) v e (O i)) (ho : ∀ vs, o ≠ .tup vs := by intro _ q; cases q) : Rel K z (ρ.set i (some e)) σ F (upd H a o) O where
  len := by rw [List.length_set, R.len]
  sub := DL.Same.upd2 R.sub (R.off i a ha).1
  ent := fun j e' hj => by
    by_cases q : j = i
    · subst q
      have hl : j < ρ.length := by
        have := (List.getElem?_eq_some_iff.mp hj).1
        rw [List.length_set] at this
        exact this
      rw [List.getElem?_set_self hl] at hj
      cases hj
      exact ⟨v, hv, he⟩
    · rw [List.getElem?_set_ne (Ne.symm q)] at hj
      obtain ⟨w, h1, h2⟩ := R.ent j e' hj
      exact ⟨w, h1, h2.mono (Same.refl _) fun b hb => upd_ne (show b ≠ a from fun x => q (R.apt j i a (x ▸ hb) ha))⟩
  off := fun j b hb => ⟨(R.off j b hb).1, by
    by_cases q : b = a
    · rw [q, upd_same]
      exact fun z => nomatch z
    · rw [upd_ne q]
      exact (R.off j b hb).2⟩
  apt := R.apt
  old := R.old
  oldH := fun b h => by
    by_cases e : b = a
    · rw [e, upd_same]
      exact fun z => nomatch z
    · rw [upd_ne e]
      exact R.oldH b h
  keep := fun b o' h nb => by
    have e : b ≠ a := fun e => by
      subst e
      rcases hz with hz | hz
      · rw [hz] at h
        cases h
      · exact nb hz
    rw [upd_ne e]
    exact R.keep b o' h nb
  f0 := R.f0
  tup := R.tup.up ho
/-- the slot's own list gets new items -/
def putL (i : Nat) (es : List D) (ρ : Env) : Env := match ρ[i]? with
  | some (some (.row _)) => ρ.set i (some (.row (.list es)))
  | _ => ρ.set i (some (.own (.list es)))
theorem Rel.putL {K : PySem.W.Frag} {ρ : Env} {σ : L2.St} {F H : Hp} {O : Nat → List Addr} {i : Nat} {ds es : List D} {p : Addr} {ws : List V} (R : Rel K z ρ σ F H O) (h : ownL ρ[i]? = some ds) (hp : σ[i]? = some (some (.ref p))) (r : RepL K F ws es) : Rel K z (DL.putL i es ρ) σ F (upd H p (.lst ws)) O := by
  obtain ⟨p', vs, s1, s2, s3, s4, s5, s6⟩ := ownL_of R h
  rw [s1] at hp
  cases hp
  have hm : p ∈ O i := by rw [s2]; exact List.mem_cons_self
  unfold DL.putL
  rcases s6 with ⟨q, q2⟩ | ⟨q, q2⟩
  · rw [q]
    exact R.mut hm s5 s1 ⟨p, rfl, s2, q2, ws, upd_same, r⟩
  · rw [q]
    exact R.mut hm s5 s1 ⟨p, rfl, s2, q2, ws, upd_same, r⟩
/-- x.append(e) -/
def gApp (i : Nat) (f : Env → Option (D × Env)) : Gs := fun ρ => (ownL ρ[i]?).bind fun _ => (f ρ).bind fun p => (ownL p.2[i]?).bind fun ds => if ds.length ≤ 1000 then some (.nx, putL i (ds ++ [p.1]) p.2) else none
theorem s_app (i : Nat) {x : Str} {e : Expr} {f : Env → Option (D × Env)} {p1 p2 p3 pos : Pos} (he : PE X e (tR X.K z f)) (hN : X.N[i]? = some x := by rfl) (hv : Vis X.env.scope x := by first | exact Or.inl rfl | exact Or.inr (Or.inl rfl) | exact Or.inr (Or.inr rfl)) (hd : (x == ("__debug__" : Str)) = false := by decide)
    (hcd : (x == ("__classdict__" : Str)) = false := by decide)
    (hbase : attributeBase (.Name x p1) "append" X.env (eval (.Name x p1) X.env) = eval (.Name x p1) X.env := by rfl)
    (hfew : ((backTo p3 (starEach [e] X.env)).all (fun x => !x.1) && (backToKw p3 (keywordEach [] X.env)).all (fun x => x.1.isSome)
      && decide ([e].length + ([] : List Keyword).length + (if ([] : List Keyword).isEmpty then 0 else 1) < 30)) = true := by rfl)
    (hline : (p2.endLine == p3.line) = true := by rfl) (hs : starEach [e] X.env = (false, eval e X.env) :: starEach [] X.env := by rfl) (hpl : (backTo p3 (starEach [] X.env)).any (·.1) = false := by rfl)
    (hsw : swapsWith (.Call (.Attribute (.Name x p1) "append" p2) [e] [] p3) none pos.line X.env = pure false := by rfl) :
    PS X (.Expr (.Call (.Attribute (.Name x p1) "append" p2) [e] [] p3) pos) (tS X.K z (gApp i f)) :=
  (ps_expr (pe_bm PySem.F.plainAttrs_list PySem.F.slot_list_append PySem.F.type_list_append mt_append (pe_var hN hv hd hcd) (pa_cons he pa_nil hs) hbase hfew hline hs hpl) hsw).mono fun D σ H ⟨ρ, F, O, fl, ρ', R, e, q⟩ => by
    obtain ⟨d0, h0, e⟩ := bind_some e
    obtain ⟨⟨d, ρ1⟩, h1, e⟩ := bind_some e
    obtain ⟨ds, h2, e⟩ := bind_some e
    split at e
    · next hl =>
      cases e
      obtain ⟨p, vs, s1, s2, s3, s4, _⟩ := ownL_of R h0
      refine ⟨_, s1, .inl ⟨rfl, _, SqL.of s3⟩, ρ, F, O, d, ρ1, R, h1, fun v F' H' R' k r => ?_⟩
      obtain ⟨p', vs', t1, t2, t3, t4, _⟩ := ownL_of R' h2
      have e1 := s1.symm.trans t1
      cases e1
      refine ⟨p, vs', v, rfl, rfl, t3, by have := t4.length; have := small1000 hl; omega, ?_⟩
      exact q σ F' _ O (R'.putL h2 s1 (t4.append (.cons r .nil))) k.same
    · cases e
/-- x[k] = e -/
def gSetI (i : Nat) (f g : Env → Option (D × Env)) : Gs := fun ρ => (f ρ).bind fun p => (ownL p.2[i]?).bind fun _ => (g p.2).bind fun q => match q.1 with
  | .int k => (ownL q.2[i]?).bind fun ds => (ixN ds.length k).map fun j => (.nx, putL i (ds.set j p.1) q.2)
  | _ => none
theorem s_setI (i : Nat) {x : Str} {e b : Expr} {f g : Env → Option (D × Env)} {p1 p2 pos : Pos} (he : PE X e (tR X.K z f)) (hb : PE X b (tR X.K z g)) (hN : X.N[i]? = some x := by rfl) (hv : Vis X.env.scope x := by first | exact Or.inl rfl | exact Or.inr (Or.inl rfl) | exact Or.inr (Or.inr rfl)) (hd : (x == ("__debug__" : Str)) = false := by decide)
    (hcd : (x == ("__classdict__" : Str)) = false := by decide)
    (ha : ∀ v, assign (.Subscript (.Name x p1) b p2) X.env v = (do
      let ov ← holding [v] (eval (.Name x p1) X.env)
      let iv ← holding [v, ov] (eval b X.env)
      standAt p2
      holding [v, ov, iv] (setItem ov iv v)
      release [v, ov, iv] []) := by intro _; rfl)
    (hs : swapsWithSole [.Subscript (.Name x p1) b p2] e pos.line X.env = pure false := by rfl) (hw : swappedStores [.Subscript (.Name x p1) b p2] e X.env = pure none := by rfl)
    (h1 : (assignEach [.Subscript (.Name x p1) b p2] X.env).map (·.2) = [assign (.Subscript (.Name x p1) b p2) X.env] := by rfl) :
    PS X (.Assign [.Subscript (.Name x p1) b p2] e pos) (tS X.K z (gSetI i f g)) :=
  (ps_asg he (pg_sub (pe_var hN hv hd hcd) hb set_list ha) hs hw h1).mono fun D σ H ⟨ρ, F, O, fl, ρ', R, e, q⟩ => by
    obtain ⟨⟨d, ρ1⟩, h1, e⟩ := bind_some e
    obtain ⟨d0, h0, e⟩ := bind_some e
    obtain ⟨⟨k, ρ2⟩, h2, e⟩ := bind_some e
    dsimp only at e
    split at e
    · obtain ⟨ds, h3, e⟩ := bind_some e
      obtain ⟨j, h4, e⟩ := map_some e
      cases e
      refine ⟨ρ, F, O, d, ρ1, R, h1, fun v F1 H1 R1 k1 r1 => ?_⟩
      obtain ⟨p, vs, s1, _⟩ := ownL_of R1 h0
      refine ⟨_, s1, ρ1, F1, O, _, ρ2, R1, h2, fun w F2 H2 R2 k2 r2 => ?_⟩
      cases r2
      obtain ⟨p', vs', t1, t2, t3, t4, _⟩ := ownL_of R2 h3
      have e1 := s1.symm.trans t1
      cases e1
      exact ⟨p, vs', _, j, rfl, rfl, t3, by rw [t4.length]; exact h4, q σ F2 _ O (R2.putL h3 s1 (t4.set j (r1.mono k2.same))) (k1.same.trans k2.same)⟩
    · cases e
/-- x op= e -/
def gAug (i : Nat) (o : D → D → Option D) (f : Env → Option (D × Env)) : Gs := fun ρ => (cVar i ρ).bind fun d => (f ρ).bind fun p => (o d p.1).map fun y => (.nx, p.2.set i (some (.sh y)))
theorem s_aug (i : Nat) {x : Str} {e : Expr} {op : Operator} {r : R2} {o : D → D → Option D} {f : Env → Option (D × Env)} {p1 pos : Pos} (hr : OpR X (inplaceOp op) r) (ho : Op2 X.K r o) (hN : X.N.Nodup) (he : PE X e (tR X.K z f)) (hi : X.N[i]? = some x := by rfl) (hx : Loc X.env.scope x := by first | exact Or.inl rfl | exact Or.inr rfl)
    (hf : X.fn x = true ∨ X.env.scope.names.lookup x = some .local := by first | exact .inl rfl | exact .inr rfl) : PS X (.AugAssign (.Name x p1) op e pos) (tS X.K z (gAug i o f)) :=
  (ps_aug hN hi hx he hr hf).mono fun D σ H ⟨ρ, F, O, fl, ρ', R, e, q⟩ => by
    obtain ⟨d, h1, e⟩ := bind_some e
    obtain ⟨⟨d2, ρ1⟩, h2, e⟩ := bind_some e
    obtain ⟨y, h3, e⟩ := map_some e
    cases e
    unfold cVar at h1
    split at h1
    · next hi =>
      cases h1
      obtain ⟨v, v1, _, v2⟩ := R.ent i _ hi
      refine ⟨v, v1, ρ, F, O, d2, ρ1, R, h2, fun w F1 H1 R1 k1 r1 => ?_⟩
      exact ho.run F1 H1 v w d d2 y _ R1.sub (v2.mono k1.same) r1 h3 fun u H2 s2 r2 => q _ _ _ _ ((R1.grow s2).setD r2) (k1.same.trans (same_ext R1.sub))
    · cases h1
def oAddI : D → D → Option D
  | .int i, .int j => some (.int (i + j))
  | _, _ => none
theorem w_addI {K : PySem.W.Frag} : Op2 K (rI0 fun i j => .int (i + j)) oAddI := op2I fun a b d e => by
  unfold oAddI at e
  split at e
  · cases e
    exact ⟨_, _, rfl, rfl, rfl⟩
  · cases e
def own2L (e : Option (Option E)) : Option (List D) := match e with
  | some (some (.own2 (.list ds))) => some ds
  | _ => none
def listOf : D → Option (List D)
  | .list ds => some ds
  | _ => none
theorem own2L_of {K : PySem.W.Frag} {ρ : Env} {σ : L2.St} {F H : Hp} {O : Nat → List Addr} {i : Nat} {ds : List D} (R : Rel K z ρ σ F H O) (h : own2L ρ[i]? = some ds) : ρ[i]? = some (some (.own2 (.list ds))) ∧ ∃ p qs, σ[i]? = some (some (.ref p)) ∧ O i = p :: qs ∧ H p = some (.lst (qs.map V.ref)) ∧ (p :: qs).Nodup ∧ (∀ a ∈ p :: qs, z.H0 a = none) ∧ Objs K F H qs ds := by
  unfold own2L at h
  split at h
  · next hi =>
    cases h
    obtain ⟨v, h1, p, qs, ds', e1, e2, e3, h2, h3, h4, h5⟩ := R.ent i _ hi
    cases e3
    subst e1
    exact ⟨hi, p, qs, h1, e2, h2, h3, h4, h5⟩
  · cases h
theorem Objs.set {K : PySem.W.Frag} {F H : Hp} {o : HO} {d : D} : ∀ {qs : List Addr} {ds : List D} {j : Nat} {q : Addr}, Objs K F H qs ds → qs.Nodup → qs[j]? = Option.some q → Obj1 K F (upd H q o) q d → Objs K F (upd H q o) qs (ds.set j d)
  | _, _, _, _, .nil, _, h, _ => by simp at h
  | _, _, 0, q, .cons (p := p) h t, n, hj, ho => by
    simp at hj
    subst hj
    exact .cons ho (t.mono (Same.refl _) fun b hb => upd_ne (fun e => (List.nodup_cons.mp n).1 (e ▸ hb)))
  | _, _, j + 1, q, .cons (p := p) h t, n, hj, ho => by
    have hj' := hj
    rw [List.getElem?_cons_succ] at hj'
    have hm := List.mem_of_getElem? hj'
    refine .cons (h.mono (Same.refl _) (upd_ne fun e => (List.nodup_cons.mp n).1 (by rw [e]; exact hm))) (Objs.set t (List.nodup_cons.mp n).2 hj' ho)
theorem Rel.put2 {K : PySem.W.Frag} {ρ : Env} {σ : L2.St} {F H : Hp} {O : Nat → List Addr} {i j : Nat} {rows es : List D} {p q : Addr} {qs : List Addr} {ws : List V} (R : Rel K z ρ σ F H O) (h : own2L ρ[i]? = some rows) (hp : σ[i]? = some (some (.ref p))) (ho : O i = p :: qs) (hq : qs[j]? = some q) (r : RepL K F ws es) : Rel K z (ρ.set i (some (.own2 (.list (rows.set j (.list es)))))) σ F (upd H q (.lst ws)) O := by
  obtain ⟨_, p', qs', s1, s2, s3, s4, s5, s6⟩ := own2L_of R h
  rw [hp] at s1
  cases s1
  rw [ho] at s2
  cases s2
  have hm := List.mem_of_getElem? hq
  have np : p ≠ q := fun e => (List.nodup_cons.mp s4).1 (by rw [e]; exact hm)
  refine R.mut (by rw [ho]; exact List.mem_cons_of_mem _ hm) (.inl (s5 q (List.mem_cons_of_mem _ hm))) hp ⟨p, qs, _, rfl, ho, rfl, (upd_ne np).trans s3, s4, s5, ?_⟩
  exact s6.set (List.nodup_cons.mp s4).2 hq ⟨ws, upd_same, r⟩
/-- x[a][b] = e -/
def gSetI2 (i : Nat) (f : Env → Option (D × Env)) (g h : Env → Option D) : Gs := fun ρ => (f ρ).bind fun p => (own2L p.2[i]?).bind fun rows => (g p.2).bind fun a => (h p.2).bind fun b => match a with
  | .int a => match b with
    | .int b => (ixN rows.length a).bind fun ja => (rows[ja]?).bind fun r => (listOf r).bind fun ds => (ixN ds.length b).map fun jb => (.nx, p.2.set i (some (.own2 (.list (rows.set ja (.list (ds.set jb p.1)))))))
    | _ => none
  | _ => none
theorem s_setI2 (i : Nat) {x : Str} {e a b : Expr} {f : Env → Option (D × Env)} {g h : Env → Option D} {p1 p2 p3 pos : Pos} (he : PE X e (tR X.K z f)) (haa : PE X a (tP X.K z g)) (hb : PE X b (tP X.K z h)) (hN : X.N[i]? = some x := by rfl) (hv : Vis X.env.scope x := by first | exact Or.inl rfl | exact Or.inr (Or.inl rfl) | exact Or.inr (Or.inr rfl)) (hd : (x == ("__debug__" : Str)) = false := by decide)
    (hcd : (x == ("__classdict__" : Str)) = false := by decide) (hpi : PlainIx a := by exact fun _ _ => rfl)
    (ha : ∀ v, assign (.Subscript (.Subscript (.Name x p1) a p2) b p3) X.env v = (do
      let ov ← holding [v] (eval (.Subscript (.Name x p1) a p2) X.env)
      let iv ← holding [v, ov] (eval b X.env)
      standAt p3
      holding [v, ov, iv] (setItem ov iv v)
      release [v, ov, iv] []) := by intro _; rfl)
    (hs : swapsWithSole [.Subscript (.Subscript (.Name x p1) a p2) b p3] e pos.line X.env = pure false := by rfl) (hw : swappedStores [.Subscript (.Subscript (.Name x p1) a p2) b p3] e X.env = pure none := by rfl)
    (h1 : (assignEach [.Subscript (.Subscript (.Name x p1) a p2) b p3] X.env).map (·.2) = [assign (.Subscript (.Subscript (.Name x p1) a p2) b p3) X.env] := by rfl) :
    PS X (.Assign [.Subscript (.Subscript (.Name x p1) a p2) b p3] e pos) (tS X.K z (gSetI2 i f g h)) :=
  (ps_asg he (pg_sub (pe_ix ix_seq (pe_var hN hv hd hcd) haa hpi) hb set_list ha) hs hw h1).mono fun D σ H ⟨ρ, F, O, fl, ρ', R, e, q⟩ => by
    obtain ⟨⟨d, ρ1⟩, h1, e⟩ := bind_some e
    obtain ⟨rows, h2, e⟩ := bind_some e
    obtain ⟨ad, h3, e⟩ := bind_some e
    obtain ⟨bd, h4, e⟩ := bind_some e
    dsimp only at e h2 h3 h4
    split at e
    · split at e
      · obtain ⟨ja, h5, e⟩ := bind_some e
        obtain ⟨rd, h6, e⟩ := bind_some e
        obtain ⟨ds, h7, e⟩ := bind_some e
        obtain ⟨jb, h8, e⟩ := map_some e
        cases e
        have er : rd = .list ds := by
          cases rd <;> cases h7
          rfl
        subst er
        refine ⟨ρ, F, O, d, ρ1, R, h1, fun v F1 H1 R1 k1 r1 => ?_⟩
        obtain ⟨_, p, qs, s1, s2, s3, s4, s5, s6⟩ := own2L_of R1 h2
        obtain ⟨qa, hq1, ws, hq2, hq3⟩ := s6.get h6
        refine ⟨_, s1, ρ1, F1, O, _, R1, h3, fun va H2 m2 r2 => ?_⟩
        cases r2
        refine .inl ⟨p, _, _, .ref qa, rfl, rfl, .of (m2 _ _ s3), ?_, ?_⟩
        · unfold atI
          rw [List.length_map, s6.length, h5]
          show (qs.map V.ref)[ja]? = _
          rw [List.getElem?_map, hq1]
          rfl
        · refine ⟨ρ1, _, O, _, R1.grow m2, h4, fun vb H3 m3 r3 => ?_⟩
          cases r3
          have m23 := m2.trans m3
          have R3 := R1.grow m23
          refine ⟨qa, ws, _, jb, rfl, rfl, m23 _ _ hq2, by rw [hq3.length]; exact h8, q σ _ _ O (R3.put2 h2 s1 s2 hq1 ((hq3.mono (same_ext R1.sub)).set jb (r1.mono (same_ext R1.sub)))) (k1.same.trans (same_ext R1.sub))⟩
      · cases e
    · cases e
end
end DL
namespace DL
open PySem PySem.Spec PyProof.Rows L2
def tRgP (K : PySem.W.Frag) (z : Z) (f : Env → Option (Int × Int)) : L2.St → Hp → (Int → Int → Hp → Prop) → Prop := fun σ H Q => ∃ ρ F O p, Rel K z ρ σ F H O ∧ f ρ = some p ∧ ∀ H', Same H H' → Q p.1 p.2 H'
def rgFit (a b : Int) : Option (Int × Int) := if -1000 ≤ a then (if a ≤ 1000 then (if -1000 ≤ b then (if b ≤ 1000 then some (a, b) else none) else none) else none) else none
def cRg1 (f : Env → Option D) : Env → Option (Int × Int) := fun ρ => (f ρ).bind fun d => match d with
  | .int n => rgFit 0 n
  | _ => none
def cListRg (f : Env → Option (Int × Int)) : Env → Option D := fun ρ => (f ρ).map fun p => .list (rangeD p.1 (p.2 - p.1).toNat)
def cTupRg (f : Env → Option (Int × Int)) : Env → Option D := fun ρ => (f ρ).map fun p => .tuple (rangeD p.1 (p.2 - p.1).toNat)
def wListRg (f : Env → Option (Int × Int)) : Env → Option (E × Env) := fun ρ => (f ρ).map fun p => (.own (.list (rangeD p.1 (p.2 - p.1).toNat)), ρ)
section
variable {X : Cx} {z : Z}
theorem rgFit_of {a b : Int} {p : Int × Int} (h : rgFit a b = some p) : p = (a, b) ∧ -1000 ≤ a ∧ a ≤ 1000 ∧ -1000 ≤ b ∧ b ≤ 1000 := by
  unfold rgFit at h
  split at h
  · split at h
    · split at h
      · split at h
        · cases h
          exact ⟨rfl, by assumption, by assumption, by assumption, by assumption⟩
        · cases h
      · cases h
    · cases h
  · cases h
theorem cRg1_fit {f : Env → Option D} {ρ : Env} {p : Int × Int} (h : cRg1 f ρ = some p) : ∃ n, f ρ = some (.int n) ∧ p = (0, n) ∧ RgOk p.1 p.2 := by
  obtain ⟨d, h1, h2⟩ := bind_some h
  split at h2
  · obtain ⟨e, h3, h4, h5, h6⟩ := rgFit_of h2
    subst e
    exact ⟨_, h1, rfl, by show RgOk 0 _; exact ⟨by omega, by omega, by omega, by omega, by omega⟩⟩
  · cases h2
structure RgP (X : Cx) (z : Z) (e : Expr) (f : Env → Option (Int × Int)) : Prop where
  run : PRg X e (tRgP X.K z f)
  fit : ∀ ρ p, f ρ = some p → RgOk p.1 p.2
theorem q_rg1 {a : Expr} {f : Env → Option D} {p pos : Pos} (hg : Gl X "range") (hm : X.mg "range" = none) (ha : PE X a (tP X.K z f)) (na : starEach [a] X.env = (false, eval a X.env) :: starEach [] X.env := by rfl) : RgP X z (.Call (.Name "range" p) [a] [] pos) (cRg1 f) :=
  ⟨fun pins s σ H Q I ⟨ρ, F, O, d, R, e, q⟩ => by
    obtain ⟨n, h1, h2, _⟩ := cRg1_fit e
    subst h2
    refine prg_1 hg hm ha na pins s σ H Q I ⟨ρ, F, O, _, R, h1, fun v H' sm r => ?_⟩
    cases r
    exact ⟨n, rfl, q H' sm⟩, fun ρ p h => by
    obtain ⟨_, _, _, h⟩ := cRg1_fit h
    exact h⟩
theorem rgV_rep {K : PySem.W.Frag} {F : Hp} {a b : Int} : RepL K F (rgV a b) (rangeD a (b - a).toNat) := by
  unfold rgV rangeD
  generalize List.range (b - a).toNat = l
  induction l with
  | nil => exact .nil
  | cons i l ih => exact .cons (.int _) ih
theorem q_listRg {e : Expr} {f : Env → Option (Int × Int)} {p pos : Pos} (hc : X.calm = true) (hg : Gl X "list") (hm : X.mg "list" = none) (he : RgP X z e f) (na : starEach [e] X.env = (false, eval e X.env) :: starEach [] X.env := by rfl) : PE X (.Call (.Name "list" p) [e] [] pos) (tP X.K z (cListRg f)) :=
  (pe_listRg hc hg hm he.run na).mono fun σ H Q ⟨ρ, F, O, d, R, e, q⟩ => by
    obtain ⟨r, h1, h2⟩ := map_some e
    subst h2
    refine ⟨ρ, F, O, r, R, h1, fun H' sm => ⟨he.fit _ _ h1, fun p hp => ?_⟩⟩
    have R1 := R.grow sm
    refine q _ _ (sm.trans (same_new hp)) ?_
    rw [← ext_ext sm (same_new hp), ext_new R1.sub hp]
    exact .lst (.of upd_same) rgV_rep
def gPar2 (i j : Nat) (f g : Env → Option (E × Env)) : Gs := fun ρ => (f ρ).bind fun p => (g p.2).map fun q => (.nx, (q.2.set i (some p.1)).set j (some q.1))
def gPar3 (i j l : Nat) (f g h : Env → Option (E × Env)) : Gs := fun ρ => (f ρ).bind fun p => (g p.2).bind fun q => (h q.2).map fun r => (.nx, ((r.2.set i (some p.1)).set j (some q.1)).set l (some r.1))
theorem keepW {K : PySem.W.Frag} {F H F1 H1 F2 H2 : Hp} {O : Nat → List Addr} {ρ : Env} {σ : L2.St} {v : V} {e : E} {as : List Addr} (R : Rel K z ρ σ F H O) (k2 : Kp F1 H1 F2 H2 O) (h : Ent K z F1 H1 v e as) (hf : ∀ a ∈ as, H a = none ∧ F1 a = none ∧ H1 a ≠ none) : Ent K z F2 H2 v e as ∧ ∀ a ∈ as, H a = none ∧ F2 a = none ∧ H2 a ≠ none :=
  ⟨h.mono k2.same fun a ha => by
    obtain ⟨h0, _, h1⟩ := hf a ha
    obtain ⟨o, h2⟩ := some_of h1
    rw [h2]
    exact k2.keep a o h2 fun i hi => (R.off i a hi).2 h0, fun a ha => by
    obtain ⟨h0, h1, h2⟩ := hf a ha
    exact ⟨h0, k2.out a h2 h1, k2.dom a h2⟩⟩
theorem s_par2 (i j : Nat) {x y : Str} {a b : Expr} {px py pt pos : Pos} {kt k2 pt2} {f g : Env → Option (E × Env)} (hc : X.calm = true) (hN : X.N.Nodup) (ha : PE X a (tW X.K z f)) (hb : PE X b (tW X.K z g)) (hi : X.N[i]? = some x := by rfl) (hj : X.N[j]? = some y := by rfl) (hij : i ≠ j := by decide)
    (hx : X.env.scope.names.lookup x = some .local := by rfl) (hy : X.env.scope.names.lookup y = some .local := by rfl) (ha1 : starEach [a, b] X.env = (false, eval a X.env) :: starEach [b] X.env := by rfl) (hb1 : starEach [b] X.env = (false, eval b X.env) :: starEach [] X.env := by rfl)
    (hw : swappedStores [.Tuple [.Name x px, .Name y py] kt pt] (.Tuple [a, b] k2 pt2) X.env = pure (some [x, y]) := by rfl)
    (hs : swapsWithSole [.Tuple [.Name x px, .Name y py] kt pt] (.Tuple [a, b] k2 pt2) pos.line X.env = pure false := by rfl) :
    PS X (.Assign [.Tuple [.Name x px, .Name y py] kt pt] (.Tuple [a, b] k2 pt2) pos) (tS X.K z (gPar2 i j f g)) :=
  (ps_par hc hN hi hj hij hx hy (pa_cons ha (pa_cons hb pa_nil hb1) ha1) hw hs).mono fun D σ H ⟨ρ, F, O, fl, ρ', R, e, q⟩ => by
    obtain ⟨⟨e1, ρ1⟩, h1, e⟩ := bind_some e
    obtain ⟨⟨e2, ρ2⟩, h2, e⟩ := map_some e
    cases e
    refine ⟨ρ, F, O, e1, ρ1, R, h1, fun v1 F1 H1 as1 R1 k1 n1 f1 => ⟨ρ1, F1, O, e2, ρ2, R1, h2, fun v2 F2 H2 as2 R2 k2 n2 f2 => ⟨v1, v2, rfl, ?_⟩⟩⟩
    obtain ⟨n1', f1'⟩ := keepW R k2 n1 f1
    have R3 := setE_new (i := i) (fun i a ha => (R.off i a ha).2) R2 n1' f1'
    refine q _ F2 H2 _ (R3.setE (i := j) n2 fun a ha => ⟨(f2 a ha).2.1, (f2 a ha).2.2, fun l _ hl => ?_⟩) (k1.same.trans k2.same)
    unfold setO at hl
    split at hl
    · exact (f1 a hl).2.2 (f2 a ha).1
    · exact (R1.off l a hl).2 (f2 a ha).1
end
end DL
namespace DL
open PySem PySem.Spec PyProof.Rows L2
def wipeE (ρ : Env) : List Nat → Env
  | [] => ρ
  | v :: vs => (wipeE ρ vs).set v none
theorem wipeE_length (ρ : Env) : ∀ vs : List Nat, (wipeE ρ vs).length = ρ.length
  | [] => rfl
  | v :: vs => by
    unfold wipeE
    rw [List.length_set, wipeE_length ρ vs]
theorem wipeE_some {ρ : Env} {i : Nat} {e : E} : ∀ {vs : List Nat}, (wipeE ρ vs)[i]? = some (some e) → ρ[i]? = some (some e) ∧ i ∉ vs
  | [], h => ⟨h, by simp⟩
  | v :: vs, h => by
    unfold wipeE at h
    by_cases q : v = i
    · subst q
      by_cases hl : v < (wipeE ρ vs).length
      · rw [List.getElem?_set_self hl] at h
        cases h
      · rw [List.getElem?_eq_none (by rw [List.length_set]; omega)] at h
        cases h
    · rw [List.getElem?_set_ne q] at h
      obtain ⟨h1, h2⟩ := wipeE_some h
      exact ⟨h1, fun m => (List.mem_cons.mp m).elim (fun e => q e.symm) h2⟩
theorem wipe_idem (σ : L2.St) (vs : List Nat) : wipe (wipe σ vs) vs = wipe σ vs := by
  have aux : ∀ us : List Nat, (∀ u ∈ us, u ∈ vs) → wipe (wipe σ vs) us = wipe σ vs := by
    intro us
    induction us with
    | nil => exact fun _ => rfl
    | cons u us ih =>
      intro h
      show (wipe (wipe σ vs) us).set u none = wipe σ vs
      rw [ih fun x hx => h x (List.mem_cons_of_mem _ hx)]
      have hu := h u List.mem_cons_self
      apply List.ext_getElem?
      intro j
      by_cases q : u = j
      · subst q
        by_cases hl : u < (wipe σ vs).length
        · rw [List.getElem?_set_self hl]
          cases e : (wipe σ vs)[u]? with
          | none =>
            rw [List.getElem?_eq_none_iff] at e
            omega
          | some w =>
            cases w with
            | none => rfl
            | some w => exact absurd hu (wipe_some e).2
        · rw [List.getElem?_eq_none (by rw [List.length_set]; omega), List.getElem?_eq_none (by omega)]
      · rw [List.getElem?_set_ne q]
  exact aux vs fun _ h => h
theorem ofJ_mem {vs : List Nat} {j : Nat} (h : ofJ vs j = true) : j ∈ vs := List.contains_iff_mem.mp h
theorem ofJ_not {vs : List Nat} {j : Nat} (h : j ∉ vs) : ofJ vs j = false := by
  cases q : ofJ vs j with
  | false => rfl
  | true => exact absurd (ofJ_mem q) h
section
variable {K : PySem.W.Frag} {z : Z} {ρ : Env} {σ : L2.St} {F H : Hp} {O O' : Nat → List Addr}
theorem Rel.wipe (R : Rel K z ρ σ F H O) (vs : List Nat) : Rel K z (wipeE ρ vs) (L2.wipe σ vs) F H O :=
  R.weak (by rw [wipeE_length, wipe_length, R.len]) fun i e h => by
    obtain ⟨h1, h2⟩ := wipeE_some h
    exact ⟨h1, wipe_out h2⟩
theorem Rel.unwipe {vs : List Nat} (R : Rel K z (wipeE ρ vs) (L2.wipe σ vs) F H O) : Rel K z (wipeE ρ vs) σ F H O :=
  R.weak (by
    have := R.len
    rw [wipe_length] at this
    exact this) fun i e h => ⟨h, (wipe_out (wipeE_some h).2).symm⟩
/-- the target's slots forgotten, the addresses as before -/
theorem Rel.back {vs : List Nat} (R : Rel K z ρ σ F H O') (ho : ∀ i, i ∉ vs → O' i = O i) (hf : ∀ i a, a ∈ O i → F a = none ∧ H a ≠ none) (ha : ∀ i j a, a ∈ O i → a ∈ O j → i = j) : Rel K z (wipeE ρ vs) (L2.wipe σ vs) F H O where
  len := by rw [wipeE_length, wipe_length, R.len]
  sub := R.sub
  ent := fun i e h => by
    obtain ⟨h1, h2⟩ := wipeE_some h
    obtain ⟨v, h3, h4⟩ := R.ent i e h1
    rw [ho i h2] at h4
    exact ⟨v, (wipe_out h2).trans h3, h4⟩
  off := hf
  apt := ha
  old := R.old
  oldH := R.oldH
  keep := R.keep
  f0 := R.f0
  tup := R.tup
theorem Kp.wide {F H F' H' : Hp} {O O' : Nat → List Addr} (k : Kp F H F' H' O') (h : ∀ i a, a ∈ O' i → a ∈ O i) : Kp F H F' H' O :=
  ⟨k.same, fun a o e n => k.keep a o e fun i hi => n i (h i a hi), k.out, k.dom⟩
end
def bYes : Env → Option Bool := fun _ => some true
def bYesR : Env → Option (Bool × Env) := fun ρ => some (true, ρ)
section
variable {X : Cx} {z : Z}
theorem _root_.L2.PTs.mono {es : List Expr} {t t' : TT} (h : PTs X es t) (i : ∀ σ H Q, t' σ H Q → t σ H Q) : PTs X es t' := ⟨fun pins s σ H Q I q => h.run pins s σ H Q I (i _ _ _ q)⟩
theorem t_nil : PTs X [] (tB X.K z bYes) := pts_nil.mono fun σ H Q ⟨ρ, F, O, b, R, e, q⟩ => by
  cases e
  exact q H (Same.refl _)
theorem t_one {c : Expr} {t : Env → Option Bool} (h : PT X c (tB X.K z t)) : PTs X [c] (tB X.K z t) := pts_one h
theorem t_nilR : PTs X [] (tBR X.K z bYesR) := pts_nil.mono fun σ H Q ⟨ρ, F, O, b, ρ', R, e, q⟩ => by
  cases e
  exact q F H R .refl
end
def lcD (ρ0 : Env) (b : D → Env → Option Env) (t : Env → Option Bool) (f : Env → Option D) : List D → Option (List D)
  | [] => some []
  | d :: r => (b d ρ0).bind fun ρ1 => (t ρ1).bind fun k => if k = true then (f ρ1).bind fun e => (lcD ρ0 b t f r).bind fun es => some (e :: es) else lcD ρ0 b t f r
def cLc (vs : List Nat) (it : Env → Option (List D)) (b : D → Env → Option Env) (t : Env → Option Bool) (f : Env → Option D) : Env → Option D := fun ρ => (it ρ).bind fun ds => (lcD (wipeE ρ vs) b t f ds).bind fun es => if es.length ≤ 1000 then some (.list es) else none
theorem ext_step {F F2 H Hc H' : Hp} (i : Same F2 (ext F H Hc)) (s : Same H Hc) (s2 : Same Hc H') : Same (ext F2 Hc H') (ext F H H') := fun a o e => by
  unfold ext at e ⊢
  cases q : Hc a with
  | some u =>
    simp [q] at e
    have e2 := i a o e
    unfold ext at e2
    cases q2 : H a with
    | some w => simpa [q2] using e2
    | none =>
      simp [q2] at e2
      simpa using s2 a o e2
  | none =>
    simp [q] at e
    cases q2 : H a with
    | some w =>
      have := s a w q2
      rw [q] at this
      cases this
    | none => simpa using e
theorem ext_put {F F2 H Hc : Hp} {D : Addr} {o : HO} (i : Same F2 (ext F H Hc)) (hD : F2 D = none) : Same F2 (ext F H (upd Hc D o)) := fun a u e => by
  have n : a ≠ D := fun q => by
    rw [q, hD] at e
    cases e
  have := i a u e
  unfold ext at this ⊢
  rw [upd_ne n]
  exact this
theorem ext_none {F2 Hc H' : Hp} {D : Addr} {o : HO} (h : F2 D = none) (hc : Hc D = some o) : ext F2 Hc H' D = none := by
  unfold ext
  simp [hc, h]
theorem lc_in {K : PySem.W.Frag} {z : Z} {vs : List Nat} {it : Env → Option (List D)} {b : D → Env → Option Env} {t : Env → Option Bool} {f : Env → Option D} {σ : L2.St} {H : Hp} {Q : VK} (h : tP K z (cLc vs it b t f) σ H Q) :
    tLc (tIP K z it) (tG K z (ofJ vs) b) (tB K z t) (tP K z f) vs σ H Q := by
  obtain ⟨ρ, F, O, d, R, e, q⟩ := h
  obtain ⟨ds, h1, e⟩ := bind_some e
  obtain ⟨es, h2, e⟩ := bind_some e
  split at e
  · next hl =>
    cases e
    refine ⟨ρ, F, O, ds, R, h1, fun J H1 s1 y D hD => ?_⟩
    have R1 := (R.grow s1).wipe vs
    have hD0 : H D = none := by
      cases q2 : H D with
      | none => rfl
      | some o =>
        rw [s1 _ _ q2] at hD
        cases hD
    have hDO : ∀ i, D ∉ O i := fun i hi => (R.off i D hi).2 hD0
    have hDz := H0_of R hD0
    have hDF : ext F H H1 D = none := (R.grow s1).sub.free hD
    refine ⟨fun i m Hc => m = ds.length - i ∧ i ≤ ds.length ∧ ∃ F2 acc vacc rest, Rel K z (wipeE ρ vs) (wipe σ vs) F2 Hc O ∧ Same (ext F H H1) F2 ∧ Same F2 (ext F H Hc) ∧ Same H1 Hc ∧ F2 D = none ∧ Hc D = some (.lst vacc) ∧ RepL K F2 vacc acc ∧ lcD (wipeE ρ vs) b t f (ds.drop i) = some rest ∧ acc ++ rest = es,
      ⟨ds.length, by simp, Nat.zero_le _, _, [], [], es, R1.other hDF hDO hDz, Same.refl _, ext_put (Same.refl _) hDF, same_new hD, hDF, upd_same, .nil, h2, rfl⟩, ?_⟩
    rintro i m Hc ⟨rfl, hi, F2, acc, vacc, rest, R2, sF, sE, sH, hF2, hDc, ra, hr, hes⟩
    by_cases hlt : i < ds.length
    · have ed : ds.drop i = ds[i] :: ds.drop (i + 1) := by rw [List.drop_eq_getElem_cons hlt]
      rw [ed] at hr
      obtain ⟨ρ3, e3, hr⟩ := bind_some hr
      obtain ⟨k, e4, hr⟩ := bind_some hr
      have sY : Same (ext F H H1) Hc := sF.trans R2.sub
      refine .inr ⟨y.go i Hc sY hlt, fun Hc => ∃ F2 acc vacc rest, Rel K z (wipeE ρ vs) (wipe σ vs) F2 Hc O ∧ Same (ext F H H1) F2 ∧ Same F2 (ext F H Hc) ∧ Same H1 Hc ∧ F2 D = none ∧ Hc D = some (.lst vacc) ∧ RepL K F2 vacc acc ∧ lcD (wipeE ρ vs) b t f (ds.drop (i + 1)) = some rest ∧ acc ++ rest = es, fun H' n => ⟨ds.length - (i + 1), by omega, rfl, by omega, n⟩, fun x H' yx => ?_⟩
      obtain ⟨sx, rx⟩ := y.yld i F2 Hc x H' _ sF R2.sub R2.tup yx (List.getElem?_eq_getElem hlt)
      have R3 := R2.grow sx
      refine ⟨_, _, O, _, ρ3, R3, rx, e3, fun σ5 O5 R5 st => ⟨?_, ?_⟩⟩
      · rw [st.wp vs fun j hj => ofJ_mem hj, wipe_idem]
      refine ⟨ρ3, _, O5, k, R5, e4, fun H6 s6 => ?_⟩
      have sH0 : Same H Hc := s1.trans sH
      cases k with
      | true =>
        rw [if_pos rfl] at hr
        obtain ⟨ev, e5, hr⟩ := bind_some hr
        obtain ⟨rest', e6, hr⟩ := bind_some hr
        cases hr
        refine ⟨ρ3, _, O5, ev, R5.grow s6, e5, fun yv H7 s7 r7 => ?_⟩
        have s67 := s6.trans s7
        have sx7 := sx.trans s67
        rw [ext_ext s6 s7, ext_ext sx s67] at r7
        have R7 := R2.grow sx7
        have hF7 : ext F2 Hc H7 D = none := ext_none hF2 hDc
        have e7 : H7 D = some (.lst vacc) := sx7 _ _ hDc
        have ra' : RepL K (ext F2 Hc H7) vacc acc := ra.mono (same_ext R2.sub)
        refine ⟨vacc, e7, ?_, ext F2 Hc H7, acc ++ [ev], vacc ++ [yv], rest', R7.other hF7 hDO hDz, sF.trans (same_ext R2.sub), ext_put (ext_step sE sH0 sx7) hF7, ?_, hF7, upd_same, ra'.append (.cons r7 .nil), e6, by rw [List.append_assoc]; exact hes⟩
        · have l1 := ra.length
          have l2 : acc.length ≤ es.length := by rw [← hes, List.length_append]; omega
          have := small1000 hl
          omega
        · intro a o ea
          have n : a ≠ D := fun q => by
            rw [q, hD] at ea
            cases ea
          rw [upd_ne n]
          exact sx7 _ _ (sH _ _ ea)
      | false =>
        rw [if_neg Bool.false_ne_true] at hr
        have sx6 := sx.trans s6
        exact ⟨ext F2 Hc H6, acc, vacc, rest, R2.grow sx6, sF.trans (same_ext R2.sub), ext_step sE sH0 sx6, sH.trans sx6, ext_none hF2 hDc, sx6 _ _ hDc, ra.mono (same_ext R2.sub), hr, hes⟩
    · have ei : i = ds.length := by omega
      subst ei
      rw [List.drop_length] at hr
      cases hr
      rw [List.append_nil] at hes
      subst hes
      refine .inl ⟨y.stop _ Hc (sF.trans R2.sub) rfl, q _ Hc (s1.trans sH) (.lst (.of ?_) (ra.mono sE))⟩
      unfold ext
      simp [hD0, hDc]
  · cases e
def lcR (vs : List Nat) (b : D → Env → Option Env) (t : Env → Option (Bool × Env)) (f : Env → Option (D × Env)) : List D → Env → Option (List D × Env)
  | [], ρ => some ([], wipeE ρ vs)
  | d :: r, ρ => (b d (wipeE ρ vs)).bind fun ρ1 => (t ρ1).bind fun p => if p.1 = true then (f p.2).bind fun q => (lcR vs b t f r q.2).bind fun w => some (q.1 :: w.1, w.2) else lcR vs b t f r p.2
def few2 (p : List D × Env) : Option (List D × Env) := if p.1.length ≤ 1000 then some p else none
def rLc (vs : List Nat) (it : Env → Option (List D × Env)) (b : D → Env → Option Env) (t : Env → Option (Bool × Env)) (f : Env → Option (D × Env)) : Env → Option (List D × Env) := fun ρ => (it ρ).bind fun p => (lcR vs b t f p.1 p.2).bind few2
def wLc (vs : List Nat) (it : Env → Option (List D × Env)) (b : D → Env → Option Env) (t : Env → Option (Bool × Env)) (f : Env → Option (D × Env)) : Env → Option (E × Env) := fun ρ => (rLc vs it b t f ρ).map fun p => (.own (.list p.1), p.2)
theorem lcR_in {K : PySem.W.Frag} {z : Z} {vs : List Nat} {it : Env → Option (List D × Env)} {b : D → Env → Option Env} {t : Env → Option (Bool × Env)} {f : Env → Option (D × Env)} {σ : L2.St} {H : Hp} {Q : VK} {ρ : Env} {F : Hp} {O : Nat → List Addr} {es : List D} {ρe : Env}
    (R : Rel K z ρ σ F H O) (e : rLc vs it b t f ρ = some (es, ρe)) (q : ∀ D F' H' vacc, Rel K z ρe σ F' H' O → Kp F H F' H' O → H D = none → F' D = none → H' D = some (.lst vacc) → RepL K F' vacc es → Q (.ref D) H') :
    tLc (tIR K z it) (tG K z (ofJ vs) b) (tBR K z t) (tR K z f) vs σ H Q := by
  obtain ⟨⟨ds, ρ1⟩, h1, e⟩ := bind_some e
  obtain ⟨⟨es', ρe'⟩, h2, e⟩ := bind_some e
  unfold few2 at e
  split at e
  · next hl =>
    cases e
    dsimp only at h2 hl
    refine ⟨ρ, F, O, ds, ρ1, R, h1, fun J F1 H1 R1 k1 y D hD => ?_⟩
    have hD0 : H D = none := k1.none_back hD
    have hDO : ∀ i, D ∉ O i := fun i hi => (R.off i D hi).2 hD0
    have hDz := H0_of R hD0
    have hDF : F1 D = none := R1.sub.free hD
    have kD : Kp F1 H1 F1 (upd H1 D (.lst [])) O := newW_kp R1.sub hD
    have off : ∀ {F2 H2 : Hp}, Kp F1 H1 F2 H2 O → ∀ i a, a ∈ O i → F2 a = none ∧ H2 a ≠ none := fun k i a ha => ⟨k.out a (R1.off i a ha).2 (R1.off i a ha).1, k.dom a (R1.off i a ha).2⟩
    have kput : ∀ {F2 Hc : Hp} {o : HO}, Kp F1 H1 F2 Hc O → Kp F1 H1 F2 (upd Hc D o) O := fun {F2 Hc o} k => ⟨k.same, fun a o' ea n => by
      have nD : a ≠ D := fun q => by
        rw [q, hD] at ea
        cases ea
      rw [upd_ne nD]
      exact k.keep a o' ea n, k.out, fun a ea => by
      have nD : a ≠ D := fun q => ea (by rw [q]; exact hD)
      rw [upd_ne nD]
      exact k.dom a ea⟩
    refine ⟨fun i m Hc => m = ds.length - i ∧ i ≤ ds.length ∧ ∃ ρc F2 acc vacc rest, Rel K z (wipeE ρc vs) (wipe σ vs) F2 Hc O ∧ Kp F1 H1 F2 Hc O ∧ F2 D = none ∧ Hc D = some (.lst vacc) ∧ RepL K F2 vacc acc ∧ lcR vs b t f (ds.drop i) ρc = some (rest, ρe) ∧ acc ++ rest = es,
      ⟨ds.length, by simp, Nat.zero_le _, ρ1, F1, [], [], es, (R1.wipe vs).other hDF hDO hDz, kD, hDF, upd_same, .nil, h2, rfl⟩, ?_⟩
    rintro i m Hc ⟨rfl, hi, ρc, F2, acc, vacc, rest, R2, k2, hF2, hDc, ra, hr, hes⟩
    by_cases hlt : i < ds.length
    · have ed : ds.drop i = ds[i] :: ds.drop (i + 1) := by rw [List.drop_eq_getElem_cons hlt]
      rw [ed] at hr
      obtain ⟨ρ3, e3, hr⟩ := bind_some hr
      obtain ⟨⟨k, ρ4⟩, e4, hr⟩ := bind_some hr
      have sY : Same F1 Hc := k2.same.trans R2.sub
      refine .inr ⟨y.go i Hc sY hlt, fun Hc => ∃ ρc F2 acc vacc rest, Rel K z (wipeE ρc vs) (wipe σ vs) F2 Hc O ∧ Kp F1 H1 F2 Hc O ∧ F2 D = none ∧ Hc D = some (.lst vacc) ∧ RepL K F2 vacc acc ∧ lcR vs b t f (ds.drop (i + 1)) ρc = some (rest, ρe) ∧ acc ++ rest = es, fun H' n => ⟨ds.length - (i + 1), by omega, rfl, by omega, n⟩, fun x H' yx => ?_⟩
      obtain ⟨sx, rx⟩ := y.yld i F2 Hc x H' _ k2.same R2.sub R2.tup yx (List.getElem?_eq_getElem hlt)
      have R3 := R2.grow sx
      have k3 : Kp F1 H1 (ext F2 Hc H') H' O := k2.trans (.of_same R2.sub sx)
      have hF3 : ext F2 Hc H' D = none := ext_none hF2 hDc
      have ra3 : RepL K (ext F2 Hc H') vacc acc := ra.mono (same_ext R2.sub)
      have hD3 : H' D = some (.lst vacc) := sx _ _ hDc
      refine ⟨_, _, O, _, ρ3, R3, rx, e3, fun σ5 O5 R5 st => ?_⟩
      have ew : wipe σ5 vs = wipe σ vs := by rw [st.wp vs fun j hj => ofJ_mem hj, wipe_idem]
      refine ⟨ew, ρ3, _, O5, k, ρ4, R5, e4, fun F6 H6 R6 k6 => ?_⟩
      have k6' := k6.wide st.sub
      have hD6 : H6 D = some (.lst vacc) := k6'.keep _ _ hD3 hDO
      have hF6 : F6 D = none := k6.out D (ne_none hD3) hF3
      have k36 := k3.trans k6'
      cases k with
      | true =>
        rw [if_pos rfl] at hr
        obtain ⟨⟨ev, ρ7⟩, e5, hr⟩ := bind_some hr
        obtain ⟨⟨rest', ρ8⟩, e6, hr⟩ := bind_some hr
        cases hr
        refine ⟨ρ4, _, O5, ev, ρ7, R6, e5, fun yv F7 H7 R7 k7 r7 => ?_⟩
        have k7' := k7.wide st.sub
        have hD7 : H7 D = some (.lst vacc) := k7'.keep _ _ hD6 hDO
        have hF7 : F7 D = none := k7.out D (ne_none hD6) hF6
        have kk := k36.trans k7'
        have R7' := R7.back (vs := vs) (O := O) (fun i hi => st.oo i (ofJ_not hi)) (off kk) R1.apt
        rw [ew] at R7'
        refine ⟨vacc, hD7, ?_, ρ7, F7, acc ++ [ev], vacc ++ [yv], rest', R7'.other hF7 hDO hDz, kput kk, hF7, upd_same, ((ra3.mono k6.same).mono k7.same).append (.cons r7 .nil), e6, by rw [List.append_assoc]; exact hes⟩
        have l1 := ra.length
        have l2 : acc.length ≤ es.length := by rw [← hes, List.length_append]; omega
        have := small1000 hl
        omega
      | false =>
        rw [if_neg Bool.false_ne_true] at hr
        have R6' := R6.back (vs := vs) (O := O) (fun i hi => st.oo i (ofJ_not hi)) (off k36) R1.apt
        rw [ew] at R6'
        exact ⟨ρ4, F6, acc, vacc, rest, R6', k36, hF6, hD6, ra3.mono k6.same, hr, hes⟩
    · have ei : i = ds.length := by omega
      subst ei
      rw [List.drop_length] at hr
      cases hr
      rw [List.append_nil] at hes
      subst hes
      exact .inl ⟨y.stop _ Hc (k2.same.trans R2.sub) rfl, q D F2 Hc vacc R2.unwipe (k1.trans k2) hD0 hF2 hDc ra⟩
  · cases e
theorem lcR_own {K : PySem.W.Frag} {z : Z} {vs : List Nat} {it : Env → Option (List D × Env)} {b : D → Env → Option Env} {t : Env → Option (Bool × Env)} {f : Env → Option (D × Env)} {σ : L2.St} {H : Hp} {Q : VK} (h : tW K z (wLc vs it b t f) σ H Q) : tLc (tIR K z it) (tG K z (ofJ vs) b) (tBR K z t) (tR K z f) vs σ H Q := by
  obtain ⟨ρ, F, O, en, ρ', R, e, q⟩ := h
  obtain ⟨⟨es, ρe⟩, h1, h2⟩ := map_some e
  cases h2
  refine lcR_in R h1 fun D F' H' vacc R' k hD hF hD' r => ?_
  refine q _ F' H' [D] R' k ⟨D, rfl, rfl, H0_of R hD, vacc, hD', r⟩ fun a ha => ?_
  rcases List.mem_cons.mp ha with e | e
  · subst e
    exact ⟨hD, hF, ne_none hD'⟩
  · cases e
end DL
namespace DL
open PySem PySem.Spec PyProof.Rows L2
section
variable {X : Cx} {z : Z} {elt tg iter : Expr} {ifs : List Expr} {scope : Scope} {own : List (Str × Nat)} {pos : Pos} {b : D → Env → Option Env}
abbrev blkE (X : Cx) (scope : Scope) (s : Shared) (H : Hp) (C : Addr) (cl : List (Str × Addr)) (fp : List Addr) : Cx := X.blk s H scope (compEnvC scope cl C X.env) fp
theorem tP_of_lf {K : PySem.W.Frag} {f : Env → Option D} {σ : L2.St} {H : Hp} {Q : VK} (h : tR K z (lf f) σ H Q) : tP K z f σ H Q := by
  obtain ⟨ρ, F, O, d, ρ', R, e, q⟩ := h
  obtain ⟨a, h1, h2⟩ := map_some e
  cases h2
  exact ⟨ρ, F, O, _, R, h1, fun v H' s r => q v _ H' (R.grow s) (.of_same R.sub s) r⟩
theorem asg_val {K : PySem.W.Frag} {i : Nat} {f : Env → Option (D × Env)} {D : Ends} {σ : L2.St} {H : Hp} (h : tS K z (gAsg f (bNm i)) D σ H) : tR K z f σ H fun x H1 => D.nx (σ.set i (some x)) H1 := by
  obtain ⟨ρ, F, O, fl, ρ', R, e, q⟩ := h
  obtain ⟨⟨d, ρ1⟩, h1, h2⟩ := bind_some e
  cases h2
  exact ⟨ρ, F, O, d, ρ1, R, h1, fun v F' H' R' k r => q _ _ _ _ (R'.setD r) k.same⟩
theorem setW_val {K : PySem.W.Frag} {i : Nat} {f : Env → Option (E × Env)} {D : Ends} {σ : L2.St} {H : Hp} (h : tS K z (gSetW i f) D σ H) : tW K z f σ H fun x H1 => D.nx (σ.set i (some x)) H1 := by
  obtain ⟨ρ, F, O, fl, ρ', R, e, q⟩ := h
  obtain ⟨⟨d, ρ1⟩, h1, h2⟩ := map_some e
  cases h2
  exact ⟨ρ, F, O, d, ρ1, R, h1, fun v F' H' as R' k r hf => q _ _ _ _ (setE_new (fun i a ha => (R.off i a ha).2) R' r hf) k.same⟩
theorem q_lc {it : Env → Option (List D)} {t : Env → Option Bool} {f : Env → Option D} (hc : X.calm = true) (hN : X.N.Nodup) (ok : BlkOk X.N X.env.scope scope own) (hi : PI X tg iter (tIP X.K z it))
    (hg : ∀ s H C cl fp, PG (blkE X scope s H C cl fp) tg (tG X.K z (ofJ (own.map (·.2))) b)) (ht : ∀ s H C cl fp, PTs (blkE X scope s H C cl fp) ifs (tB X.K z t))
    (he : ∀ s H C cl fp, PE (blkE X scope s H C cl fp) elt (tP X.K z f)) (hs : ∀ x, foldedSetIterable iter X.env x = pure x := by intro _; rfl) :
    PE X (.ListComp elt [⟨tg, iter, ifs, 0⟩] scope pos) (tP X.K z (cLc (own.map (·.2)) it b t f)) := (pe_lc hc hN hi ok hg ht he hs).mono fun _ _ _ h => lc_in h
theorem w_lc {it : Env → Option (List D × Env)} {t : Env → Option (Bool × Env)} {f : Env → Option (D × Env)} (hc : X.calm = true) (hN : X.N.Nodup) (ok : BlkOk X.N X.env.scope scope own) (hi : PI X tg iter (tIR X.K z it))
    (hg : ∀ s H C cl fp, PG (blkE X scope s H C cl fp) tg (tG X.K z (ofJ (own.map (·.2))) b)) (ht : ∀ s H C cl fp, PTs (blkE X scope s H C cl fp) ifs (tBR X.K z t))
    (he : ∀ s H C cl fp, PE (blkE X scope s H C cl fp) elt (tR X.K z f)) (hs : ∀ x, foldedSetIterable iter X.env x = pure x := by intro _; rfl) :
    PE X (.ListComp elt [⟨tg, iter, ifs, 0⟩] scope pos) (tW X.K z (wLc (own.map (·.2)) it b t f)) := (pe_lc hc hN hi ok hg ht he hs).mono fun _ _ _ h => lcR_own h
theorem s_lc (i : Nat) {y : Str} {py spos : Pos} {it : Env → Option (List D)} {t : Env → Option Bool} {f : Env → Option D} (hc : X.calm = true) (hN : X.N.Nodup) (ok : BlkOk X.N X.env.scope scope own)
    (hsw : swapsWith (.ListComp elt [⟨tg, iter, ifs, 0⟩] scope pos) (some (.Name y py)) spos.line X.env = pure true) (hi : PI X tg iter (tIP X.K z it))
    (hg : ∀ s H C cl fp, PG (blkE X scope s H C cl fp) tg (tG X.K z (ofJ (own.map (·.2))) b)) (ht : ∀ s H C cl fp, PTs (blkE X scope s H C cl fp) ifs (tB X.K z t))
    (he : ∀ s H C cl fp, PE (blkE X scope s H C cl fp) elt (tP X.K z f)) (hy : X.N[i]? = some y := by rfl) (hyl : X.env.scope.names.lookup y = some .local := by rfl) (hs : ∀ x, foldedSetIterable iter X.env x = pure x := by intro _; rfl) :
    PS X (.Assign [.Name y py] (.ListComp elt [⟨tg, iter, ifs, 0⟩] scope pos) spos) (tS X.K z (gAsg (lf (cLc (own.map (·.2)) it b t f)) (bNm i))) := (ps_setLc hc hN hy hyl hsw hi ok hg ht he hs).mono fun _ _ _ h => lc_in (tP_of_lf (asg_val h))
theorem s_lcW (i : Nat) {y : Str} {py spos : Pos} {it : Env → Option (List D × Env)} {t : Env → Option (Bool × Env)} {f : Env → Option (D × Env)} (hc : X.calm = true) (hN : X.N.Nodup) (ok : BlkOk X.N X.env.scope scope own)
    (hsw : swapsWith (.ListComp elt [⟨tg, iter, ifs, 0⟩] scope pos) (some (.Name y py)) spos.line X.env = pure true) (hi : PI X tg iter (tIR X.K z it))
    (hg : ∀ s H C cl fp, PG (blkE X scope s H C cl fp) tg (tG X.K z (ofJ (own.map (·.2))) b)) (ht : ∀ s H C cl fp, PTs (blkE X scope s H C cl fp) ifs (tBR X.K z t))
    (he : ∀ s H C cl fp, PE (blkE X scope s H C cl fp) elt (tR X.K z f)) (hy : X.N[i]? = some y := by rfl) (hyl : X.env.scope.names.lookup y = some .local := by rfl) (hs : ∀ x, foldedSetIterable iter X.env x = pure x := by intro _; rfl) :
    PS X (.Assign [.Name y py] (.ListComp elt [⟨tg, iter, ifs, 0⟩] scope pos) spos) (tS X.K z (gSetW i (wLc (own.map (·.2)) it b t f))) := (ps_setLc hc hN hy hyl hsw hi ok hg ht he hs).mono fun _ _ _ h => lcR_own (setW_val h)
end
def lcW2 (vs : List Nat) (b : D → Env → Option Env) (f : Env → Option (E × Env)) : List D → Env → Option (List D × Env)
  | [], ρ => some ([], wipeE ρ vs)
  | d :: r, ρ => (b d (wipeE ρ vs)).bind fun ρ1 => (f ρ1).bind fun p => match p.1 with
    | .own e => (lcW2 vs b f r p.2).bind fun w => some (e :: w.1, w.2)
    | _ => none
def wLc2 (vs : List Nat) (it : Env → Option (List D × Env)) (b : D → Env → Option Env) (f : Env → Option (E × Env)) : Env → Option (E × Env) := fun ρ => (it ρ).bind fun p => (lcW2 vs b f p.1 p.2).bind fun q => if q.1.length ≤ 1000 then some (.own2 (.list q.1), q.2) else none
theorem Objs.append {K : PySem.W.Frag} {F H : Hp} {p : Addr} {d : D} (h : Obj1 K F H p d) : ∀ {ps : List Addr} {ds : List D}, Objs K F H ps ds → Objs K F H (ps ++ [p]) (ds ++ [d])
  | _, _, .nil => .cons h .nil
  | _, _, .cons h' t => .cons h' (Objs.append h t)
theorem lcW2_in {K : PySem.W.Frag} {z : Z} {vs : List Nat} {it : Env → Option (List D × Env)} {b : D → Env → Option Env} {f : Env → Option (E × Env)} {σ : L2.St} {H : Hp} {Q : VK} (h : tW K z (wLc2 vs it b f) σ H Q) :
    tLc (tIR K z it) (tG K z (ofJ vs) b) (tBR K z bYesR) (tW K z f) vs σ H Q := by
  obtain ⟨ρ, F, O, en, ρz, R, e, q⟩ := h
  obtain ⟨⟨ds, ρ1⟩, h1, e⟩ := bind_some e
  obtain ⟨⟨es, ρe⟩, h2, e⟩ := bind_some e
  split at e
  · next hl =>
    cases e
    dsimp only at h2 hl
    refine ⟨ρ, F, O, ds, ρ1, R, h1, fun J F1 H1 R1 k1 y D hD => ?_⟩
    have hD0 : H D = none := k1.none_back hD
    have hDO : ∀ i, D ∉ O i := fun i hi => (R.off i D hi).2 hD0
    have hDz := H0_of R hD0
    have hDF : F1 D = none := R1.sub.free hD
    have kD : Kp F1 H1 F1 (upd H1 D (.lst [])) O := newW_kp R1.sub hD
    have off : ∀ {F2 H2 : Hp}, Kp F1 H1 F2 H2 O → ∀ i a, a ∈ O i → F2 a = none ∧ H2 a ≠ none := fun k i a ha => ⟨k.out a (R1.off i a ha).2 (R1.off i a ha).1, k.dom a (R1.off i a ha).2⟩
    have kput : ∀ {F2 Hc : Hp} {o : HO}, Kp F1 H1 F2 Hc O → Kp F1 H1 F2 (upd Hc D o) O := fun {F2 Hc o} k => ⟨k.same, fun a o' ea n => by
      have nD : a ≠ D := fun q => by
        rw [q, hD] at ea
        cases ea
      rw [upd_ne nD]
      exact k.keep a o' ea n, k.out, fun a ea => by
      have nD : a ≠ D := fun q => ea (by rw [q]; exact hD)
      rw [upd_ne nD]
      exact k.dom a ea⟩
    refine ⟨fun i m Hc => m = ds.length - i ∧ i ≤ ds.length ∧ ∃ ρc F2 acc qs rest, Rel K z (wipeE ρc vs) (wipe σ vs) F2 Hc O ∧ Kp F1 H1 F2 Hc O ∧ F2 D = none ∧ Hc D = some (.lst (qs.map V.ref)) ∧ Objs K F2 Hc qs acc ∧ (D :: qs).Nodup ∧ (∀ a ∈ qs, H1 a = none ∧ F2 a = none) ∧ lcW2 vs b f (ds.drop i) ρc = some (rest, ρe) ∧ acc ++ rest = es,
      ⟨ds.length, by simp, Nat.zero_le _, ρ1, F1, [], [], es, (R1.wipe vs).other hDF hDO hDz, kD, hDF, upd_same, .nil, by simp, (fun a ha => by cases ha), h2, rfl⟩, ?_⟩
    rintro i m Hc ⟨rfl, hi, ρc, F2, acc, qs, rest, R2, k2, hF2, hDc, ra, hn, hq, hr, hes⟩
    have notO : ∀ a ∈ qs, ∀ i, a ∉ O i := fun a ha i hi => (R1.off i a hi).2 (hq a ha).1
    by_cases hlt : i < ds.length
    · have ed : ds.drop i = ds[i] :: ds.drop (i + 1) := by rw [List.drop_eq_getElem_cons hlt]
      rw [ed] at hr
      obtain ⟨ρ3, e3, hr⟩ := bind_some hr
      obtain ⟨⟨ev, ρ7⟩, e4, hr⟩ := bind_some hr
      have sY : Same F1 Hc := k2.same.trans R2.sub
      refine .inr ⟨y.go i Hc sY hlt, fun Hc => ∃ ρc F2 acc qs rest, Rel K z (wipeE ρc vs) (wipe σ vs) F2 Hc O ∧ Kp F1 H1 F2 Hc O ∧ F2 D = none ∧ Hc D = some (.lst (qs.map V.ref)) ∧ Objs K F2 Hc qs acc ∧ (D :: qs).Nodup ∧ (∀ a ∈ qs, H1 a = none ∧ F2 a = none) ∧ lcW2 vs b f (ds.drop (i + 1)) ρc = some (rest, ρe) ∧ acc ++ rest = es, fun H' n => ⟨ds.length - (i + 1), by omega, rfl, by omega, n⟩, fun x H' yx => ?_⟩
      obtain ⟨sx, rx⟩ := y.yld i F2 Hc x H' _ k2.same R2.sub R2.tup yx (List.getElem?_eq_getElem hlt)
      have R3 := R2.grow sx
      have k3 : Kp F1 H1 (ext F2 Hc H') H' O := k2.trans (.of_same R2.sub sx)
      have hF3 : ext F2 Hc H' D = none := ext_none hF2 hDc
      have hD3 : H' D = some (.lst (qs.map V.ref)) := sx _ _ hDc
      refine ⟨_, _, O, _, ρ3, R3, rx, e3, fun σ5 O5 R5 st => ?_⟩
      have ew : wipe σ5 vs = wipe σ vs := by rw [st.wp vs fun j hj => ofJ_mem hj, wipe_idem]
      refine ⟨ew, ρ3, _, O5, true, ρ3, R5, rfl, fun F6 H6 R6 k6 => ?_⟩
      have k6' := k6.wide st.sub
      refine ⟨ρ3, F6, O5, ev, ρ7, R6, e4, fun yv F7 H7 as R7 k7 ent fr => ?_⟩
      dsimp only at hr
      split at hr
      · next e7 =>
        obtain ⟨⟨rest', ρ8⟩, e6, hr⟩ := bind_some hr
        cases hr
        obtain ⟨p, ev1, ev2, ev3, ob⟩ := ent
        subst ev1 ev2
        have k7' := k7.wide st.sub
        have k37 := k6'.trans k7'
        have kk := k3.trans k37
        have hD7 : H7 D = some (.lst (qs.map V.ref)) := k37.keep _ _ hD3 hDO
        have hF7 : F7 D = none := k37.out D (ne_none hD3) hF3
        have R7' := R7.back (vs := vs) (O := O) (fun i hi => st.oo i (ofJ_not hi)) (off kk) R1.apt
        rw [ew] at R7'
        obtain ⟨fp1, fp2, fp3⟩ := fr p List.mem_cons_self
        have fp1' : H' p = none := k6.none_back fp1
        have fpc : Hc p = none := by
          cases q2 : Hc p with
          | none => rfl
          | some o =>
            rw [sx _ _ q2] at fp1'
            cases fp1'
        have fpH : H1 p = none := k2.none_back fpc
        have npD : p ≠ D := fun e => by
          rw [e, hDc] at fpc
          cases fpc
        have npq : p ∉ qs := fun hm => by
          obtain ⟨o, eo⟩ := ra.some p hm
          rw [eo] at fpc
          cases fpc
        have nDq : D ∉ qs := (List.nodup_cons.mp hn).1
        have keepq : ∀ a ∈ qs, upd H7 D (.lst ((qs ++ [p]).map V.ref)) a = Hc a := fun a ha => by
          rw [upd_ne (show a ≠ D from fun e => nDq (e ▸ ha))]
          obtain ⟨o, eo⟩ := ra.some a ha
          rw [eo]
          exact k37.keep a o (sx _ _ eo) (notO a ha)
        have emap : (qs.map V.ref ++ [V.ref p]) = (qs ++ [p]).map V.ref := by rw [List.map_append]; rfl
        refine ⟨_, hD7, ?_, ρ7, F7, acc ++ [e7], qs ++ [p], rest', ?_, kput kk, hF7, ?_, ?_, ?_, ?_, e6, by rw [List.append_assoc]; exact hes⟩
        · have l1 := ra.length
          have l2 : acc.length ≤ es.length := by rw [← hes, List.length_append]; omega
          have := small1000 hl
          rw [List.length_map]
          omega
        · exact R7'.other hF7 hDO hDz
        · rw [upd_same, emap]
        · rw [emap]
          exact Objs.append (ob.mono (Same.refl _) (upd_ne npD)) (ra.mono ((same_ext R2.sub).trans k37.same) keepq)
        · rw [← List.cons_append, List.nodup_append]
          refine ⟨hn, by simp, fun a ha b hb => ?_⟩
          rw [List.mem_singleton] at hb
          subst hb
          rcases List.mem_cons.mp ha with e | e
          · subst e
            exact npD.symm
          · exact fun q => npq (q ▸ e)
        · intro a ha
          rcases List.mem_append.mp ha with ha | ha
          · obtain ⟨u1, u2⟩ := hq a ha
            refine ⟨u1, ?_⟩
            obtain ⟨o, eo⟩ := ra.some a ha
            exact k37.out a (ne_none (sx _ _ eo)) (ext_none u2 eo)
          · rw [List.mem_singleton] at ha
            subst ha
            exact ⟨fpH, fp2⟩
      · cases hr
    · have ei : i = ds.length := by omega
      subst ei
      rw [List.drop_length] at hr
      cases hr
      rw [List.append_nil] at hes
      subst hes
      have h1H : ∀ a, H1 a = none → H a = none := fun a ha => k1.none_back ha
      refine .inl ⟨y.stop _ Hc (k2.same.trans R2.sub) rfl, q _ F2 Hc (D :: qs) R2.unwipe (k1.trans k2) ⟨D, qs, _, rfl, rfl, rfl, hDc, hn, fun a ha => ?_, ra⟩ fun a ha => ?_⟩
      · rcases List.mem_cons.mp ha with e | e
        · subst e
          exact hDz
        · exact H0_of R (h1H a (hq a e).1)
      · rcases List.mem_cons.mp ha with e | e
        · subst e
          exact ⟨hD0, hF2, ne_none hDc⟩
        · obtain ⟨o, eo⟩ := ra.some a e
          exact ⟨h1H a (hq a e).1, (hq a e).2, ne_none eo⟩
  · cases e
section
variable {X : Cx} {z : Z} {elt tg iter : Expr} {scope : Scope} {own : List (Str × Nat)} {pos : Pos} {b : D → Env → Option Env}
theorem s_lcW2 (i : Nat) {y : Str} {py spos : Pos} {it : Env → Option (List D × Env)} {f : Env → Option (E × Env)} (hc : X.calm = true) (hN : X.N.Nodup) (ok : BlkOk X.N X.env.scope scope own)
    (hsw : swapsWith (.ListComp elt [⟨tg, iter, [], 0⟩] scope pos) (some (.Name y py)) spos.line X.env = pure true) (hi : PI X tg iter (tIR X.K z it))
    (hg : ∀ s H C cl fp, PG (blkE X scope s H C cl fp) tg (tG X.K z (ofJ (own.map (·.2))) b))
    (he : ∀ s H C cl fp, PE (blkE X scope s H C cl fp) elt (tW X.K z f)) (hy : X.N[i]? = some y := by rfl) (hyl : X.env.scope.names.lookup y = some .local := by rfl) (hs : ∀ x, foldedSetIterable iter X.env x = pure x := by intro _; rfl) :
    PS X (.Assign [.Name y py] (.ListComp elt [⟨tg, iter, [], 0⟩] scope pos) spos) (tS X.K z (gSetW i (wLc2 (own.map (·.2)) it b f))) := (ps_setLc hc hN hy hyl hsw hi ok hg (fun _ _ _ _ _ => t_nilR) he hs).mono fun _ _ _ h => lcW2_in (setW_val h)
end
end DL
namespace DL
open PySem PySem.Spec PyProof.Rows L2
def spP (K : PySem.W.Frag) (m : List D → Option D) : Sp := fun vs H Q _ => ∃ F ds d, (Same F H ∧ AllT F H) ∧ RepL K F vs ds ∧ m ds = some d ∧ ∀ v H', Same H H' → Rep K (ext F H H') v d → Q v H'
/-- the first parameter a list that the def writes to -/
def spR (K : PySem.W.Frag) (m : List D → List D → Option (D × List D)) : Sp := fun vs H Q _ => ∃ F p ws ds vs' as d ds', vs = .ref p :: vs' ∧ (Same F H ∧ AllT F H) ∧ F p = none ∧ H p = some (.lst ws) ∧ RepL K F ws ds ∧ RepL K F vs' as ∧ m ds as = some (d, ds') ∧
  ∀ v H' ws', (∀ a o, a ≠ p → H a = some o → H' a = some o) → H' p = some (.lst ws') → RepL K (ext F H H') ws' ds' → Rep K (ext F H H') v d → Q v H'
def fin : Fl × Env → Option D
  | (.ret d, _) => some d
  | (.nx, _) => some .none
  | _ => none
def ini (N : Nat) (ds : List D) : Env := ds.map (fun d => some (.sh d)) ++ List.replicate (N - ds.length) none
def run (N n : Nat) (g : Gs) : List D → Option D := fun ds => if ds.length = n then (g (ini N ds)).bind fin else none
def rowL (e : Option (Option E)) : Option (List D) := match e with
  | some (some (.row (.list ds))) => some ds
  | _ => none
def runR (N n : Nat) (g : Gs) : List D → List D → Option (D × List D) := fun ds as => if as.length + 1 = n then (g (some (.row (.list ds)) :: ini (N - 1) as)).bind fun p => (fin p).bind fun d => (rowL p.2[0]?).bind fun ds' => some (d, ds') else none
section
variable {P : Program} {w : World} {K : PySem.W.Frag} {mg : Str → Option Value} {base : Heap}
theorem ini_get {N : Nat} {ds : List D} {i : Nat} {e : E} (h : (ini N ds)[i]? = some (some e)) : ∃ d, ds[i]? = some d ∧ e = .sh d := by
  unfold ini at h
  by_cases q : i < ds.length
  · rw [List.getElem?_append_left (by rw [List.length_map]; exact q), List.getElem?_map] at h
    obtain ⟨d, h1, h2⟩ := map_some h
    cases h2
    exact ⟨d, h1, rfl⟩
  · rw [List.getElem?_append_right (by rw [List.length_map]; omega), List.getElem?_replicate] at h
    split at h <;> cases h
theorem start_get {N : List Str} {vs : List V} {i : Nat} {v : V} (h : vs[i]? = some v) : (L2.start N vs)[i]? = some (some v) := by
  unfold L2.start
  have hl := (List.getElem?_eq_some_iff.mp h).1
  rw [List.getElem?_append_left (by rw [List.length_map]; exact hl), List.getElem?_map, h]
  rfl
theorem rel_start {N : List Str} {F H : Hp} {vs : List V} {ds : List D} (s : Same F H) (t : AllT F H) (r : RepL K F vs ds) : Rel K ⟨H, F, fun _ => False⟩ (ini N.length ds) (L2.start N vs) F H (fun _ => []) where
  len := by
    unfold ini L2.start
    rw [List.length_append, List.length_append, List.length_map, List.length_map, r.length, List.length_replicate, List.length_replicate]
  sub := s
  ent := fun i e h => by
    obtain ⟨d, h1, h2⟩ := ini_get h
    subst h2
    obtain ⟨v, h3, h4⟩ := r.get h1
    exact ⟨v, start_get h3, rfl, h4⟩
  off := fun i a ha => by cases ha
  apt := fun i j a ha => by cases ha
  old := fun a _ f => f
  oldH := fun a h => h
  keep := fun a o h _ => h
  f0 := Same.refl _
  tup := t
theorem end_sub {F H F' H' : Hp} {B : Addr → Prop} {ρ : Env} {σ : L2.St} {O : Nat → List Addr} (s : Same F H) (R : Rel K ⟨H, F, B⟩ ρ σ F' H' O) : Same F' (ext F H H') := fun a o e => by
  unfold ext
  cases q : H a with
  | none => simpa using R.sub a o e
  | some u =>
    cases q2 : F a with
    | none =>
      rw [R.old a (ne_none q) q2] at e
      cases e
    | some o2 =>
      have := R.f0 a o2 q2
      rw [e] at this
      cases this
      simp
theorem run_len {N n : Nat} {g : Gs} {ds : List D} {d : D} (h : run N n g ds = some d) : ds.length = n := by
  unfold run at h
  split at h
  · assumption
  · cases h
theorem ok_P {x qual : Str} {st : Stmt} {f : Addr} {fd : FuncData} {N ps : List Str} {k : Nat} {g : Gs} (F : Fun K x qual st f fd) (S : FnScope N ps (defScope st))
    (h : ∀ (cdv : Value) (A : Around) (outer : List PySem.Env) (s : Shared) (H : Hp) (E : XK) (z : Z), Room k (A.deeper (envOfC qual (defScope st) s.heap.objs.size f cdv)) → PSs (cxOf CX0 P w K mg base N qual (defScope st) f cdv A outer s H E).nox (defBody st) (tS K z g)) :
    FnOk P w K mg base CX0 (k + 1) f fd ps (spP K (run N.length ps.length g)) := by
  refine F.ok S (fun vs H Q E h => ?_) (fun cdv A outer s H vs Q E hr q => ?_)
  · obtain ⟨F, ds, d, _, r, e, _⟩ := h
    rw [r.length]
    exact run_len e
  · obtain ⟨F, ds, d, ⟨s0, t0⟩, r, e, q⟩ := q
    refine ⟨_, h cdv A outer s H E ⟨H, F, fun _ => False⟩ hr, ?_⟩
    unfold run at e
    split at e
    · obtain ⟨⟨fl, ρ'⟩, h1, h2⟩ := bind_some e
      refine ⟨_, F, _, fl, ρ', rel_start s0 t0 r, h1, ?_⟩
      cases fl with
      | nx =>
        cases h2
        exact fun σ F' H' O R s => q .non H' (fun a o h => R.keep a o h id) .non
      | bk => cases h2
      | ct => cases h2
      | ret d2 =>
        cases h2
        exact fun v σ F' H' O R s r => q v H' (fun a o h => R.keep a o h id) (r.mono (end_sub s0 R))
    · cases e
theorem rel_startR {N : List Str} {F H : Hp} {p : Addr} {ws vs : List V} {ds as : List D} (hN : 0 < N.length) (s : Same F H) (t : AllT F H) (hF : F p = none) (hp : H p = some (.lst ws)) (rw' : RepL K F ws ds) (r : RepL K F vs as) : Rel K ⟨H, F, fun a => a = p⟩ (some (.row (.list ds)) :: ini (N.length - 1) as) (L2.start N (.ref p :: vs)) F H (fun i => if i = 0 then [p] else []) where
  len := by
    unfold ini L2.start
    simp only [List.length_append, List.length_map, List.length_replicate, List.length_cons, r.length]
    omega
  sub := s
  ent := fun i e h => by
    cases i with
    | zero =>
      cases h
      exact ⟨.ref p, rfl, p, rfl, rfl, rfl, ws, hp, rw'⟩
    | succ i =>
      have h : (ini (N.length - 1) as)[i]? = some (some e) := h
      obtain ⟨d, h1, h2⟩ := ini_get h
      subst h2
      obtain ⟨v, h3, h4⟩ := r.get h1
      exact ⟨v, start_get (by simpa using h3), rfl, h4⟩
  off := fun i a ha => by
    split at ha
    · rcases List.mem_cons.mp ha with e | e
      · subst e
        exact ⟨hF, ne_none hp⟩
      · cases e
    · cases ha
  apt := fun i j a hi hj => by
    split at hi
    · split at hj
      · omega
      · cases hj
    · cases hi
  old := fun a _ f => f
  oldH := fun a h => h
  keep := fun a o h _ => h
  f0 := Same.refl _
  tup := t
theorem runR_len {N n : Nat} {g : Gs} {ds as : List D} {r : D × List D} (h : runR N n g ds as = some r) : as.length + 1 = n := by
  unfold runR at h
  split at h
  · assumption
  · cases h
theorem ok_R {x qual : Str} {st : Stmt} {f : Addr} {fd : FuncData} {N ps : List Str} {k : Nat} {g : Gs} (F : Fun K x qual st f fd) (S : FnScope N ps (defScope st)) (hN : 0 < N.length)
    (h : ∀ (cdv : Value) (A : Around) (outer : List PySem.Env) (s : Shared) (H : Hp) (E : XK) (z : Z), Room k (A.deeper (envOfC qual (defScope st) s.heap.objs.size f cdv)) → PSs (cxOf CX0 P w K mg base N qual (defScope st) f cdv A outer s H E).nox (defBody st) (tS K z g)) :
    FnOk P w K mg base CX0 (k + 1) f fd ps (spR K (runR N.length ps.length g)) := by
  refine F.ok S (fun vs H Q E h => ?_) (fun cdv A outer s H vs Q E hr q => ?_)
  · obtain ⟨F, p, ws, ds, vs', as, d, ds', e1, _, _, _, _, r, e, _⟩ := h
    rw [e1, List.length_cons, r.length]
    exact runR_len e
  · obtain ⟨F, p, ws, ds, vs', as, d, ds', e1, ⟨s0, t0⟩, hF, hp, rw', r, e, q⟩ := q
    subst e1
    refine ⟨_, h cdv A outer s H E ⟨H, F, fun a => a = p⟩ hr, ?_⟩
    unfold runR at e
    split at e
    · obtain ⟨⟨fl, ρ'⟩, h1, e⟩ := bind_some e
      obtain ⟨d', h2, e⟩ := bind_some e
      obtain ⟨ds2, h3, e⟩ := bind_some e
      cases e
      refine ⟨_, F, _, fl, ρ', rel_startR hN s0 t0 hF hp rw' r, h1, ?_⟩
      have go : ∀ {v : V} {σ : L2.St} {F' H' : Hp} {O : Nat → List Addr}, Rel K ⟨H, F, fun a => a = p⟩ ρ' σ F' H' O → Rep K F' v d → Q v H' := fun {v σ F' H' O} R rv => by
        dsimp only at h3
        unfold rowL at h3
        split at h3
        · next hi =>
          cases h3
          obtain ⟨v2, _, p2, _, _, e3, ws', h4, h5⟩ := R.ent 0 _ hi
          have e3 : p2 = p := e3
          subst e3
          exact q v H' ws' (fun a o n ha => R.keep a o ha n) h4 (h5.mono (end_sub s0 R)) (rv.mono (end_sub s0 R))
        · cases h3
      cases fl with
      | nx =>
        cases h2
        exact fun σ F' H' O R s => go R .non
      | bk => cases h2
      | ct => cases h2
      | ret d2 =>
        cases h2
        exact fun v σ F' H' O R s r => go R r
    · cases e
/-- a def that may be called by its name -/
structure Cal (P : Program) (w : World) (K : PySem.W.Frag) (mg : Str → Option Value) (base : Heap) (k : Nat) (x : Str) (sp : Sp) : Prop where
  ex : ∃ (f : Addr) (fd : FuncData) (ps : List Str), FnOk P w K mg base CX0 k f fd ps sp ∧ mg x = some (.ref f) ∧ PySem.W.keepIn K (.ref f) = true ∧ Binds K fd ps []
theorem Cal.mono {j k : Nat} {x : Str} {sp : Sp} (c : Cal P w K mg base j x sp) (h : j ≤ k) : Cal P w K mg base k x sp := by
  obtain ⟨f, fd, ps, F, h1, h2, h3⟩ := c.ex
  exact ⟨f, fd, ps, F.mono h, h1, h2, h3⟩
end
section
variable {X : Cx} {z : Z} {x : Str} {k j : Nat} {p pos : Pos} {e : Expr} {es : List Expr}
theorem q_call {m : List D → Option D} {f : Env → Option (List D)} (c : Cal X.prog X.w X.K X.mg X.base k x (spP X.K m)) (hr : Room j X.A) (hk : k ≤ j) (hg : Gl X x) (ha : PA X (e :: es) (tPs X.K z f))
    (hdb : (x == ("__debug__" : Str)) = false := by decide) (he : starEach (e :: es) X.env = (false, eval e X.env) :: starEach es X.env := by rfl) (hpl : (backTo pos (starEach es X.env)).any (·.1) = false := by rfl) : PE X (.Call (.Name x p) (e :: es) [] pos) (tP X.K z (cN m f)) := by
  obtain ⟨g, fd, ps, F, h1, h2, h3⟩ := c.ex
  refine (pe_call (dvs := []) F (hr.mono hk) hg h1 h2 h3 .nil pass0 ha hdb he hpl).mono fun σ H Q ⟨ρ, F, O, d, R, e, q⟩ => ?_
  obtain ⟨ds, h4, h5⟩ := bind_some e
  refine ⟨ρ, F, O, ds, R, h4, fun vs H1 s1 r => ?_⟩
  show spP X.K m (vs ++ []) H1 Q E0
  rw [List.append_nil]
  refine ⟨_, ds, d, ⟨(R.grow s1).sub, (R.grow s1).tup⟩, r, h5, fun v H2 s2 r2 => ?_⟩
  rw [ext_ext s1 s2] at r2
  exact q v H2 (s1.trans s2) r2
def rRow (i : Nat) (m : List D → List D → Option (D × List D)) (f : Env → Option (List D × Env)) : Env → Option (D × Env) := fun ρ => (ownL ρ[i]?).bind fun _ => (f ρ).bind fun p => (ownL p.2[i]?).bind fun ds => (m ds p.1).bind fun q => some (q.1, putL i q.2 p.2)
theorem Rel.rowed {K : PySem.W.Frag} {ρ : Env} {σ : L2.St} {F H H' : Hp} {O : Nat → List Addr} {i : Nat} {ds ds' : List D} {p : Addr} {ws' : List V} (R : Rel K z ρ σ F H O) (h : ownL ρ[i]? = some ds) (hp : σ[i]? = some (some (.ref p))) (hk : ∀ a o, a ≠ p → H a = some o → H' a = some o) (hp' : H' p = some (.lst ws')) (r : RepL K (ext F H H') ws' ds') :
    Rel K z (DL.putL i ds' ρ) σ (ext F H H') H' O ∧ Kp F H (ext F H H') H' O := by
  obtain ⟨p', vs, s1, s2, s3, s4, s5, s6⟩ := ownL_of R h
  rw [s1] at hp
  cases hp
  have hm : p ∈ O i := by rw [s2]; exact List.mem_cons_self
  have eH : ∃ H1 : Hp, H1 = fun a => if a = p then H p else H' a := ⟨_, rfl⟩
  obtain ⟨H1, e1⟩ := eH
  have s01 : Same H H1 := fun a o ha => by
    rw [e1]
    dsimp only
    split
    · next q => rw [← q]; exact ha
    · next q => exact hk a o q ha
  have eF : ext F H H1 = ext F H H' := by
    funext a
    unfold ext
    cases q : H a with
    | some o => simp
    | none =>
      have n : a ≠ p := fun e => by
        rw [e, s3] at q
        cases q
      simp [e1, n]
  have R1 := R.grow s01
  rw [eF] at R1
  have R2 := R1.putL h s1 r
  have e2 : upd H1 p (.lst ws') = H' := by
    funext a
    by_cases q : a = p
    · rw [q, upd_same, hp']
    · rw [upd_ne q, e1]
      dsimp only
      rw [if_neg q]
  rw [e2] at R2
  refine ⟨R2, ⟨same_ext R.sub, fun a o ha n => hk a o (fun q => n i (by rw [q]; exact hm)) ha, fun a ha hF => ?_, fun a ha => ?_⟩⟩
  · obtain ⟨o, q⟩ := some_of ha
    unfold ext
    simp [q, hF]
  · obtain ⟨o, q⟩ := some_of ha
    by_cases n : a = p
    · rw [n]
      exact ne_none hp'
    · exact ne_none (hk a o n q)
theorem r_row (i : Nat) {y : Str} {py : Pos} {m : List D → List D → Option (D × List D)} {f : Env → Option (List D × Env)} (c : Cal X.prog X.w X.K X.mg X.base k x (spR X.K m)) (hr : Room j X.A) (hk : k ≤ j) (hg : Gl X x) (ha : PA X es (tRs X.K z f)) (hN : X.N[i]? = some y := by rfl)
    (hv : Vis X.env.scope y := by first | exact Or.inl rfl | exact Or.inr (Or.inl rfl) | exact Or.inr (Or.inr rfl)) (hd : (y == ("__debug__" : Str)) = false := by decide) (hcd : (y == ("__classdict__" : Str)) = false := by decide)
    (hdb : (x == ("__debug__" : Str)) = false := by decide) (he : starEach (.Name y py :: es) X.env = (false, eval (.Name y py) X.env) :: starEach es X.env := by rfl) (hpl : (backTo pos (starEach es X.env)).any (·.1) = false := by rfl) : PE X (.Call (.Name x p) (.Name y py :: es) [] pos) (tR X.K z (rRow i m f)) := by
  obtain ⟨g, fd, ps, F, h1, h2, h3⟩ := c.ex
  refine (pe_call (dvs := []) F (hr.mono hk) hg h1 h2 h3 .nil pass0 (pa_cons (pe_var hN hv hd hcd) ha he) hdb he hpl).mono fun σ H Q ⟨ρ, F, O, d, ρ', R, e, q⟩ => ?_
  obtain ⟨d0, h0, e⟩ := bind_some e
  obtain ⟨⟨as, ρ1⟩, h4, e⟩ := bind_some e
  obtain ⟨ds, h5, e⟩ := bind_some e
  obtain ⟨⟨d2, ds'⟩, h6, e⟩ := bind_some e
  cases e
  obtain ⟨p, vs0, s1, _⟩ := ownL_of R h0
  refine ⟨_, s1, ρ, F, O, as, ρ1, R, h4, fun vs F1 H1 R1 k1 r => ?_⟩
  obtain ⟨p', ws, t1, t2, t3, t4, t5, _⟩ := ownL_of R1 h5
  have e1 := s1.symm.trans t1
  cases e1
  show spR X.K m ((.ref p :: vs) ++ []) H1 Q E0
  rw [List.append_nil]
  have hm : p ∈ O i := by rw [t2]; exact List.mem_cons_self
  refine ⟨F1, p, ws, ds, vs, as, _, ds', rfl, ⟨R1.sub, R1.tup⟩, (R1.off i p hm).1, t3, t4, r, h6, fun v H2 ws' kp hp' r' rv => ?_⟩
  obtain ⟨R2, k2⟩ := R1.rowed h5 s1 kp hp' r'
  exact q v _ H2 R2 (k1.trans k2) rv
end
end DL
namespace DL
open PySem PySem.Spec PyProof.Rows L2
def insS (x : Int) : List Int → List Int
  | [] => [x]
  | y :: r => if x < y then x :: y :: r else if x = y then y :: r else y :: insS x r
def sset : List Int → List Int
  | [] => []
  | x :: r => insS x (sset r)
theorem insS_mem {x k : Int} : ∀ {l : List Int}, k ∈ insS x l ↔ k = x ∨ k ∈ l
  | [] => by simp [insS]
  | y :: r => by
    unfold insS
    split
    · simp
    · split
      · next h =>
        subst h
        simp
      · rw [List.mem_cons, insS_mem, List.mem_cons]
        constructor
        · rintro (h | h | h)
          · exact .inr (.inl h)
          · exact .inl h
          · exact .inr (.inr h)
        · rintro (h | h | h)
          · exact .inr (.inl h)
          · exact .inl h
          · exact .inr (.inr h)
theorem bt_len : bootBuiltins "len" = some (.builtin "len") := by decide +kernel
theorem bt_sum : bootBuiltins "sum" = some (.builtin "sum") := by decide +kernel
theorem bt_min : bootBuiltins "min" = some (.builtin "min") := by decide +kernel
theorem bt_max : bootBuiltins "max" = some (.builtin "max") := by decide +kernel
theorem bt_sorted : bootBuiltins "sorted" = some (.builtin "sorted") := by decide +kernel
theorem bt_isinstance : bootBuiltins "isinstance" = some (.builtin "isinstance") := by decide +kernel
theorem bt_int : bootBuiltins "int" = some (.type "int") := by decide +kernel
theorem bt_list : bootBuiltins "list" = some (.type "list") := by decide +kernel
theorem bt_tuple : bootBuiltins "tuple" = some (.type "tuple") := by decide +kernel
theorem bt_bool : bootBuiltins "bool" = some (.type "bool") := by decide +kernel
theorem bt_str : bootBuiltins "str" = some (.type "str") := by decide +kernel
end DL
namespace DL
open PySem PySem.Spec PyProof.Rows L2
theorem hu64 {A : Around} {k : Nat} (hr : Room k A) : A.units + 64 < cLine := hr.units
theorem hu65 {A : Around} {k : Nat} (hr : Room k A) : A.units + 65 < cLine := by
  have := hr.un
  omega
section
variable {X : Cx} {z : Z}
theorem q_ty (T : Ty) {x : Str} {pos : Pos} (hg : Gl X x) (hm : X.mg x = none) (hb : bootBuiltins x = some (.type T.name)) (hn : x ≠ "__name__" := by decide) (hd : (x == ("__debug__" : Str)) = false := by decide) : PE X (.Name x pos) (tC (.ty T.name)) := pe_bltn hg hm hb rfl hn hd
theorem q_glob {x : Str} {i : Int} {pos : Pos} (hg : Gl X x) (h : ∃ t, X.mg x = some (.int i t)) (hd : (x == ("__debug__" : Str)) = false := by decide) : PE X (.Name x pos) (tP X.K z (cK (.int i))) := by
  obtain ⟨t, h⟩ := h
  exact q_globI hg h ⟨t, rfl⟩ hd
/-- a, b = x, y through a tuple (a name of them a cell) -/
theorem s_tup2 (i j : Nat) {x y : Str} {a b : Expr} {px py pt pos : Pos} {kt k2 pt2} {f g : Env → Option (E × Env)} (hc : X.calm = true) (hN : X.N.Nodup) (ha : PE X a (tW X.K z f)) (hb : PE X b (tW X.K z g)) (hi : X.N[i]? = some x := by rfl) (hj : X.N[j]? = some y := by rfl)
    (hx : Loc X.env.scope x := by first | exact Or.inl rfl | exact Or.inr rfl) (hy : Loc X.env.scope y := by first | exact Or.inl rfl | exact Or.inr rfl) (hfx : X.fn x = true ∨ X.env.scope.names.lookup x = some .local := by first | exact .inl rfl | exact .inr rfl) (hfy : X.fn y = true ∨ X.env.scope.names.lookup y = some .local := by first | exact .inl rfl | exact .inr rfl)
    (ha1 : starEach [a, b] X.env = (false, eval a X.env) :: starEach [b] X.env := by rfl) (hb1 : starEach [b] X.env = (false, eval b X.env) :: starEach [] X.env := by rfl)
    (hn : (assignEach [.Name x px, .Name y py] X.env).length = 2 := by rfl) (hst : (assignEach [.Name x px, .Name y py] X.env).findIdx? (·.1) = none := by rfl)
    (hm1 : (assignEach [.Name x px, .Name y py] X.env).map (·.2) = assign (.Name x px) X.env :: (assignEach [.Name y py] X.env).map (·.2) := by rfl) (hm2 : (assignEach [.Name y py] X.env).map (·.2) = assign (.Name y py) X.env :: (assignEach [] X.env).map (·.2) := by rfl)
    (hw : swappedStores [.Tuple [.Name x px, .Name y py] kt pt] (.Tuple [a, b] k2 pt2) X.env = pure none := by rfl)
    (hs : swapsWithSole [.Tuple [.Name x px, .Name y py] kt pt] (.Tuple [a, b] k2 pt2) pos.line X.env = pure false := by rfl)
    (h1 : (assignEach [.Tuple [.Name x px, .Name y py] kt pt] X.env).map (·.2) = [assign (.Tuple [.Name x px, .Name y py] kt pt) X.env] := by rfl) :
    PS X (.Assign [.Tuple [.Name x px, .Name y py] kt pt] (.Tuple [a, b] k2 pt2) pos) (tS X.K z (gPar2 i j f g)) :=
  (ps_asg (pe_tup (pa_cons ha (pa_cons hb pa_nil hb1) ha1)) (pg_tup hc (pgs_cons (pg_name hN hi hx hfx) (pgs_cons (pg_name hN hj hy hfy) pgs_nil hm2) hm1) hn hst) hs hw h1).mono fun D σ H ⟨ρ, F, O, fl, ρ', R, e, q⟩ => by
    obtain ⟨⟨e1, ρ1⟩, h1, e⟩ := bind_some e
    obtain ⟨⟨e2, ρ2⟩, h2, e⟩ := map_some e
    cases e
    refine ⟨ρ, F, O, e1, ρ1, R, h1, fun v1 F1 H1 as1 R1 k1 n1 f1 => ⟨ρ1, F1, O, e2, ρ2, R1, h2, fun v2 F2 H2 as2 R2 k2 n2 f2 => ⟨le1000 (by show 2 ≤ 1000; decide), fun p hp => ?_⟩⟩⟩
    refine ⟨p, [v1, v2], rfl, .of upd_same, rfl, v1, [v2], rfl, v2, [], rfl, rfl, ?_⟩
    obtain ⟨n1', f1'⟩ := keepW R k2 n1 f1
    have R3 := setE_new (i := i) (fun i a ha => (R.off i a ha).2) R2 n1' f1'
    have R4 := R3.setE (i := j) n2 fun a ha => ⟨(f2 a ha).2.1, (f2 a ha).2.2, fun l _ hl => by
      unfold setO at hl
      split at hl
      · exact (f1 a hl).2.2 (f2 a ha).1
      · exact (R1.off l a hl).2 (f2 a ha).1⟩
    exact q _ _ _ _ (R4.newS hp) ((k1.same.trans k2.same).trans (same_new (R4.sub.free hp)))
end
section
variable {P : Program} {w : World} {K : PySem.W.Frag} {mg : Str → Option Value} {base : Heap}
theorem okP {x qual : Str} {st : Stmt} {f : Addr} {fd : FuncData} {N ps : List Str} {k : Nat} {g : Gs} (a b : Nat) (F : Fun K x qual st f fd) (S : FnScope N ps (defScope st)) (ha : N.length = a) (hb : ps.length = b)
    (h : ∀ (cdv : Value) (A : Around) (outer : List PySem.Env) (s : Shared) (H : Hp) (E : XK) (z : Z), Room k (A.deeper (envOfC qual (defScope st) s.heap.objs.size f cdv)) → PSs (cxOf CX0 P w K mg base N qual (defScope st) f cdv A outer s H E).nox (defBody st) (tS K z g)) :
    FnOk P w K mg base CX0 (k + 1) f fd ps (spP K (run a b g)) := by
  subst ha hb
  exact ok_P F S h
theorem okR {x qual : Str} {st : Stmt} {f : Addr} {fd : FuncData} {N ps : List Str} {k : Nat} {g : Gs} (a b : Nat) (F : Fun K x qual st f fd) (S : FnScope N ps (defScope st)) (ha : N.length = a) (hb : ps.length = b) (hN : 0 < a)
    (h : ∀ (cdv : Value) (A : Around) (outer : List PySem.Env) (s : Shared) (H : Hp) (E : XK) (z : Z), Room k (A.deeper (envOfC qual (defScope st) s.heap.objs.size f cdv)) → PSs (cxOf CX0 P w K mg base N qual (defScope st) f cdv A outer s H E).nox (defBody st) (tS K z g)) :
    FnOk P w K mg base CX0 (k + 1) f fd ps (spR K (runR a b g)) := by
  subst ha hb
  exact ok_R F S hN h
/-- a promise that asks what never is -/
theorem ok_none {k : Nat} {f : Addr} {fd : FuncData} {ps : List Str} : FnOk P w K mg base CX0 k f fd ps (spP K fun _ => none) :=
  ⟨fun vs H Q E ⟨_, _, _, _, _, e, _⟩ => (by cases e), fun A outer s H args us vs Q E _ _ _ _ ⟨_, _, _, _, _, e, _⟩ => (by cases e)⟩
/-- the law's own promise -/
def spLaw (K : PySem.W.Frag) (n : Nat) : Sp := fun vs H Q _ => ∃ (a : Addr) (ns : List Int), vs = [.ref a] ∧ SqL K H a (ns.map V.int) ∧ ns.length ≤ n ∧ ∀ H', Q (.bl true) H'
theorem ok_law {k n : Nat} {f : Addr} {fd : FuncData} {ps : List Str} {m : List D → Option D} (F : FnOk P w K mg base CX0 k f fd ps (spP K m)) (h : ∀ ns : List Int, ns.length ≤ n → m [.list (ns.map .int)] = some (.bool true)) : FnOk P w K mg base CX0 k f fd ps (spLaw K n) :=
  F.imp fun vs H Q E ⟨a, ns, e, hS, hl, q⟩ => by
    subst e
    refine ⟨H, _, _, ⟨Same.refl _, AllT.refl _⟩, .cons (.lst hS (DpAll.of_ints ns)) .nil, h ns hl, fun v H' s r => ?_⟩
    cases r
    exact q H'
end
end DL
namespace DL
open PySem PySem.Spec PyProof.Rows L2
section
variable {prog : Program} {w : World} {A : Around} {E : Value → Shared → Prop} {s : Shared}
theorem gatherT {l : Addr} {vs : List Value} {Q : List Value → Shared → Prop} (hl : s.heap.IsTuple l vs.toArray) (hz : vs.length ≤ sizeLine)
    (q : Q vs { s with heap := (s.heap.push (seqObj "list" #[] 0)).update s.heap.objs.size (Obj.mapSeq (· ++ vs.toArray)) }) : wpAny (model prog w) A (collect (.ref l)) Q E s := by
  obtain ⟨o, ho, hc, n, hd⟩ := hl
  have new : (s.heap.push (seqObj "list" #[] 0)).get? s.heap.objs.size = some (seqObj "list" #[] 0) := Heap.get?_push_size _ rfl
  have old : (s.heap.push (seqObj "list" #[] 0)).get? l = some o := Heap.get?_push_of_some _ ho
  unfold collect
  refine wpAny_bind (wpAny_runValue (codeAny_builtin entry_proto_collect' (wpAny_bind (wpAny_newList (wpAny_pure ⟨Code.quiet_builtin _ (by decide +kernel), codeAny_builtin entry_list_iadd' ?_⟩)))))
  change wpAny _ _ (Builtin.List.listExtendWith (.ref s.heap.objs.size) (.ref l) (.ref s.heap.objs.size)) _ _ { s with heap := s.heap.push (seqObj "list" #[] 0) }
  unfold Builtin.List.listExtendWith
  refine wpAny_bind (wpAny_typeOf (T := "tuple") ⟨o, old, hc⟩ ?_)
  have tt : (Value.type "tuple" == Value.type "tuple") = true := rfl
  rw [if_pos (by rw [tt, Bool.or_true])]
  refine wpAny_bind (listItems_at old hd (wpAny_bind (listItems_at (xs := #[]) (n := 0) new rfl ?_)))
  rw [if_neg (by simp)]
  refine wpAny_bind (listUpdate_at (xs := #[]) (n := 0) new rfl (wpAny_pure ?_) (Nat.zero_le _) (by show (#[] ++ vs.toArray).size ≤ sizeLine + 1; simp only [Array.size_append, List.size_toArray, List.length_nil]; omega))
  change wpAny (model prog w) A (do let o ← load s.heap.objs.size; match o.data with | .seq xs _ => pure xs.toList | _ => unsupported "internal:collect") Q E { s with heap := (s.heap.push (seqObj "list" #[] 0)).update s.heap.objs.size (Obj.mapSeq (· ++ vs.toArray)) }
  refine wpAny_bind (wpAny_load (get?_update_seq new _) ?_)
  have e : ((#[] : Array Value) ++ vs.toArray).toList = vs := by simp
  change wpAny _ _ (pure ((#[] : Array Value) ++ vs.toArray).toList) Q E _
  rw [e]
  exact wpAny_pure q
theorem sortT {β : Type} {R : Value → β → Prop} {enc : β → PyData} {vs : List Value} {bs : List β} {l : Addr} {Q : Value → Shared → Prop} (hl : s.heap.IsTuple l vs.toArray) (e : PySem.W.EachIs R vs bs) (er : PySem.W.EachIs (fun v b => ∃ as, PySem.Reads s.heap v (enc b) as) vs bs)
    (hal : PySem.W.AllAlike (bs.map enc)) (hk : PySem.W.Sortable (bs.map enc)) (hL : bs.length ≤ sizeLine) (hu : ∀ b, b ∈ bs → A.units + 2 + (enc b).depth < cLine)
    (q : ∀ out, out.length = bs.length → PySem.W.EachIs R out (bs.mergeSort (PySem.W.dataLe false enc)) → Q (.ref (s.heap.objs.size + 1)) { s with heap := sortedAll s.heap vs (List.toArray out) }) : wpAny (model prog w) A (call (.builtin "sorted") [.ref l]) Q E s := by
  have hz : vs.length ≤ sizeLine := by rw [e.length]; exact hL
  refine PySem.Calls.call_function_entry kind_sorted plain_sorted entry_sorted (args_sorted1 _) ?_
  unfold Builtin.«sorted»
  refine wpAny_bind (m := checkCount "sorted" 1 1 _) (wpAny_pure (wpAny_bind (gatherT hl hz (wpAny_bind (wpAny_newList ?_ hz)))))
  have sz : ((s.heap.push (seqObj "list" #[] 0)).update s.heap.objs.size (Obj.mapSeq (· ++ vs.toArray))).objs.size = s.heap.objs.size + 1 := by rw [Heap.size_update, size_push']
  change wpAny _ _ _ _ _ { s with heap := PySem.W.copyHeap s.heap vs }
  rw [sz]
  have er' : PySem.W.EachIs (fun v b => ∃ as, PySem.Reads (PySem.W.sortingHeap (PySem.W.copyHeap s.heap vs) (s.heap.objs.size + 1) vs) v (enc b) as) vs bs := er.mono fun _ _ ⟨as, r⟩ => ⟨as, PyProof.Rows.Reads.keeps (fun _ _ => PySem.W.sorting_copy_old) r⟩
  have S := PySem.W.SortsAt.data (prog := prog) (w := w) (A := A.in1.in1) (s := { s with heap := PySem.W.sortingHeap (PySem.W.copyHeap s.heap vs) (s.heap.objs.size + 1) vs }) (PySem.W.each_map (R := fun v d => ∃ as, PySem.Reads (PySem.W.sortingHeap (PySem.W.copyHeap s.heap vs) (s.heap.objs.size + 1) vs) v d as) enc er') hal hk (PySem.W.bound_map hu)
  refine wpAny_bind (wpAny_holding (wpAny_call_entry_kw slot_list_sort ⟨_, PySem.W.copyHeap_at s.heap vs, rfl⟩ entry_list_sort ?_ (args_list_sort _)))
  change wpAny (model prog w) A.in1.in1 (Builtin.«list.sort» ⟨[.ref (s.heap.objs.size + 1)], []⟩) _ _ _
  refine wpAny_mono (PySem.W.list_sort_vals (P := fun f s' => f = .done (.ret .none) ∧ Q (.ref (s.heap.objs.size + 1)) s') (s := { s with heap := PySem.W.copyHeap s.heap vs }) (PySem.W.copyHeap_at s.heap vs) S hz ⟨rfl, ?_⟩) (fun f s' hf => ?_) fun _ _ z => z
  · exact q _ (by rw [PySem.W.sortVals_length false rfl]; exact e.length) (PySem.W.sortVals_data false e er' hal)
  · obtain ⟨rfl, hq⟩ := hf
    exact ⟨_, rfl, wpAny_pure ⟨_, rfl, hq⟩⟩
end
def rSortedT2 (K : PySem.W.Frag) : List V → Hp → VK → Prop := fun xs H Q => ∃ (a : Addr) (vs : List V) (ds : List D) (Φ : V → D → Prop), xs = [V.ref a] ∧ SqT K H a vs ∧ DpAll K H vs ds ∧ PySem.W.EachIs Φ vs ds ∧ sortOk ds = true ∧
  ∀ vs' p, H p = none → PySem.W.EachIs Φ vs' (isort leD ds) → Q (.ref p) (upd H p (.lst vs'))
def rSortedA (K : PySem.W.Frag) : List V → Hp → VK → Prop := fun xs H Q => rSortedD K xs H Q ∨ rSortedT2 K xs H Q
def oSortedA : List D → Option D
  | [.list ds] => if sortOk ds then some (.list (isort leD ds)) else none
  | [.tuple ds] => if sortOk ds then some (.list (isort leD ds)) else none
  | _ => none
section
variable {X : Cx} {K : PySem.W.Frag}
theorem cr_sortedT2 (hu : X.A.units + 64 < cLine) : CallR X (.builtin "sorted") (rSortedT2 X.K) := by
  intro pins s σ H xs us Q I r h
  obtain ⟨a, vs, ds, Φ, rfl, hs, hd, hΦ, ok, q⟩ := h
  rw [Vals.ref1 r]
  obtain ⟨al, so, dp⟩ := sortOk_of ok
  obtain ⟨its, rv, hl, hz⟩ := I.tuple hs
  obtain ⟨as, hr⟩ := Dp.readsAll I _ _ its hd rv
  have l1 := hd.length
  have ms : ds.map (fun d => d) = ds := List.map_id' ds
  refine sortT (enc := fun d : PyData => d) (R := fun u d => ∃ v, RelV v u ∧ Φ v d) hl (each_vals rv hΦ) (PySem.W.readsAll_each (fun d => d) (by rw [ms]; exact hr)) (by rw [ms]; exact al) (by rw [ms]; exact so) (by omega) (fun d hd => ?_) fun out hlen he => ?_
  · have := depth_mem hd
    omega
  · obtain ⟨vs', rv', hv'⟩ := vals_each he
    obtain ⟨ep, he'⟩ := PyProof.Rows.sortedAll_at s.heap its out.toArray
    have e : ds.mergeSort (PySem.W.dataLe false fun d => d) = isort leD ds := (isort_eq leD_total ds).symm
    rw [e] at hv'
    have hlen' : vs'.length ≤ sizeLine := by
      rw [rv'.length, hlen]
      omega
    exact ⟨.ref _, upd H (s.heap.objs.size + 1) (.lst vs'), I.laid (t' := s.toks) (fun _ _ => PyProof.Rows.sortedAll_old) (Nat.le_succ _) ⟨hlen', out, ep, rv', he'⟩, rfl, q _ _ (I.hok.fresh (Nat.le_succ _)) hv'⟩
theorem cr_sortedA (hu : X.A.units + 64 < cLine) : CallR X (.builtin "sorted") (rSortedA X.K) := CallR.or (cr_sortedD hu) (cr_sortedT2 hu)
theorem w_sortedA : OpN K (rSortedA K) oSortedA := ⟨fun F H xs as d Q s ra e q => by
  unfold oSortedA at e
  split at e
  · split at e
    · next h =>
      cases e
      cases ra with
      | cons r t =>
        cases t
        cases r with
        | lst h1 t1 => exact .inl ⟨_, _, _, Rep K F, rfl, s.seq h1, t1.mono s, each_of t1, h, fun vs' p hp he => doneL s q (of_each he) hp⟩
    · cases e
  · split at e
    · next h =>
      cases e
      cases ra with
      | cons r t =>
        cases t
        cases r with
        | tup h1 t1 => exact .inr ⟨_, _, _, Rep K F, rfl, sameT s (sqT_of h1), t1.mono s, each_of t1, h, fun vs' p hp he => doneL s q (of_each he) hp⟩
    · cases e
  · cases e⟩
end
end DL
namespace DL
open PySem PySem.Spec PyProof.Rows L2
def lcO (ρ0 : Env) (b : D → Env → Option Env) (t : Env → Option Bool) (g : Env → Option (List D)) : List D → Option (List D)
  | [] => some []
  | d :: r => (b d ρ0).bind fun ρ1 => (t ρ1).bind fun k => if k = true then (g ρ1).bind fun es => (lcO ρ0 b t g r).bind fun fs => some (es ++ fs) else lcO ρ0 b t g r
def inner2 (vs1 : List Nat) (it1 : Env → Option (List D)) (b1 : D → Env → Option Env) (t1 : Env → Option Bool) (f : Env → Option D) : Env → Option (List D) := fun ρ1 => (it1 ρ1).bind fun ds => lcD (wipeE ρ1 vs1) b1 t1 f ds
def cLc2 (vs vs1 : List Nat) (it : Env → Option (List D)) (b : D → Env → Option Env) (t : Env → Option Bool) (it1 : Env → Option (List D)) (b1 : D → Env → Option Env) (t1 : Env → Option Bool) (f : Env → Option D) : Env → Option D := fun ρ =>
  (it ρ).bind fun ds => (lcO (wipeE ρ vs) b t (inner2 vs1 it1 b1 t1 f) ds).bind fun es => if es.length ≤ 1000 then some (.list es) else none
theorem lc2_in {K : PySem.W.Frag} {z : Z} {vs vs1 : List Nat} {it it1 : Env → Option (List D)} {b b1 : D → Env → Option Env} {t t1 : Env → Option Bool} {f : Env → Option D} {σ : L2.St} {H : Hp} {Q : VK} (hsub : ∀ i ∈ vs1, i ∈ vs) (h : tP K z (cLc2 vs vs1 it b t it1 b1 t1 f) σ H Q) :
    tLc2 (tIP K z it) (tG K z (ofJ vs) b) (tB K z t) (tIP K z it1) (tG K z (ofJ vs1) b1) (tB K z t1) (tP K z f) vs vs1 σ H Q := by
  obtain ⟨ρ, F, O, d, R, e, q⟩ := h
  obtain ⟨ds, h1, e⟩ := bind_some e
  obtain ⟨es, h2, e⟩ := bind_some e
  split at e
  · next hl =>
    cases e
    refine ⟨ρ, F, O, ds, R, h1, fun J H1 s1 y D hD => ?_⟩
    have R1 := (R.grow s1).wipe vs
    have hD0 : H D = none := by
      cases q2 : H D with
      | none => rfl
      | some o =>
        rw [s1 _ _ q2] at hD
        cases hD
    have hDO : ∀ i, D ∉ O i := fun i hi => (R.off i D hi).2 hD0
    have hDz := H0_of R hD0
    have hDF : ext F H H1 D = none := (R.grow s1).sub.free hD
    refine ⟨fun i m Hc => m = ds.length - i ∧ i ≤ ds.length ∧ ∃ F2 acc vacc rest, Rel K z (wipeE ρ vs) (wipe σ vs) F2 Hc O ∧ Same (ext F H H1) F2 ∧ Same F2 (ext F H Hc) ∧ Same H1 Hc ∧ F2 D = none ∧ Hc D = some (.lst vacc) ∧ RepL K F2 vacc acc ∧ lcO (wipeE ρ vs) b t (inner2 vs1 it1 b1 t1 f) (ds.drop i) = some rest ∧ acc ++ rest = es,
      ⟨ds.length, by simp, Nat.zero_le _, _, [], [], es, R1.other hDF hDO hDz, Same.refl _, ext_put (Same.refl _) hDF, same_new hD, hDF, upd_same, .nil, h2, rfl⟩, ?_⟩
    rintro i m Hc ⟨rfl, hi, F2, acc, vacc, rest, R2, sF, sE, sH, hF2, hDc, ra, hr, hes⟩
    by_cases hlt : i < ds.length
    · have ed : ds.drop i = ds[i] :: ds.drop (i + 1) := by rw [List.drop_eq_getElem_cons hlt]
      rw [ed] at hr
      obtain ⟨ρ3, e3, hr⟩ := bind_some hr
      obtain ⟨k, e4, hr⟩ := bind_some hr
      have sY : Same (ext F H H1) Hc := sF.trans R2.sub
      refine .inr ⟨y.go i Hc sY hlt, fun Hc => ∃ F2 acc vacc rest, Rel K z (wipeE ρ vs) (wipe σ vs) F2 Hc O ∧ Same (ext F H H1) F2 ∧ Same F2 (ext F H Hc) ∧ Same H1 Hc ∧ F2 D = none ∧ Hc D = some (.lst vacc) ∧ RepL K F2 vacc acc ∧ lcO (wipeE ρ vs) b t (inner2 vs1 it1 b1 t1 f) (ds.drop (i + 1)) = some rest ∧ acc ++ rest = es, fun H' n => ⟨ds.length - (i + 1), by omega, rfl, by omega, n⟩, fun x H' yx => ?_⟩
      obtain ⟨sx, rx⟩ := y.yld i F2 Hc x H' _ sF R2.sub R2.tup yx (List.getElem?_eq_getElem hlt)
      have R3 := R2.grow sx
      refine ⟨_, _, O, _, ρ3, R3, rx, e3, fun σ5 O5 R5 st => ⟨?_, ?_⟩⟩
      · rw [st.wp vs fun j hj => ofJ_mem hj, wipe_idem]
      refine ⟨ρ3, _, O5, k, R5, e4, fun H6 s6 => ?_⟩
      have sH0 : Same H Hc := s1.trans sH
      cases k with
      | true =>
        rw [if_pos rfl] at hr
        obtain ⟨es1, e5, hr⟩ := bind_some hr
        obtain ⟨rest', e6, hr⟩ := bind_some hr
        cases hr
        obtain ⟨ds1, e7, e8⟩ := bind_some e5
        refine ⟨ρ3, _, O5, ds1, R5.grow s6, e7, fun J1 H7 s7 y1 => ?_⟩
        have s67 := s6.trans s7
        have sx7 := sx.trans s67
        have hDO5 : ∀ i, D ∉ O5 i := fun i hi => hDO i (st.sub i D hi)
        have hF7 : ext F2 Hc H7 D = none := ext_none hF2 hDc
        have e9 : ext (ext (ext F2 Hc H') H' H6) H6 H7 = ext F2 Hc H7 := by rw [ext_ext s6 s7, ext_ext sx s67]
        rw [e9] at y1
        have R57 : Rel K z ρ3 σ5 (ext F2 Hc H7) H7 O5 := by
          have := R5.grow s67
          rwa [ext_ext sx s67] at this
        have R27 : Rel K z (wipeE ρ vs) (wipe σ vs) (ext F2 Hc H7) H7 O := R2.grow sx7
        refine ⟨fun j m Hd => m = ds1.length - j ∧ j ≤ ds1.length ∧ ∃ F3 acc1 vacc1 rest1, Rel K z (wipeE ρ3 vs1) (wipe σ5 vs1) F3 Hd O5 ∧ Rel K z (wipeE ρ vs) (wipe σ vs) F3 Hd O ∧ Same (ext F2 Hc H7) F3 ∧ Same F3 (ext F H Hd) ∧ Same H1 Hd ∧ F3 D = none ∧ Hd D = some (.lst vacc1) ∧ RepL K F3 vacc1 acc1 ∧ lcD (wipeE ρ3 vs1) b1 t1 f (ds1.drop j) = some rest1 ∧ acc1 ++ rest1 ++ rest' = es,
          ⟨ds1.length, by simp, Nat.zero_le _, ext F2 Hc H7, acc, vacc, es1, R57.wipe vs1, R27, Same.refl _, ext_step sE sH0 sx7, sH.trans sx7, hF7, sx7 _ _ hDc, ra.mono (same_ext R2.sub), e8, by rw [List.append_assoc]; exact hes⟩, ?_⟩
        rintro j m Hd ⟨rfl, hj, F3, acc1, vacc1, rest1, Q1, Q2, gF, gE, gH, hF3, hDd, rb, hr1, hes1⟩
        by_cases hlt1 : j < ds1.length
        · have ed1 : ds1.drop j = ds1[j] :: ds1.drop (j + 1) := by rw [List.drop_eq_getElem_cons hlt1]
          rw [ed1] at hr1
          obtain ⟨ρ5, f3, hr1⟩ := bind_some hr1
          obtain ⟨k1, f4, hr1⟩ := bind_some hr1
          have tY : Same (ext F2 Hc H7) Hd := gF.trans Q1.sub
          refine .inr ⟨y1.go j Hd tY hlt1, fun Hd => ∃ F3 acc1 vacc1 rest1, Rel K z (wipeE ρ3 vs1) (wipe σ5 vs1) F3 Hd O5 ∧ Rel K z (wipeE ρ vs) (wipe σ vs) F3 Hd O ∧ Same (ext F2 Hc H7) F3 ∧ Same F3 (ext F H Hd) ∧ Same H1 Hd ∧ F3 D = none ∧ Hd D = some (.lst vacc1) ∧ RepL K F3 vacc1 acc1 ∧ lcD (wipeE ρ3 vs1) b1 t1 f (ds1.drop (j + 1)) = some rest1 ∧ acc1 ++ rest1 ++ rest' = es, fun H' n => ⟨ds1.length - (j + 1), by omega, rfl, by omega, n⟩, fun x1 Hx yx1 => ?_⟩
          obtain ⟨tx, rx1⟩ := y1.yld j F3 Hd x1 Hx _ gF Q1.sub Q1.tup yx1 (List.getElem?_eq_getElem hlt1)
          have Q3 := Q1.grow tx
          refine ⟨_, _, O5, _, ρ5, Q3, rx1, f3, fun σ7 O7 R7 st1 => ⟨?_, ?_⟩⟩
          · rw [st1.wp vs1 fun j hj => ofJ_mem hj, wipe_idem]
          refine ⟨ρ5, _, O7, k1, R7, f4, fun H8 s8 => ?_⟩
          have gH0 : Same H Hd := s1.trans gH
          cases k1 with
          | true =>
            rw [if_pos rfl] at hr1
            obtain ⟨ev, f5, hr1⟩ := bind_some hr1
            obtain ⟨rest1', f6, hr1⟩ := bind_some hr1
            cases hr1
            refine ⟨ρ5, _, O7, ev, R7.grow s8, f5, fun yv H9 s9 r9 => ?_⟩
            have s89 := s8.trans s9
            have tx9 := tx.trans s89
            rw [ext_ext s8 s9, ext_ext tx s89] at r9
            have hF9 : ext F3 Hd H9 D = none := ext_none hF3 hDd
            have e10 : H9 D = some (.lst vacc1) := tx9 _ _ hDd
            have rb' : RepL K (ext F3 Hd H9) vacc1 acc1 := rb.mono (same_ext Q1.sub)
            refine ⟨vacc1, e10, ?_, ext F3 Hd H9, acc1 ++ [ev], vacc1 ++ [yv], rest1', (Q1.grow tx9).other hF9 hDO5 hDz, (Q2.grow tx9).other hF9 hDO hDz, gF.trans (same_ext Q1.sub), ext_put (ext_step gE gH0 tx9) hF9, ?_, hF9, upd_same, rb'.append (.cons r9 .nil), f6, by rw [← hes1]; simp⟩
            · have l1 := rb.length
              have l2 : acc1.length ≤ es.length := by rw [← hes1, List.length_append, List.length_append]; omega
              have := small1000 hl
              omega
            · intro a o ea
              have n : a ≠ D := fun q => by
                rw [q, hD] at ea
                cases ea
              rw [upd_ne n]
              exact tx9 _ _ (gH _ _ ea)
          | false =>
            rw [if_neg Bool.false_ne_true] at hr1
            have tx8 := tx.trans s8
            exact ⟨ext F3 Hd H8, acc1, vacc1, rest1, Q1.grow tx8, Q2.grow tx8, gF.trans (same_ext Q1.sub), ext_step gE gH0 tx8, gH.trans tx8, ext_none hF3 hDd, tx8 _ _ hDd, rb.mono (same_ext Q1.sub), hr1, hes1⟩
        · have ej : j = ds1.length := by omega
          subst ej
          rw [List.drop_length] at hr1
          cases hr1
          rw [List.append_nil] at hes1
          exact .inl ⟨y1.stop _ Hd (gF.trans Q1.sub) rfl, F3, acc1, vacc1, rest', Q2, (sF.trans (same_ext R2.sub)).trans gF, gE, gH, hF3, hDd, rb, e6, hes1⟩
      | false =>
        rw [if_neg Bool.false_ne_true] at hr
        have sx6 := sx.trans s6
        exact ⟨ext F2 Hc H6, acc, vacc, rest, R2.grow sx6, sF.trans (same_ext R2.sub), ext_step sE sH0 sx6, sH.trans sx6, ext_none hF2 hDc, sx6 _ _ hDc, ra.mono (same_ext R2.sub), hr, hes⟩
    · have ei : i = ds.length := by omega
      subst ei
      rw [List.drop_length] at hr
      cases hr
      rw [List.append_nil] at hes
      subst hes
      refine .inl ⟨y.stop _ Hc (sF.trans R2.sub) rfl, q _ Hc (s1.trans sH) (.lst (.of ?_) (ra.mono sE))⟩
      unfold ext
      simp [hD0, hDc]
  · cases e
section
variable {X : Cx} {z : Z} {elt tg iter tg1 iter1 : Expr} {ifs ifs1 : List Expr} {scope : Scope} {own : List (Str × Nat)} {vs1 : List Nat} {pos : Pos} {b b1 : D → Env → Option Env} {it it1 : Env → Option (List D)} {t t1 : Env → Option Bool} {f : Env → Option D}
theorem q_lc2 (hc : X.calm = true) (hN : X.N.Nodup) (ok : BlkOk X.N X.env.scope scope own) (hv : ∀ i ∈ vs1, i ∈ own.map (·.2)) (hi : PI X tg iter (tIP X.K z it))
    (hg : ∀ s H C cl fp, PG (blkE X scope s H C cl fp) tg (tG X.K z (ofJ (own.map (·.2))) b)) (ht : ∀ s H C cl fp, PTs (blkE X scope s H C cl fp) ifs (tB X.K z t))
    (hi1 : ∀ s H C cl fp, PI (blkE X scope s H C cl fp) tg1 iter1 (tIP X.K z it1)) (hg1 : ∀ s H C cl fp, PG (blkE X scope s H C cl fp) tg1 (tG X.K z (ofJ vs1) b1)) (ht1 : ∀ s H C cl fp, PTs (blkE X scope s H C cl fp) ifs1 (tB X.K z t1))
    (he : ∀ s H C cl fp, PE (blkE X scope s H C cl fp) elt (tP X.K z f)) (hs : ∀ x, foldedSetIterable iter X.env x = pure x := by intro _; rfl) (hs1 : ∀ env x, foldedSetIterable iter1 env x = pure x := by intro _ _; rfl) :
    PE X (.ListComp elt [⟨tg, iter, ifs, 0⟩, ⟨tg1, iter1, ifs1, 0⟩] scope pos) (tP X.K z (cLc2 (own.map (·.2)) vs1 it b t it1 b1 t1 f)) := (pe_lc2 hc hN hi ok hv hg ht hi1 hg1 ht1 he hs hs1).mono fun _ _ _ h => lc2_in hv h
end
mutual
/-- no dict in it -/
def noDic : D → Bool
  | .list ds => noDics ds
  | .tuple ds => noDics ds
  | .dict _ => false
  | .none => true
  | .bool _ => true
  | .int _ => true
  | .str _ => true
def noDics : List D → Bool
  | [] => true
  | d :: r => noDic d && noDics r
end
def cM (o : D → List D → Option D) (f : Env → Option D) (g : Env → Option (List D)) : Env → Option D := fun ρ => (f ρ).bind fun a => (g ρ).bind fun as => o a as
end DL
namespace DL
open PySem PySem.Spec PyProof.Rows L2
end DL
namespace DL
open PySem PySem.Spec PyProof.Rows L2
end DL
namespace DL
open PySem PySem.Spec PyProof.Rows L2
def zip3D : List D → List D → List D → List D
  | a :: r, b :: q, c :: t => .tuple [a, b, c] :: zip3D r q t
  | _, _, _ => []
def zp3 : List D → Option (List D)
  | [a, b, c] => (seqOf a).bind fun xs => (seqOf b).bind fun ys => (seqOf c).bind fun zs => some (zip3D xs ys zs)
  | _ => none
end DL
namespace DL
open PySem PySem.Spec PyProof.Rows L2
section
variable {X : Cx} {z : Z}
/-- a, b, c = x, y, w through a tuple (a name of them a cell) -/
theorem s_tup3 (i j l : Nat) {x y w : Str} {a b c : Expr} {px py pw pt pos : Pos} {kt k2 pt2} {f g h : Env → Option (E × Env)} (hc : X.calm = true) (hN : X.N.Nodup) (ha : PE X a (tW X.K z f)) (hb : PE X b (tW X.K z g)) (hcc : PE X c (tW X.K z h)) (hi : X.N[i]? = some x := by rfl) (hj : X.N[j]? = some y := by rfl) (hl : X.N[l]? = some w := by rfl)
    (hx : Loc X.env.scope x := by first | exact Or.inl rfl | exact Or.inr rfl) (hy : Loc X.env.scope y := by first | exact Or.inl rfl | exact Or.inr rfl) (hw0 : Loc X.env.scope w := by first | exact Or.inl rfl | exact Or.inr rfl) (hfx : X.fn x = true ∨ X.env.scope.names.lookup x = some .local := by first | exact .inl rfl | exact .inr rfl) (hfy : X.fn y = true ∨ X.env.scope.names.lookup y = some .local := by first | exact .inl rfl | exact .inr rfl) (hfw : X.fn w = true ∨ X.env.scope.names.lookup w = some .local := by first | exact .inl rfl | exact .inr rfl)
    (ha1 : starEach [a, b, c] X.env = (false, eval a X.env) :: starEach [b, c] X.env := by rfl) (hb1 : starEach [b, c] X.env = (false, eval b X.env) :: starEach [c] X.env := by rfl) (hc1 : starEach [c] X.env = (false, eval c X.env) :: starEach [] X.env := by rfl)
    (hn : (assignEach [.Name x px, .Name y py, .Name w pw] X.env).length = 3 := by rfl) (hst : (assignEach [.Name x px, .Name y py, .Name w pw] X.env).findIdx? (·.1) = none := by rfl)
    (hm1 : (assignEach [.Name x px, .Name y py, .Name w pw] X.env).map (·.2) = assign (.Name x px) X.env :: (assignEach [.Name y py, .Name w pw] X.env).map (·.2) := by rfl) (hm2 : (assignEach [.Name y py, .Name w pw] X.env).map (·.2) = assign (.Name y py) X.env :: (assignEach [.Name w pw] X.env).map (·.2) := by rfl) (hm3 : (assignEach [.Name w pw] X.env).map (·.2) = assign (.Name w pw) X.env :: (assignEach [] X.env).map (·.2) := by rfl)
    (hw : swappedStores [.Tuple [.Name x px, .Name y py, .Name w pw] kt pt] (.Tuple [a, b, c] k2 pt2) X.env = pure none := by rfl)
    (hs : swapsWithSole [.Tuple [.Name x px, .Name y py, .Name w pw] kt pt] (.Tuple [a, b, c] k2 pt2) pos.line X.env = pure false := by rfl)
    (h1 : (assignEach [.Tuple [.Name x px, .Name y py, .Name w pw] kt pt] X.env).map (·.2) = [assign (.Tuple [.Name x px, .Name y py, .Name w pw] kt pt) X.env] := by rfl) :
    PS X (.Assign [.Tuple [.Name x px, .Name y py, .Name w pw] kt pt] (.Tuple [a, b, c] k2 pt2) pos) (tS X.K z (gPar3 i j l f g h)) :=
  (ps_asg (pe_tup (pa_cons ha (pa_cons hb (pa_cons hcc pa_nil hc1) hb1) ha1)) (pg_tup hc (pgs_cons (pg_name hN hi hx hfx) (pgs_cons (pg_name hN hj hy hfy) (pgs_cons (pg_name hN hl hw0 hfw) pgs_nil hm3) hm2) hm1) hn hst) hs hw h1).mono fun D σ H ⟨ρ, F, O, fl, ρ', R, e, q⟩ => by
    obtain ⟨⟨e1, ρ1⟩, h1, e⟩ := bind_some e
    obtain ⟨⟨e2, ρ2⟩, h2, e⟩ := bind_some e
    obtain ⟨⟨e3, ρ3⟩, h3, e⟩ := map_some e
    cases e
    refine ⟨ρ, F, O, e1, ρ1, R, h1, fun v1 F1 H1 as1 R1 k1 n1 f1 => ⟨ρ1, F1, O, e2, ρ2, R1, h2, fun v2 F2 H2 as2 R2 k2 n2 f2 => ⟨ρ2, F2, O, e3, ρ3, R2, h3, fun v3 F3 H3 as3 R3 k3 n3 f3 => ⟨le1000 (by show 3 ≤ 1000; decide), fun p hp => ?_⟩⟩⟩⟩
    refine ⟨p, [v1, v2, v3], rfl, .of upd_same, rfl, v1, [v2, v3], rfl, v2, [v3], rfl, v3, [], rfl, rfl, ?_⟩
    obtain ⟨n1', f1'⟩ := keepW R (k2.trans k3) n1 f1
    obtain ⟨n2', f2'⟩ := keepW R1 k3 n2 f2
    have S1 := setE_new (i := i) (fun i a ha => (R.off i a ha).2) R3 n1' f1'
    have S2 := S1.setE (i := j) n2' fun a ha => ⟨(f2' a ha).2.1, (f2' a ha).2.2, fun m _ hm => by
      unfold setO at hm
      split at hm
      · exact (f1 a hm).2.2 (f2 a ha).1
      · exact (R1.off m a hm).2 (f2 a ha).1⟩
    have S3 := S2.setE (i := l) n3 fun a ha => ⟨(f3 a ha).2.1, (f3 a ha).2.2, fun m _ hm => by
      unfold setO at hm
      split at hm
      · exact (f2 a hm).2.2 (f3 a ha).1
      · split at hm
        · exact (k2.dom a (f1 a hm).2.2) (f3 a ha).1
        · exact (R2.off m a hm).2 (f3 a ha).1⟩
    exact q _ _ _ _ (S3.newS hp) (((k1.same.trans k2.same).trans k3.same).trans (same_new (S3.sub.free hp)))
end
end DL
namespace DL
open PySem PySem.Spec PyProof.Rows L2
end DL
namespace L2
open PySem PySem.Spec PyProof.Rows
end L2
namespace DL
open PySem PySem.Spec PyProof.Rows L2
end DL
namespace DL
open PySem PySem.Spec PyProof.Rows L2
def cRep (f : Env → Option (List D)) (g : Env → Option D) : Env → Option D := fun ρ => (f ρ).bind fun ds => (g ρ).bind fun b => match b with
  | .int k => if ds.length ≤ 1000 then (if k ≤ 1000 then (if -1000 ≤ k then some (.list (List.replicate k.toNat ds).flatten) else none) else none) else none
  | _ => none
end DL
namespace DL
open PySem PySem.Spec PyProof.Rows L2
def rSl (f : Env → Option (D × Env)) (l h : Env → Option (Option Int)) : Env → Option (D × Env) := fun ρ => (f ρ).bind fun p => (l p.2).bind fun lo => (h p.2).bind fun hi => (oSl p.1 lo hi).map fun d => (d, p.2)
end DL
namespace DL
open PySem PySem.Spec PyProof.Rows L2
def keyOf : D → Option Key
  | .int i => some (.inl i)
  | .str x => some (.inr x)
  | _ => none
def keysOf : List D → Option (List Key)
  | [] => some []
  | d :: r => (keyOf d).bind fun k => (keysOf r).map fun t => k :: t
def tkeyOf : D → Option (List Key)
  | .tuple ds => keysOf ds
  | _ => none
section
variable {κ : Type} [DecidableEq κ]
def dval (ks : List (κ × D)) (k : κ) : Option D := (ks.find? fun p => decide (p.1 = k)).map fun p => p.2
def dput (ks : List (κ × D)) (k : κ) (d : D) : List (κ × D) := if ks.any (fun p => decide (p.1 = k)) then ks.map (fun p => if p.1 = k then (p.1, d) else p) else ks ++ [(k, d)]
variable {K : PySem.W.Frag} {F : Hp}
theorem dval_rep {k : κ} : ∀ {kvs : List (κ × V)} {ks : List (κ × D)}, kvs.map (·.1) = ks.map (·.1) → RepL K F (kvs.map (·.2)) (ks.map (·.2)) → (∀ d, dval ks k = some d → ∃ v, valV kvs k = some v ∧ Rep K F v d) ∧ (dval ks k = none → valV kvs k = none)
  | [], [], _, _ => ⟨fun d e => (nomatch (e : (none : Option D) = some d)), fun _ => rfl⟩
  | [], _ :: _, e, _ => by cases e
  | _ :: _, [], e, _ => by cases e
  | p :: kvs, q :: ks, e, t => by
    cases t with
    | cons r t =>
      have e1 : p.1 = q.1 := (List.cons.inj e).1
      obtain ⟨i1, i2⟩ := dval_rep (k := k) (List.cons.inj e).2 t
      by_cases c : q.1 = k
      · have a1 : dval (q :: ks) k = some q.2 := by unfold dval; rw [List.find?_cons, decide_eq_true c]; rfl
        have a2 : valV (p :: kvs) k = some p.2 := valV_pos (e1.trans c)
        rw [a1, a2]
        exact ⟨fun d e => by cases e; exact ⟨_, rfl, r⟩, fun e => by cases e⟩
      · have a1 : dval (q :: ks) k = dval ks k := by unfold dval; rw [List.find?_cons, decide_eq_false c]
        have a2 : valV (p :: kvs) k = valV kvs k := valV_neg (by rw [e1]; exact c)
        rw [a1, a2]
        exact ⟨i1, i2⟩
theorem dput_any {k : κ} : ∀ {kvs : List (κ × V)} {ks : List (κ × D)}, kvs.map (·.1) = ks.map (·.1) → (kvs.any fun p => decide (p.1 = k)) = ks.any fun p => decide (p.1 = k)
  | [], [], _ => rfl
  | [], _ :: _, e => by cases e
  | _ :: _, [], e => by cases e
  | p :: kvs, q :: ks, e => by
    have e1 : p.1 = q.1 := (List.cons.inj e).1
    rw [List.any_cons, List.any_cons, dput_any (List.cons.inj e).2, e1]
theorem dput_in {k : κ} {v : V} {d : D} (r : Rep K F v d) : ∀ {kvs : List (κ × V)} {ks : List (κ × D)}, kvs.map (·.1) = ks.map (·.1) → RepL K F (kvs.map (·.2)) (ks.map (·.2)) →
    (kvs.map fun p => if p.1 = k then (p.1, v) else p).map (·.1) = (ks.map fun p => if p.1 = k then (p.1, d) else p).map (·.1) ∧ RepL K F ((kvs.map fun p => if p.1 = k then (p.1, v) else p).map (·.2)) ((ks.map fun p => if p.1 = k then (p.1, d) else p).map (·.2))
  | [], [], _, _ => ⟨rfl, .nil⟩
  | [], _ :: _, e, _ => by cases e
  | _ :: _, [], e, _ => by cases e
  | p :: kvs, q :: ks, e, t => by
    cases t with
    | cons r' t =>
      have e1 : p.1 = q.1 := (List.cons.inj e).1
      obtain ⟨i1, i2⟩ := dput_in (k := k) r (List.cons.inj e).2 t
      simp only [List.map_cons]
      rw [i1]
      by_cases c : q.1 = k
      · rw [if_pos c, if_pos (e1.trans c)]
        exact ⟨by rw [e1], .cons r i2⟩
      · rw [if_neg c, if_neg (by rw [e1]; exact c)]
        exact ⟨by rw [e1], .cons r' i2⟩
theorem dput_rep {k : κ} {v : V} {d : D} (r : Rep K F v d) {kvs : List (κ × V)} {ks : List (κ × D)} (e : kvs.map (·.1) = ks.map (·.1)) (t : RepL K F (kvs.map (·.2)) (ks.map (·.2))) :
    (putK kvs k v).map (·.1) = (dput ks k d).map (·.1) ∧ RepL K F ((putK kvs k v).map (·.2)) ((dput ks k d).map (·.2)) := by
  unfold putK dput
  rw [dput_any e]
  by_cases c : (ks.any fun p => decide (p.1 = k)) = true
  · rw [if_pos c, if_pos c]
    exact dput_in r e t
  · rw [if_neg c, if_neg c, List.map_append, List.map_append, List.map_append, List.map_append, e]
    exact ⟨rfl, t.append (.cons r .nil)⟩
end
section
variable {K : PySem.W.Frag} {F : Hp}
theorem keyOf_rep {d : D} {k : Key} {v : V} (e : keyOf d = some k) (r : Rep K F v d) : v = kV k := by
  unfold keyOf at e
  split at e
  · cases e
    cases r
    rfl
  · cases e
    cases r
    rfl
  · cases e
theorem keysOf_rep : ∀ {ds : List D} {k : List Key} {vs : List V}, keysOf ds = some k → RepL K F vs ds → vs = k.map kV
  | [], _, _, e, .nil => by cases e; rfl
  | d :: ds, _, _, e, .cons r t => by
    obtain ⟨k, h1, e⟩ := bind_some e
    obtain ⟨ks, h2, e⟩ := map_some e
    cases e
    rw [keyOf_rep h1 r, keysOf_rep h2 t]
    rfl
theorem tkeyOf_rep {d : D} {k : List Key} {v : V} (e : tkeyOf d = some k) (r : Rep K F v d) : ∃ b, v = .ref b ∧ F b = some (.tup (k.map kV)) := by
  unfold tkeyOf at e
  split at e
  · cases r with
    | tup h t =>
      rw [keysOf_rep e t] at h
      exact ⟨_, rfl, h⟩
  · cases e
end
/-- a dict's own slot (or a locked one) is read -/
def dGet (e : Option (Option E)) (k : D) : Option (Option D) := match e with
  | some (some (.dk _ ks)) => (keyOf k).map fun k => dval ks k
  | some (some (.dt _ ks)) => (tkeyOf k).map fun k => dval ks k
  | _ => none
section
variable {X : Cx} {z : Z}
theorem LkO.rd {F H : Hp} {p : Addr} {u : HO} {l : Bool} {as : List Addr} (s : Same F H) (h : LkO z F H p u l as) : Rd H p u := by
  rcases h with ⟨_, _, _, h⟩ | ⟨_, _, o, h⟩
  · exact .of h
  · exact .inr ⟨o, s _ _ h⟩
theorem dGet_of {K : PySem.W.Frag} {ρ : Env} {σ : L2.St} {F H : Hp} {O : Nat → List Addr} {i : Nat} {k : D} {o : Option D} (R : Rel K z ρ σ F H O) (h : dGet ρ[i]? k = some o) :
    ∃ p, σ[i]? = some (some (.ref p)) ∧ ∀ (F1 H1 : Hp) (y : V), Same H H1 → Same F1 H1 → Rep K F1 y k → (∀ d, o = some d → ∃ v, DGet H1 p y (some v) ∧ Rep K F v d) ∧ (o = none → DGet H1 p y none) := by
  unfold dGet at h
  split at h
  · next hi =>
    obtain ⟨kk, h1, h⟩ := map_some h
    obtain ⟨v, hv, p, kvs, e1, e2, e3, lk⟩ := R.ent i _ hi
    subst e1
    refine ⟨p, hv, fun F1 H1 y s s1 r => ?_⟩
    have hd := rdMono s (lk.rd R.sub)
    rw [keyOf_rep h1 r]
    obtain ⟨q1, q2⟩ := dval_rep (k := kk) e2 e3
    subst h
    exact ⟨fun d e => by obtain ⟨v, a, b⟩ := q1 d e; exact ⟨v, .inl ⟨kvs, kk, hd, rfl, a.symm⟩, b⟩, fun e => .inl ⟨kvs, kk, hd, rfl, (q2 e).symm⟩⟩
  · next hi =>
    obtain ⟨kk, h1, h⟩ := map_some h
    obtain ⟨v, hv, p, kvs, e1, e2, e3, lk⟩ := R.ent i _ hi
    subst e1
    refine ⟨p, hv, fun F1 H1 y s s1 r => ?_⟩
    have hd := rdMono s (lk.rd R.sub)
    obtain ⟨b, eb, hb⟩ := tkeyOf_rep h1 r
    subst eb
    obtain ⟨q1, q2⟩ := dval_rep (k := kk) e2 e3
    subst h
    exact ⟨fun d e => by obtain ⟨v, a, c⟩ := q1 d e; exact ⟨v, .inr ⟨kvs, kk, b, hd, rfl, s1 _ _ hb, a.symm⟩, c⟩, fun e => .inr ⟨kvs, kk, b, hd, rfl, s1 _ _ hb, (q2 e).symm⟩⟩
  · cases h
/-- x[k], x a dict of one's own -/
def cDg (i : Nat) (g : Env → Option D) : Env → Option D := fun ρ => (g ρ).bind fun k => (dGet ρ[i]? k).bind fun o => o
theorem q_dg (i : Nat) {x : Str} {e : Expr} {pos p2 : Pos} {g : Env → Option D} (hu : X.A.units + 64 < cLine) (he : PE X e (tP X.K z g)) (hN : X.N[i]? = some x := by rfl) (hv : Vis X.env.scope x := by first | exact Or.inl rfl | exact Or.inr (Or.inl rfl) | exact Or.inr (Or.inr rfl)) (hd : (x == ("__debug__" : Str)) = false := by decide)
    (hcd : (x == ("__classdict__" : Str)) = false := by decide) (hs : NoSl e := by intro _ _; rfl) : PE X (.Subscript (.Name x pos) e p2) (tP X.K z (cDg i g)) :=
  (pe_dget (by omega) (pe_var hN hv hd hcd) he hs).mono fun σ H Q ⟨ρ, F, O, d, R, e, q⟩ => by
    obtain ⟨k, h1, e⟩ := bind_some e
    obtain ⟨o, h2, e⟩ := bind_some e
    obtain ⟨p, s1, h3⟩ := dGet_of R h2
    refine ⟨_, s1, ρ, F, O, k, R, h1, fun y H1 sm r => ?_⟩
    obtain ⟨v, h4, h5⟩ := (h3 _ H1 y sm (R.grow sm).sub r).1 d e
    exact ⟨p, v, rfl, h4, q v H1 sm (h5.mono (same_ext R.sub))⟩
def wDk : Env → Option (E × Env) := fun ρ => some (.dk false [], ρ)
def wDt : Env → Option (E × Env) := fun ρ => some (.dt false [], ρ)
theorem w_dt {pos : Pos} : PE X (.Dict [] [] pos) (tW X.K z wDt) :=
  pe_dnewT.mono fun σ H Q ⟨ρ, F, O, en, ρ', R, e, q⟩ => fun p hp => by
    cases e
    exact q _ F _ [p] (R.newW hp) (newW_kp R.sub hp) ⟨p, [], rfl, rfl, .nil, .inl ⟨rfl, rfl, H0_of R hp, upd_same⟩⟩ fun a ha => by
      rcases List.mem_cons.mp ha with e | e
      · subst e
        exact ⟨hp, R.sub.free hp, by rw [upd_same]; exact fun z => nomatch z⟩
      · cases e
end
end DL
namespace DL
open PySem PySem.Spec PyProof.Rows L2
section
variable {X : Cx} {z : Z}
def isDic : Option (Option E) → Bool
  | some (some (.dk false _)) => true
  | some (some (.dt false _)) => true
  | _ => false
def dPut (i : Nat) (k d : D) (ρ : Env) : Option Env := match ρ[i]? with
  | some (some (.dk false ks)) => (keyOf k).bind fun k => if ks.length ≤ 1000 then some (ρ.set i (some (.dk false (dput ks k d)))) else none
  | some (some (.dt false ks)) => (tkeyOf k).bind fun k => if ks.length ≤ 1000 then some (ρ.set i (some (.dt false (dput ks k d)))) else none
  | _ => none
theorem isDic_of {K : PySem.W.Frag} {ρ : Env} {σ : L2.St} {F H : Hp} {O : Nat → List Addr} {i : Nat} (R : Rel K z ρ σ F H O) (h : isDic ρ[i]? = true) : ∃ p, σ[i]? = some (some (.ref p)) := by
  unfold isDic at h
  split at h
  · next hi =>
    obtain ⟨v, hv, p, kvs, e1, _⟩ := R.ent i _ hi
    exact ⟨p, by rw [hv, e1]⟩
  · next hi =>
    obtain ⟨v, hv, p, kvs, e1, _⟩ := R.ent i _ hi
    exact ⟨p, by rw [hv, e1]⟩
  · cases h
theorem dPut_of {K : PySem.W.Frag} {ρ ρ' : Env} {σ : L2.St} {F H : Hp} {O : Nat → List Addr} {i : Nat} {k d : D} {y v : V} {p : Addr} (R : Rel K z ρ σ F H O) (hp : σ[i]? = some (some (.ref p))) (h : dPut i k d ρ = some ρ') (rk : Rep K F y k) (rv : Rep K F v d) :
    ∃ H', DPut H p y v H' ∧ Rel K z ρ' σ F H' O ∧ ∃ o, H' = upd H p o ∧ p ∈ O i := by
  unfold dPut at h
  split at h
  · next hi =>
    obtain ⟨kk, h1, h⟩ := bind_some h
    split at h
    · next hl =>
      cases h
      obtain ⟨v', hv, p', kvs, e1, e2, e3, lk⟩ := R.ent i _ hi
      subst e1
      rw [hp] at hv
      cases hv
      rcases lk with ⟨_, l1, l2, l3⟩ | ⟨l1, _⟩
      · have hl2 : kvs.length < sizeLine := by
          have := congrArg List.length e2
          rw [List.length_map, List.length_map] at this
          have := small1000 hl
          omega
        obtain ⟨q1, q2⟩ := dput_rep (k := kk) rv e2 e3
        rw [keyOf_rep h1 rk]
        have hm : p ∈ O i := by rw [l1]; exact List.mem_cons_self
        exact ⟨_, .inl ⟨kvs, kk, l3, rfl, hl2, rfl⟩, R.mut hm (.inl l2) hp ⟨p, _, rfl, q1, q2, .inl ⟨rfl, l1, l2, upd_same⟩⟩, _, rfl, hm⟩
      · cases l1
    · cases h
  · next hi =>
    obtain ⟨kk, h1, h⟩ := bind_some h
    split at h
    · next hl =>
      cases h
      obtain ⟨v', hv, p', kvs, e1, e2, e3, lk⟩ := R.ent i _ hi
      subst e1
      rw [hp] at hv
      cases hv
      rcases lk with ⟨_, l1, l2, l3⟩ | ⟨l1, _⟩
      · have hl2 : kvs.length < sizeLine := by
          have := congrArg List.length e2
          rw [List.length_map, List.length_map] at this
          have := small1000 hl
          omega
        obtain ⟨q1, q2⟩ := dput_rep (k := kk) rv e2 e3
        obtain ⟨b, eb, hb⟩ := tkeyOf_rep h1 rk
        subst eb
        have hm : p ∈ O i := by rw [l1]; exact List.mem_cons_self
        exact ⟨_, .inr ⟨kvs, kk, b, l3, rfl, R.sub _ _ hb, hl2, rfl⟩, R.mut hm (.inl l2) hp ⟨p, _, rfl, q1, q2, .inl ⟨rfl, l1, l2, upd_same⟩⟩, _, rfl, hm⟩
      · cases l1
    · cases h
  · cases h
def gSetD (i : Nat) (f g : Env → Option (D × Env)) : Gs := fun ρ => (f ρ).bind fun p => if isDic p.2[i]? then (g p.2).bind fun q => (dPut i q.1 p.1 q.2).map fun ρ' => (.nx, ρ') else none
theorem s_setD (i : Nat) {x : Str} {e b : Expr} {f g : Env → Option (D × Env)} {p1 p2 pos : Pos} (hu : X.A.units + 64 < cLine) (he : PE X e (tR X.K z f)) (hb : PE X b (tR X.K z g)) (hN : X.N[i]? = some x := by rfl) (hv : Vis X.env.scope x := by first | exact Or.inl rfl | exact Or.inr (Or.inl rfl) | exact Or.inr (Or.inr rfl)) (hd : (x == ("__debug__" : Str)) = false := by decide)
    (hcd : (x == ("__classdict__" : Str)) = false := by decide)
    (ha : ∀ v, assign (.Subscript (.Name x p1) b p2) X.env v = (do
      let ov ← holding [v] (eval (.Name x p1) X.env)
      let iv ← holding [v, ov] (eval b X.env)
      standAt p2
      holding [v, ov, iv] (setItem ov iv v)
      release [v, ov, iv] []) := by intro _; rfl)
    (hs : swapsWithSole [.Subscript (.Name x p1) b p2] e pos.line X.env = pure false := by rfl) (hw : swappedStores [.Subscript (.Name x p1) b p2] e X.env = pure none := by rfl)
    (h1 : (assignEach [.Subscript (.Name x p1) b p2] X.env).map (·.2) = [assign (.Subscript (.Name x p1) b p2) X.env] := by rfl) :
    PS X (.Assign [.Subscript (.Name x p1) b p2] e pos) (tS X.K z (gSetD i f g)) :=
  (ps_asg he (pg_sub (pe_var hN hv hd hcd) hb (set_dict (by omega)) ha) hs hw h1).mono fun D σ H ⟨ρ, F, O, fl, ρ', R, e, q⟩ => by
    obtain ⟨⟨d, ρ1⟩, h1, e⟩ := bind_some e
    dsimp only at e
    split at e
    · next h0 =>
      obtain ⟨⟨k, ρ2⟩, h2, e⟩ := bind_some e
      obtain ⟨ρ3, h3, e⟩ := map_some e
      cases e
      refine ⟨ρ, F, O, d, ρ1, R, h1, fun v F1 H1 R1 k1 r1 => ?_⟩
      obtain ⟨p, s1⟩ := isDic_of R1 h0
      refine ⟨_, s1, ρ1, F1, O, _, ρ2, R1, h2, fun w F2 H2 R2 k2 r2 => ?_⟩
      obtain ⟨H', d1, R3, _⟩ := dPut_of R2 s1 h3 r2 (r1.mono k2.same)
      exact ⟨p, H', rfl, d1, q σ F2 H' O R3 (k1.same.trans k2.same)⟩
    · cases e
end
end DL
namespace DL
open PySem PySem.Spec PyProof.Rows L2
section
variable {X : Cx} {z : Z}
def wDisp (g f : Env → Option D) : Env → Option (E × Env) := fun ρ => (g ρ).bind fun k => (f ρ).bind fun d => (keyOf k).map fun k => (.dk false [(k, d)], ρ)
def cDisp (g f : Env → Option D) : Env → Option D := fun ρ => (g ρ).bind fun k => (f ρ).bind fun d => (keyOf k).map fun k => .dict [(kD k, d)]
end
end DL
namespace DL
open PySem PySem.Spec PyProof.Rows L2
def DicU (u : HO) : Prop := (∃ kvs, u = .dK kvs) ∨ ∃ kvs, u = .dT kvs
section
variable {K : PySem.W.Frag} {G G' : Hp} {p : Addr} {o : Obj} {u : HO}
theorem sqL_out (hu : DicU u) (hp : G p = some (.frz o u)) (he : ∀ a, a ≠ p → G' a = G a) {a : Addr} {xs : List V} (h : SqL K G a xs) : SqL K G' a xs := by
  rcases h with (h | ⟨o', h⟩) | h
  · have ne : a ≠ p := fun e => by
      rw [e, hp] at h
      cases h
    exact .inl (.inl ((he a ne).trans h))
  · have ne : a ≠ p := fun e => by
      rw [e, hp] at h
      cases h
      rcases hu with ⟨_, q⟩ | ⟨_, q⟩ <;> cases q
    exact .inl (.inr ⟨o', (he a ne).trans h⟩)
  · exact .inr h
mutual
theorem Dp.out (hu : DicU u) (hp : G p = some (.frz o u)) (he : ∀ a, a ≠ p → G' a = G a) : ∀ {v : V} {d : D}, noDic d = true → Dp K G v d → Dp K G' v d
  | _, _, _, .non => .non
  | _, _, _, .bl b => .bl b
  | _, _, _, .int i => .int i
  | _, _, _, .str s => .str s
  | _, _, e, .dic _ _ _ => by unfold noDic at e; cases e
  | _, _, e, .lst h t => .lst (sqL_out hu hp he h) (DpAll.out hu hp he (by unfold noDic at e; exact e) t)
  | _, _, e, .tup h t => .tup ((he _ fun q => by rw [q, hp] at h; cases h).trans h) (DpAll.out hu hp he (by unfold noDic at e; exact e) t)
theorem DpAll.out (hu : DicU u) (hp : G p = some (.frz o u)) (he : ∀ a, a ≠ p → G' a = G a) : ∀ {vs : List V} {ds : List D}, noDics ds = true → DpAll K G vs ds → DpAll K G' vs ds
  | _, _, _, .nil => .nil
  | _, _, e, .cons h t => by
    unfold noDics at e
    rw [Bool.and_eq_true] at e
    exact .cons (Dp.out hu hp he e.1 h) (DpAll.out hu hp he e.2 t)
end
end
section
variable {X : Cx} {z : Z}
theorem Rel.lock {K : PySem.W.Frag} {ρ : Env} {σ : L2.St} {F H : Hp} {O : Nat → List Addr} {i : Nat} {e' : E} {p : Addr} {o : HO} (R : Rel K z ρ σ F H O) (hv : σ[i]? = some (some (.ref p))) (hO : O i = [p]) (h0 : z.H0 p = none) (hE : Ent K z (upd F p o) (upd H p o) (.ref p) e' []) :
    Rel K z (ρ.set i (some e')) σ (upd F p o) (upd H p o) (setO O i []) := by
  have hm : p ∈ O i := by rw [hO]; exact List.mem_cons_self
  have hF := (R.off i p hm).1
  have hH := (R.off i p hm).2
  have ne : ∀ {j a}, j ≠ i → a ∈ O j → a ≠ p := fun hj ha q => hj (R.apt _ i _ ha (by rw [q]; exact hm))
  refine ⟨by rw [List.length_set, R.len], ?_, ?_, ?_, ?_, ?_, ?_, ?_, R.f0.trans (same_new hF), fun a vs e => by
    by_cases c : a = p
    · rw [c] at e ⊢
      rw [upd_same] at e ⊢
      exact e
    · rw [upd_ne c] at e ⊢
      exact R.tup a vs e⟩
  · intro a x e
    by_cases c : a = p
    · rw [c, upd_same] at e ⊢
      exact e
    · rw [upd_ne c] at e ⊢
      exact R.sub a x e
  · intro j x hj
    unfold setO
    by_cases c : j = i
    · subst c
      have hl : j < ρ.length := by
        have := (List.getElem?_eq_some_iff.mp hj).1
        rw [List.length_set] at this
        exact this
      rw [List.getElem?_set_self hl] at hj
      cases hj
      rw [if_pos rfl]
      exact ⟨_, hv, hE⟩
    · rw [List.getElem?_set_ne (Ne.symm c)] at hj
      rw [if_neg c]
      obtain ⟨w, h1, h2⟩ := R.ent j x hj
      exact ⟨w, h1, h2.mono (same_new hF) fun a ha => upd_ne (ne c ha)⟩
  · intro j a ha
    unfold setO at ha
    split at ha
    · cases ha
    · next c =>
      rw [upd_ne (ne c ha), upd_ne (ne c ha)]
      exact R.off j a ha
  · intro j k a hj hk
    unfold setO at hj hk
    split at hj
    · cases hj
    · split at hk
      · cases hk
      · exact R.apt j k a hj hk
  · intro a h1 h2
    by_cases c : a = p
    · rw [c] at h1
      exact absurd h0 h1
    · rw [upd_ne c]
      exact R.old a h1 h2
  · intro a h
    by_cases c : a = p
    · rw [c, upd_same]
      exact fun z => nomatch z
    · rw [upd_ne c]
      exact R.oldH a h
  · intro a x h nb
    by_cases c : a = p
    · rw [c, h0] at h
      cases h
    · rw [upd_ne c]
      exact R.keep a x h nb
def lkE : Option (Option E) → Option E
  | some (some (.dk false ks)) => some (.dk true ks)
  | some (some (.dt false ks)) => some (.dt true ks)
  | _ => none
def cLkD (i : Nat) (f : Env → Option D) : Env → Option D := fun ρ => (lkE ρ[i]?).bind fun e => (f (ρ.set i (some e))).bind fun d => if noDic d then some d else none
theorem lkE_of {K : PySem.W.Frag} {ρ : Env} {σ : L2.St} {F H : Hp} {O : Nat → List Addr} {i : Nat} {e' : E} (R : Rel K z ρ σ F H O) (h : lkE ρ[i]? = some e') :
    ∃ p u, σ[i]? = some (some (.ref p)) ∧ O i = [p] ∧ z.H0 p = none ∧ H p = some u ∧ F p = none ∧ DicU u ∧ ∀ od, Rel K z (ρ.set i (some e')) σ (upd F p (.frz od u)) (upd H p (.frz od u)) (setO O i []) := by
  unfold lkE at h
  split at h
  · next hi =>
    cases h
    obtain ⟨v, hv, p, kvs, e1, e2, e3, lk⟩ := R.ent i _ hi
    subst e1
    rcases lk with ⟨_, l1, l2, l3⟩ | ⟨l1, _⟩
    · have hF := (R.off i p (by rw [l1]; exact List.mem_cons_self)).1
      exact ⟨p, _, hv, l1, l2, l3, hF, .inl ⟨_, rfl⟩, fun od => R.lock hv l1 l2 ⟨p, kvs, rfl, e2, e3.mono (same_new hF), .inr ⟨rfl, rfl, od, upd_same⟩⟩⟩
    · cases l1
  · next hi =>
    cases h
    obtain ⟨v, hv, p, kvs, e1, e2, e3, lk⟩ := R.ent i _ hi
    subst e1
    rcases lk with ⟨_, l1, l2, l3⟩ | ⟨l1, _⟩
    · have hF := (R.off i p (by rw [l1]; exact List.mem_cons_self)).1
      exact ⟨p, _, hv, l1, l2, l3, hF, .inr ⟨_, rfl⟩, fun od => R.lock hv l1 l2 ⟨p, kvs, rfl, e2, e3.mono (same_new hF), .inr ⟨rfl, rfl, od, upd_same⟩⟩⟩
    · cases l1
  · cases h
theorem DicU.mut {u : HO} (h : DicU u) : Mut (some u) := by
  rcases h with ⟨_, h⟩ | ⟨_, h⟩ <;> (subst h; exact True.intro)
theorem q_lkD (i : Nat) {e : Expr} {f : Env → Option D} (h : PE X e (tP X.K z f)) : PE X e (tP X.K z (cLkD i f)) :=
  (pe_lock h).mono fun σ H Q ⟨ρ, F, O, d, R, e, q⟩ => by
    obtain ⟨e', h1, e⟩ := bind_some e
    obtain ⟨d', h2, e⟩ := bind_some e
    split at e
    · next hd =>
      cases e
      obtain ⟨p, u, s1, s2, s3, s4, s5, hu, R2⟩ := lkE_of R h1
      refine ⟨p, u, s4, hu.mut, fun od => ⟨_, _, _, _, R2 od, h2, fun v H' s r => ⟨s _ _ upd_same, ?_⟩⟩⟩
      refine q v _ (fun a x ha => ?_) (Dp.out (p := p) (o := od) hu ?_ (fun a c => ?_) hd r)
      · by_cases c : a = p
        · rw [c, upd_same]
          rw [c, s4] at ha
          exact ha
        · rw [upd_ne c]
          exact s a x (by rw [upd_ne c]; exact ha)
      · unfold ext
        rw [upd_same, upd_same]
        rfl
      · unfold ext
        rw [upd_ne c, upd_ne c, upd_ne c]
    · cases e
def iD (i : Nat) : Env → Option (List D) := fun ρ => match ρ[i]? with
  | some (some (.dk true ks)) => some (ks.map fun p => kD p.1)
  | _ => none
theorem rep_key {K : PySem.W.Frag} {F : Hp} (k : Key) : Rep K F (kV k) (kD k) := by
  cases k with
  | inl i => exact .int i
  | inr x => exact .str x
end
end DL
namespace DL
open PySem PySem.Spec PyProof.Rows L2
end DL
namespace DL
open PySem PySem.Spec PyProof.Rows L2
section
variable {X : Cx} {z : Z}
/-- the keys of a shared dict, sorted -/
def oSk : D → Option D
  | .dict ks => if ks.all (fun p => match p.1 with | .int _ => true | _ => false) && sortOk (ks.map fun p => p.1) then some (.list (isort leD (ks.map fun p => p.1))) else none
  | _ => none
/-- .. of a dict of one's own -/
def cSkO (i : Nat) : Env → Option D := fun ρ => match ρ[i]? with
  | some (some (.dk l ks)) => oSk (frzE (.dk l ks))
  | _ => none
end
end DL
namespace DL
open PySem PySem.Spec PyProof.Rows L2
end DL
namespace DL
open PySem PySem.Spec PyProof.Rows L2
section
variable {X : Cx} {z : Z}
def oBack : D → Option D
  | .tuple ds => some (.tuple ds.reverse)
  | _ => none
end
end DL
namespace DL
open PySem PySem.Spec PyProof.Rows L2
section
variable {X : Cx} {z : Z}
def cDg2 (i : Nat) (g f : Env → Option D) : Env → Option D := fun ρ => (g ρ).bind fun k => (f ρ).bind fun d => (dGet ρ[i]? k).map fun o => o.getD d
end
end DL
namespace DL
open PySem PySem.Spec PyProof.Rows L2
def twoD : D → Option (D × D)
  | .tuple [a, b] => some (a, b)
  | _ => none
def intD : D → Option Int
  | .int k => some k
  | _ => none
def gSet2 (i : Nat) (f : Env → Option (D × Env)) (g1 g2 : Env → Option D) : Gs := fun ρ => (f ρ).bind fun p => (twoD p.1).bind fun ab => (ownL p.2[i]?).bind fun ds => (g1 p.2).bind fun k1 => (intD k1).bind fun k => (ixN ds.length k).bind fun j =>
  (g2 (putL i (ds.set j ab.1) p.2)).bind fun k2 => (intD k2).bind fun k' => (ownL (putL i (ds.set j ab.1) p.2)[i]?).bind fun es => (ixN es.length k').map fun j' => (.nx, putL i (es.set j' ab.2) (putL i (ds.set j ab.1) p.2))
end DL
namespace DL
open PySem PySem.Spec PyProof.Rows L2
def wCatE (ds : List D) : D → Option (List D)
  | .list es => if ds.length + es.length ≤ 1000000 then some (ds ++ es) else none
  | _ => none
def wCatO (i : Nat) (f : Env → Option (D × Env)) : Env → Option (E × Env) := fun ρ => (ownL ρ[i]?).bind fun _ => (f ρ).bind fun q => (ownL q.2[i]?).bind fun ds => (wCatE ds q.1).map fun es => (.own (.list es), q.2)
end DL
namespace DL
open PySem PySem.Spec PyProof.Rows L2
end DL
namespace DL
open PySem PySem.Spec PyProof.Rows L2
inductive FnAll (K : PySem.W.Frag) (F : Hp) : List V → List Addr → List D → Prop
  | nil : FnAll K F [] [] []
  | cons {p a : Addr} {w : V} {vs : List V} {as : List Addr} {d : D} {ds : List D} : F p = some (.tup [.ref a, w]) → Rep K F w d → FnAll K F vs as ds → FnAll K F (.ref p :: vs) (a :: as) (d :: ds)
theorem FnAll.mono {K : PySem.W.Frag} {F F' : Hp} (s : Same F F') : ∀ {vs : List V} {as : List Addr} {ds : List D}, FnAll K F vs as ds → FnAll K F' vs as ds
  | _, _, _, .nil => .nil
  | _, _, _, .cons h r t => .cons (s _ _ h) (r.mono s) (t.mono s)
theorem FnAll.len {K : PySem.W.Frag} {F : Hp} : ∀ {vs : List V} {as : List Addr} {ds : List D}, FnAll K F vs as ds → vs.length = ds.length ∧ as.length = ds.length
  | _, _, _, .nil => ⟨rfl, rfl⟩
  | _, _, _, .cons _ _ t => ⟨congrArg (· + 1) t.len.1, congrArg (· + 1) t.len.2⟩
theorem FnAll.get {K : PySem.W.Frag} {F : Hp} : ∀ {vs : List V} {as : List Addr} {ds : List D} {i : Nat} {v : V}, FnAll K F vs as ds → vs[i]? = some v → ∃ p a w d, v = .ref p ∧ as[i]? = some a ∧ ds[i]? = some d ∧ F p = some (.tup [.ref a, w]) ∧ Rep K F w d
  | _, _, _, _, _, .nil, e => by simp at e
  | _, _, _, 0, _, .cons h r t, e => by
    simp at e
    subst e
    exact ⟨_, _, _, _, rfl, rfl, rfl, h, r⟩
  | _, _, _, i + 1, _, .cons _ _ t, e => by
    obtain ⟨p, a, w, d, h1, h2, h3, h4⟩ := FnAll.get (i := i) t (by simpa using e)
    exact ⟨p, a, w, d, h1, by simpa using h2, by simpa using h3, h4⟩
def gLoopF (i k : Nat) (g : Gs) : Nat → List Addr → List D → Gs
  | j, a :: as, d :: ds, ρ => (g ((ρ.set i (some (.fn j a))).set k (some (.sh d)))).bind fun p => match p.1 with
    | .nx => gLoopF i k g (j + 1) as ds p.2
    | .ct => gLoopF i k g (j + 1) as ds p.2
    | .bk => some (.nx, p.2)
    | .ret d => some (.ret d, p.2)
  | _, _, _, ρ => some (.nx, ρ)
def gForF (i k : Nat) (as : List Addr) (f : Env → Option (List D)) (g : Gs) : Gs := fun ρ => (f ρ).bind fun ds => if ds.length ≤ 1000 then gLoopF i k g 0 as ds ρ else none
section
variable {X : Cx} {z : Z}
def gLoopN (i : Nat) (g : Gs) : Nat → List Addr → Gs
  | _, [], ρ => some (.nx, ρ)
  | j, a :: as, ρ => (g (ρ.set i (some (.fn j a)))).bind fun p => match p.1 with
    | .nx => gLoopN i g (j + 1) as p.2
    | .ct => gLoopN i g (j + 1) as p.2
    | .bk => some (.nx, p.2)
    | .ret d => some (.ret d, p.2)
def gForN (i : Nat) (as : List Addr) (g : Gs) : Gs := fun ρ => if as.length ≤ 1000 then gLoopN i g 0 as ρ else none
def cCf (i : Nat) (ms : List (Addr × (List D → Option D))) (f : Env → Option (List D)) : Env → Option D := fun ρ => match ρ[i]? with
  | some (some (.fn j a)) => match ms[j]? with
    | some p => if p.1 = a then (f ρ).bind p.2 else none
    | none => none
  | _ => none
/-- a def at an address -/
def HeldP (P : Program) (w : World) (K : PySem.W.Frag) (mg : Str → Option Value) (base : Heap) (k : Nat) (x : Str) (p : Addr × (List D → Option D)) : Prop := ∃ (fd : FuncData) (ps : List Str), FnOk P w K mg base CX0 k p.1 fd ps (spP K p.2) ∧ mg x = some (.ref p.1) ∧ PySem.W.keepIn K (.ref p.1) = true ∧ Binds K fd ps []
theorem HeldP.mg {P : Program} {w : World} {K : PySem.W.Frag} {mg : Str → Option Value} {base : Heap} {k : Nat} {x : Str} {p : Addr × (List D → Option D)} (c : HeldP P w K mg base k x p) : mg x = some (.ref p.1) := by
  obtain ⟨_, _, _, h, _⟩ := c
  exact h
theorem HeldP.le {P : Program} {w : World} {K : PySem.W.Frag} {mg : Str → Option Value} {base : Heap} {j k : Nat} {x : Str} {p : Addr × (List D → Option D)} (c : HeldP P w K mg base j x p) (h : j ≤ k) : HeldP P w K mg base k x p := by
  obtain ⟨fd, ps, F, r⟩ := c
  exact ⟨fd, ps, F.mono h, r⟩
end
end DL
namespace DL
open PySem PySem.Spec PyProof.Rows L2
end DL
namespace DL
open PySem PySem.Spec PyProof.Rows L2
def iv : D → Option Int
  | .int i => some i
  | _ => none
def isIntD : D → Bool
  | .int _ => true
  | _ => false
/-- a list of ints, not that one -/
def othL (es : List D) : D → Bool
  | .list ds => ds.all isIntD && decide (es.map iv ≠ ds.map iv)
  | _ => false
def ownLs (e : Option (Option E)) : Option (List D) := match e with
  | some (some (.own (.list es))) => some es
  | _ => none
def cBorL (i : Nat) (f : Env → Option D) : Env → Option D := fun ρ => (ownLs ρ[i]?).bind fun es => (f (ρ.set i (some (.sh (.list es))))).bind fun d => if othL es d then some d else none
end DL
namespace DL
open PySem PySem.Spec PyProof.Rows L2
def iDT (i : Nat) : Env → Option (List D) := fun ρ => match ρ[i]? with
  | some (some (.dt true ks)) => some (ks.map fun p => .tuple (p.1.map kD))
  | _ => none
section
variable {X : Cx} {z : Z}
theorem rep_keyL {K : PySem.W.Frag} {F : Hp} : ∀ k : List Key, RepL K F (k.map kV) (k.map kD)
  | [] => .nil
  | a :: k => .cons (rep_key a) (rep_keyL k)
theorem yld_tkeys {K : PySem.W.Frag} {F : Hp} {d : Addr} {o : Obj} {kvs : List (List Key × V)} {ks : List (List Key × D)} (hf : F d = some (.frz o (.dT kvs))) (e : kvs.map (·.1) = ks.map (·.1)) : Yld K (Itkt d o kvs) F (ks.map fun p => .tuple (p.1.map kD)) := by
  have el : kvs.length = ks.length := by
    have := congrArg List.length e
    rwa [List.length_map, List.length_map] at this
  refine ⟨fun i H s hi => ⟨s _ _ hf, ?_⟩, fun i F' H x H' dd s1 s2 t hy hd => ?_, fun i H s hi => ⟨s _ _ hf, ?_⟩⟩
  · rw [List.length_map] at hi
    omega
  · obtain ⟨e1, k, v, q, e2, e3, e4⟩ := hy
    subst e1 e3
    refine ⟨Same.refl _, ?_⟩
    rw [ext_self s2]
    have e5 : (kvs.map (·.1))[i]? = some k := by rw [List.getElem?_map, e2]; rfl
    have e6 : ks.map (fun p => PyData.tuple (p.1.map kD)) = (kvs.map (·.1)).map fun k => .tuple (k.map kD) := by rw [e, List.map_map]; rfl
    rw [e6, List.getElem?_map, e5] at hd
    cases hd
    exact .tup (t _ _ e4) (rep_keyL k)
  · rw [List.length_map] at hi
    omega
theorem iDT_of {K : PySem.W.Frag} {ρ : Env} {σ : L2.St} {F H : Hp} {O : Nat → List Addr} {i : Nat} {ds : List D} (R : Rel K z ρ σ F H O) (h : iDT i ρ = some ds) : ∃ p o kvs, σ[i]? = some (some (.ref p)) ∧ F p = some (.frz o (.dT kvs)) ∧ Yld K (Itkt p o kvs) F ds := by
  unfold iDT at h
  split at h
  · next hi =>
    cases h
    obtain ⟨v, hv, p, kvs, e1, e2, e3, lk⟩ := R.ent i _ hi
    subst e1
    rcases lk with ⟨l1, _⟩ | ⟨_, _, o, l2⟩
    · cases l1
    · exact ⟨p, o, kvs, hv, l2, yld_tkeys l2 e2⟩
  · cases h
theorem i_dt (i : Nat) {tg : Expr} {x : Str} {pos : Pos} (hN : X.N[i]? = some x := by rfl) (hv : Vis X.env.scope x := by first | exact Or.inl rfl | exact Or.inr (Or.inl rfl) | exact Or.inr (Or.inr rfl)) (hd : (x == ("__debug__" : Str)) = false := by decide)
    (hcd : (x == ("__classdict__" : Str)) = false := by decide) : PI X tg (.Name x pos) (tIP X.K z (iDT i)) := by
  refine ⟨fun pins s σ H Rr I ⟨ρ, F, O, ds, R, e, q⟩ => ?_⟩
  obtain ⟨p, o, kvs, s1, s2, s3⟩ := iDT_of R e
  exact (pi_keys (pe_var hN hv hd hcd)).run pins s σ H Rr I ⟨_, s1, p, o, rfl, .inr ⟨kvs, R.sub _ _ s2, q _ H (Same.refl _) (by rw [ext_self R.sub]; exact s3)⟩⟩
end
end DL
namespace DL
open PySem PySem.Spec PyProof.Rows L2
def vvObj (a : Addr) : Obj := { cls := .type "dict_values", data := .fields #[.ref a] }
def vvO (p a : Addr) : HO := .ext fun h => h.get? p = some (vvObj a)
theorem vvO_ok {P : Program} {w : World} {H : Hp} {h : Heap} {p a : Addr} (e : h.get? p = some (vvObj a)) : ObjOk P w H h p (vvO p a) := ⟨e, ⟨_, e⟩, fun _ _ x k => k _ x⟩
def tVv (td : TE) : TE := fun σ H Q => td σ H fun x H1 => ∃ a kvs, x = .ref a ∧ Rd H1 a (.dT kvs) ∧ ∀ p, H1 p = none → Q (.ref p) (upd H1 p (vvO p a))
section
variable {X : Cx} {z : Z}
theorem pe_vv {e : Expr} {td : TE} {apos cpos : Pos} (he : PE X e td) (hb : attributeBase e "values" X.env (eval e X.env) = eval e X.env := by rfl) (hl : (apos.endLine == cpos.line) = true := by rfl) : PE X (.Call (.Attribute e "values" apos) [] [] cpos) (tVv td) := by
  refine ⟨fun pins s σ H Q I h => wpAny_Call_method (T := "dict") (id := "dict.values") hb rfl hl F.plainAttrs_dict F.slot_dict_values F.type_dict_values (thn (he.run pins s σ H _ I h) fun u s1 ⟨x, H1, I1, rx, a, kvs, ex, hd, q⟩ => ?_)⟩
  subst ex
  obtain rfl : u = Value.ref a := rx
  obtain ⟨z, hs, ks, pr, o, es, ep, ho, hx, hdt, he', hn⟩ := (show ObjOk X.prog X.w H1 s1.heap a (.dT kvs) from hd.ok I1.hok)
  refine ⟨⟨o, ho, hx.1⟩, fun b e => ?_, ?_⟩
  · cases e
    exact ⟨o, ho, hx.2.1⟩
  change wpAny _ _ (callWith cpos (.builtin "dict.values") [.ref a] [] []) _ X.xe s1
  refine method_meetsIn F.slot_dict_values F.entry_dict_values rfl (PySem.evalArgs_none ⟨rfl, ⟨o, ho, hx.1⟩, F.args_dict_values_1 _, _, meets_dict_values_raw a hs, ⟨es, ep, o, ho, hx, hdt⟩, ?_⟩)
  exact ⟨.ref _, _, I1.laid (t' := s1.toks) (fun b o q => Heap.get?_push_of_some _ q) (Nat.le_refl _) (vvO_ok (Heap.get?_push_size _ rfl)), rfl, q _ (I1.hok.fresh (Nat.le_refl _))⟩
def rListVv : List V → Hp → VK → Prop := fun xs H Q => ∃ (p a : Addr) (kvs : List (List Key × V)), xs = [.ref p] ∧ H p = some (vvO p a) ∧ Rd H a (.dT kvs) ∧ ∀ q, H q = none → Q (.ref q) (upd H q (.lst (kvs.map (·.2))))
theorem cr_listVv (hc : X.calm = true) : CallR X (.type "list") rListVv := by
  intro pins s σ H xs us Q I r h
  obtain ⟨p, a, kvs, rfl, hp, hd, q⟩ := h
  obtain rfl := Vals.ref1 r
  have view : s.heap.get? p = some (vvObj a) := (show ObjOk X.prog X.w H s.heap p (vvO p a) from I.hok p _ hp).1
  obtain ⟨hz, hs, ks, pr, o, es, ep, ho, hx, hdt, he, hn⟩ := (show ObjOk X.prog X.w H s.heap a (.dT kvs) from hd.ok I.hok)
  have l1 : es.size = ks.length := size_of_entries he
  have l2 : kvs.length = ks.length := Paired.length pr
  refine PySem.W.kdl_call (KdlSrc.rawValues (es := es) (ep := ep)) (I.ok.hd hc) ⟨⟨_, view, rfl, rfl⟩, o, ho, hx, hdt⟩ (by omega) fun h' tk acc' c' kp e it => ?_
  have rv : Vals (kvs.map (·.2)) acc'.toList := by
    refine vals_of_at (by
    have e0 : acc'.toList.length = acc'.size := by simp
    rw [List.length_map, e0, it.1]
    omega) fun j x u h1 h2 => ?_
    obtain ⟨hi, hv⟩ := it.2 j u (by rw [← Array.getElem?_toList]; exact h2)
    rw [List.getElem?_map] at h1
    obtain ⟨kv, h3, h4⟩ := map_some h1
    obtain ⟨b, hb, e1, e2, e3⟩ := paired_get pr h3
    have qe := entry_at he j
    rw [hb] at qe
    have qe : es[j]? = some (entryOfKey (tupleKind (mixKind X.prog X.w)) b) := qe
    rw [Array.getElem?_eq_getElem hi] at qe
    rw [hv, Option.some.inj qe, ← h4]
    exact e3
  exact ⟨.ref s.heap.objs.size, _, I.laid (t' := tk) (o := .lst (kvs.map (·.2))) kp (Nat.le_refl _) ⟨by rw [List.length_map]; omega, acc'.toList, c', rv, by rw [Array.toArray_toList]; exact e⟩, rfl, q _ (I.hok.fresh (Nat.le_refl _))⟩
def cVls (i : Nat) : Env → Option D := fun ρ => match ρ[i]? with
  | some (some (.dt _ ks)) => some (.list (ks.map (·.2)))
  | _ => none
theorem q_vls (i : Nat) {x : Str} {p p2 p3 q pos : Pos} (hc : X.calm = true) (hg : Gl X "list") (hm : X.mg "list" = none) (hN : X.N[i]? = some x := by rfl) (hv : Vis X.env.scope x := by first | exact Or.inl rfl | exact Or.inr (Or.inl rfl) | exact Or.inr (Or.inr rfl)) (hd : (x == ("__debug__" : Str)) = false := by decide)
    (hcd : (x == ("__classdict__" : Str)) = false := by decide)
    (nb : starEach [.Call (.Attribute (.Name x p3) "values" p2) [] [] q] X.env = (false, eval (.Call (.Attribute (.Name x p3) "values" p2) [] [] q) X.env) :: starEach [] X.env := by rfl) (hb : attributeBase (.Name x p3) "values" X.env (eval (.Name x p3) X.env) = eval (.Name x p3) X.env := by rfl) (hl : (p2.endLine == q.line) = true := by rfl) :
    PE X (.Call (.Name "list" p) [.Call (.Attribute (.Name x p3) "values" p2) [] [] q] [] pos) (tP X.K z (cVls i)) :=
  (pe_callTy (cr_listVv hc) hg hm bt_list (pa_cons (pe_vv (pe_var hN hv hd hcd) hb hl) pa_nil nb) (by decide) (by decide) nb).mono fun σ H Q ⟨ρ, F, O, d, R, e, q⟩ => by
    unfold cVls at e
    split at e
    · next l ks hi =>
      cases e
      obtain ⟨v, hv, p, kvs, e1, e2, e3, lk⟩ := R.ent i _ hi
      subst e1
      refine ⟨_, hv, p, kvs, rfl, lk.rd R.sub, fun p' hp => ⟨p', p, kvs, rfl, upd_same, rdMono (same_new hp) (lk.rd R.sub), fun q' hq => ?_⟩⟩
      have s : Same H (upd (upd H p' (vvO p' p)) q' (.lst (kvs.map (·.2)))) := (same_new hp).trans (same_new hq)
      refine q _ _ s (.lst (.of ?_) (e3.mono (same_ext R.sub)))
      have hH : H q' = none := by
        by_cases c : q' = p'
        · rw [c, upd_same] at hq
          cases hq
        · rw [upd_ne c] at hq
          exact hq
      unfold ext
      rw [hH, upd_same]
      rfl
    · cases e
end
end DL
namespace PL
abbrev Mat := Nat → Nat → Int
def set2 (m : Mat) (i j : Nat) (v : Int) : Mat := fun x y => if x = i ∧ y = j then v else m x y
/-- one turn of the table: through the point k -/
def phase (k : Nat) (m : Mat) : Mat := fun i j => min (m i j) (m i k + m k j)
def phases : Nat → Mat → Mat
  | 0, m => m
  | k + 1, m => phase k (phases k m)
structure Zero (m : Mat) : Prop where
  diag : ∀ i, m i i = 0
  nn : ∀ i j, 0 ≤ m i j
theorem Zero.phase {m : Mat} (h : Zero m) (k : Nat) : Zero (phase k m) where
  diag := fun i => by
    show min (m i i) (m i k + m k i) = 0
    have := h.diag i
    have := h.nn i k
    have := h.nn k i
    omega
  nn := fun i j => by
    show 0 ≤ min (m i j) (m i k + m k j)
    have := h.nn i j
    have := h.nn i k
    have := h.nn k j
    omega
theorem Zero.phases {m : Mat} (h : Zero m) : ∀ k, Zero (phases k m)
  | 0 => h
  | k + 1 => (h.phases k).phase k
theorem phase_le (k : Nat) (m : Mat) (i j : Nat) : phase k m i j ≤ m i j := by
  show min _ _ ≤ _
  omega
theorem phases_le {m : Mat} (i j : Nat) : ∀ k, phases k m i j ≤ m i j
  | 0 => Int.le_refl _
  | k + 1 => Int.le_trans (phase_le k _ i j) (phases_le i j k)
/-- row and column k stand still in turn k -/
theorem phase_row {m : Mat} (h : Zero m) (k j : Nat) : phase k m k j = m k j := by
  show min (m k j) (m k k + m k j) = _
  have := h.diag k
  omega
theorem phase_col {m : Mat} (h : Zero m) (k i : Nat) : phase k m i k = m i k := by
  show min (m i k) (m i k + m k k) = _
  have := h.diag k
  omega
theorem tri {m : Mat} (h : Zero m) : ∀ k x, x < k → ∀ i j, phases k m i j ≤ phases k m i x + phases k m x j
  | 0, x, hx => absurd hx (Nat.not_lt_zero x)
  | k + 1, x, hx => fun i j => by
    have Z := h.phases k
    have T := tri h k
    show phase k (phases k m) i j ≤ phase k (phases k m) i x + phase k (phases k m) x j
    by_cases e : x = k
    · subst e
      rw [phase_col Z, phase_row Z]
      show min _ _ ≤ _
      omega
    · have hx' : x < k := by omega
      have a1 := T x hx' i j
      have a2 := T x hx' k j
      have a3 := T x hx' i k
      have a4 := T x hx' k k
      have a5 := Z.diag k
      show min (phases k m i j) (phases k m i k + phases k m k j) ≤ min (phases k m i x) (phases k m i k + phases k m k x) + min (phases k m x j) (phases k m x k + phases k m k j)
      omega
theorem sym {m : Mat} (h : ∀ i j, m i j = m j i) : ∀ k i j, phases k m i j = phases k m j i
  | 0, i, j => h i j
  | k + 1, i, j => by
    have a1 := sym h k i j
    have a2 := sym h k i k
    have a3 := sym h k k j
    show min _ _ = min _ _
    omega
/-- each way ends with a road, or is as far as 'far' -/
theorem last {m : Mat} {far : Int} (E : Nat → Nat → Int → Prop) (h : Zero m) (h0 : ∀ i j, i ≠ j → far ≤ m i j ∨ E i j (m i j)) : ∀ k i j, i ≠ j → far ≤ phases k m i j ∨ ∃ u l, E u j l ∧ phases k m i u + l ≤ phases k m i j
  | 0, i, j, ne => by
    rcases h0 i j ne with a | a
    · exact .inl a
    · refine .inr ⟨i, m i j, a, ?_⟩
      show m i i + m i j ≤ m i j
      have := h.diag i
      omega
  | k + 1, i, j, ne => by
    have Z := h.phases k
    have eq : phases (k + 1) m i j = min (phases k m i j) (phases k m i k + phases k m k j) := rfl
    by_cases c : phases k m i j ≤ phases k m i k + phases k m k j
    · have e1 : phases (k + 1) m i j = phases k m i j := by omega
      rw [e1]
      rcases last E h h0 k i j ne with a | ⟨u, l, a, b⟩
      · exact .inl a
      · refine .inr ⟨u, l, a, ?_⟩
        have := phase_le k (phases k m) i u
        show phase k (phases k m) i u + l ≤ _
        omega
    · have e1 : phases (k + 1) m i j = phases k m i k + phases k m k j := by omega
      rw [e1]
      by_cases ek : k = j
      · subst ek
        have := Z.diag k
        omega
      · rcases last E h h0 k k j ek with a | ⟨u, l, a, b⟩
        · left
          have := Z.nn i k
          omega
        · refine .inr ⟨u, l, a, ?_⟩
          show min (phases k m i u) (phases k m i k + phases k m k u) + l ≤ _
          omega
abbrev Road := Nat × Nat × Int
abbrev Row := Nat → Int
def set1 (r : Row) (j : Nat) (v : Int) : Row := fun x => if x = j then v else r x
def step (e : Road) (r : Row) : Row :=
  let r1 := set1 r e.2.1 (min (r e.2.1) (r e.1 + e.2.2))
  set1 r1 e.1 (min (r1 e.1) (r1 e.2.1 + e.2.2))
def round (es : List Road) (r : Row) : Row := es.foldl (fun r e => step e r) r
def rounds (es : List Road) : Nat → Row → Row
  | 0, r => r
  | n + 1, r => round es (rounds es n r)
theorem set1_le {r : Row} {j : Nat} {v : Int} (h : v ≤ r j) (x : Nat) : set1 r j v x ≤ r x := by
  unfold set1
  split
  · next e =>
    subst e
    exact h
  · exact Int.le_refl _
theorem step_le (e : Road) (r : Row) (x : Nat) : step e r x ≤ r x := by
  refine Int.le_trans (set1_le ?_ x) (set1_le ?_ x) <;> omega
theorem round_le : ∀ (es : List Road) (r : Row) (x : Nat), round es r x ≤ r x
  | [], _, _ => Int.le_refl _
  | e :: es, r, x => Int.le_trans (round_le es (step e r) x) (step_le e r x)
theorem step_b (e : Road) (r : Row) : step e r e.2.1 ≤ r e.1 + e.2.2 := by
  refine Int.le_trans (set1_le ?_ _) ?_
  · omega
  · unfold set1
    simp
    omega
theorem step_a (e : Road) (r : Row) (hn : e.1 ≠ e.2.1) : step e r e.1 ≤ r e.2.1 + e.2.2 := by
  have h1 : step e r e.1 = min (set1 r e.2.1 (min (r e.2.1) (r e.1 + e.2.2)) e.1) (set1 r e.2.1 (min (r e.2.1) (r e.1 + e.2.2)) e.2.1 + e.2.2) := by
    unfold step
    simp [set1]
  rw [h1]
  have h2 : set1 r e.2.1 (min (r e.2.1) (r e.1 + e.2.2)) e.2.1 ≤ r e.2.1 := set1_le (by omega) _
  omega
theorem round_edge : ∀ (es : List Road) (r : Row), (∀ e ∈ es, e.1 ≠ e.2.1) → ∀ e ∈ es, round es r e.2.1 ≤ r e.1 + e.2.2 ∧ round es r e.1 ≤ r e.2.1 + e.2.2
  | [], _, _, e, he => by cases he
  | f :: es, r, hn, e, he => by
    rcases List.mem_cons.mp he with q | q
    · subst q
      have b := step_b e r
      have a := step_a e r (hn e List.mem_cons_self)
      have c1 := round_le es (step e r) e.2.1
      have c2 := round_le es (step e r) e.1
      exact ⟨Int.le_trans c1 b, Int.le_trans c2 a⟩
    · obtain ⟨h1, h2⟩ := round_edge es (step f r) (fun e he => hn e (List.mem_cons_of_mem _ he)) e q
      have a1 := step_le f r e.1
      have a2 := step_le f r e.2.1
      refine ⟨Int.le_trans h1 ?_, Int.le_trans h2 ?_⟩ <;> omega
/-- what keeps every road stays below -/
def Keeps (es : List Road) (d : Row) : Prop := ∀ e ∈ es, d e.2.1 ≤ d e.1 + e.2.2 ∧ d e.1 ≤ d e.2.1 + e.2.2
theorem step_ge {d r : Row} {e : Road} (h : d e.2.1 ≤ d e.1 + e.2.2 ∧ d e.1 ≤ d e.2.1 + e.2.2) (hr : ∀ x, d x ≤ r x) (x : Nat) : d x ≤ step e r x := by
  have g : ∀ y, d y ≤ set1 r e.2.1 (min (r e.2.1) (r e.1 + e.2.2)) y := fun y => by
    unfold set1
    split
    · next q =>
      subst q
      have := hr e.2.1
      have := hr e.1
      have := h.1
      omega
    · exact hr y
  show d x ≤ set1 _ e.1 _ x
  unfold set1
  split
  · next q =>
    subst q
    have g1 := g e.1
    have g2 := g e.2.1
    have := h.2
    unfold set1 at g1 g2
    omega
  · exact g x
theorem round_ge {d : Row} : ∀ {es : List Road} {r : Row}, Keeps es d → (∀ x, d x ≤ r x) → ∀ x, d x ≤ round es r x
  | [], _, _, hr => hr
  | e :: es, r, h, hr => round_ge (es := es) (fun f hf => h f (List.mem_cons_of_mem _ hf)) (step_ge (h e List.mem_cons_self) hr)
theorem rounds_ge {es : List Road} {d r : Row} (h : Keeps es d) (hr : ∀ x, d x ≤ r x) : ∀ n x, d x ≤ rounds es n r x
  | 0 => hr
  | n + 1 => round_ge h (rounds_ge h hr n)
/-- how many points lie nearer -/
def rank (n : Nat) (d : Row) (v : Nat) : Nat := ((List.range n).filter fun x => decide (d x < d v)).length
theorem filter_lt {α : Type} (p q : α → Bool) : ∀ (l : List α) (u : α), (∀ x, p x = true → q x = true) → u ∈ l → p u = false → q u = true → (l.filter p).length < (l.filter q).length
  | [], u, _, hu, _, _ => by cases hu
  | x :: l, u, h, hu, pu, qu => by
    have le : ∀ l : List α, (l.filter p).length ≤ (l.filter q).length := fun l => by
      induction l with
      | nil => exact Nat.le_refl _
      | cons y l ih =>
        rw [List.filter_cons, List.filter_cons]
        cases py : p y with
        | true => simp [h y py, ih]
        | false =>
          cases q y
          · simpa using ih
          · simp
            omega
    rw [List.filter_cons, List.filter_cons]
    rcases List.mem_cons.mp hu with e | hu
    · subst e
      have := le l
      simp [pu, qu]
      omega
    · have ih := filter_lt p q l u h hu pu qu
      cases px : p x with
      | true => simp [h x px, ih]
      | false =>
        cases q x
        · simpa using ih
        · simp
          omega
theorem rank_lt {n u v : Nat} {d : Row} (hu : u < n) (h : d u < d v) : rank n d u < rank n d v := by
  unfold rank
  refine filter_lt _ _ _ u (fun x hx => ?_) (List.mem_range.mpr hu) ?_ ?_
  · have := of_decide_eq_true hx
    exact decide_eq_true (by omega)
  · exact decide_eq_false (by omega)
  · exact decide_eq_true h
theorem settled {n i : Nat} {es : List Road} {d r : Row} (hn : ∀ e ∈ es, e.1 ≠ e.2.1) (h0 : r i ≤ d i)
    (hl : ∀ v, v < n → v ≠ i → ∃ u l, u < n ∧ ((u, v, l) ∈ es ∨ (v, u, l) ∈ es) ∧ 1 ≤ l ∧ d u + l ≤ d v) : ∀ t v, v < n → rank n d v ≤ t → rounds es t r v ≤ d v
  | t, v, hv, hr => by
    have back : ∀ t, rounds es t r i ≤ r i := fun t => by
      induction t with
      | zero => exact Int.le_refl _
      | succ t ih => exact Int.le_trans (round_le es _ i) ih
    by_cases e : v = i
    · subst e
      exact Int.le_trans (back t) h0
    · obtain ⟨u, l, hu, he, hl1, hd⟩ := hl v hv e
      have rk := rank_lt hu (show d u < d v by omega)
      cases t with
      | zero => omega
      | succ t =>
        have ih := settled hn h0 hl t u hu (by omega)
        have ed := round_edge es (rounds es t r) hn
        show round es (rounds es t r) v ≤ d v
        rcases he with he | he
        · have := (ed _ he).1
          simp only at this
          omega
        · have := (ed _ he).2
          simp only at this
          omega
theorem rank_le (n : Nat) (d : Row) (v : Nat) : rank n d v ≤ n := by
  unfold rank
  exact Nat.le_trans (List.length_filter_le _ _) (by rw [List.length_range]; exact Nat.le_refl _)
/-- the rows are the table -/
theorem rows_eq {n i : Nat} {es : List Road} {d r : Row} (hn : ∀ e ∈ es, e.1 ≠ e.2.1) (hk : Keeps es d) (hr : ∀ x, d x ≤ r x) (h0 : r i ≤ d i)
    (hl : ∀ v, v < n → v ≠ i → ∃ u l, u < n ∧ ((u, v, l) ∈ es ∨ (v, u, l) ∈ es) ∧ 1 ≤ l ∧ d u + l ≤ d v) (v : Nat) (hv : v < n) : rounds es n r v = d v :=
  Int.le_antisymm (settled hn h0 hl n v hv (rank_le n d v)) (rounds_ge hk hr n v)
def relax (k i : Nat) (m : Mat) (j : Nat) : Mat := set2 m i j (min (m i j) (m i k + m k j))
def line (k n : Nat) (m : Mat) (i : Nat) : Mat := (List.range n).foldl (relax k i) m
def turn (n : Nat) (m : Mat) (k : Nat) : Mat := (List.range n).foldl (line k n) m
def table (n : Nat) (m : Mat) : Mat := (List.range n).foldl (turn n) m
theorem line_eq {m M : Mat} (h : Zero m) (k i : Nat) (h1 : ∀ j, M i j = m i j) (h2 : ∀ j, M k j = m k j) : ∀ t x y, (List.range t).foldl (relax k i) M x y = if x = i ∧ y < t then phase k m i y else M x y
  | 0, x, y => by simp
  | t + 1, x, y => by
    have ih := line_eq h k i h1 h2 t
    rw [List.range_succ, List.foldl_append]
    show set2 _ i t _ x y = _
    have a1 : (List.range t).foldl (relax k i) M i t = m i t := by
      rw [ih, if_neg (by omega), h1]
    have a2 : (List.range t).foldl (relax k i) M i k = m i k := by
      rw [ih]
      split
      · exact phase_col h k i
      · exact h1 k
    have a3 : (List.range t).foldl (relax k i) M k t = m k t := by
      rw [ih, if_neg (by omega), h2]
    rw [a1, a2, a3]
    unfold set2
    by_cases e : x = i ∧ y = t
    · obtain ⟨e1, e2⟩ := e
      subst e1 e2
      rw [if_pos ⟨rfl, rfl⟩, if_pos ⟨rfl, by omega⟩]
      rfl
    · rw [if_neg e, ih]
      by_cases c : x = i ∧ y < t
      · rw [if_pos c, if_pos ⟨c.1, by omega⟩]
      · rw [if_neg c, if_neg (by omega)]
theorem turn_eq {m : Mat} (h : Zero m) (n k : Nat) : ∀ t x y, (List.range t).foldl (line k n) m x y = if x < t ∧ y < n then phase k m x y else m x y
  | 0, x, y => by simp
  | t + 1, x, y => by
    have ih := turn_eq h n k t
    rw [List.range_succ, List.foldl_append]
    show line k n _ t x y = _
    have h1 : ∀ j, (List.range t).foldl (line k n) m t j = m t j := fun j => by rw [ih, if_neg (by omega)]
    have h2 : ∀ j, (List.range t).foldl (line k n) m k j = m k j := fun j => by
      rw [ih]
      split
      · exact phase_row h k j
      · rfl
    show (List.range n).foldl (relax k t) ((List.range t).foldl (line k n) m) x y = _
    rw [line_eq h k t h1 h2 n x y]
    by_cases c : x = t ∧ y < n
    · rw [if_pos c, if_pos (by omega), c.1]
    · rw [if_neg c]
      show (List.range t).foldl (line k n) m x y = _
      rw [ih]
      by_cases c2 : x < t ∧ y < n
      · rw [if_pos c2, if_pos (by omega)]
      · rw [if_neg c2, if_neg (by omega)]
theorem turn_zero {m : Mat} (h : Zero m) (n k : Nat) : Zero (turn n m k) where
  diag := fun i => by
    unfold turn
    rw [turn_eq h]
    split
    · exact (h.phase k).diag i
    · exact h.diag i
  nn := fun i j => by
    unfold turn
    rw [turn_eq h]
    split
    · exact (h.phase k).nn i j
    · exact h.nn i j
theorem table_eq {m : Mat} (h : Zero m) (n : Nat) : ∀ t, t ≤ n → Zero ((List.range t).foldl (turn n) m) ∧ ∀ x y, x < n → y < n → (List.range t).foldl (turn n) m x y = phases t m x y
  | 0, _ => ⟨h, fun _ _ _ _ => rfl⟩
  | t + 1, ht => by
    obtain ⟨z, ih⟩ := table_eq h n t (by omega)
    rw [List.range_succ, List.foldl_append]
    refine ⟨turn_zero z n t, fun x y hx hy => ?_⟩
    show turn n _ t x y = phase t (phases t m) x y
    show (List.range n).foldl (line t n) ((List.range t).foldl (turn n) m) x y = _
    rw [turn_eq z, if_pos ⟨hx, hy⟩]
    show min _ _ = min _ _
    rw [ih x y hx hy, ih x t hx (by omega), ih t y (by omega) hy]
def relaxR (e : Road) (m : Mat) (i : Nat) : Mat :=
  let m1 := set2 m i e.2.1 (min (m i e.2.1) (m i e.1 + e.2.2))
  set2 m1 i e.1 (min (m1 i e.1) (m1 i e.2.1 + e.2.2))
theorem set2_row (m : Mat) (i j : Nat) (v : Int) (x : Nat) : set2 m i j v x = if x = i then set1 (m i) j v else m x := by
  funext y
  unfold set2 set1
  by_cases e : x = i
  · subst e
    simp
  · rw [if_neg e, if_neg (fun h => e h.1)]
theorem relaxR_eq (e : Road) (m : Mat) (i x : Nat) : relaxR e m i x = if x = i then step e (m i) else m x := by
  have h1 := set2_row m i e.2.1 (min (m i e.2.1) (m i e.1 + e.2.2))
  show set2 (set2 m i e.2.1 _) i e.1 _ x = _
  rw [set2_row]
  by_cases q : x = i
  · rw [if_pos q, if_pos q, h1 i, if_pos rfl]
    rfl
  · rw [if_neg q, if_neg q, h1 x, if_neg q]
def stepM (n : Nat) (m : Mat) (e : Road) : Mat := (List.range n).foldl (relaxR e) m
theorem stepM_eq (e : Road) (m : Mat) : ∀ t x, (List.range t).foldl (relaxR e) m x = if x < t then step e (m x) else m x
  | 0, x => by simp
  | t + 1, x => by
    have ih := stepM_eq e m t
    rw [List.range_succ, List.foldl_append]
    show relaxR e _ t x = _
    rw [relaxR_eq]
    by_cases q : x = t
    · subst q
      rw [if_pos rfl, if_pos (by omega), ih, if_neg (by omega)]
    · rw [if_neg q, ih]
      by_cases q2 : x < t
      · rw [if_pos q2, if_pos (by omega)]
      · rw [if_neg q2, if_neg (by omega)]
def roundM (n : Nat) (es : List Road) (m : Mat) (_ : Nat) : Mat := es.foldl (stepM n) m
theorem roundM_eq {n x : Nat} (hx : x < n) : ∀ (es : List Road) (m : Mat), es.foldl (stepM n) m x = round es (m x)
  | [], _ => rfl
  | e :: es, m => by
    show es.foldl (stepM n) (stepM n m e) x = round es (step e (m x))
    rw [roundM_eq hx es]
    unfold stepM
    rw [stepM_eq, if_pos hx]
def rowsM (n : Nat) (es : List Road) (m : Mat) : Mat := (List.range n).foldl (roundM n es) m
theorem rowsM_eq {n x : Nat} (hx : x < n) (es : List Road) (m : Mat) : ∀ t, (List.range t).foldl (roundM n es) m x = rounds es t (m x)
  | 0 => rfl
  | t + 1 => by
    rw [List.range_succ, List.foldl_append]
    show (es.foldl (stepM n) _) x = round es (rounds es t (m x))
    rw [roundM_eq hx, rowsM_eq hx es m t]
end PL
namespace PL
def lay (m : Mat) (e : Road) : Mat := set2 (set2 m e.1 e.2.1 e.2.2) e.2.1 e.1 e.2.2
def Edge (rs : List Road) (u v : Nat) (l : Int) : Prop := (u, v, l) ∈ rs ∨ (v, u, l) ∈ rs
theorem lay_val {m : Mat} {e : Road} (x y : Nat) : lay m e x y = if (x = e.2.1 ∧ y = e.1) ∨ (x = e.1 ∧ y = e.2.1) then e.2.2 else m x y := by
  unfold lay set2
  by_cases h1 : x = e.2.1 ∧ y = e.1
  · rw [if_pos h1, if_pos (.inl h1)]
  · rw [if_neg h1]
    by_cases h2 : x = e.1 ∧ y = e.2.1
    · rw [if_pos h2, if_pos (.inr h2)]
    · rw [if_neg h2, if_neg (fun h => h.elim h1 h2)]
theorem laid_or : ∀ (rs : List Road) (m : Mat) (x y : Nat), rs.foldl lay m x y = m x y ∨ Edge rs x y (rs.foldl lay m x y)
  | [], _, _, _ => .inl rfl
  | e :: rs, m, x, y => by
    show rs.foldl lay (lay m e) x y = _ ∨ Edge (e :: rs) x y (rs.foldl lay (lay m e) x y)
    rcases laid_or rs (lay m e) x y with h | h
    · rw [h, lay_val]
      split
      · next q =>
        right
        rcases q with ⟨q1, q2⟩ | ⟨q1, q2⟩
        · right
          rw [q1, q2]
          exact List.mem_cons_self
        · left
          rw [q1, q2]
          exact List.mem_cons_self
      · exact .inl rfl
    · right
      rcases h with h | h
      · exact .inl (List.mem_cons_of_mem _ h)
      · exact .inr (List.mem_cons_of_mem _ h)
theorem laid_none : ∀ (rs : List Road) (m : Mat) (x y : Nat), (∀ e ∈ rs, ¬ ((x = e.2.1 ∧ y = e.1) ∨ (x = e.1 ∧ y = e.2.1))) → rs.foldl lay m x y = m x y
  | [], _, _, _, _ => rfl
  | e :: rs, m, x, y, h => by
    show rs.foldl lay (lay m e) x y = _
    rw [laid_none rs _ x y fun f hf => h f (List.mem_cons_of_mem _ hf), lay_val, if_neg (h e List.mem_cons_self)]
def Pair (e : Road) : Nat × Nat := (e.1, e.2.1)
structure Web (n : Nat) (rs : List Road) : Prop where
  lt : ∀ e ∈ rs, e.1 < e.2.1 ∧ e.2.1 < n
  len : ∀ e ∈ rs, 1 ≤ e.2.2 ∧ e.2.2 ≤ 100
  nd : (rs.map Pair).Nodup
  few : rs.length ≤ 14
  tree : ∀ b, 0 < b → b < n → ∃ e ∈ rs, e.2.1 = b
theorem laid_at : ∀ (rs : List Road) (m : Mat), (∀ e ∈ rs, e.1 < e.2.1) → (rs.map Pair).Nodup → ∀ e ∈ rs, rs.foldl lay m e.1 e.2.1 = e.2.2 ∧ rs.foldl lay m e.2.1 e.1 = e.2.2
  | [], _, _, _, e, he => by cases he
  | f :: rs, m, hl, hn, e, he => by
    rw [List.map_cons, List.nodup_cons] at hn
    rcases List.mem_cons.mp he with q | q
    · subst q
      have no : ∀ g ∈ rs, g.1 = e.1 → g.2.1 = e.2.1 → False := fun g hg h1 h2 => hn.1 (List.mem_map.mpr ⟨g, hg, by unfold Pair; rw [h1, h2]⟩)
      have le := hl e List.mem_cons_self
      constructor
      · show rs.foldl lay (lay m e) _ _ = _
        rw [laid_none rs _ _ _ (fun g hg h => by
          have := hl g (List.mem_cons_of_mem _ hg)
          rcases h with ⟨h1, h2⟩ | ⟨h1, h2⟩
          · omega
          · exact no g hg h1.symm h2.symm), lay_val, if_pos (.inr ⟨rfl, rfl⟩)]
      · show rs.foldl lay (lay m e) _ _ = _
        rw [laid_none rs _ _ _ (fun g hg h => by
          have := hl g (List.mem_cons_of_mem _ hg)
          rcases h with ⟨h1, h2⟩ | ⟨h1, h2⟩
          · exact no g hg h2.symm h1.symm
          · omega), lay_val, if_pos (.inl ⟨rfl, rfl⟩)]
    · exact laid_at rs (lay m f) (fun g hg => hl g (List.mem_cons_of_mem _ hg)) hn.2 e q
def total (rs : List Road) : Int := (rs.map (·.2.2)).sum
theorem total_erase {e : Road} : ∀ {rs : List Road}, e ∈ rs → total rs = e.2.2 + total (rs.erase e)
  | [], h => by cases h
  | f :: rs, h => by
    have t : ∀ (g : Road) (l : List Road), total (g :: l) = g.2.2 + total l := fun g l => by
      unfold total
      rw [List.map_cons, List.sum_cons]
    by_cases q : f = e
    · subst q
      rw [List.erase_cons_head, t]
    · have hm : e ∈ rs := by
        rcases List.mem_cons.mp h with h | h
        · exact absurd h.symm q
        · exact h
      have ih := total_erase hm
      have ee : (f :: rs).erase e = f :: rs.erase e := List.erase_cons_tail (by simpa using q)
      rw [ee, t, t, ih]
      omega
theorem total_nn {rs : List Road} (h : ∀ e ∈ rs, 1 ≤ e.2.2) : 0 ≤ total rs := by
  induction rs with
  | nil => exact Int.le_refl _
  | cons e rs ih =>
    have := ih fun f hf => h f (List.mem_cons_of_mem _ hf)
    have := h e List.mem_cons_self
    unfold total at *
    rw [List.map_cons, List.sum_cons]
    omega
theorem chosen : ∀ (bs : List Nat) (rs : List Road) (c : Nat → Road), bs.Nodup → (∀ e ∈ rs, 1 ≤ e.2.2) → (∀ b ∈ bs, c b ∈ rs ∧ (c b).2.1 = b) → (bs.map fun b => (c b).2.2).sum ≤ total rs
  | [], rs, c, _, hl, _ => total_nn hl
  | b :: bs, rs, c, hn, hl, h => by
    rw [List.nodup_cons] at hn
    obtain ⟨h1, h2⟩ := h b List.mem_cons_self
    rw [total_erase h1, List.map_cons, List.sum_cons]
    have := chosen bs (rs.erase (c b)) c hn.2 (fun e he => hl e (List.mem_of_mem_erase he)) fun d hd => by
      obtain ⟨h3, h4⟩ := h d (List.mem_cons_of_mem _ hd)
      refine ⟨(List.mem_erase_of_ne fun q => ?_).mpr h3, h4⟩
      have : d = b := by rw [← h4, q, h2]
      exact hn.1 (this ▸ hd)
    omega
def iniM (far : Int) : Mat := fun i j => if i = j then 0 else far
theorem zero_laid {n : Nat} {rs : List Road} (w : Web n rs) {far : Int} (hf : 0 ≤ far) : Zero (rs.foldl lay (iniM far)) where
  diag := fun i => by
    rw [laid_none rs _ i i fun e he h => by
      have := (w.lt e he).1
      rcases h with ⟨h1, h2⟩ | ⟨h1, h2⟩ <;> omega]
    exact if_pos rfl
  nn := fun i j => by
    rcases laid_or rs (iniM far) i j with h | h
    · rw [h]
      unfold iniM
      split <;> omega
    · rcases h with h | h
      · have := (w.len _ h).1
        simp only at this
        omega
      · have := (w.len _ h).1
        simp only at this
        omega
theorem laid_sym {n : Nat} {rs : List Road} (w : Web n rs) (far : Int) : ∀ i j, rs.foldl lay (iniM far) i j = rs.foldl lay (iniM far) j i := by
  have s0 : ∀ (rs : List Road) (m : Mat), (∀ e ∈ rs, e.1 < e.2.1) → (∀ i j, m i j = m j i) → ∀ i j, rs.foldl lay m i j = rs.foldl lay m j i := by
    intro rs
    induction rs with
    | nil => exact fun m _ h => h
    | cons e rs ih =>
      intro m hl h
      refine ih (lay m e) (fun f hf => hl f (List.mem_cons_of_mem _ hf)) fun i j => ?_
      rw [lay_val, lay_val, h i j]
      by_cases q : (i = e.2.1 ∧ j = e.1) ∨ (i = e.1 ∧ j = e.2.1)
      · rw [if_pos q, if_pos (q.elim (fun x => .inr ⟨x.2, x.1⟩) fun x => .inl ⟨x.2, x.1⟩)]
      · rw [if_neg q, if_neg (fun x => q (x.elim (fun y => .inr ⟨y.2, y.1⟩) fun y => .inl ⟨y.2, y.1⟩))]
  refine s0 rs _ (fun e he => (w.lt e he).1) fun i j => ?_
  unfold iniM
  by_cases q : i = j
  · rw [if_pos q, if_pos q.symm]
  · rw [if_neg q, if_neg (Ne.symm q)]
theorem total_le {rs : List Road} (h : ∀ e ∈ rs, e.2.2 ≤ 100) : total rs ≤ 100 * rs.length := by
  induction rs with
  | nil => exact Int.le_refl _
  | cons e rs ih =>
    have := ih fun f hf => h f (List.mem_cons_of_mem _ hf)
    have := h e List.mem_cons_self
    unfold total at *
    rw [List.map_cons, List.sum_cons, List.length_cons]
    omega
/-- the table of a web -/
def far (rs : List Road) : Int := 1 + total rs
def dist (n : Nat) (rs : List Road) : Mat := phases n (rs.foldl lay (iniM (far rs)))
section
variable {n : Nat} {rs : List Road}
theorem far_nn (w : Web n rs) : 0 ≤ far rs := by
  have := total_nn fun e he => (w.len e he).1
  unfold far
  omega
theorem dist_zero (w : Web n rs) : Zero (dist n rs) := (zero_laid w (far_nn w)).phases n
theorem dist_sym (w : Web n rs) (i j : Nat) : dist n rs i j = dist n rs j i := sym (laid_sym w _) n i j
theorem dist_tri (w : Web n rs) {x : Nat} (hx : x < n) (i j : Nat) : dist n rs i j ≤ dist n rs i x + dist n rs x j := tri (zero_laid w (far_nn w)) n x hx i j
theorem dist_road (w : Web n rs) {e : Road} (he : e ∈ rs) : dist n rs e.1 e.2.1 ≤ e.2.2 ∧ dist n rs e.2.1 e.1 ≤ e.2.2 := by
  obtain ⟨h1, h2⟩ := laid_at rs (iniM (far rs)) (fun e he => (w.lt e he).1) w.nd e he
  have a1 := phases_le (m := rs.foldl lay (iniM (far rs))) e.1 e.2.1 n
  have a2 := phases_le (m := rs.foldl lay (iniM (far rs))) e.2.1 e.1 n
  unfold dist
  omega
theorem dist_near (w : Web n rs) (c : Nat → Road) (hc : ∀ b, 0 < b → b < n → c b ∈ rs ∧ (c b).2.1 = b) : ∀ k, k < n → ∀ i j, i ≤ k → j ≤ k → dist n rs i j ≤ ((List.range k).map fun b => (c (b + 1)).2.2).sum
  | 0, _, i, j, hi, hj => by
    have e1 : i = 0 := by omega
    have e2 : j = 0 := by omega
    subst e1 e2
    rw [(dist_zero w).diag]
    exact Int.le_refl _
  | k + 1, hk, i, j, hi, hj => by
    have ih := dist_near w c hc k (by omega)
    have es : ((List.range (k + 1)).map fun b => (c (b + 1)).2.2).sum = ((List.range k).map fun b => (c (b + 1)).2.2).sum + (c (k + 1)).2.2 := by
      rw [List.range_succ, List.map_append, List.sum_append]
      simp
    rw [es]
    obtain ⟨h1, h2⟩ := hc (k + 1) (by omega) hk
    have hl := (w.len _ h1).1
    have hp := (w.lt _ h1).1
    have hr := dist_road w h1
    rw [h2] at hp hr
    have up : ∀ x, x ≤ k → dist n rs x (k + 1) ≤ ((List.range k).map fun b => (c (b + 1)).2.2).sum + (c (k + 1)).2.2 := fun x hx => by
      have a := dist_tri w (x := (c (k + 1)).1) (by omega) x (k + 1)
      have b := ih x (c (k + 1)).1 hx (by omega)
      have := hr.1
      omega
    have z := ih 0 0 (by omega) (by omega)
    rw [(dist_zero w).diag] at z
    by_cases q1 : i ≤ k
    · by_cases q2 : j ≤ k
      · have := ih i j q1 q2
        omega
      · have e : j = k + 1 := by omega
        subst e
        exact up i q1
    · have e : i = k + 1 := by omega
      subst e
      by_cases q2 : j ≤ k
      · rw [dist_sym w]
        exact up j q2
      · have e : j = k + 1 := by omega
        subst e
        rw [(dist_zero w).diag]
        omega
theorem dist_le (w : Web n rs) {i j : Nat} (hi : i < n) (hj : j < n) : dist n rs i j ≤ total rs := by
  have ex : ∃ c : Nat → Road, ∀ b, 0 < b → b < n → c b ∈ rs ∧ (c b).2.1 = b := by
    refine ⟨fun b => (rs.find? fun e => decide (e.2.1 = b)).getD (0, 0, 0), fun b h1 h2 => ?_⟩
    obtain ⟨e, he, q⟩ := w.tree b h1 h2
    cases f : rs.find? fun e => decide (e.2.1 = b) with
    | none =>
      have := List.find?_eq_none.mp f e he
      simp [q] at this
    | some x =>
      have h3 := List.find?_some f
      have h4 := List.mem_of_find?_eq_some f
      show (((rs.find? fun e => decide (e.2.1 = b)).getD (0, 0, 0)) ∈ rs) ∧ ((rs.find? fun e => decide (e.2.1 = b)).getD (0, 0, 0)).2.1 = b
      rw [f]
      exact ⟨h4, of_decide_eq_true h3⟩
  obtain ⟨c, hc⟩ := ex
  have h1 := dist_near w c hc (n - 1) (by omega) i j (by omega) (by omega)
  have h2 := chosen ((List.range (n - 1)).map (· + 1)) rs c (by
    rw [List.nodup_iff_pairwise_ne, List.pairwise_map]
    exact (List.nodup_iff_pairwise_ne.mp List.nodup_range).imp fun h => by omega) (fun e he => (w.len e he).1) fun b hb => by
    obtain ⟨a, ha, e⟩ := List.mem_map.mp hb
    have := List.mem_range.mp ha
    exact hc b (by omega) (by omega)
  rw [List.map_map] at h2
  exact Int.le_trans h1 h2
/-- the rows by turns over roads are the table -/
theorem rows_dist (w : Web n rs) {i v : Nat} (hi : i < n) (hv : v < n) : rounds rs n (iniM 1000000 i) v = dist n rs i v := by
  have ht := total_le fun e he => (w.len e he).2
  have hf := w.few
  refine rows_eq (i := i) (d := dist n rs i) (fun e he => by have := (w.lt e he).1; omega) (fun e he => ?_) (fun x => ?_) ?_ (fun v hv ne => ?_) v hv
  · have h1 := dist_road w he
    have h2 := w.lt e he
    have a := dist_tri w (x := e.1) (by omega) i e.2.1
    have b := dist_tri w (x := e.2.1) (by omega) i e.1
    omega
  · show _ ≤ if i = x then 0 else 1000000
    split
    · next q =>
      subst q
      rw [(dist_zero w).diag]
      exact Int.le_refl _
    · next q =>
      have a := phases_le (m := rs.foldl lay (iniM (far rs))) i x n
      rcases laid_or rs (iniM (far rs)) i x with h | h
      · have e1 : iniM (far rs) i x = far rs := if_neg q
        rw [h, e1] at a
        have e2 : far rs = 1 + total rs := rfl
        have a : dist n rs i x ≤ far rs := a
        omega
      · have hl : rs.foldl lay (iniM (far rs)) i x ≤ 100 := by
          rcases h with h | h
          · exact (w.len _ h).2
          · exact (w.len _ h).2
        unfold dist
        omega
  · show (if i = i then 0 else 1000000 : Int) ≤ _
    rw [if_pos rfl, (dist_zero w).diag]
    exact Int.le_refl _
  · have hb := dist_le w hi hv
    rcases last (far := far rs) (Edge rs) (zero_laid w (far_nn w)) (fun i j ne => by
      rcases laid_or rs (iniM (far rs)) i j with h | h
      · left
        rw [h]
        unfold iniM
        rw [if_neg ne]
        exact Int.le_refl _
      · exact .inr h) n i v (Ne.symm ne) with a | ⟨u, l, a, b⟩
    · have a : far rs ≤ dist n rs i v := a
      unfold far at a
      omega
    · refine ⟨u, l, ?_, a, ?_, b⟩
      · rcases a with a | a
        · have := w.lt _ a
          simp only at this
          omega
        · have := w.lt _ a
          simp only at this
          omega
      · rcases a with a | a
        · exact (w.len _ a).1
        · exact (w.len _ a).1
end
end PL
namespace PL
open PySem PySem.Spec PyProof.Rows L2 DL
theorem lcD_map {α : Type} {ρ0 : DL.Env} {b : D → DL.Env → Option DL.Env} {t : DL.Env → Option Bool} {f : DL.Env → Option D} (enc e : α → D) (p : α → Bool) : ∀ xs : List α,
    (∀ x ∈ xs, ∃ ρ1, b (enc x) ρ0 = some ρ1 ∧ t ρ1 = some (p x) ∧ (p x = true → f ρ1 = some (e x))) → lcD ρ0 b t f (xs.map enc) = some ((xs.filter p).map e)
  | [], _ => rfl
  | x :: xs, h => by
    obtain ⟨ρ1, h1, h2, h3⟩ := h x List.mem_cons_self
    have ih := lcD_map enc e p xs fun y hy => h y (List.mem_cons_of_mem _ hy)
    rw [List.map_cons]
    unfold lcD
    rw [h1, Option.bind_some, h2, Option.bind_some]
    cases q : p x with
    | true => rw [if_pos rfl, h3 q, Option.bind_some, ih, Option.bind_some, List.filter_cons, if_pos q, List.map_cons]
    | false => rw [if_neg Bool.false_ne_true, ih, List.filter_cons, if_neg (by rw [q]; exact Bool.false_ne_true)]
/-- without a test -/
theorem lcD_all {α : Type} {ρ0 : DL.Env} {b : D → DL.Env → Option DL.Env} {f : DL.Env → Option D} (enc e : α → D) (xs : List α)
    (h : ∀ x ∈ xs, ∃ ρ1, b (enc x) ρ0 = some ρ1 ∧ f ρ1 = some (e x)) : lcD ρ0 b bYes f (xs.map enc) = some (xs.map e) := by
  have := lcD_map (t := bYes) enc e (fun _ => true) xs fun x hx => by
    obtain ⟨ρ1, h1, h2⟩ := h x hx
    exact ⟨ρ1, h1, rfl, fun _ => h2⟩
  have e1 : xs.filter (fun _ => true) = xs := by simp
  rw [this, e1]
/-- a loop that runs through -/
theorem loop_rel {α S : Type} {b : D → DL.Env → Option DL.Env} {g : Gs} (enc : α → D) (R : S → DL.Env → Prop) (f : S → α → S) : ∀ (xs : List α) (s : S) (ρ : DL.Env),
    (∀ s x ρ, x ∈ xs → R s ρ → ∃ ρ1 ρ2, b (enc x) ρ = some ρ1 ∧ (g ρ1 = some (.nx, ρ2) ∨ g ρ1 = some (.ct, ρ2)) ∧ R (f s x) ρ2) → R s ρ → ∃ ρ', gLoop b g (xs.map enc) ρ = some (.nx, ρ') ∧ R (xs.foldl f s) ρ'
  | [], s, ρ, _, r => ⟨ρ, rfl, r⟩
  | x :: xs, s, ρ, h, r => by
    obtain ⟨ρ1, ρ2, h1, h2, h3⟩ := h s x ρ List.mem_cons_self r
    obtain ⟨ρ', h4, h5⟩ := loop_rel enc R f xs (f s x) ρ2 (fun s y ρ hy => h s y ρ (List.mem_cons_of_mem _ hy)) h3
    refine ⟨ρ', ?_, h5⟩
    rw [List.map_cons]
    unfold gLoop
    rw [h1, Option.bind_some]
    rcases h2 with h2 | h2
    · rw [h2, Option.bind_some]
      exact h4
    · rw [h2, Option.bind_some]
      exact h4
/-- rangeD as a map -/
theorem rangeD_map (n : Nat) : rangeD 0 n = (List.range n).map fun i => PyData.int (i : Nat) := by
  unfold rangeD
  exact List.map_congr_left fun i _ => by rw [Int.zero_add]
/-- a table as a list of lists -/
def rowD (n : Nat) (r : Row) : D := .list ((List.range n).map fun j => .int (r j))
def matD (n : Nat) (m : Mat) : List D := (List.range n).map fun i => rowD n (m i)
theorem matD_len (n : Nat) (m : Mat) : (matD n m).length = n := by
  unfold matD
  rw [List.length_map, List.length_range]
theorem matD_get {n i : Nat} (m : Mat) (h : i < n) : (matD n m)[i]? = some (rowD n (m i)) := by
  unfold matD
  rw [List.getElem?_map, List.getElem?_range h]
  rfl
theorem row_get {n j : Nat} (r : Row) (h : j < n) : ((List.range n).map fun j => PyData.int (r j))[j]? = some (.int (r j)) := by
  rw [List.getElem?_map, List.getElem?_range h]
  rfl
theorem row_set {n j : Nat} (r : Row) (v : Int) : ((List.range n).map fun j => PyData.int (r j)).set j (.int v) = (List.range n).map fun x => PyData.int (set1 r j v x) := by
  apply List.ext_getElem?
  intro x
  rw [List.getElem?_set]
  by_cases hx : x < n
  · by_cases e : j = x
    · subst e
      rw [if_pos rfl, if_pos (by rw [List.length_map, List.length_range]; exact hx), row_get _ hx]
      unfold set1
      rw [if_pos rfl]
    · rw [if_neg e, row_get _ hx, row_get _ hx]
      unfold set1
      rw [if_neg (Ne.symm e)]
  · have e1 : ((List.range n).map fun x => PyData.int (set1 r j v x))[x]? = none := List.getElem?_eq_none (by rw [List.length_map, List.length_range]; omega)
    have e2 : ((List.range n).map fun j => PyData.int (r j))[x]? = none := List.getElem?_eq_none (by rw [List.length_map, List.length_range]; omega)
    rw [e1, e2]
    split
    · rw [if_neg (by rw [List.length_map, List.length_range]; omega)]
    · rfl
theorem mat_set {n i j : Nat} (m : Mat) (v : Int) : (matD n m).set i (rowD n (set1 (m i) j v)) = matD n (set2 m i j v) := by
  apply List.ext_getElem?
  intro x
  rw [List.getElem?_set]
  by_cases hx : x < n
  · by_cases e : i = x
    · subst e
      rw [if_pos rfl, if_pos (by rw [matD_len]; exact hx), matD_get _ hx]
      have q : set1 (m i) j v = set2 m i j v i := by
        funext y
        unfold set1 set2
        simp
      rw [q]
    · rw [if_neg e, matD_get _ hx, matD_get _ hx]
      have q : m x = set2 m i j v x := by
        funext y
        unfold set2
        rw [if_neg (fun h => e h.1.symm)]
      rw [q]
  · rw [List.getElem?_eq_none (by rw [matD_len]; omega), List.getElem?_eq_none (by rw [matD_len]; omega)]
    split
    · rw [if_neg (by rw [matD_len]; omega)]
    · rfl
theorem ixN_nat {n i : Nat} (h : i < n) : ixN n (i : Nat) = some i := by
  unfold ixN
  rw [if_pos (by omega), if_pos (by omega)]
  rfl
theorem atI_mat {n i : Nat} (m : Mat) (h : i < n) : atI (matD n m) (i : Nat) = some (rowD n (m i)) := atI_nat (matD_get m h)
theorem atI_row {n j : Nat} (r : Row) (h : j < n) : atI ((List.range n).map fun j => PyData.int (r j)) (j : Nat) = some (.int (r j)) := atI_nat (row_get r h)
end PL
namespace PL
open PySem PySem.Spec PyProof.Rows L2 DL
section base
variable {α β : Type}
theorem δA (a : α) (f : α → Option β) : (some a).bind f = f a := (rfl)
theorem δB (a : α) (f : α → β) : (some a).map f = some (f a) := (rfl)
theorem δC (a : α) (l r : List α) : (a :: l) ++ r = a :: (l ++ r) := (rfl)
theorem δD (r : List α) : [] ++ r = r := (rfl)
theorem δE (a : α) (l : List α) : (a :: l)[0]? = some a := (rfl)
theorem δF (a : α) (l : List α) (i : Nat) : (a :: l)[i + 1]? = l[i]? := (rfl)
theorem δG (a b : α) (l : List α) : (a :: l).set 0 b = b :: l := (rfl)
theorem δH (a b : α) (l : List α) (i : Nat) : (a :: l).set (i + 1) b = a :: l.set i b := (rfl)
theorem δI (a : α) (l : List α) : (a :: l).length = l.length + 1 := (rfl)
theorem δJ : ([] : List α).length = 0 := (rfl)
theorem δK (f : α → β) (l : List α) : (l.map f).length = l.length := List.length_map ..
theorem δL (n : Nat) : (List.range n).length = n := List.length_range
theorem δM (f : α → β) (l : List α) (i : Nat) : (l.map f)[i]? = (l[i]?).map f := List.getElem?_map ..
theorem δN {n i : Nat} (h : i < n) : (List.range n)[i]? = some i := List.getElem?_range h
theorem δO {n i : Nat} (h : i ∈ List.range n) : i < n := List.mem_range.mp h
theorem δP (a b : α) : (if True then a else b) = a := (rfl)
theorem δQ (a b : α) : (if False then a else b) = b := (rfl)
theorem δR : (true = true) = True := eq_self true
theorem δS : (false = true) = False := by simp
theorem δT (p : Prop) [Decidable p] : (decide p = true) = p := by simp
theorem δU (b : Bool) : ((!b) = true) = (b = false) := by simp
theorem δV : (!true) = false := (rfl)
theorem δW : (!false) = true := (rfl)
theorem δX (a : α) : List.replicate 0 a = [] := (rfl)
theorem δY (a : α) (n : Nat) : List.replicate (n + 1) a = a :: List.replicate n a := (rfl)
theorem δZ : ((0 + 1 : Nat) : Int) = 1 := (rfl)
theorem δa : ((0 + 1 + 1 : Nat) : Int) = 2 := (rfl)
theorem δb : ((0 + 1 + 1 + 1 : Nat) : Int) = 3 := (rfl)
theorem δc : ((0 + 1 + 1 + 1 + 1 : Nat) : Int) = 4 := (rfl)
theorem δd : ((0 : Nat) : Int) = 0 := (rfl)
end base
section ev
variable {ρ : DL.Env}
def gv : Option (Option E) → Option D
  | some (some (.sh d)) => some d
  | _ => none
theorem δe (d : D) : gv (some (some (.sh d))) = some d := (rfl)
theorem δf (i : Nat) : cVar i ρ = gv ρ[i]? := (rfl)
theorem δg (d : D) : cK d ρ = some d := (rfl)
theorem δh (o : D → D → Option D) (f g : DL.Env → Option D) : c2 o f g ρ = (f ρ).bind fun a => (g ρ).bind fun b => o a b := (rfl)
theorem δi (o : D → Option D) (f : DL.Env → Option D) : c1 o f ρ = (f ρ).bind o := (rfl)
theorem δj (o : List D → Option D) (f : DL.Env → Option (List D)) : cN o f ρ = (f ρ).bind o := (rfl)
theorem δk : cNil ρ = some [] := (rfl)
theorem δl (f : DL.Env → Option D) (g : DL.Env → Option (List D)) : cCons f g ρ = (f ρ).bind fun a => (g ρ).bind fun as => some (a :: as) := (rfl)
def ixK (ds : List D) : D → Option D
  | .int k => atI ds k
  | _ => none
theorem δm (i : Nat) (f : DL.Env → Option D) : cIxO i f ρ = (ownL ρ[i]?).bind fun ds => (f ρ).bind fun k => ixK ds k := by
  unfold cIxO
  congr 1
theorem δn (ds : List D) : ownL (some (some (.own (.list ds)))) = some ds := (rfl)
theorem δo (ds : List D) : ownL (some (some (.row (.list ds)))) = some ds := (rfl)
def few1 (ds : List D) : Option D := if ds.length ≤ 1000 then some (.list ds) else none
def tup1 (ds : List D) : Option D := if ds.length ≤ 1000 then some (.tuple ds) else none
theorem δp {ds : List D} (h : ds.length ≤ 1000) : few1 ds = some (.list ds) := if_pos h
theorem δq {ds : List D} (h : ds.length ≤ 1000) : tup1 ds = some (.tuple ds) := if_pos h
theorem δr {ds : List D} (h : ds.length ≤ 1000) : dTup ds = some (.tuple ds) := if_pos h
theorem δs {ds : List D} (h : ds.length ≤ 1000) : dLst ds = some (.list ds) := if_pos h
theorem δt {ds : List D} (h : ds.length ≤ 1000) : few ds = some ds := if_pos h
theorem δu (f : DL.Env → Option (List D)) : cTup f ρ = (f ρ).bind tup1 := (rfl)
theorem δv (f : DL.Env → Option (List D)) : cLst f ρ = (f ρ).bind few1 := (rfl)
theorem δw (T : Ty) (f : DL.Env → Option D) : cIsi T f ρ = (f ρ).bind fun d => some (.bool (isTy T d)) := (rfl)
theorem δx (T U : Ty) (f : DL.Env → Option D) : cIsi2 T U f ρ = (f ρ).bind fun d => some (.bool (isTy T d || isTy U d)) := (rfl)
theorem δy (f : DL.Env → Option D) : bT f ρ = (f ρ).bind truth := (rfl)
theorem δz (f : DL.Env → Option D) : bV f ρ = (f ρ).bind isB := (rfl)
theorem δ0 (b : Bool) : isB (.bool b) = some b := (rfl)
theorem δ1 (b : Bool) : truth (.bool b) = some b := (rfl)
theorem δ2 (f g : DL.Env → Option Bool) : bAnd f g ρ = (f ρ).bind fun a => if a = true then g ρ else some false := (rfl)
theorem δ3 (f g : DL.Env → Option Bool) : bOr f g ρ = (f ρ).bind fun a => if a = true then some true else g ρ := (rfl)
theorem δ4 (f : DL.Env → Option Bool) : bNot f ρ = (f ρ).bind fun a => some (!a) := (rfl)
theorem δ5 (f g : DL.Env → Option D) : cAnd f g ρ = (f ρ).bind fun d => (isB d).bind fun a => if a = true then g ρ else some (.bool false) := (rfl)
theorem δ6 (f g : DL.Env → Option D) : cOr f g ρ = (f ρ).bind fun d => (isB d).bind fun a => if a = true then some (.bool true) else g ρ := (rfl)
theorem δ7 (f : DL.Env → Option D) : cNot f ρ = (f ρ).bind fun d => (isB d).bind fun a => some (.bool (!a)) := (rfl)
theorem δ8 (c : DL.Env → Option Bool) (f g : DL.Env → Option D) : cIf c f g ρ = (c ρ).bind fun b => if b = true then f ρ else g ρ := (rfl)
theorem δ9 (c : DL.Env → Option (Bool × DL.Env)) (f g : DL.Env → Option (D × DL.Env)) : rIf c f g ρ = (c ρ).bind fun p => if p.1 = true then f p.2 else g p.2 := (rfl)
theorem ζA (o o' : D → D → Option D) (f g h : DL.Env → Option D) : cChain o o' f g h ρ = (f ρ).bind fun a => (g ρ).bind fun b => (o a b).bind fun d => (isB d).bind fun k => if k = true then (h ρ).bind fun c => o' b c else some (.bool false) := (rfl)
theorem ζB (f : DL.Env → Option D) : lf f ρ = (f ρ).map fun d => (d, ρ) := (rfl)
theorem ζC (f : DL.Env → Option (List D)) : lfs f ρ = (f ρ).map fun d => (d, ρ) := (rfl)
theorem ζD (f : DL.Env → Option Bool) : lfb f ρ = (f ρ).map fun d => (d, ρ) := (rfl)
theorem ζE (f : DL.Env → Option (D × DL.Env)) : wsh f ρ = (f ρ).map fun p => (E.sh p.1, p.2) := (rfl)
theorem ζF (o : List D → Option (List D)) (f : DL.Env → Option (List D × DL.Env)) : wN o f ρ = (f ρ).bind fun p => (o p.1).map fun ds => (E.own (.list ds), p.2) := (rfl)
theorem ζG (f : DL.Env → Option D) : cBor f ρ = (f (ρ.map thE)).bind fun d => if isAt d then some d else none := (rfl)
theorem ζH (f : DL.Env → Option Bool) : bBor f ρ = f (ρ.map thE) := (rfl)
theorem ζI (d : D) : thE (some (.own d)) = some (.sh d) := (rfl)
theorem ζJ (d : D) : thE (some (.own2 d)) = some (.sh d) := (rfl)
theorem ζK (d : D) : thE (some (.row d)) = some (.sh d) := (rfl)
theorem ζL (d : D) : thE (some (.sh d)) = some (.sh d) := (rfl)
theorem ζM : thE none = none := (rfl)
theorem ζN (i : Int) : isAt (.int i) = true := (rfl)
theorem ζO (i : Bool) : isAt (.bool i) = true := (rfl)
theorem ζP : isAt .none = true := (rfl)
theorem ζQ : cNoPart ρ = some none := (rfl)
theorem ζR (f : DL.Env → Option D) : cPart f ρ = (f ρ).bind fun d => match d with
  | .int i => some (some i)
  | _ => none := (rfl)
theorem ζS (f : DL.Env → Option D) (l h : DL.Env → Option (Option Int)) : cSl f l h ρ = (f ρ).bind fun d => (l ρ).bind fun lo => (h ρ).bind fun hi => oSl d lo hi := (rfl)
theorem ζT (f : DL.Env → Option D) : iS f ρ = (f ρ).bind seqOf := (rfl)
theorem ζU (o : List D → Option (List D)) (f : DL.Env → Option (List D)) : iN o f ρ = (f ρ).bind o := (rfl)
theorem ζV (o : List D → Option (List D)) (f : DL.Env → Option (List D × DL.Env)) : iNR o f ρ = (f ρ).bind fun p => (o p.1).map fun ds => (ds, p.2) := (rfl)
theorem ζW (ds : List D) : seqOf (.list ds) = some ds := (rfl)
theorem ζX (ds : List D) : seqOf (.tuple ds) = some ds := (rfl)
theorem ζY (f : DL.Env → Option D) : cRg1 f ρ = (f ρ).bind fun d => match d with
  | .int n => rgFit 0 n
  | _ => none := (rfl)
theorem ζZ {n : Nat} (h : n ≤ 1000) : rgFit 0 (n : Nat) = some (0, ((n : Nat) : Int)) := by
  unfold rgFit
  rw [if_pos (by omega), if_pos (by omega), if_pos (by omega), if_pos (by omega)]
theorem ζa (f : DL.Env → Option (Int × Int)) : cListRg f ρ = (f ρ).map fun p => .list (rangeD p.1 (p.2 - p.1).toNat) := (rfl)
theorem ζb (f : DL.Env → Option (Int × Int)) : cTupRg f ρ = (f ρ).map fun p => .tuple (rangeD p.1 (p.2 - p.1).toNat) := (rfl)
theorem ζc (f : DL.Env → Option (Int × Int)) : wListRg f ρ = (f ρ).map fun p => (E.own (.list (rangeD p.1 (p.2 - p.1).toNat)), ρ) := (rfl)
theorem ζd (n : Nat) : rangeD 0 (((n : Nat) : Int) - 0).toNat = (List.range n).map fun i => PyData.int (i : Nat) := by
  rw [show (((n : Nat) : Int) - 0).toNat = n by omega]
  exact rangeD_map n
theorem ζe {n : Nat} (h : n ≤ 1000) : rg1 [.int (n : Nat)] = some ((List.range n).map fun i => PyData.int (i : Nat)) := by
  show (if ok62 (n : Nat) = true then some (rangeD 0 (n : Int).toNat) else none) = _
  have h6 : ok62 (n : Nat) = true := by
    unfold ok62
    rw [Bool.and_eq_true]
    exact ⟨decide_eq_true (by omega), decide_eq_true (by omega)⟩
  rw [if_pos h6, Int.toNat_natCast, rangeD_map]
theorem ζf (a b : D) : zp2 [a, b] = (seqOf a).bind fun xs => (seqOf b).bind fun ys => some (zipD xs ys) := (rfl)
theorem ζg {α : Type} (f g : α → D) : ∀ xs : List α, zipD (xs.map f) (xs.map g) = xs.map fun x => .tuple [f x, g x]
  | [] => rfl
  | x :: xs => by
    show PyData.tuple [f x, g x] :: zipD (xs.map f) (xs.map g) = _
    rw [ζg f g xs]
    rfl
theorem ζh (ds : List D) : en1 [.list ds] = some (enumD 0 ds) := (rfl)
theorem ζi (ds : List D) : en1 [.tuple ds] = some (enumD 0 ds) := (rfl)
theorem ζj (i : Nat) (d : D) : bNm i d ρ = some (ρ.set i (some (.sh d))) := (rfl)
theorem ζk : bNil [] ρ = some ρ := (rfl)
theorem ζl (b : D → DL.Env → Option DL.Env) (g : List D → DL.Env → Option DL.Env) (d : D) (r : List D) : bCons b g (d :: r) ρ = (b d ρ).bind (g r) := (rfl)
theorem ζm (n : Nat) (g : List D → DL.Env → Option DL.Env) (ds : List D) : bTp n g (.tuple ds) ρ = if ds.length = n then g ds ρ else none := (rfl)
theorem ζn : wipeE ρ [] = ρ := (rfl)
theorem ζo (v : Nat) (vs : List Nat) : wipeE ρ (v :: vs) = (wipeE ρ vs).set v none := (rfl)
theorem ζp : bYes ρ = some true := (rfl)
theorem ζq : bYesR ρ = some (true, ρ) := (rfl)
theorem ζr (o : D → D → Option D) (f g : DL.Env → Option (D × DL.Env)) : r2 o f g ρ = (f ρ).bind fun p => (g p.2).bind fun q => (o p.1 q.1).map fun d => (d, q.2) := (rfl)
theorem ζs (o : D → Option D) (f : DL.Env → Option (D × DL.Env)) : r1 o f ρ = (f ρ).bind fun p => (o p.1).map fun d => (d, p.2) := (rfl)
theorem ζt (o : List D → Option D) (f : DL.Env → Option (List D × DL.Env)) : rN o f ρ = (f ρ).bind fun p => (o p.1).map fun d => (d, p.2) := (rfl)
theorem ζu : rNil ρ = some ([], ρ) := (rfl)
theorem ζv (f : DL.Env → Option (D × DL.Env)) (g : DL.Env → Option (List D × DL.Env)) : rCons f g ρ = (f ρ).bind fun p => (g p.2).bind fun q => some (p.1 :: q.1, q.2) := (rfl)
def stepL (o : Option (Option D)) (acc : List D) : Option (ForInStep (List D)) := o.map fun o => match o with
  | some d => .yield (acc ++ [d])
  | none => .yield acc
def opt1 (k : Bool) (x : Option D) : Option (Option D) := if k = true then x.map some else some none
theorem ζw (x : Option D) : opt1 true x = x.map some := (rfl)
def goL {α : Type} (F : α → Option (Option D)) : List α → List D → Option (List D)
  | [], acc => some acc
  | x :: r, acc => (F x).bind fun o => match o with
    | some d => goL F r (acc ++ [d])
    | none => goL F r acc
theorem forIn'_go {α : Type} (F : α → Option (Option D)) : ∀ (xs : List α) (acc : List D), (forIn' (m := Option) xs acc fun x _ acc => stepL (F x) acc) = goL F xs acc
  | [], acc => by
    rw [List.forIn'_nil]
    rfl
  | x :: xs, acc => by
    rw [List.forIn'_cons]
    unfold goL stepL
    cases h : F x with
    | none => rfl
    | some o =>
      cases o with
      | none => exact forIn'_go F xs acc
      | some d => exact forIn'_go F xs (acc ++ [d])
theorem goL_lcD {α : Type} {ρ : DL.Env} (b : D → DL.Env → Option DL.Env) (t : DL.Env → Option Bool) (f : DL.Env → Option D) (enc : α → D) : ∀ (xs : List α) (acc : List D), goL (fun x => (b (enc x) ρ).bind fun ρ1 => (t ρ1).bind fun k => opt1 k (f ρ1)) xs acc = (lcD ρ b t f (xs.map enc)).map (acc ++ ·)
  | [], acc => by
    unfold goL
    show some acc = some (acc ++ [])
    rw [List.append_nil]
  | x :: xs, acc => by
    have ih := goL_lcD b t f enc xs (ρ := ρ)
    rw [List.map_cons]
    unfold goL lcD
    cases h1 : b (enc x) ρ with
    | none => rfl
    | some ρ1 =>
      simp only [Option.bind_some]
      cases h2 : t ρ1 with
      | none => rfl
      | some k =>
        simp only [Option.bind_some]
        cases k with
        | false => exact ih acc
        | true =>
          cases h3 : f ρ1 with
          | none => rfl
          | some e =>
            refine (ih (acc ++ [e])).trans ?_
            cases lcD ρ b t f (xs.map enc) with
            | none => rfl
            | some es => simp
theorem ζx {α : Type} (b : D → DL.Env → Option DL.Env) (t : DL.Env → Option Bool) (f : DL.Env → Option D) (enc : α → D) (xs : List α) : lcD ρ b t f (xs.map enc) = forIn' (m := Option) xs [] fun x _ acc => stepL ((b (enc x) ρ).bind fun ρ1 => (t ρ1).bind fun k => opt1 k (f ρ1)) acc := by
  rw [forIn'_go, goL_lcD]
  cases lcD ρ b t f (xs.map enc) <;> simp
theorem ζy (vs : List Nat) (it : DL.Env → Option (List D)) (b : D → DL.Env → Option DL.Env) (t : DL.Env → Option Bool) (f : DL.Env → Option D) : cLc vs it b t f ρ = (it ρ).bind fun ds => (lcD (wipeE ρ vs) b t f ds).bind few1 := (rfl)
theorem goL_all {α : Type} (e : α → D) : ∀ (xs : List α) (acc : List D), goL (fun x => some (some (e x))) xs acc = some (acc ++ xs.map e)
  | [], acc => by simp [goL]
  | x :: xs, acc => by
    unfold goL
    show goL _ xs (acc ++ [e x]) = _
    rw [goL_all e xs]
    simp
theorem goL_if {α : Type} (p : α → Bool) (e : α → D) : ∀ (xs : List α) (acc : List D), goL (fun x => opt1 (p x) (some (e x))) xs acc = some (acc ++ (xs.filter p).map e)
  | [], acc => by simp [goL]
  | x :: xs, acc => by
    unfold goL
    cases q : p x with
    | true =>
      show goL _ xs (acc ++ [e x]) = _
      rw [goL_if p e xs, List.filter_cons, if_pos q]
      simp
    | false =>
      show goL _ xs acc = _
      rw [goL_if p e xs, List.filter_cons, if_neg (by rw [q]; exact Bool.false_ne_true)]
theorem ζz {α : Type} (e : α → D) (xs : List α) : (forIn' (m := Option) xs [] fun x _ acc => stepL (some (some (e x))) acc) = some (xs.map e) := by
  rw [forIn'_go, goL_all]
  rfl
theorem ζ0 {α : Type} (p : α → Bool) (e : α → D) (xs : List α) : (forIn' (m := Option) xs [] fun x _ acc => stepL (opt1 (p x) (some (e x))) acc) = some ((xs.filter p).map e) := by
  rw [forIn'_go, goL_if]
  rfl
theorem ζ1 (a b : Int) : oAdd (.int a) (.int b) = some (.int (a + b)) := (rfl)
theorem ζ2 (a b : Int) : oSub (.int a) (.int b) = some (.int (a - b)) := (rfl)
theorem ζ3 (a : Int) : oNeg (.int a) = some (.int (-a)) := (rfl)
theorem b64_of {a : Int} (h : -1000000000 ≤ a) (h2 : a ≤ 1000000000) : b64 a = true := by
  unfold b64
  rw [Bool.and_eq_true]
  exact ⟨decide_eq_true (by omega), decide_eq_true (by omega)⟩
theorem mul_i {a b : Int} (h : b64 a = true ∨ b64 b = true) : oMul (.int a) (.int b) = some (.int (a * b)) := by
  show (if (b64 a || b64 b) = true then some (PyData.int (a * b)) else none) = _
  rw [if_pos (by rcases h with h | h <;> rw [h] <;> simp)]
theorem ζ4 (a b : Int) : oLt (.int a) (.int b) = some (.bool (decide (a < b))) := by
  show some (PyData.bool (PySem.W.dataLt (.int a) (.int b))) = _
  rw [PySem.W.dataLt_int]
theorem ζ5 (a b : Int) : oGt (.int a) (.int b) = some (.bool (decide (b < a))) := by
  show some (PyData.bool (PySem.W.dataLt (.int b) (.int a))) = _
  rw [PySem.W.dataLt_int]
theorem ζ6 (a b : Int) : oLe (.int a) (.int b) = some (.bool (decide (a ≤ b))) := by
  show some (PyData.bool (!PySem.W.dataLt (.int b) (.int a))) = _
  rw [PySem.W.dataLt_int]
  congr 2
  by_cases h : b < a
  · rw [decide_eq_true h, decide_eq_false (by omega)]; rfl
  · rw [decide_eq_false h, decide_eq_true (by omega)]; rfl
theorem ζ7 (a b : Int) : oGe (.int a) (.int b) = some (.bool (decide (b ≤ a))) := by
  show some (PyData.bool (!PySem.W.dataLt (.int a) (.int b))) = _
  rw [PySem.W.dataLt_int]
  congr 2
  by_cases h : a < b
  · rw [decide_eq_true h, decide_eq_false (by omega)]; rfl
  · rw [decide_eq_false h, decide_eq_true (by omega)]; rfl
theorem eqv_i (a b : Int) : PyData.eqv (.int a) (.int b) = decide (a = b) := by
  simp only [PyData.eqv]
  rw [Bool.eq_iff_iff, beq_iff_eq, decide_eq_true_eq]
theorem ζ8 (a b : Int) : oEq (.int a) (.int b) = some (.bool (decide (a = b))) := by
  show some (PyData.bool (PyData.eqv (.int a) (.int b))) = _
  rw [eqv_i]
theorem ζ9 (a b : Int) : oNe (.int a) (.int b) = some (.bool (!decide (a = b))) := by
  show some (PyData.bool (!PyData.eqv (.int a) (.int b))) = _
  rw [eqv_i]
theorem ηA (ds : List D) : oLen [.list ds] = some (.int (ds.length : Nat)) := (rfl)
theorem ηB (ds : List D) : oLen [.tuple ds] = some (.int (ds.length : Nat)) := (rfl)
theorem ηC (ds : List D) : oList [.list ds] = some (.list ds) := (rfl)
theorem ηD (ds : List D) : oList [.tuple ds] = some (.list ds) := (rfl)
theorem ηE (ds : List D) : oTuple [.list ds] = some (.tuple ds) := (rfl)
theorem ηF (ds : List D) : oTuple [.tuple ds] = some (.tuple ds) := (rfl)
theorem ηG (a : Int) : oInt [.int a] = some (.int a) := (rfl)
theorem ηH (a : Bool) : oInt [.bool a] = some (.int (if a then 1 else 0)) := (rfl)
theorem atI_n (xs : List D) (i : Nat) : atI xs (i : Nat) = xs[i]? := by
  unfold atI ixN
  rw [if_pos (by omega)]
  by_cases h : ((i : Nat) : Int) < xs.length
  · rw [if_pos h, Int.toNat_natCast]
    rfl
  · rw [if_neg h, List.getElem?_eq_none (by omega)]
    rfl
theorem ηI (ds : List D) (i : Nat) : ixK ds (.int (i : Nat)) = ds[i]? := atI_n ds i
theorem ηJ (ds : List D) : ixK ds (.int 0) = ds[0]? := atI_n ds 0
theorem ηK (ds : List D) : ixK ds (.int 1) = ds[1]? := atI_n ds 1
theorem ηL (ds : List D) (i : Nat) : oIx (.list ds) (.int (i : Nat)) = ds[i]? := atI_n ds i
theorem ηM (ds : List D) (i : Nat) : oIx (.tuple ds) (.int (i : Nat)) = ds[i]? := atI_n ds i
theorem ηN (ds : List D) : oIx (.list ds) (.int 0) = ds[0]? := atI_n ds 0
theorem ηO (ds : List D) : oIx (.list ds) (.int 1) = ds[1]? := atI_n ds 1
theorem ηP (ds : List D) : oIx (.list ds) (.int 2) = ds[2]? := atI_n ds 2
theorem ηQ (ds : List D) : oIx (.tuple ds) (.int 0) = ds[0]? := atI_n ds 0
theorem ηR (ds : List D) : oIx (.tuple ds) (.int 1) = ds[1]? := atI_n ds 1
theorem ηS (ds : List D) : oIx (.tuple ds) (.int 2) = ds[2]? := atI_n ds 2
/-- slices -/
theorem cut_lo (ds : List D) (i : Nat) : DL.cutD ds none (some ((i : Nat) : Int)) = ds.take i := by
  unfold DL.cutD
  rw [HT.sIx_none, HT.sIx_nat, List.drop_zero, Nat.sub_zero]
  by_cases h : i ≤ ds.length
  · rw [Nat.min_eq_left h]
  · rw [Nat.min_eq_right (by omega), List.take_length, List.take_of_length_le (by omega)]
theorem cut_hi (ds : List D) (i : Nat) : DL.cutD ds (some ((i : Nat) : Int)) none = ds.drop i := by
  unfold DL.cutD
  rw [HT.sIx_none, HT.sIx_nat]
  by_cases h : i ≤ ds.length
  · rw [Nat.min_eq_left h, List.take_of_length_le (by rw [List.length_drop]; omega)]
  · rw [Nat.min_eq_right (by omega), List.drop_of_length_le (by omega), List.drop_of_length_le (by omega), List.take_nil]
theorem ηT (ds : List D) (i : Nat) : oSl (.list ds) none (some ((i : Nat) : Int)) = some (.list (ds.take i)) := by
  rw [← cut_lo]
  rfl
theorem ηU (ds : List D) (i : Nat) : oSl (.list ds) (some ((i : Nat) : Int)) none = some (.list (ds.drop i)) := by
  rw [← cut_hi]
  rfl
theorem ηV (ds : List D) (i : Nat) : oSl (.tuple ds) none (some ((i : Nat) : Int)) = some (.tuple (ds.take i)) := by
  rw [← cut_lo]
  rfl
theorem ηW (ds : List D) (i : Nat) : oSl (.tuple ds) (some ((i : Nat) : Int)) none = some (.tuple (ds.drop i)) := by
  rw [← cut_hi]
  rfl
theorem ηX (a b c : D) : oSl (.tuple [a, b, c]) none (some 2) = some (.tuple [a, b]) := (rfl)
theorem cat_l (xs ys : List D) (h : xs.length + ys.length ≤ 1000000) : oAdd (.list xs) (.list ys) = some (.list (xs ++ ys)) := if_pos h
/-- sums -/
theorem intsOf_m {α : Type} (f : α → Int) : ∀ xs : List α, intsOf (xs.map fun x => .int (f x)) = some (xs.map f)
  | [] => rfl
  | x :: xs => by
    show (intsOf (xs.map fun x => .int (f x))).map (f x :: ·) = _
    rw [intsOf_m f xs]
    rfl
theorem ηY {α : Type} (f : α → Int) (xs : List α) : oSum [.list (xs.map fun x => .int (f x))] = some (.int (xs.map f).sum) := by
  show (intsOf (xs.map fun x => .int (f x))).map _ = _
  rw [intsOf_m, Option.map_some, sumI_eq]
theorem ηZ {α : Type} (f : α → Int) (xs : List α) : oSum [.tuple (xs.map fun x => .int (f x))] = some (.int (xs.map f).sum) := by
  show (intsOf (xs.map fun x => .int (f x))).map _ = _
  rw [intsOf_m, Option.map_some, sumI_eq]
/-- least and greatest of ints -/
def minL : List Int → Int
  | [] => 0
  | x :: r => r.foldl min x
def maxL : List Int → Int
  | [] => 0
  | x :: r => r.foldl max x
theorem minOk_ints (ns : List Int) : minOk (ns.map .int) = true := by
  have h1 : allAlike (ns.map .int) = true := by
    unfold allAlike
    rw [List.all_map, List.all_eq_true]
    intro x _
    rw [Function.comp_apply, List.all_map, List.all_eq_true]
    intro y _
    rfl
  have h2 : (ns.map PyData.int).all (fun x => !isN x) = true := by
    rw [List.all_map, List.all_eq_true]
    intro x _
    rfl
  have h3 : PyData.depthAll (ns.map PyData.int) ≤ 60 := by
    have : ∀ ns : List Int, PyData.depthAll (ns.map PyData.int) = 0 := fun ns => by
      induction ns with
      | nil => rfl
      | cons x r ih =>
        rw [List.map_cons]
        show max (PyData.depth (.int x)) (PyData.depthAll (r.map PyData.int)) = 0
        rw [ih]
        rfl
    rw [this]
    omega
  unfold minOk
  rw [h1, h2, decide_eq_true h3]
  rfl
theorem min_ints : ∀ ns : List Int, ns ≠ [] → oMin [.list (ns.map .int)] = some (.int (minL ns))
  | [], h => absurd rfl h
  | x :: r, _ => by
    show (if minOk ((x :: r).map .int) then some (PySem.W.minD (.int x) (r.map .int)) else none) = _
    rw [if_pos (minOk_ints _), PySem.W.minD_ints]
    rfl
theorem max_ints : ∀ ns : List Int, ns ≠ [] → oMax [.list (ns.map .int)] = some (.int (maxL ns))
  | [], h => absurd rfl h
  | x :: r, _ => by
    show (if minOk ((x :: r).map .int) then some (PySem.W.maxD (.int x) (r.map .int)) else none) = _
    rw [if_pos (minOk_ints _), PySem.W.maxD_ints]
    rfl
theorem ηa {α : Type} (f : α → Int) (xs : List α) (h : xs ≠ []) : oMin [.list (xs.map fun x => .int (f x))] = some (.int (minL (xs.map f))) := by
  have := min_ints (xs.map f) (by simpa using h)
  rwa [List.map_map] at this
theorem ηb {α : Type} (f : α → Int) (xs : List α) (h : xs ≠ []) : oMax [.list (xs.map fun x => .int (f x))] = some (.int (maxL (xs.map f))) := by
  have := max_ints (xs.map f) (by simpa using h)
  rwa [List.map_map] at this
theorem ηc (a b : Int) : oMin [.int a, .int b] = some (.int (min a b)) := by
  show some (PyData.int (if b < a then b else a)) = _
  congr 2
  omega
theorem ηd (a b : Int) : oMax [.int a, .int b] = some (.int (max a b)) := by
  show some (PyData.int (if b > a then b else a)) = _
  congr 2
  omega
end ev
def thn (x : Option (Fl × DL.Env)) (h : Gs) : Option (Fl × DL.Env) := x.bind fun p => match p.1 with
  | .nx => h p.2
  | _ => some p
def iteG (x : Option (Bool × DL.Env)) (g h : Gs) : Option (Fl × DL.Env) := x.bind fun p => if p.1 = true then g p.2 else h p.2
section whole
variable {ρ : DL.Env}
theorem ηe (g h : Gs) : gSeq g h ρ = thn (g ρ) h := by
  unfold gSeq thn
  congr 1
theorem ηf (h : Gs) : thn (some (.nx, ρ)) h = h ρ := (rfl)
theorem ηg (h : Gs) (d : D) : thn (some (.ret d, ρ)) h = some (.ret d, ρ) := (rfl)
theorem ηh (h : Gs) : thn (some (.ct, ρ)) h = some (.ct, ρ) := (rfl)
theorem ηi (h : Gs) : thn (some (.bk, ρ)) h = some (.bk, ρ) := (rfl)
theorem ηj (h : Gs) (p : Prop) [Decidable p] (x y : Option (Fl × DL.Env)) : thn (if p then x else y) h = if p then thn x h else thn y h := by
  split <;> rfl
theorem ηk (c : DL.Env → Option (Bool × DL.Env)) (g h : Gs) : gIf c g h ρ = iteG (c ρ) g h := (rfl)
theorem ηl (g h : Gs) : iteG (some (true, ρ)) g h = g ρ := (rfl)
theorem ηm (g h : Gs) : iteG (some (false, ρ)) g h = h ρ := (rfl)
theorem ηn (f : DL.Env → Option (D × DL.Env)) : gRet f ρ = (f ρ).map fun p => (Fl.ret p.1, p.2) := (rfl)
theorem ηo (f : DL.Env → Option (D × DL.Env)) : gExpr f ρ = (f ρ).map fun p => (Fl.nx, p.2) := (rfl)
theorem ηp (f : DL.Env → Option (D × DL.Env)) (b : D → DL.Env → Option DL.Env) : gAsg f b ρ = (f ρ).bind fun p => (b p.1 p.2).map fun ρ' => (Fl.nx, ρ') := (rfl)
theorem ηq (i : Nat) (f : DL.Env → Option (E × DL.Env)) : gSetW i f ρ = (f ρ).map fun p => (Fl.nx, p.2.set i (some p.1)) := (rfl)
theorem ηr (i j : Nat) (f g : DL.Env → Option (E × DL.Env)) : gPar2 i j f g ρ = (f ρ).bind fun p => (g p.2).map fun q => (Fl.nx, (q.2.set i (some p.1)).set j (some q.1)) := (rfl)
theorem ηs (i j l : Nat) (f g h : DL.Env → Option (E × DL.Env)) : gPar3 i j l f g h ρ = (f ρ).bind fun p => (g p.2).bind fun q => (h q.2).map fun r => (Fl.nx, ((r.2.set i (some p.1)).set j (some q.1)).set l (some r.1)) := (rfl)
theorem ηt : gNx ρ = some (.nx, ρ) := (rfl)
theorem ηu : gCt ρ = some (.ct, ρ) := (rfl)
theorem ηv : gBk ρ = some (.bk, ρ) := (rfl)
theorem ηw (vs : List Nat) (it : DL.Env → Option (List D × DL.Env)) (b : D → DL.Env → Option DL.Env) (t : DL.Env → Option (Bool × DL.Env)) (f : DL.Env → Option (D × DL.Env)) : wLc vs it b t f ρ = ((it ρ).bind fun p => (lcR vs b t f p.1 p.2).bind few2).map fun p => (E.own (.list p.1), p.2) := (rfl)
theorem ηx (vs : List Nat) (b : D → DL.Env → Option DL.Env) (t : DL.Env → Option (Bool × DL.Env)) (f : DL.Env → Option (D × DL.Env)) : lcR vs b t f [] ρ = some ([], wipeE ρ vs) := (rfl)
theorem ηy (vs : List Nat) (b : D → DL.Env → Option DL.Env) (t : DL.Env → Option (Bool × DL.Env)) (f : DL.Env → Option (D × DL.Env)) (d : D) (r : List D) : lcR vs b t f (d :: r) ρ = (b d (wipeE ρ vs)).bind fun ρ1 => (t ρ1).bind fun p => if p.1 = true then (f p.2).bind fun q => (lcR vs b t f r q.2).bind fun w => some (q.1 :: w.1, w.2) else lcR vs b t f r p.2 := (rfl)
theorem ηz {p : List D × DL.Env} (h : p.1.length ≤ 1000) : few2 p = some p := if_pos h
def setK (i : Nat) (d : D) (ρ : DL.Env) : D → Option (Fl × DL.Env)
  | .int k => (ownL ρ[i]?).bind fun ds => (ixN ds.length k).map fun j => (Fl.nx, putL i (ds.set j d) ρ)
  | _ => none
theorem η0 (i : Nat) (d : D) (k : Int) : setK i d ρ (.int k) = (ownL ρ[i]?).bind fun ds => (ixN ds.length k).map fun j => (Fl.nx, putL i (ds.set j d) ρ) := (rfl)
theorem η1 : ixN (0 + 1 + 1) 0 = some 0 := (rfl)
theorem η2 : ixN (0 + 1 + 1) 1 = some 1 := (rfl)
def fzE : Option (Option E) → Option (Option E)
  | some (some (.own d)) => some (some (.sh d))
  | some (some (.own2 d)) => some (some (.sh d))
  | some (some (.dk l ks)) => some (some (.sh (frzE (.dk l ks))))
  | _ => none
def fzS (i : Nat) (e : Option (Option E)) (ρ : DL.Env) : DL.Env := match fzE e with
  | some x => ρ.set i x
  | none => ρ
theorem η3 (i : Nat) (g : Gs) : gFz i g ρ = g (fzS i ρ[i]? ρ) := by
  unfold gFz
  congr 1
  unfold DL.fz fzS fzE
  split <;> simp_all
theorem η4 (i : Nat) (d : D) : fzS i (some (some (.own d))) ρ = ρ.set i (some (.sh d)) := (rfl)
theorem η5 (i : Nat) (d : D) : fzS i (some (some (.own2 d))) ρ = ρ.set i (some (.sh d)) := (rfl)
theorem η6 (i : Nat) (l : Bool) (ks : List (Key × D)) : fzS i (some (some (.dk l ks))) ρ = ρ.set i (some (.sh (.dict (ks.map fun p => (kD p.1, p.2))))) := (rfl)
theorem η7 (i : Nat) (d : D) : fzS i (some (some (.sh d))) ρ = ρ := (rfl)
theorem η8 (i : Nat) (f : DL.Env → Option (D × DL.Env)) : gApp i f ρ = (ownL ρ[i]?).bind fun _ => (f ρ).bind fun p => (ownL p.2[i]?).bind fun ds => if ds.length ≤ 1000 then some (Fl.nx, putL i (ds ++ [p.1]) p.2) else none := (rfl)
def putE (es : List D) : Option (Option E) → Option E
  | some (some (.row _)) => some (.row (.list es))
  | _ => some (.own (.list es))
theorem η9 (i : Nat) (es : List D) : putL i es ρ = ρ.set i (putE es ρ[i]?) := by
  unfold putL putE
  split <;> simp_all
theorem ξA (es : List D) (d : D) : putE es (some (some (.row d))) = some (.row (.list es)) := (rfl)
theorem ξB (es : List D) (d : D) : putE es (some (some (.own d))) = some (.own (.list es)) := (rfl)
theorem ξC (i : Nat) (m : List D → List D → Option (D × List D)) (f : DL.Env → Option (List D × DL.Env)) : rRow i m f ρ = (ownL ρ[i]?).bind fun _ => (f ρ).bind fun p => (ownL p.2[i]?).bind fun ds => (m ds p.1).bind fun q => some (q.1, putL i q.2 p.2) := (rfl)
theorem ξD (i : Nat) (f g : DL.Env → Option (D × DL.Env)) : gSetI i f g ρ = (f ρ).bind fun p => (ownL p.2[i]?).bind fun _ => (g p.2).bind fun q => setK i p.1 q.2 q.1 := by
  unfold gSetI
  congr 1
theorem ξE (i : Nat) (o : D → D → Option D) (f : DL.Env → Option (D × DL.Env)) : gAug i o f ρ = (gv ρ[i]?).bind fun d => (f ρ).bind fun p => (o d p.1).map fun y => (Fl.nx, p.2.set i (some (.sh y))) := (rfl)
theorem ξF (a b : Int) : oAddI (.int a) (.int b) = some (.int (a + b)) := (rfl)
theorem ξG (d : D) : fin (.ret d, ρ) = some d := (rfl)
theorem ξH : fin (.nx, ρ) = some .none := (rfl)
theorem ξI (ds : List D) : rowL (some (some (.row (.list ds)))) = some ds := (rfl)
end whole
theorem run_e {N n : Nat} {g : Gs} {ds : List D} (h : ds.length = n) : DL.run N n g ds = (g (ini N ds)).bind fin := if_pos h
theorem runR_e {N n : Nat} {g : Gs} {ds as : List D} (h : as.length + 1 = n) : runR N n g ds as = (g (some (.row (.list ds)) :: ini (N - 1) as)).bind fun p => (fin p).bind fun d => (rowL p.2[0]?).bind fun ds' => some (d, ds') := if_pos h
def wO {α : Type} (x : Option α) (Q : α → Prop) : Prop := ∃ a, x = some a ∧ Q a
theorem wO.of {α : Type} {x : Option α} {a : α} {Q : α → Prop} (h : x = some a) (q : Q a) : wO x Q := ⟨a, h, q⟩
def wG (g : Gs) (ρ : DL.Env) (Q : Fl → DL.Env → Prop) : Prop := ∃ fl ρ', g ρ = some (fl, ρ') ∧ Q fl ρ'
/-- what follows a statement -/
def thenG (h : Gs) (Q : Fl → DL.Env → Prop) : Fl → DL.Env → Prop
  | .nx, ρ => wG h ρ Q
  | fl, ρ => Q fl ρ
section rules
variable {g h : Gs} {ρ ρ1 ρ2 : DL.Env} {Q Q' : Fl → DL.Env → Prop}
theorem wG.mono (w : wG g ρ Q) (i : ∀ fl ρ', Q fl ρ' → Q' fl ρ') : wG g ρ Q' := by
  obtain ⟨fl, ρ', e, q⟩ := w
  exact ⟨fl, ρ', e, i _ _ q⟩
theorem wG.seq (w : wG g ρ (thenG h Q)) : wG (gSeq g h) ρ Q := by
  obtain ⟨fl, ρ', e, q⟩ := w
  cases fl with
  | nx =>
    obtain ⟨fl2, ρ2, e2, q2⟩ := q
    exact ⟨fl2, ρ2, by unfold gSeq; rw [e]; exact e2, q2⟩
  | bk => exact ⟨.bk, ρ', by unfold gSeq; rw [e]; rfl, q⟩
  | ct => exact ⟨.ct, ρ', by unfold gSeq; rw [e]; rfl, q⟩
  | ret d => exact ⟨.ret d, ρ', by unfold gSeq; rw [e]; rfl, q⟩
theorem wG.asg {f : DL.Env → Option (D × DL.Env)} {b : D → DL.Env → Option DL.Env} {d : D} (e : f ρ = some (d, ρ1)) (eb : b d ρ1 = some ρ2) (q : Q .nx ρ2) : wG (gAsg f b) ρ Q := ⟨.nx, ρ2, by unfold gAsg; rw [e, Option.bind_some]; dsimp only; rw [eb]; rfl, q⟩
/-- a name gets a value -/
theorem wG.set {f : DL.Env → Option (D × DL.Env)} {i : Nat} {d : D} (e : f ρ = some (d, ρ1)) (q : Q .nx (ρ1.set i (some (.sh d)))) : wG (gAsg f (bNm i)) ρ Q := wG.asg e rfl q
theorem wG.setW {f : DL.Env → Option (E × DL.Env)} {i : Nat} {d : E} (e : f ρ = some (d, ρ1)) (q : Q .nx (ρ1.set i (some d))) : wG (gSetW i f) ρ Q := ⟨.nx, _, by unfold gSetW; rw [e]; rfl, q⟩
theorem wG.ret {f : DL.Env → Option (D × DL.Env)} {d : D} (e : f ρ = some (d, ρ1)) (q : Q (.ret d) ρ1) : wG (gRet f) ρ Q := ⟨_, _, by unfold gRet; rw [e]; rfl, q⟩
theorem wG.ite {c : DL.Env → Option (Bool × DL.Env)} {b : Bool} (e : c ρ = some (b, ρ1)) (q1 : b = true → wG g ρ1 Q) (q2 : b = false → wG h ρ1 Q) : wG (gIf c g h) ρ Q := by
  cases b with
  | true =>
    obtain ⟨fl, ρ', e2, q⟩ := q1 rfl
    exact ⟨fl, ρ', by unfold gIf; rw [e, Option.bind_some]; exact e2, q⟩
  | false =>
    obtain ⟨fl, ρ', e2, q⟩ := q2 rfl
    exact ⟨fl, ρ', by unfold gIf; rw [e, Option.bind_some]; exact e2, q⟩
theorem wG.nx (q : Q .nx ρ) : wG gNx ρ Q := ⟨_, _, rfl, q⟩
theorem wG.ct (q : Q .ct ρ) : wG gCt ρ Q := ⟨_, _, rfl, q⟩
theorem wG.bk (q : Q .bk ρ) : wG gBk ρ Q := ⟨_, _, rfl, q⟩
theorem wG.fz {i : Nat} (w : wG g (fz i ρ) Q) : wG (gFz i g) ρ Q := w
theorem wG.app {i : Nat} {f : DL.Env → Option (D × DL.Env)} {d : D} {es ds : List D} (e0 : ownL ρ[i]? = some es) (e : f ρ = some (d, ρ1)) (e1 : ownL ρ1[i]? = some ds) (hl : ds.length ≤ 1000) (q : Q .nx (putL i (ds ++ [d]) ρ1)) : wG (gApp i f) ρ Q :=
  ⟨.nx, _, by
    unfold gApp
    rw [e0, Option.bind_some, e, Option.bind_some]
    dsimp only
    rw [e1, Option.bind_some, if_pos hl], q⟩
theorem wG.setI {i : Nat} {f k : DL.Env → Option (D × DL.Env)} {d : D} {j : Int} {es ds : List D} {m : Nat} (e : f ρ = some (d, ρ1)) (e0 : ownL ρ1[i]? = some es) (ek : k ρ1 = some (.int j, ρ2)) (e1 : ownL ρ2[i]? = some ds) (hi : ixN ds.length j = some m) (q : Q .nx (putL i (ds.set m d) ρ2)) : wG (gSetI i f k) ρ Q :=
  ⟨.nx, _, by
    unfold gSetI
    rw [e, Option.bind_some]
    dsimp only
    rw [e0, Option.bind_some, ek, Option.bind_some]
    dsimp only
    rw [e1, Option.bind_some, hi]
    rfl, q⟩
theorem wG.aug {i : Nat} {o : D → D → Option D} {f : DL.Env → Option (D × DL.Env)} {d a y : D} (e0 : gv ρ[i]? = some d) (e : f ρ = some (a, ρ1)) (eo : o d a = some y) (q : Q .nx (ρ1.set i (some (.sh y)))) : wG (gAug i o f) ρ Q :=
  ⟨.nx, _, by
    unfold gAug
    rw [δf, e0, Option.bind_some, e, Option.bind_some]
    dsimp only
    rw [eo]
    rfl, q⟩
theorem wG.par2 {i j : Nat} {f k : DL.Env → Option (E × DL.Env)} {a b : E} (e1 : f ρ = some (a, ρ1)) (e2 : k ρ1 = some (b, ρ2)) (q : Q .nx ((ρ2.set i (some a)).set j (some b))) : wG (gPar2 i j f k) ρ Q :=
  ⟨.nx, _, by
    unfold gPar2
    rw [e1, Option.bind_some]
    dsimp only
    rw [e2]
    rfl, q⟩
theorem wG.par3 {i j l : Nat} {f k m : DL.Env → Option (E × DL.Env)} {a b c : E} {ρ3 : DL.Env} (e1 : f ρ = some (a, ρ1)) (e2 : k ρ1 = some (b, ρ2)) (e3 : m ρ2 = some (c, ρ3)) (q : Q .nx (((ρ3.set i (some a)).set j (some b)).set l (some c))) : wG (gPar3 i j l f k m) ρ Q :=
  ⟨.nx, _, by
    unfold gPar3
    rw [e1, Option.bind_some]
    dsimp only
    rw [e2, Option.bind_some]
    dsimp only
    rw [e3]
    rfl, q⟩
/-- a for: R holds of what was walked; a turn may end it by a return -/
theorem loop_wp {α : Type} {b : D → DL.Env → Option DL.Env} (enc : α → D) (xs : List α) (R : List α → DL.Env → Prop) (turn : ∀ pre x post ρ, xs = pre ++ x :: post → R pre ρ → ∃ ρ1, b (enc x) ρ = some ρ1 ∧ wG g ρ1 fun fl ρ' => match fl with
      | .nx => R (pre ++ [x]) ρ'
      | .ct => R (pre ++ [x]) ρ'
      | .bk => Q .nx ρ'
      | .ret d => Q (.ret d) ρ') (fin : ∀ ρ, R xs ρ → Q .nx ρ) : ∀ (post pre : List α) (ρ : DL.Env), xs = pre ++ post → R pre ρ → wG (gLoop b g (post.map enc)) ρ Q
  | [], pre, ρ, e, r => by
    rw [List.append_nil] at e
    subst e
    exact ⟨.nx, ρ, rfl, fin ρ r⟩
  | x :: post, pre, ρ, e, r => by
    obtain ⟨ρ1, e1, fl, ρ2, e2, q⟩ := turn pre x post ρ e r
    cases fl with
    | nx =>
      obtain ⟨fl, ρ3, e3, q3⟩ := loop_wp enc xs R turn fin post (pre ++ [x]) ρ2 (by rw [e]; simp) q
      exact ⟨fl, ρ3, by rw [List.map_cons]; unfold gLoop; rw [e1, Option.bind_some, e2]; exact e3, q3⟩
    | ct =>
      obtain ⟨fl, ρ3, e3, q3⟩ := loop_wp enc xs R turn fin post (pre ++ [x]) ρ2 (by rw [e]; simp) q
      exact ⟨fl, ρ3, by rw [List.map_cons]; unfold gLoop; rw [e1, Option.bind_some, e2]; exact e3, q3⟩
    | bk => exact ⟨.nx, ρ2, by rw [List.map_cons]; unfold gLoop; rw [e1, Option.bind_some, e2]; rfl, q⟩
    | ret d => exact ⟨.ret d, ρ2, by rw [List.map_cons]; unfold gLoop; rw [e1, Option.bind_some, e2]; rfl, q⟩
/-- a turn's end -/
def turnQ (R : DL.Env → Prop) (Q : Fl → DL.Env → Prop) : Fl → DL.Env → Prop
  | .nx, ρ => R ρ
  | .ct, ρ => R ρ
  | .bk, ρ => Q .nx ρ
  | .ret d, ρ => Q (.ret d) ρ
theorem wG.loop {α : Type} {it : DL.Env → Option (List D × DL.Env)} {b : D → DL.Env → Option DL.Env} (enc : α → D) (xs : List α) (R : List α → DL.Env → Prop) (ei : it ρ = some (xs.map enc, ρ1)) (start : R [] ρ1)
    (turn : ∀ pre x post ρ, xs = pre ++ x :: post → R pre ρ → ∃ ρ1, b (enc x) ρ = some ρ1 ∧ wG g ρ1 (turnQ (R (pre ++ [x])) Q)) (fin : ∀ ρ, R xs ρ → Q .nx ρ) : wG (gFor it b g) ρ Q := by
  obtain ⟨fl, ρ', e, q⟩ := loop_wp (g := g) (Q := Q) enc xs R (fun pre x post ρ e r => by
    obtain ⟨ρ1, h1, h2⟩ := turn pre x post ρ e r
    exact ⟨ρ1, h1, h2.mono fun fl ρ' q => by cases fl <;> exact q⟩) fin xs [] ρ1 rfl start
  exact ⟨fl, ρ', by unfold gFor; rw [ei]; exact e, q⟩
/-- a while: R k holds with at most k turns left -/
theorem wG.while {c : DL.Env → Option (Bool × DL.Env)} (R : Nat → DL.Env → Prop) (turn : ∀ k ρ, R k ρ → ∃ b ρ1, c ρ = some (b, ρ1) ∧ (b = false → Q .nx ρ1) ∧ (b = true → ∃ j, k = j + 1 ∧ wG g ρ1 (turnQ (R j) Q))) : ∀ (m k : Nat) (ρ : DL.Env), k < m → R k ρ → wG (gWhile c g m) ρ Q
  | 0, _, _, h, _ => absurd h (Nat.not_lt_zero _)
  | m + 1, k, ρ, h, r => by
    obtain ⟨b, ρ1, e, q1, q2⟩ := turn k ρ r
    cases b with
    | false => exact ⟨.nx, ρ1, by unfold gWhile; rw [e]; rfl, q1 rfl⟩
    | true =>
      obtain ⟨j, ej, fl, ρ2, e2, q⟩ := q2 rfl
      cases fl with
      | nx =>
        obtain ⟨fl, ρ3, e3, q3⟩ := wG.while R turn m j ρ2 (by omega) q
        exact ⟨fl, ρ3, by unfold gWhile; rw [e, Option.bind_some, if_pos rfl, e2]; exact e3, q3⟩
      | ct =>
        obtain ⟨fl, ρ3, e3, q3⟩ := wG.while R turn m j ρ2 (by omega) q
        exact ⟨fl, ρ3, by unfold gWhile; rw [e, Option.bind_some, if_pos rfl, e2]; exact e3, q3⟩
      | bk => exact ⟨.nx, ρ2, by unfold gWhile; rw [e, Option.bind_some, if_pos rfl, e2]; rfl, q⟩
      | ret d => exact ⟨.ret d, ρ2, by unfold gWhile; rw [e, Option.bind_some, if_pos rfl, e2]; rfl, q⟩
/-- a whole def -/
def isRet (d : D) : Fl → DL.Env → Prop
  | .ret e, _ => e = d
  | .nx, _ => d = .none
  | _, _ => False
theorem run_ok {N n : Nat} {ds : List D} {d : D} (hn : ds.length = n) (w : wG g (ini N ds) (isRet d)) : DL.run N n g ds = some d := by
  obtain ⟨fl, ρ', e, q⟩ := w
  unfold DL.run
  rw [if_pos hn, e, Option.bind_some]
  cases fl with
  | ret x =>
    cases q
    rfl
  | nx =>
    cases q
    rfl
  | bk => exact q.elim
  | ct => exact q.elim
/-- a def that answers P and leaves the row as S says -/
def isRow (Q : D → List D → Prop) : Fl → DL.Env → Prop
  | .ret e, ρ => ∃ ds, rowL ρ[0]? = some ds ∧ Q e ds
  | .nx, ρ => ∃ ds, rowL ρ[0]? = some ds ∧ Q .none ds
  | _, _ => False
theorem runR_ok {N n : Nat} {ds as : List D} {P : D → List D → Prop} (hn : as.length + 1 = n) (w : wG g (some (.row (.list ds)) :: ini (N - 1) as) (isRow P)) : ∃ d ds', runR N n g ds as = some (d, ds') ∧ P d ds' := by
  obtain ⟨fl, ρ', e, q⟩ := w
  unfold runR
  rw [if_pos hn, e, Option.bind_some]
  cases fl with
  | ret x =>
    obtain ⟨es, e1, q⟩ := q
    refine ⟨x, es, ?_, q⟩
    show (Option.bind (some x) _) = _
    rw [Option.bind_some]
    dsimp only
    rw [e1]
    rfl
  | nx =>
    obtain ⟨es, e1, q⟩ := q
    refine ⟨.none, es, ?_, q⟩
    show (Option.bind (some PyData.none) _) = _
    rw [Option.bind_some]
    dsimp only
    rw [e1]
    rfl
  | bk => exact q.elim
  | ct => exact q.elim
end rules
end PL
namespace PL
open PySem PySem.Spec PyProof.Rows L2 DL
instance : PySem.W.Datum Nat where
  toD n := .int (n : Nat)
  plain _ := rfl
  eqv a b := by
    simp only [PyData.eqv]
    rw [Bool.eq_iff_iff, beq_iff_eq, decide_eq_true_eq]
    omega
  depth := 0
  depth_le _ := Nat.le_refl _
instance : PySem.W.DatumOrd Nat where
  lt a b := decide (a < b)
  alike a b := by
    show PySem.W.alike (.int (a : Nat)) (.int (b : Nat)) = true
    simp only [PySem.W.alike]
  notNone a := fun e => by cases e
  lt_eq a b := by
    show PySem.W.dataLt (.int (a : Nat)) (.int (b : Nat)) = _
    rw [PySem.W.dataLt_int]
    exact decide_eq_decide.mpr (by omega)
abbrev dD {α : Type} [DecidableEq α] [PySem.W.Datum α] (a : α) : D := PySem.W.Datum.toD a
abbrev ltK {α : Type} [DecidableEq α] [PySem.W.DatumOrd α] (a b : α) : Bool := PySem.W.DatumOrd.lt a b
class Dat (α : Type) [DecidableEq α] extends PySem.W.DatumOrd α where
  lay : ∀ a : α, PyData.canLay0 (PySem.W.Datum.toD a) = true
  tri : ∀ a b : α, ltK a b = true ∨ a = b ∨ ltK b a = true
  asym : ∀ a b : α, ltK a b = true → ltK b a = false
  trans : ∀ a b c : α, ltK a b = true → ltK b c = true → ltK a c = true
instance : Dat Int where
  lay _ := rfl
  tri a b := by
    show decide (a < b) = true ∨ a = b ∨ decide (b < a) = true
    simp only [decide_eq_true_eq]
    omega
  asym a b h := by
    have h : decide (a < b) = true := h
    show decide (b < a) = false
    simp only [decide_eq_true_eq, decide_eq_false_iff_not] at *
    omega
  trans a b c h k := by
    have h : decide (a < b) = true := h
    have k : decide (b < c) = true := k
    show decide (a < c) = true
    simp only [decide_eq_true_eq] at *
    omega
instance : Dat Nat where
  lay _ := rfl
  tri a b := by
    show decide (a < b) = true ∨ a = b ∨ decide (b < a) = true
    simp only [decide_eq_true_eq]
    omega
  asym a b h := by
    have h : decide (a < b) = true := h
    show decide (b < a) = false
    simp only [decide_eq_true_eq, decide_eq_false_iff_not] at *
    omega
  trans a b c h k := by
    have h : decide (a < b) = true := h
    have k : decide (b < c) = true := k
    show decide (a < c) = true
    simp only [decide_eq_true_eq] at *
    omega
section
variable {α β : Type} [DecidableEq α] [Dat α] [DecidableEq β] [Dat β]
theorem ltK_irr (a : α) : ltK a a = false := by
  cases h : ltK a a with
  | false => rfl
  | true =>
    have := Dat.asym a a h
    rw [h] at this
    exact this
theorem layAll : ∀ xs : List α, PyData.canLayAll0 (xs.map dD) = true
  | [] => rfl
  | x :: xs => by
    rw [List.map_cons, PyData.canLayAll0, Dat.lay x, layAll xs]
    rfl
theorem list_tri : ∀ xs ys : List α, PySem.W.listLt xs ys = true ∨ xs = ys ∨ PySem.W.listLt ys xs = true
  | [], [] => .inr (.inl rfl)
  | [], _ :: _ => .inl rfl
  | _ :: _, [] => .inr (.inr rfl)
  | x :: xs, y :: ys => by
    unfold PySem.W.listLt
    by_cases h : x = y
    · subst h
      rw [if_pos rfl, if_pos rfl]
      rcases list_tri xs ys with h | h | h
      · exact .inl h
      · exact .inr (.inl (by rw [h]))
      · exact .inr (.inr h)
    · rw [if_neg h, if_neg (Ne.symm h)]
      rcases Dat.tri x y with k | k | k
      · exact .inl k
      · exact absurd k h
      · exact .inr (.inr k)
theorem list_asym : ∀ xs ys : List α, PySem.W.listLt xs ys = true → PySem.W.listLt ys xs = false
  | [], [], h => by cases h
  | [], _ :: _, _ => rfl
  | _ :: _, [], h => by cases h
  | x :: xs, y :: ys, h => by
    unfold PySem.W.listLt at *
    by_cases e : x = y
    · subst e
      rw [if_pos rfl] at *
      exact list_asym xs ys h
    · rw [if_neg e] at h
      rw [if_neg (Ne.symm e)]
      exact Dat.asym x y h
theorem list_trans : ∀ xs ys zs : List α, PySem.W.listLt xs ys = true → PySem.W.listLt ys zs = true → PySem.W.listLt xs zs = true
  | [], [], _, h, _ => by cases h
  | [], _ :: _, [], _, k => by cases k
  | [], _ :: _, _ :: _, _, _ => rfl
  | _ :: _, [], _, h, _ => by cases h
  | _ :: _, _ :: _, [], _, k => by cases k
  | x :: xs, y :: ys, z :: zs, h, k => by
    unfold PySem.W.listLt at *
    by_cases e : x = y
    · subst e
      rw [if_pos rfl] at h
      by_cases e2 : x = z
      · subst e2
        rw [if_pos rfl] at *
        exact list_trans xs ys zs h k
      · rw [if_neg e2] at *
        exact k
    · rw [if_neg e] at h
      by_cases e2 : y = z
      · subst e2
        rw [if_neg e]
        exact h
      · rw [if_neg e2] at k
        have t := Dat.trans x y z h k
        by_cases e3 : x = z
        · subst e3
          have := ltK_irr x
          rw [t] at this
          cases this
        · rw [if_neg e3]
          exact t
instance : Dat (PySem.W.Tup α) where
  lay t := by
    show PyData.canLay0 (.tuple (t.items.map dD)) = true
    rw [PyData.canLay0]
    exact layAll t.items
  tri a b := by
    rcases list_tri a.items b.items with h | h | h
    · exact .inl h
    · exact .inr (.inl (by cases a; cases b; exact congrArg PySem.W.Tup.mk h))
    · exact .inr (.inr h)
  asym a b h := list_asym a.items b.items h
  trans a b c h k := list_trans a.items b.items c.items h k
instance : Dat (List α) where
  lay t := by
    show PyData.canLay0 (.list (t.map dD)) = true
    rw [PyData.canLay0]
    exact layAll t
  tri a b := list_tri a b
  asym a b h := list_asym a b h
  trans a b c h k := list_trans a b c h k
instance : Dat (α × β) where
  lay p := by
    show PyData.canLay0 (.tuple [dD p.1, dD p.2]) = true
    rw [PyData.canLay0, PyData.canLayAll0, PyData.canLayAll0, PyData.canLayAll0, Dat.lay p.1, Dat.lay p.2]
    rfl
  tri p q := by
    show (if p.1 = q.1 then ltK p.2 q.2 else ltK p.1 q.1) = true ∨ p = q ∨ (if q.1 = p.1 then ltK q.2 p.2 else ltK q.1 p.1) = true
    by_cases h : p.1 = q.1
    · rw [if_pos h, if_pos h.symm]
      rcases Dat.tri p.2 q.2 with k | k | k
      · exact .inl k
      · exact .inr (.inl (Prod.ext h k))
      · exact .inr (.inr k)
    · rw [if_neg h, if_neg (Ne.symm h)]
      rcases Dat.tri p.1 q.1 with k | k | k
      · exact .inl k
      · exact absurd k h
      · exact .inr (.inr k)
  asym p q k := by
    have k : (if p.1 = q.1 then ltK p.2 q.2 else ltK p.1 q.1) = true := k
    show (if q.1 = p.1 then ltK q.2 p.2 else ltK q.1 p.1) = false
    by_cases h : p.1 = q.1
    · rw [if_pos h] at k
      rw [if_pos h.symm]
      exact Dat.asym _ _ k
    · rw [if_neg h] at k
      rw [if_neg (Ne.symm h)]
      exact Dat.asym _ _ k
  trans p q r k l := by
    have k : (if p.1 = q.1 then ltK p.2 q.2 else ltK p.1 q.1) = true := k
    have l : (if q.1 = r.1 then ltK q.2 r.2 else ltK q.1 r.1) = true := l
    show (if p.1 = r.1 then ltK p.2 r.2 else ltK p.1 r.1) = true
    by_cases h : p.1 = q.1
    · rw [if_pos h] at k
      by_cases h2 : q.1 = r.1
      · rw [if_pos h2] at l
        rw [if_pos (h.trans h2)]
        exact Dat.trans _ _ _ k l
      · rw [if_neg h2] at l
        rw [if_neg (by rw [h]; exact h2), h]
        exact l
    · rw [if_neg h] at k
      by_cases h2 : q.1 = r.1
      · rw [if_pos h2] at l
        rw [if_neg (by rw [← h2]; exact h), ← h2]
        exact k
      · rw [if_neg h2] at l
        have t := Dat.trans _ _ _ k l
        by_cases h3 : p.1 = r.1
        · rw [h3] at t
          have := ltK_irr r.1
          rw [t] at this
          cases this
        · rw [if_neg h3]
          exact t
/-- what the model asks of data that are compared -/
abbrev Flat (α : Type) [DecidableEq α] [PySem.W.Datum α] : Prop := PySem.W.Datum.depth α ≤ 50
theorem dep (a : α) : PyData.depth (dD a) ≤ PySem.W.Datum.depth α := PySem.W.Datum.depth_le a
theorem depA (xs : List α) : PyData.depthAll (xs.map dD) ≤ PySem.W.Datum.depth α := PySem.W.depthAll_map xs
theorem okD_d (hf : Flat α) (a : α) : okD (dD a) = true := by
  unfold okD SeqAt.shaped
  rw [Dat.lay a, Bool.true_and]
  have := dep a
  exact decide_eq_true (by omega)
theorem okD_l (hf : Flat α) (xs : List α) : okD (.list (xs.map dD)) = true := by
  unfold okD SeqAt.shaped
  have h := depA xs
  rw [PyData.canLay0, layAll, Bool.true_and, PyData.depth]
  exact decide_eq_true (by omega)
theorem ne_d (hf : Flat α) (a b : α) : oNe (dD a) (dD b) = some (.bool (!decide (a = b))) := by
  unfold oNe
  rw [okD_d hf a, okD_d hf b, PySem.W.Datum.eqv]
  rfl
theorem in_l (hf : Flat α) (a : α) (xs : List α) : oIn (dD a) (.list (xs.map dD)) = some (.bool (decide (a ∈ xs))) := by
  show (if okD (dD a) && okD (.list (xs.map dD)) then some (PyData.bool ((xs.map dD).any fun z => PyData.eqv z (dD a))) else none) = _
  rw [okD_d hf a, okD_l hf xs, PySem.W.any_datum]
  rfl
theorem notIn_l (hf : Flat α) (a : α) (xs : List α) : oNotIn (dD a) (.list (xs.map dD)) = some (.bool (!decide (a ∈ xs))) := by
  show (if okD (dD a) && okD (.list (xs.map dD)) then some (PyData.bool (!(xs.map dD).any fun z => PyData.eqv z (dD a))) else none) = _
  rw [okD_d hf a, okD_l hf xs, PySem.W.any_datum]
  rfl
theorem isN_d (a : α) : isN (dD a) = false := by
  have := PySem.W.DatumOrd.notNone a
  cases h : dD a <;> first | rfl | exact absurd h this
theorem allAlike_d (xs : List α) : allAlike (xs.map dD) = true := by
  unfold allAlike
  rw [List.all_map, List.all_eq_true]
  intro x _
  rw [Function.comp_apply, List.all_map, List.all_eq_true]
  intro y _
  exact PySem.W.DatumOrd.alike x y
theorem minOk_d (hf : Flat α) (xs : List α) : minOk (xs.map dD) = true := by
  have h2 : (xs.map (dD (α := α))).all (fun x => !isN x) = true := by
    rw [List.all_map, List.all_eq_true]
    intro x _
    show (!isN (dD x)) = true
    rw [isN_d]
    rfl
  have h3 := depA xs
  unfold minOk
  rw [allAlike_d, h2, decide_eq_true (by omega)]
  rfl
/-- the least and the greatest -/
def minK [Inhabited α] : List α → α
  | [] => default
  | x :: r => PySem.W.minOf x r
theorem min_d [Inhabited α] (hf : Flat α) : ∀ xs : List α, xs ≠ [] → oMin [.list (xs.map dD)] = some (dD (minK xs))
  | [], h => absurd rfl h
  | x :: r, _ => by
    show (if minOk ((x :: r).map dD) then some (PySem.W.minD (dD x) (r.map dD)) else none) = _
    rw [if_pos (minOk_d hf _), PySem.W.minD_map]
    rfl
theorem minOf_spec : ∀ (r : List α) (x : α), PySem.W.minOf x r ∈ x :: r ∧ ∀ y ∈ x :: r, ltK y (PySem.W.minOf x r) = false
  | [], x => ⟨List.mem_cons_self, fun y hy => by
    rw [List.mem_singleton.mp hy]
    exact ltK_irr x⟩
  | z :: r, x => by
    have e : PySem.W.minOf x (z :: r) = PySem.W.minOf (if ltK z x = true then z else x) r := rfl
    obtain ⟨h1, h2⟩ := minOf_spec r (if ltK z x = true then z else x)
    rw [e]
    generalize PySem.W.minOf (if ltK z x = true then z else x) r = m at *
    have hm := h2 _ List.mem_cons_self
    constructor
    · rcases List.mem_cons.mp h1 with h | h
      · by_cases q : ltK z x = true
        · rw [if_pos q] at h
          rw [h]
          exact List.mem_cons_of_mem _ List.mem_cons_self
        · rw [if_neg q] at h
          rw [h]
          exact List.mem_cons_self
      · exact List.mem_cons_of_mem _ (List.mem_cons_of_mem _ h)
    · intro y hy
      have key : ∀ a b : α, ltK b a = true → ltK b m = false → ltK a m = false := fun a b h k => by
        cases q : ltK a m with
        | false => rfl
        | true =>
          rw [Dat.trans b a m h q] at k
          exact k
      rcases List.mem_cons.mp hy with h | h
      · subst h
        by_cases q : ltK z y = true
        · rw [if_pos q] at hm
          exact key _ _ q hm
        · rw [if_neg q] at hm
          exact hm
      · rcases List.mem_cons.mp h with h | h
        · subst h
          by_cases q : ltK y x = true
          · rw [if_pos q] at hm
            exact hm
          · rw [if_neg q] at hm
            rcases Dat.tri y x with k | k | k
            · exact absurd k q
            · rw [k]
              exact hm
            · exact key _ _ k hm
        · exact h2 y (List.mem_cons_of_mem _ h)
theorem minK_mem [Inhabited α] {xs : List α} (h : xs ≠ []) : minK xs ∈ xs := by
  cases xs with
  | nil => exact absurd rfl h
  | cons x r => exact (minOf_spec r x).1
theorem minK_le [Inhabited α] {xs : List α} {y : α} (hy : y ∈ xs) : ltK y (minK xs) = false := by
  cases xs with
  | nil => cases hy
  | cons x r => exact (minOf_spec r x).2 y hy
theorem eq_of_le {a b : α} (h : ltK a b = false) (k : ltK b a = false) : a = b := by
  rcases Dat.tri a b with q | q | q
  · rw [q] at h
    cases h
  · exact q
  · rw [q] at k
    cases k
theorem minK_eq [Inhabited α] {xs : List α} {z : α} (hz : z ∈ xs) (h : ∀ y ∈ xs, ltK y z = false) : minK xs = z :=
  eq_of_le (h _ (minK_mem (List.ne_nil_of_mem hz))) (minK_le hz)
/-- sorted rows -/
def leK (a b : α) : Bool := !ltK b a
theorem leD_d (a b : α) : leD (dD a) (dD b) = leK a b := by
  unfold leD leK
  rw [PySem.W.DatumOrd.lt_eq]
theorem ins_d (x : α) : ∀ xs : List α, ins leD (dD x) (xs.map dD) = (ins leK x xs).map dD
  | [] => rfl
  | y :: r => by
    rw [List.map_cons]
    unfold ins
    rw [leD_d, ins_d x r]
    split <;> rfl
theorem isort_d : ∀ xs : List α, isort leD (xs.map dD) = (isort leK xs).map dD
  | [] => rfl
  | x :: r => by
    rw [List.map_cons]
    unfold isort
    rw [isort_d r, ins_d]
theorem ins_perm {γ : Type} (le : γ → γ → Bool) (x : γ) : ∀ xs : List γ, (ins le x xs).Perm (x :: xs)
  | [] => .refl _
  | y :: r => by
    unfold ins
    split
    · exact .refl _
    · exact ((ins_perm le x r).cons y).trans (.swap x y r)
theorem isort_perm {γ : Type} (le : γ → γ → Bool) : ∀ xs : List γ, (isort le xs).Perm xs
  | [] => .refl _
  | x :: r => (ins_perm le x _).trans ((isort_perm le r).cons x)
theorem ins_sorted (x : α) : ∀ xs : List α, xs.Pairwise (fun a b => ltK b a = false) → (ins leK x xs).Pairwise fun a b => ltK b a = false
  | [], _ => List.pairwise_singleton _ _
  | y :: r, h => by
    unfold ins leK
    rw [List.pairwise_cons] at h
    cases q : ltK y x with
    | false =>
      refine List.pairwise_cons.mpr ⟨fun z hz => ?_, List.pairwise_cons.mpr h⟩
      rcases List.mem_cons.mp hz with e | e
      · rw [e]
        exact q
      · cases p : ltK z x with
        | false => rfl
        | true =>
          have k := h.1 z e
          rcases Dat.tri y x with t | t | t
          · rw [t] at q
            cases q
          · rw [t] at k
            rw [p] at k
            cases k
          · rw [Dat.trans z x y p t] at k
            cases k
    | true =>
      refine List.pairwise_cons.mpr ⟨fun z hz => ?_, ins_sorted x r h.2⟩
      rcases List.mem_cons.mp ((ins_perm leK x r).mem_iff.mp hz) with e | e
      · rw [e]
        exact Dat.asym _ _ q
      · exact h.1 z e
theorem isort_sorted : ∀ xs : List α, (isort leK xs).Pairwise fun a b => ltK b a = false
  | [] => List.Pairwise.nil
  | x :: r => ins_sorted x _ (isort_sorted r)
theorem sorted_unique : ∀ {xs ys : List α}, xs.Perm ys → xs.Pairwise (fun a b => ltK b a = false) → ys.Pairwise (fun a b => ltK b a = false) → xs = ys
  | [], ys, p, _, _ => (List.nil_perm.mp p).symm
  | x :: xs, [], p, _, _ => absurd p.length_eq (by simp)
  | x :: xs, y :: ys, p, h, k => by
    have hx : ltK y x = false := by
      rcases List.mem_cons.mp (p.mem_iff.mpr List.mem_cons_self : y ∈ x :: xs) with e | e
      · rw [e]
        exact ltK_irr x
      · exact (List.pairwise_cons.mp h).1 y e
    have hy : ltK x y = false := by
      rcases List.mem_cons.mp (p.mem_iff.mp List.mem_cons_self : x ∈ y :: ys) with e | e
      · rw [e]
        exact ltK_irr y
      · exact (List.pairwise_cons.mp k).1 x e
    have e := eq_of_le hy hx
    subst e
    rw [sorted_unique (List.Perm.cons_inv p) (List.pairwise_cons.mp h).2 (List.pairwise_cons.mp k).2]
theorem isort_eq {xs ys : List α} (p : xs.Perm ys) (h : ys.Pairwise fun a b => ltK b a = false) : isort leK xs = ys := sorted_unique ((isort_perm leK xs).trans p) (isort_sorted xs) h
end
theorem sortOk_nats (xs : List Nat) : sortOk (xs.map dD) = true := by
  have h1 := allAlike_d xs
  have h3 := depA xs
  unfold sortOk
  rw [h1, decide_eq_true (Nat.le_trans h3 (by decide))]
  simp only [Bool.true_and, Bool.and_true, Bool.or_eq_true]
  right
  rw [List.all_map, List.all_eq_true]
  intro x _
  rfl
/-- rows of tuples that are not empty -/
theorem sortOk_tups {α : Type} [DecidableEq α] [Dat α] (hf : Flat α) (ts : List (PySem.W.Tup α)) (h : ∀ t ∈ ts, t.items ≠ []) : sortOk (ts.map dD) = true := by
  have h1 := allAlike_d ts
  have h3 := depA ts
  have h4 : PySem.W.Datum.depth (PySem.W.Tup α) = PySem.W.Datum.depth α + 1 := rfl
  unfold sortOk
  rw [h1, decide_eq_true (by omega)]
  simp only [Bool.true_and, Bool.and_true, Bool.or_eq_true]
  left
  rw [List.all_map, List.all_eq_true]
  intro t ht
  have := h t ht
  cases t with
  | mk xs =>
    cases xs with
    | nil => exact absurd rfl this
    | cons x r => rfl
theorem sorted_l {α : Type} [DecidableEq α] [Dat α] (xs : List α) (h : sortOk (xs.map dD) = true) : oSortedA [.list (xs.map dD)] = some (.list ((isort leK xs).map dD)) := by
  show (if sortOk (xs.map dD) then some (PyData.list (isort leD (xs.map dD))) else none) = _
  rw [if_pos h, isort_d]
end PL
namespace PL
def adj (rs : List Road) (u v : Nat) : Prop := ∃ l, (u, v, l) ∈ rs ∨ (v, u, l) ∈ rs
inductive Cn (pts : List Nat) (rs : List Road) (s : Nat) : Nat → Prop
  | self : Cn pts rs s s
  | step {x y : Nat} : Cn pts rs s x → adj rs x y → y ∈ pts → Cn pts rs s y
def addP (left : List Nat) (u : Nat) (p : List Nat) (q : Nat × Nat) : List Nat := if q.1 = u ∧ q.2 ∈ left ∧ q.2 ∉ p then p ++ [q.2] else p
def addE (left : List Nat) (u : Nat) (p : List Nat) (e : Road) : List Nat := [(e.1, e.2.1), (e.2.1, e.1)].foldl (addP left u) p
theorem adj_symm {rs : List Road} {u v : Nat} (h : adj rs u v) : adj rs v u := by
  obtain ⟨l, h⟩ := h
  exact ⟨l, h.symm⟩
theorem addP_mem {left : List Nat} {u : Nat} {p : List Nat} {q : Nat × Nat} {y : Nat} (h : y ∈ addP left u p q) : y ∈ p ∨ (q.1 = u ∧ q.2 = y ∧ y ∈ left) := by
  unfold addP at h
  split at h
  · next c =>
    rcases List.mem_append.mp h with h | h
    · exact .inl h
    · rw [List.mem_singleton] at h
      subst h
      exact .inr ⟨c.1, rfl, c.2.1⟩
  · exact .inl h
theorem addP_sub {left : List Nat} {u : Nat} {p : List Nat} {q : Nat × Nat} : p <+: addP left u p q := by
  unfold addP
  split
  · exact List.prefix_append _ _
  · exact List.prefix_refl _
theorem addP_has {left : List Nat} {u y : Nat} {p : List Nat} {q : Nat × Nat} (h1 : q.1 = u) (h2 : q.2 = y) (h3 : y ∈ left) : y ∈ addP left u p q := by
  subst h1 h2
  unfold addP
  split
  · exact List.mem_append_right _ List.mem_cons_self
  · next c => exact Classical.not_not.mp fun n => c ⟨rfl, h3, n⟩
theorem addP_nodup {left : List Nat} {u : Nat} {p : List Nat} {q : Nat × Nat} (h : p.Nodup) : (addP left u p q).Nodup := by
  unfold addP
  split
  · next c =>
    refine List.nodup_append.mpr ⟨h, by simp, ?_⟩
    intro a ha b hb e
    rw [List.mem_singleton.mp hb] at e
    subst e
    exact c.2.2 ha
  · exact h
structure Scan (left : List Nat) (u : Nat) (rs : List Road) (p p' : List Nat) : Prop where
  pre : p <+: p'
  nd : p.Nodup → p'.Nodup
  new : ∀ y ∈ p', y ∈ p ∨ (adj rs u y ∧ y ∈ left)
  all : ∀ y, adj rs u y → y ∈ left → y ∈ p'
theorem scan_ok (left : List Nat) (u : Nat) : ∀ (rs : List Road) (p : List Nat), Scan left u rs p (rs.foldl (addE left u) p)
  | [], p => ⟨List.prefix_refl _, id, fun y h => .inl h, fun y ⟨l, h⟩ => by rcases h with h | h <;> cases h⟩
  | e :: rs, p => by
    have ih := scan_ok left u rs (addE left u p e)
    rw [List.foldl_cons]
    have e1 : addE left u p e = addP left u (addP left u p (e.1, e.2.1)) (e.2.1, e.1) := rfl
    have pre1 : p <+: addE left u p e := by
      rw [e1]
      exact addP_sub.trans addP_sub
    refine ⟨pre1.trans ih.pre, fun h => ih.nd (by rw [e1]; exact addP_nodup (addP_nodup h)), fun y hy => ?_, fun y ⟨l, hy⟩ hl => ?_⟩
    · rcases ih.new y hy with h | ⟨⟨l, h⟩, h2⟩
      · rw [e1] at h
        rcases addP_mem h with h | ⟨h1, h2, h3⟩
        · rcases addP_mem h with h | ⟨h1, h2, h3⟩
          · exact .inl h
          · refine .inr ⟨⟨e.2.2, .inl ?_⟩, h3⟩
            have h1 : e.1 = u := h1
            have h2 : e.2.1 = y := h2
            rw [← h1, ← h2]
            exact List.mem_cons_self
        · refine .inr ⟨⟨e.2.2, .inr ?_⟩, h3⟩
          have h1 : e.2.1 = u := h1
          have h2 : e.1 = y := h2
          rw [← h1, ← h2]
          exact List.mem_cons_self
      · exact .inr ⟨⟨l, h.elim (fun h => .inl (List.mem_cons_of_mem _ h)) fun h => .inr (List.mem_cons_of_mem _ h)⟩, h2⟩
    · rcases hy with hy | hy
      · rcases List.mem_cons.mp hy with q | q
        · refine ih.pre.subset ?_
          rw [e1]
          refine addP_sub.subset (addP_has ?_ ?_ hl)
          · rw [← q]
          · rw [← q]
        · exact ih.all y ⟨l, .inl q⟩ hl
      · rcases List.mem_cons.mp hy with q | q
        · refine ih.pre.subset ?_
          rw [e1]
          refine addP_has ?_ ?_ hl
          · rw [← q]
          · rw [← q]
        · exact ih.all y ⟨l, .inr q⟩ hl
/-- a part under way: the first `k` points have told their neighbours -/
structure Grow (left : List Nat) (rs : List Road) (s : Nat) (p : List Nat) (k : Nat) : Prop where
  nd : p.Nodup
  sub : ∀ x ∈ p, x ∈ left
  mem : s ∈ p
  cn : ∀ x ∈ p, Cn left rs s x
  told : ∀ (i : Nat) (x y : Nat), i < k → p[i]? = some x → adj rs x y → y ∈ left → y ∈ p
theorem Grow.start {left : List Nat} {rs : List Road} {s : Nat} (h : s ∈ left) : Grow left rs s [s] 0 where
  nd := by simp
  sub x hx := by rw [List.mem_singleton.mp hx]; exact h
  mem := List.mem_cons_self
  cn x hx := by rw [List.mem_singleton.mp hx]; exact .self
  told i x y hi := absurd hi (Nat.not_lt_zero _)
theorem Grow.next {left : List Nat} {rs : List Road} {s k u : Nat} {p : List Nat} (g : Grow left rs s p k) (hu : p[k]? = some u) : Grow left rs s (rs.foldl (addE left u) p) (k + 1) := by
  have sc := scan_ok left u rs p
  have hup : u ∈ p := List.mem_of_getElem? hu
  refine ⟨sc.nd g.nd, fun x hx => ?_, sc.pre.subset g.mem, fun x hx => ?_, fun i x y hi hx ha hy => ?_⟩
  · rcases sc.new x hx with h | ⟨_, h⟩
    · exact g.sub x h
    · exact h
  · rcases sc.new x hx with h | ⟨h1, h2⟩
    · exact g.cn x h
    · exact .step (g.cn u hup) h1 h2
  · have hk : k < p.length := by
      rcases Nat.lt_or_ge k p.length with h | h
      · exact h
      · rw [List.getElem?_eq_none h] at hu
        cases hu
    have hx' : p[i]? = some x := by
      obtain ⟨t, ht⟩ := sc.pre
      rw [← ht, List.getElem?_append_left (by omega)] at hx
      exact hx
    by_cases q : i = k
    · subst q
      rw [hu] at hx'
      cases hx'
      exact sc.all y ha hy
    · exact sc.pre.subset (g.told i x y (by omega) hx' ha hy)
theorem Grow.done {left : List Nat} {rs : List Road} {s : Nat} {p : List Nat} {k : Nat} (g : Grow left rs s p k) (hk : p.length ≤ k) (x : Nat) : x ∈ p ↔ Cn left rs s x := by
  refine ⟨g.cn x, fun h => ?_⟩
  induction h with
  | self => exact g.mem
  | step h ha hy ih =>
    obtain ⟨i, hi, e⟩ := List.getElem_of_mem ih
    exact g.told i _ _ (by omega) (List.getElem?_eq_some_iff.mpr ⟨hi, e⟩) ha hy
theorem nodup_len : ∀ (p l : List Nat), p.Nodup → (∀ x ∈ p, x ∈ l) → p.length ≤ l.length
  | [], _, _, _ => Nat.zero_le _
  | x :: p, l, h, k => by
    rw [List.nodup_cons] at h
    have hx := k x List.mem_cons_self
    have := nodup_len p (l.erase x) h.2 fun y hy => (List.mem_erase_of_ne fun e => h.1 (by rw [← e]; exact hy)).mpr (k y (List.mem_cons_of_mem _ hy))
    rw [List.length_erase_of_mem hx] at this
    have := List.length_pos_of_mem hx
    rw [List.length_cons]
    omega
theorem Grow.len {left : List Nat} {rs : List Road} {s : Nat} {p : List Nat} {k : Nat} (g : Grow left rs s p k) : p.length ≤ left.length := nodup_len p left g.nd g.sub
/-- parts under way -/
structure Parts (pts : List Nat) (rs : List Road) (left : List Nat) (cs : List (List Nat)) : Prop where
  nd : left.Nodup
  sub : ∀ x ∈ left, x ∈ pts
  asc : ∀ c ∈ cs, c.Pairwise (· < ·)
  comp : ∀ c ∈ cs, ∃ s ∈ pts, ∀ x, x ∈ c ↔ Cn pts rs s x
  cover : ∀ x ∈ pts, x ∈ left ∨ ∃ c ∈ cs, x ∈ c
  apart : ∀ c ∈ cs, ∀ x ∈ c, x ∉ left
  apart2 : cs.Pairwise fun c d => ∀ x ∈ c, x ∉ d
theorem Cn.mono {a b : List Nat} {rs : List Road} {s x : Nat} (h : Cn a rs s x) (k : ∀ y ∈ a, y ∈ b) : Cn b rs s x := by
  induction h with
  | self => exact .self
  | step _ ha hy ih => exact .step ih ha (k _ hy)
theorem Parts.start (pts : List Nat) (rs : List Road) (h : pts.Nodup) : Parts pts rs pts [] where
  nd := h
  sub x h := h
  asc c h := nomatch h
  comp c h := nomatch h
  cover x h := .inl h
  apart c h := nomatch h
  apart2 := List.Pairwise.nil
theorem Parts.closed {pts left : List Nat} {rs : List Road} {cs : List (List Nat)} (P : Parts pts rs left cs) {s x : Nat} (hs : s ∈ left) (h : Cn pts rs s x) : x ∈ left ∧ Cn left rs s x := by
  induction h with
  | self => exact ⟨hs, .self⟩
  | step h ha hy ih =>
    rename_i x y
    have hl : y ∈ left := by
      rcases P.cover y hy with q | ⟨c, hc, q⟩
      · exact q
      · obtain ⟨t, ht, e⟩ := P.comp c hc
        have hx : x ∈ c := (e x).mpr (.step ((e y).mp q) (adj_symm ha) (P.sub _ ih.1))
        exact absurd ih.1 (P.apart c hc _ hx)
    exact ⟨hl, .step ih.2 ha hl⟩
theorem Parts.next {pts left : List Nat} {rs : List Road} {cs : List (List Nat)} (P : Parts pts rs left cs) {s : Nat} {p c : List Nat} (hs : s ∈ left) (hp : ∀ x, x ∈ p ↔ Cn left rs s x) (hc : c.Perm p) (ha : c.Pairwise (· < ·)) : Parts pts rs (left.filter fun x => !decide (x ∈ p)) (cs ++ [c]) := by
  have hpc : ∀ x, x ∈ p ↔ Cn pts rs s x := fun x => ⟨fun h => ((hp x).mp h).mono P.sub, fun h => (hp x).mpr (P.closed hs h).2⟩
  refine ⟨P.nd.filter _, fun x h => P.sub x (List.mem_filter.mp h).1, fun d hd => ?_, fun d hd => ?_, fun x hx => ?_, fun d hd x hx hl => ?_, ?_⟩
  · rcases List.mem_append.mp hd with h | h
    · exact P.asc d h
    · rw [List.mem_singleton.mp h]
      exact ha
  · rcases List.mem_append.mp hd with h | h
    · exact P.comp d h
    · rw [List.mem_singleton.mp h]
      exact ⟨s, P.sub s hs, fun x => hc.mem_iff.trans (hpc x)⟩
  · rcases P.cover x hx with h | ⟨d, hd, h⟩
    · by_cases q : x ∈ p
      · exact .inr ⟨c, List.mem_append_right _ List.mem_cons_self, hc.mem_iff.mpr q⟩
      · exact .inl (List.mem_filter.mpr ⟨h, by simp [q]⟩)
    · exact .inr ⟨d, List.mem_append_left _ hd, h⟩
  · obtain ⟨h1, h2⟩ := List.mem_filter.mp hl
    rcases List.mem_append.mp hd with h | h
    · exact P.apart d h x hx h1
    · rw [List.mem_singleton.mp h] at hx
      simp [hc.mem_iff.mp hx] at h2
  · refine List.pairwise_append.mpr ⟨P.apart2, List.pairwise_singleton _ _, fun d hd e he x hx hx2 => ?_⟩
    rw [List.mem_singleton.mp he] at hx2
    have := (P.closed hs ((hpc x).mp (hc.mem_iff.mp hx2))).1
    exact P.apart d hd x hx this
/-- in a web all is one part -/
theorem web_cn {n : Nat} {rs : List Road} (w : Web n rs) : ∀ b, b < n → ∀ s, s < n → Cn (List.range n) rs s b := by
  have zero : ∀ b, b < n → Cn (List.range n) rs 0 b ∧ Cn (List.range n) rs b 0 := by
    intro b
    induction b using Nat.strongRecOn with
    | _ b ih =>
      intro hb
      by_cases h : b = 0
      · subst h
        exact ⟨.self, .self⟩
      · obtain ⟨e, he, q⟩ := w.tree b (by omega) hb
        have hl := (w.lt e he).1
        obtain ⟨i1, i2⟩ := ih e.1 (by omega) (by omega)
        have ha : adj rs e.1 b := ⟨e.2.2, .inl (by rw [← q]; exact he)⟩
        refine ⟨.step i1 ha (List.mem_range.mpr hb), ?_⟩
        have tr : ∀ {x y z : Nat}, Cn (List.range n) rs x y → Cn (List.range n) rs y z → Cn (List.range n) rs x z := fun h1 h2 => by
          induction h2 with
          | self => exact h1
          | step _ ha hy ih => exact .step ih ha hy
        exact tr (.step .self (adj_symm ha) (List.mem_range.mpr (by omega))) i2
  have tr : ∀ {x y z : Nat}, Cn (List.range n) rs x y → Cn (List.range n) rs y z → Cn (List.range n) rs x z := fun h1 h2 => by
    induction h2 with
    | self => exact h1
    | step _ ha hy ih => exact .step ih ha hy
  intro b hb s hs
  exact tr (zero s hs).2 (zero b hb).1
/-- so there is just one -/
theorem one_part {n : Nat} {rs : List Road} (w : Web n rs) (hn : 0 < n) {cs : List (List Nat)} (P : Parts (List.range n) rs [] cs) : cs = [List.range n] := by
  have full : ∀ c ∈ cs, c = List.range n := fun c hc => by
    obtain ⟨s, hs, e⟩ := P.comp c hc
    refine List.Perm.eq_of_pairwise (le := (· < ·)) (fun a b _ _ h1 h2 => by omega) (P.asc c hc) List.pairwise_lt_range ?_
    have nd1 : c.Nodup := (P.asc c hc).imp fun h => by omega
    refine (List.perm_ext_iff_of_nodup nd1 List.nodup_range).mpr fun x => ?_
    rw [e]
    constructor
    · intro h
      cases h with
      | self => exact hs
      | step _ _ hy => exact hy
    · intro h
      exact web_cn w x (List.mem_range.mp h) s (List.mem_range.mp hs)
  cases cs with
  | nil =>
    rcases P.cover 0 (List.mem_range.mpr hn) with h | ⟨c, h, _⟩
    · cases h
    · cases h
  | cons c r =>
    cases r with
    | nil => rw [full c List.mem_cons_self]
    | cons d r =>
      have h1 := full c List.mem_cons_self
      have h2 := full d (List.mem_cons_of_mem _ List.mem_cons_self)
      have := (List.pairwise_cons.mp P.apart2).1 d List.mem_cons_self 0
      rw [h1, h2] at this
      exact absurd (List.mem_range.mpr hn) (this (List.mem_range.mpr hn))
end PL
namespace PL
def Asc (n : Nat) (xs : List Nat) : Prop := xs.Pairwise (· < ·) ∧ ∀ x ∈ xs, x < n
/-- the points of a number -/
def mem (m n : Nat) : List Nat := (List.range n).filter fun k => m.testBit k
theorem minL_spec : ∀ (xs : List Int), xs ≠ [] → minL xs ∈ xs ∧ ∀ x ∈ xs, minL xs ≤ x
  | [], h => absurd rfl h
  | x :: r, _ => by
    have key : ∀ (r : List Int) (x : Int), r.foldl min x ∈ x :: r ∧ ∀ y ∈ x :: r, r.foldl min x ≤ y := by
      intro r
      induction r with
      | nil => intro x; exact ⟨List.mem_cons_self, fun y hy => by rw [List.mem_singleton.mp hy]; exact Int.le_refl _⟩
      | cons z r ih =>
        intro x
        obtain ⟨h1, h2⟩ := ih (min x z)
        rw [List.foldl_cons]
        generalize r.foldl min (min x z) = m at *
        have hm := h2 _ List.mem_cons_self
        refine ⟨?_, fun y hy => ?_⟩
        · rcases List.mem_cons.mp h1 with h | h
          · rw [h]
            rcases Int.le_total x z with q | q
            · rw [Int.min_eq_left q]
              exact List.mem_cons_self
            · rw [Int.min_eq_right q]
              exact List.mem_cons_of_mem _ List.mem_cons_self
          · exact List.mem_cons_of_mem _ (List.mem_cons_of_mem _ h)
        · rcases List.mem_cons.mp hy with h | h
          · subst h
            omega
          · rcases List.mem_cons.mp h with h | h
            · subst h
              omega
            · exact h2 y (List.mem_cons_of_mem _ h)
    exact key r x
theorem minL_mem {xs : List Int} (h : xs ≠ []) : minL xs ∈ xs := (minL_spec xs h).1
theorem minL_le {xs : List Int} {x : Int} (h : x ∈ xs) : minL xs ≤ x := (minL_spec xs (List.ne_nil_of_mem h)).2 x h
theorem le_minL {xs : List Int} {x : Int} (h : xs ≠ []) (k : ∀ y ∈ xs, x ≤ y) : x ≤ minL xs := k _ (minL_mem h)
theorem minL_eq {xs : List Int} {x : Int} (h : x ∈ xs) (k : ∀ y ∈ xs, x ≤ y) : minL xs = x := Int.le_antisymm (minL_le h) (le_minL (List.ne_nil_of_mem h) k)
def nearM (m : Nat → Nat → Int) (hs : List Nat) (k : Nat) : Int := minL (hs.map (m k))
def sumM (n : Nat) (w : Nat → Int) (m : Nat → Nat → Int) (hs : List Nat) : Int := ((List.range n).map fun k => w k * nearM m hs k).sum
def reachM (n : Nat) (m : Nat → Nat → Int) (hs : List Nat) : Int := maxL ((List.range n).map (nearM m hs))
theorem asc_len {n : Nat} {xs : List Nat} (h : Asc n xs) : xs.length ≤ n := by
  have := nodup_len xs (List.range n) (h.1.imp fun h => by omega) fun x hx => List.mem_range.mpr (h.2 x hx)
  rwa [List.length_range] at this
end PL
namespace PL
open PySem PySem.Spec PyProof.Rows L2 DL
def ssetN (xs : List Nat) : List Nat := (sset (xs.map fun x => ((x : Nat) : Int))).map Int.toNat
theorem insS_asc {x : Int} : ∀ {l : List Int}, l.Pairwise (· < ·) → (insS x l).Pairwise (· < ·)
  | [], _ => List.pairwise_singleton _ _
  | y :: r, h => by
    unfold insS
    rw [List.pairwise_cons] at h
    split
    · next q =>
      refine List.pairwise_cons.mpr ⟨fun z hz => ?_, List.pairwise_cons.mpr h⟩
      rcases List.mem_cons.mp hz with e | e
      · rw [e]; exact q
      · have := h.1 z e
        omega
    · split
      · exact List.pairwise_cons.mpr h
      · next q1 q2 =>
        refine List.pairwise_cons.mpr ⟨fun z hz => ?_, insS_asc h.2⟩
        rcases insS_mem.mp hz with e | e
        · omega
        · exact h.1 z e
theorem sset_asc : ∀ l : List Int, (sset l).Pairwise (· < ·)
  | [] => List.Pairwise.nil
  | x :: r => insS_asc (sset_asc r)
theorem sset_mem' {k : Int} : ∀ {l : List Int}, k ∈ sset l ↔ k ∈ l
  | [] => Iff.rfl
  | x :: r => by
    unfold sset
    rw [insS_mem, sset_mem' (l := r), List.mem_cons]
theorem ssetN_eq (xs : List Nat) : sset (xs.map fun x => ((x : Nat) : Int)) = (ssetN xs).map fun x => ((x : Nat) : Int) := by
  unfold ssetN
  rw [List.map_map]
  refine ((List.map_congr_left fun k hk => ?_).trans (List.map_id _)).symm
  obtain ⟨x, _, e⟩ := List.mem_map.mp (sset_mem'.mp hk)
  show ((k.toNat : Nat) : Int) = k
  omega
theorem ssetN_asc (xs : List Nat) : (ssetN xs).Pairwise (· < ·) := by
  have h := sset_asc (xs.map fun x => ((x : Nat) : Int))
  rw [ssetN_eq, List.pairwise_map] at h
  exact h.imp fun h => by omega
theorem ssetN_mem {xs : List Nat} {x : Nat} : x ∈ ssetN xs ↔ x ∈ xs := by
  have h : ((x : Nat) : Int) ∈ (ssetN xs).map (fun x => ((x : Nat) : Int)) ↔ ((x : Nat) : Int) ∈ xs.map fun x => ((x : Nat) : Int) := by
    rw [← ssetN_eq]
    exact sset_mem'
  have k : ∀ l : List Nat, ((x : Nat) : Int) ∈ l.map (fun x => ((x : Nat) : Int)) ↔ x ∈ l := fun l => by
    rw [List.mem_map]
    exact ⟨fun ⟨y, hy, e⟩ => by rwa [← Int.ofNat.inj e], fun hx => ⟨x, hx, rfl⟩⟩
  rw [k, k] at h
  exact h
theorem asc_unique {xs ys : List Nat} (h1 : xs.Pairwise (· < ·)) (h2 : ys.Pairwise (· < ·)) (h : ∀ x, x ∈ xs ↔ x ∈ ys) : xs = ys :=
  List.Perm.eq_of_pairwise (le := (· < ·)) (fun a b _ _ h1 h2 => by omega) h1 h2 ((List.perm_ext_iff_of_nodup (h1.imp fun h => by omega) (h2.imp fun h => by omega)).mpr h)
theorem ssetN_self {xs : List Nat} (h : xs.Pairwise (· < ·)) : ssetN xs = xs := asc_unique (ssetN_asc xs) h fun x => ssetN_mem
end PL
namespace PL
open PySem PySem.Spec PyProof.Rows L2 DL
def ratD (q : Rat) : D := .tuple [.int q.num, .int ((q.den : Nat) : Int)]
def Sm (q : Rat) : Prop := q.num.natAbs < 2 ^ 50 ∧ q.den < 2 ^ 15
/-- ratios that may be worked with -/
def Sb (q : Rat) : Prop := q.num.natAbs < 2 ^ 60 ∧ q.den < 2 ^ 60
def Sw (q : Rat) : Prop := q.num.natAbs < 2 ^ 75 ∧ q.den < 2 ^ 60
theorem Sb.w {q : Rat} (h : Sb q) : Sw q := ⟨Nat.lt_of_lt_of_le h.1 (by decide), h.2⟩
theorem Sm.divInt {a : Int} {d : Nat} (hd : 0 < d) (ha : a.natAbs < 2 ^ 50) (h : d < 2 ^ 15) : Sm (Rat.divInt a (d : Nat)) := by
  have hg : 0 < Int.gcd (d : Nat) a := Int.gcd_pos_of_ne_zero_left _ (by omega)
  constructor
  · rw [Rat.num_divInt, show ((d : Nat) : Int).sign = 1 from Int.sign_eq_one_of_pos (by omega), Int.one_mul]
    rw [Int.natAbs_ediv_of_dvd (Int.gcd_dvd_right _ _)]
    exact Nat.lt_of_le_of_lt (Nat.div_le_self _ _) ha
  · rw [Rat.den_divInt, if_neg (by omega)]
    exact Nat.lt_of_le_of_lt (Nat.div_le_self _ _) (by simpa using h)
theorem rat_add (p q : Rat) : Rat.divInt (p.num * ((q.den : Nat) : Int) + q.num * ((p.den : Nat) : Int)) (((p.den : Nat) : Int) * ((q.den : Nat) : Int)) = p + q := by
  have h1 : ((p.den : Nat) : Int) ≠ 0 := by have := p.den_nz; omega
  have h2 : ((q.den : Nat) : Int) ≠ 0 := by have := q.den_nz; omega
  rw [← Rat.divInt_add_divInt p.num q.num h1 h2, Rat.num_divInt_den, Rat.num_divInt_den]
theorem rat_sub (p q : Rat) : Rat.divInt (p.num * ((q.den : Nat) : Int) - q.num * ((p.den : Nat) : Int)) (((p.den : Nat) : Int) * ((q.den : Nat) : Int)) = p - q := by
  have h := rat_add p (-q)
  rw [Rat.neg_num, Rat.neg_den] at h
  rw [Rat.sub_eq_add_neg, ← h]
  congr 1
  rw [Int.neg_mul]
  omega
/-- the turns of Euclid -/
def Euc (k x y : Nat) : Prop := (y < x ∧ x * y < 2 ^ k) ∨ (x ≤ y ∧ 1 ≤ k ∧ x * y < 2 ^ (k - 1))
theorem Euc.next {k x y : Nat} (h : Euc k x y) (hy : 0 < y) : 1 ≤ k ∧ Euc (k - 1) y (x % y) := by
  have hm := Nat.mod_lt x hy
  rcases h with ⟨h1, h2⟩ | ⟨h1, h2, h3⟩
  · have hk : 1 ≤ k := by
      rcases Nat.eq_zero_or_pos k with q | q
      · subst q
        have : 1 ≤ x * y := Nat.mul_pos (by omega) hy
        simp at h2
        omega
      · exact q
    refine ⟨hk, .inl ⟨hm, ?_⟩⟩
    have e := Nat.div_add_mod x y
    have hq : 1 ≤ x / y := Nat.div_pos (by omega) hy
    have h4 : 2 * (y * (x % y)) < x * y ∨ x % y = 0 := by
      rcases Nat.eq_zero_or_pos (x % y) with q | q
      · exact .inr q
      · left
        have h5 : y * 1 ≤ y * (x / y) := Nat.mul_le_mul_left y hq
        have h6 : 2 * (x % y) < x := by omega
        have := Nat.mul_lt_mul_of_pos_right h6 hy
        rw [Nat.mul_comm y (x % y), ← Nat.mul_assoc]
        exact this
    have hp : 2 ^ k = 2 * 2 ^ (k - 1) := by
      rw [← Nat.pow_succ']
      congr 1
      omega
    rcases h4 with h4 | h4
    · omega
    · rw [h4, Nat.mul_zero]
      exact Nat.two_pow_pos _
  · refine ⟨h2, .inl ⟨hm, ?_⟩⟩
    rcases Nat.lt_or_ge x y with q | q
    · rw [Nat.mod_eq_of_lt q, Nat.mul_comm]
      exact h3
    · have : x = y := by omega
      rw [this, Nat.mod_self, Nat.mul_zero]
      exact Nat.two_pow_pos _
theorem Euc.start {a b : Nat} (ha : a < 2 ^ 140) (hb : b < 2 ^ 140) : Euc 281 a b := by
  have h : a * b < 2 ^ 280 := by
    have := Nat.mul_lt_mul'' ha hb
    rw [← Nat.pow_add] at this
    exact this
  rcases Nat.lt_or_ge b a with q | q
  · exact .inl ⟨q, Nat.lt_of_lt_of_le h (Nat.pow_le_pow_right (by decide) (by decide))⟩
  · exact .inr ⟨q, by decide, h⟩
theorem ξJ (a : Int) : oAbs [.int a] = some (.int ((a.natAbs : Nat) : Int)) := by
  show some (PyData.int (if a < 0 then -a else a)) = _
  refine congrArg (fun x => some (PyData.int x)) ?_
  split <;> omega
theorem ξK (q : Rat) : oIx (ratD q) (.int 0) = some (.int q.num) := (rfl)
theorem ξL (q : Rat) : oIx (ratD q) (.int 1) = some (.int ((q.den : Nat) : Int)) := (rfl)
end PL
namespace PL
open PySem PySem.Spec PyProof.Rows L2 DL
def domd (l : List (Int × Int)) (p : Int × Int) : Bool := decide (∃ q ∈ l, q ≠ p ∧ q.1 ≤ p.1 ∧ q.2 ≤ p.2)
def parF (acc : List (Int × Int)) (p : Int × Int) : List (Int × Int) := match acc.getLast? with
  | none => acc ++ [p]
  | some q => if p.2 < q.2 then acc ++ [p] else acc
theorem lt_pair {a b : Int × Int} (h : ltK a b = true) : a.1 < b.1 ∨ (a.1 = b.1 ∧ a.2 < b.2) := by
  have h : (if a.1 = b.1 then decide (a.2 < b.2) else decide (a.1 < b.1)) = true := h
  by_cases q : a.1 = b.1
  · rw [if_pos q] at h
    exact .inr ⟨q, of_decide_eq_true h⟩
  · rw [if_neg q] at h
    exact .inl (of_decide_eq_true h)
structure ParInv (pre acc : List (Int × Int)) : Prop where
  eq : acc = pre.filter fun p => !domd pre p
  last : ∀ q, acc.getLast? = some q → q ∈ pre ∧ ∀ p ∈ pre, q.2 ≤ p.2
  none : acc.getLast? = none → pre = []
theorem ParInv.next {pre acc : List (Int × Int)} {p : Int × Int} (h : ParInv pre acc) (hp : ∀ q ∈ pre, ltK q p = true) : ParInv (pre ++ [p]) (parF acc p) := by
  have hold : ∀ q ∈ pre, domd (pre ++ [p]) q = domd pre q := fun q hq => by
    unfold domd
    refine decide_eq_decide.mpr ⟨fun ⟨r, hr, k⟩ => ?_, fun ⟨r, hr, k⟩ => ⟨r, List.mem_append_left _ hr, k⟩⟩
    rcases List.mem_append.mp hr with e | e
    · exact ⟨r, e, k⟩
    · rw [List.mem_singleton.mp e] at k
      have := lt_pair (hp q hq)
      omega
  have hfil : pre.filter (fun q => !domd (pre ++ [p]) q) = acc := by
    rw [h.eq]
    exact List.filter_congr fun q hq => by rw [hold q hq]
  have hsplit : (pre ++ [p]).filter (fun q => !domd (pre ++ [p]) q) = acc ++ if domd (pre ++ [p]) p then [] else [p] := by
    rw [List.filter_append, hfil]
    congr 1
    rw [List.filter_cons]
    cases domd (pre ++ [p]) p <;> rfl
  cases e : acc.getLast? with
  | none =>
    have e0 := h.none e
    subst e0
    have ea : acc = [] := List.getLast?_eq_none_iff.mp e
    subst ea
    have ep : parF [] p = [p] := rfl
    rw [ep]
    have hd : domd ([] ++ [p]) p = false := by
      unfold domd
      refine decide_eq_false fun ⟨q, hq, k, _⟩ => ?_
      simp at hq
      exact k hq
    refine ⟨?_, fun q hq => ?_, fun hq => ?_⟩
    · rw [hsplit, hd]
      rfl
    · simp at hq
      subst hq
      exact ⟨by simp, fun r hr => by simp at hr; rw [hr]; exact Int.le_refl _⟩
    · simp at hq
  | some q =>
    obtain ⟨hq1, hq2⟩ := h.last q e
    have ep : parF acc p = if p.2 < q.2 then acc ++ [p] else acc := by
      unfold parF
      rw [e]
    rw [ep]
    by_cases c : p.2 < q.2
    · have hd : domd (pre ++ [p]) p = false := by
        unfold domd
        refine decide_eq_false fun ⟨r, hr, k1, k2, k3⟩ => ?_
        rcases List.mem_append.mp hr with e | e
        · have := hq2 r e
          omega
        · exact k1 (List.mem_singleton.mp e)
      rw [if_pos c]
      refine ⟨?_, fun r hr => ?_, fun hr => ?_⟩
      · rw [hsplit, hd]
        rfl
      · rw [List.getLast?_append] at hr
        simp at hr
        subst hr
        refine ⟨by simp, fun s hs => ?_⟩
        rcases List.mem_append.mp hs with e | e
        · have := hq2 s e
          omega
        · rw [List.mem_singleton.mp e]
          exact Int.le_refl _
      · rw [List.getLast?_append] at hr
        simp at hr
    · have hd : domd (pre ++ [p]) p = true := by
        unfold domd
        have := lt_pair (hp q hq1)
        refine decide_eq_true ⟨q, List.mem_append_left _ hq1, fun e => ?_, by omega, by omega⟩
        have k := hp q hq1
        rw [e, ltK_irr] at k
        cases k
      rw [if_neg c]
      refine ⟨?_, fun r hr => ?_, fun hr => ?_⟩
      · rw [hsplit, hd, if_pos rfl, List.append_nil]
      · rw [e] at hr
        cases hr
        refine ⟨List.mem_append_left _ hq1, fun s hs => ?_⟩
        rcases List.mem_append.mp hs with e | e
        · exact hq2 s e
        · rw [List.mem_singleton.mp e]
          omega
      · rw [e] at hr
        cases hr
end PL
namespace PL
open PySem PySem.Spec PyProof.Rows L2 DL
def fr (P : Nat) (x : Int) : Rat := Rat.divInt x (P : Nat)
section
variable {P : Nat} (hP : 0 < P)
include hP
theorem fr_div (x : Int) : fr P x = (x : Rat) / ((P : Nat) : Rat) := Rat.divInt_eq_div x (P : Nat)
theorem fr_ne : ((P : Nat) : Rat) ≠ 0 := by
  intro h
  have : ((P : Nat) : Rat) = ((0 : Nat) : Rat) := h
  rw [Rat.natCast_inj] at this
  omega
theorem fr_add (x y : Int) : fr P x + fr P y = fr P (x + y) := by
  rw [fr_div hP, fr_div hP, fr_div hP, Rat.intCast_add, Rat.div_def, Rat.div_def, Rat.div_def, Rat.add_mul]
theorem fr_int (a : Int) : (a : Rat) = fr P (a * (P : Nat)) := by
  rw [fr_div hP, Rat.intCast_mul]
  have := fr_ne hP
  rw [Rat.div_def, Rat.mul_assoc, show (((P : Nat) : Int) : Rat) = ((P : Nat) : Rat) from rfl, Rat.mul_inv_cancel _ this, Rat.mul_one]
theorem fr_mul (a x : Int) : (a : Rat) * fr P x = fr P (a * x) := by
  rw [fr_div hP, fr_div hP, Rat.intCast_mul, Rat.div_def, Rat.div_def, Rat.mul_assoc]
end
end PL
namespace PL
open PySem PySem.Spec PyProof.Rows L2 DL
theorem nodup_of_len : ∀ (l p : List Nat), p.Nodup → (∀ x ∈ p, x ∈ l) → l.length ≤ p.length → l.Nodup
  | [], _, _, _, _ => List.nodup_nil
  | x :: r, p, hp, hs, hl => by
    have hx : x ∉ r := fun hx => by
      have : p.length ≤ r.length := nodup_len p r hp fun y hy => by
        rcases List.mem_cons.mp (hs y hy) with q | q
        · rw [q]; exact hx
        · exact q
      rw [List.length_cons] at hl
      omega
    rw [List.nodup_cons]
    refine ⟨hx, nodup_of_len r (p.erase x) (hp.erase x) (fun y hy => ?_) ?_⟩
    · obtain ⟨h1, h2⟩ := (List.Nodup.mem_erase_iff hp).mp hy
      rcases List.mem_cons.mp (hs y h2) with q | q
      · exact absurd q h1
      · exact q
    · have := List.length_erase (a := x) (l := p)
      rw [List.length_cons] at hl
      split at this <;> omega
section
variable {n : Nat} {rs : List Road}
theorem dist_last (w : Web n rs) {i v : Nat} (hi : i < n) (hv : v < n) (ne : i ≠ v) : ∃ u l, Edge rs u v l ∧ dist n rs i u + l ≤ dist n rs i v := by
  have hb := dist_le w hi hv
  rcases last (far := far rs) (Edge rs) (zero_laid w (far_nn w)) (fun i j ne => by
    rcases laid_or rs (iniM (far rs)) i j with h | h
    · left
      rw [h]
      unfold iniM
      rw [if_neg ne]
      exact Int.le_refl _
    · exact .inr h) n i v ne with a | ⟨u, l, a, b⟩
  · have a : far rs ≤ dist n rs i v := a
    unfold far at a
    omega
  · exact ⟨u, l, a, b⟩
/-- what no road breaks, no distance breaks -/
theorem dist_lip (w : Web n rs) (g : Nat → Int) (hg : ∀ e ∈ rs, g e.2.1 - g e.1 ≤ e.2.2 ∧ g e.1 - g e.2.1 ≤ e.2.2) {i : Nat} (hi : i < n) : ∀ (k v : Nat), v < n → dist n rs i v < (k : Nat) → g v - g i ≤ dist n rs i v
  | 0, v, hv, h => by
    have := (dist_zero w).nn i v
    omega
  | k + 1, v, hv, h => by
    by_cases ne : i = v
    · subst ne
      rw [(dist_zero w).diag]
      omega
    · obtain ⟨u, l, a, b⟩ := dist_last w hi hv ne
      rcases a with a | a
      · have h1 := w.lt _ a
        have h2 := w.len _ a
        have h3 := hg _ a
        dsimp only at h1 h2 h3
        have ih := dist_lip w g hg hi k u (by omega) (by omega)
        omega
      · have h1 := w.lt _ a
        have h2 := w.len _ a
        have h3 := hg _ a
        dsimp only at h1 h2 h3
        have ih := dist_lip w g hg hi k u (by omega) (by omega)
        omega
theorem tree_one (w : Web n rs) (ht : rs.length + 1 ≤ n) {e f : Road} (he : e ∈ rs) (hf : f ∈ rs) (h : e.2.1 = f.2.1) : e = f := by
  have nd : (rs.map fun e => e.2.1).Nodup := nodup_of_len _ ((List.range (n - 1)).map (· + 1)) (by
    rw [List.nodup_iff_pairwise_ne, List.pairwise_map]
    exact (List.nodup_iff_pairwise_ne.mp List.nodup_range).imp fun h => by omega) (fun x hx => by
    obtain ⟨a, ha, e⟩ := List.mem_map.mp hx
    have := List.mem_range.mp ha
    obtain ⟨r, hr, q⟩ := w.tree x (by omega) (by omega)
    exact List.mem_map.mpr ⟨r, hr, q⟩) (by rw [List.length_map, List.length_map, List.length_range]; omega)
  have key : ∀ l : List Road, (l.map fun e => e.2.1).Nodup → e ∈ l → f ∈ l → e = f := by
    intro l
    induction l with
    | nil => exact fun _ h => nomatch h
    | cons a l ih =>
      intro nd he hf
      rw [List.map_cons, List.nodup_cons] at nd
      rcases List.mem_cons.mp he with q | q
      · rcases List.mem_cons.mp hf with p | p
        · rw [q, p]
        · exact absurd (List.mem_map.mpr ⟨f, p, by rw [← h, q]⟩) nd.1
      · rcases List.mem_cons.mp hf with p | p
        · exact absurd (List.mem_map.mpr ⟨e, q, by rw [h, p]⟩) nd.1
        · exact ih nd.2 q p
  exact key rs nd he hf
/-- the points behind a point, away from 0 -/
inductive Sub (rs : List Road) (b : Nat) : Nat → Prop
  | self : Sub rs b b
  | step {e : Road} : e ∈ rs → Sub rs b e.1 → Sub rs b e.2.1
theorem Sub.le (w : Web n rs) {b k : Nat} (h : Sub rs b k) : b ≤ k := by
  induction h with
  | self => exact Nat.le_refl _
  | step he _ ih => have := (w.lt _ he).1; omega
theorem Sub.iff (w : Web n rs) (ht : rs.length + 1 ≤ n) {b : Nat} {f : Road} (hf : f ∈ rs) (ne : f.2.1 ≠ b) : Sub rs b f.2.1 ↔ Sub rs b f.1 := by
  constructor
  · intro h
    generalize e : f.2.1 = k at h ne
    cases h with
    | self => exact absurd rfl ne
    | step he hs =>
      rw [tree_one w ht hf he e]
      exact hs
  · exact fun h => .step hf h
open Classical in
theorem tree_cut (w : Web n rs) (ht : rs.length + 1 ≤ n) {e : Road} (he : e ∈ rs) {k : Nat} (hk : k < n) : (Sub rs e.2.1 k → dist n rs e.1 k = dist n rs e.2.1 k + e.2.2) ∧ (¬ Sub rs e.2.1 k → dist n rs e.2.1 k = dist n rs e.1 k + e.2.2) := by
  have hlt := w.lt e he
  have hd := dist_road w he
  have hna : ¬ Sub rs e.2.1 e.1 := fun h => by
    have := h.le w
    omega
  have hsb : Sub rs e.2.1 e.2.1 := .self
  have db := (dist_zero w).diag e.2.1
  have da := (dist_zero w).diag e.1
  have lip : ∀ (c : Nat) (f : Road), f ∈ rs → dist n rs c f.2.1 - dist n rs c f.1 ≤ f.2.2 ∧ dist n rs c f.1 - dist n rs c f.2.1 ≤ f.2.2 := fun c f hf => by
    have h1 := dist_road w hf
    have h2 := w.lt f hf
    have t1 := dist_tri w (show f.1 < n by omega) c f.2.1
    have t2 := dist_tri w h2.2 c f.1
    omega
  have g1 := dist_lip w (fun k => if Sub rs e.2.1 k then e.2.2 + dist n rs e.2.1 k else dist n rs e.1 k) (fun f hf => by
    by_cases q : f.2.1 = e.2.1
    · have := tree_one w ht hf he q
      subst this
      rw [if_pos hsb, if_neg hna, db, da]
      have := (w.len _ he).1
      omega
    · have s := Sub.iff w ht hf q
      by_cases c : Sub rs e.2.1 f.1
      · rw [if_pos c, if_pos (s.mpr c)]
        have := lip e.2.1 f hf
        omega
      · rw [if_neg c, if_neg fun k => c (s.mp k)]
        exact lip e.1 f hf) (i := e.1) (by omega) ((dist n rs e.1 k).toNat + 1) k hk (by have := (dist_zero w).nn e.1 k; omega)
  have g2 := dist_lip w (fun k => if Sub rs e.2.1 k then dist n rs e.2.1 k else e.2.2 + dist n rs e.1 k) (fun f hf => by
    by_cases q : f.2.1 = e.2.1
    · have := tree_one w ht hf he q
      subst this
      rw [if_pos hsb, if_neg hna, db, da]
      have := (w.len _ he).1
      omega
    · have s := Sub.iff w ht hf q
      by_cases c : Sub rs e.2.1 f.1
      · rw [if_pos c, if_pos (s.mpr c)]
        exact lip e.2.1 f hf
      · rw [if_neg c, if_neg fun k => c (s.mp k)]
        have := lip e.1 f hf
        omega) (i := e.2.1) hlt.2 ((dist n rs e.2.1 k).toNat + 1) k hk (by have := (dist_zero w).nn e.2.1 k; omega)
  rw [if_neg hna] at g1
  rw [if_pos hsb] at g2
  have t1 := dist_tri w hlt.2 e.1 k
  have t2 := dist_tri w (show e.1 < n by omega) e.2.1 k
  constructor
  · intro c
    rw [if_pos c] at g1
    omega
  · intro c
    rw [if_neg c] at g2
    omega
end
end PL
namespace PL
open PySem PySem.Spec PyProof.Rows L2 DL
section
variable {g h : Gs} {ρ ρ1 ρ2 : DL.Env} {Q : Fl → DL.Env → Prop} {fl : Fl}
theorem wG.nxt (e : g ρ = some (.nx, ρ2)) (q : wG h ρ2 Q) : wG (gSeq g h) ρ Q := wG.seq ⟨.nx, ρ2, e, q⟩
theorem wG.fin (e : g ρ = some (fl, ρ2)) (q : Q fl ρ2) : wG g ρ Q := ⟨fl, ρ2, e, q⟩
theorem wG.loopS {α : Type} {it : DL.Env → Option (List D × DL.Env)} {b : D → DL.Env → Option DL.Env} (enc : α → D) (xs : List α) (R : DL.Env → List α → DL.Env → Prop) (ei : it ρ = some (xs.map enc, ρ1)) (start : R ρ1 [] ρ1)
    (turn : ∀ pre x post ρ', xs = pre ++ x :: post → R ρ1 pre ρ' → ∃ ρ2, b (enc x) ρ' = some ρ2 ∧ wG g ρ2 (turnQ (R ρ1 (pre ++ [x])) Q)) (fin : ∀ ρ', R ρ1 xs ρ' → Q .nx ρ') : wG (gFor it b g) ρ Q :=
  wG.loop enc xs (R ρ1) ei start turn fin
end
end PL
namespace PL
open PySem PySem.Spec PyProof.Rows L2 DL
section
variable {α : Type}
theorem ξM (xs : List α) : List.filter (fun _ => false) xs = [] := by simp
theorem ξN (xs : List α) : List.filter (fun _ => true) xs = xs := by simp
theorem ξO : oNe (.list []) (.list []) = some (.bool false) := (rfl)
theorem ξP : oEq (.list []) (.list []) = some (.bool true) := (rfl)
theorem ξQ (a b c : D) : zp3 [a, b, c] = (seqOf a).bind fun xs => (seqOf b).bind fun ys => (seqOf c).bind fun zs => some (zip3D xs ys zs) := (rfl)
end
theorem rng_at {n x : Nat} {pre post : List Nat} (e : List.range n = pre ++ x :: post) : x = pre.length ∧ x < n ∧ pre = List.range x := by
  have hl := congrArg List.length e
  rw [List.length_range, List.length_append, List.length_cons] at hl
  have hx : (List.range n)[pre.length]? = some x := by
    rw [e, List.getElem?_append_right (Nat.le_refl _), Nat.sub_self]
    rfl
  rw [List.getElem?_range (by omega)] at hx
  have hx := Option.some.inj hx
  refine ⟨hx.symm, by omega, ?_⟩
  have ht := congrArg (List.take pre.length) e
  rw [List.take_left, List.take_range] at ht
  rw [← ht, ← hx]
  congr 1
  omega
theorem mem_at {α : Type} {l pre post : List α} {x : α} (e : l = pre ++ x :: post) : x ∈ l := by
  rw [e]
  exact List.mem_append_right _ List.mem_cons_self
end PL
namespace PL
section
variable {n : Nat} {rs : List Road}
theorem dist_lip1 (w : Web n rs) (c : Nat) (f : Road) (hf : f ∈ rs) : dist n rs c f.2.1 - dist n rs c f.1 ≤ f.2.2 ∧ dist n rs c f.1 - dist n rs c f.2.1 ≤ f.2.2 := by
  have h1 := dist_road w hf
  have h2 := w.lt f hf
  have t1 := dist_tri w (show f.1 < n by omega) c f.2.1
  have t2 := dist_tri w h2.2 c f.1
  omega
open Classical in
theorem tree_cross (w : Web n rs) (ht : rs.length + 1 ≤ n) {e : Road} (he : e ∈ rs) {y k : Nat} (hy : y < n) (hk : k < n) (sy : Sub rs e.2.1 y) (sk : ¬ Sub rs e.2.1 k) : dist n rs y k = dist n rs e.2.1 y + e.2.2 + dist n rs e.1 k := by
  have hlt := w.lt e he
  have hl := w.len e he
  have hna : ¬ Sub rs e.2.1 e.1 := fun h => by
    have := h.le w
    omega
  have db := (dist_zero w).diag e.2.1
  have da := (dist_zero w).diag e.1
  have g := dist_lip w (fun v => if Sub rs e.2.1 v then - dist n rs e.2.1 v else e.2.2 + dist n rs e.1 v) (fun f hf => by
    by_cases q : f.2.1 = e.2.1
    · have := tree_one w ht hf he q
      subst this
      rw [if_pos (Sub.self), if_neg hna, db, da]
      omega
    · have s := Sub.iff w ht hf q
      by_cases c : Sub rs e.2.1 f.1
      · rw [if_pos c, if_pos (s.mpr c)]
        have := dist_lip1 w e.2.1 f hf
        omega
      · rw [if_neg c, if_neg fun k => c (s.mp k)]
        have := dist_lip1 w e.1 f hf
        omega) (i := y) hy ((dist n rs y k).toNat + 1) k hk (by have := (dist_zero w).nn y k; omega)
  rw [if_pos sy, if_neg sk] at g
  have t1 := dist_tri w hlt.2 y k
  have t2 := dist_tri w (show e.1 < n by omega) e.2.1 k
  have r := dist_road w he
  have s1 := dist_sym w y e.2.1
  omega
/-- the two sides of a road -/
theorem tree_sides (w : Web n rs) (ht : rs.length + 1 ≤ n) {u x : Nat} {l : Int} (he : Edge rs u x l) : ∃ side : Nat → Prop, (∀ k, k < n → side k → dist n rs x k = dist n rs u k + l) ∧ (∀ k, k < n → ¬ side k → dist n rs u k = dist n rs x k + l) ∧ (∀ y k, y < n → k < n → side y → ¬ side k → dist n rs y k = dist n rs u y + l + dist n rs x k) ∧ side u ∧ ¬ side x := by
  rcases he with he | he
  · have hlt := w.lt _ he
    dsimp only at hlt
    refine ⟨fun k => ¬ Sub rs x k, fun k hk s => (tree_cut w ht he hk).2 s, fun k hk s => (tree_cut w ht he hk).1 (Classical.not_not.mp s), fun y k hy hk s1 s2 => ?_, fun h => ?_, fun h => h Sub.self⟩
    · have := tree_cross w ht he hk hy (Classical.not_not.mp s2) s1
      rw [dist_sym w y k, this]
      dsimp only
      omega
    · have := h.le w
      omega
  · have hlt := w.lt _ he
    dsimp only at hlt
    refine ⟨fun k => Sub rs u k, fun k hk s => (tree_cut w ht he hk).1 s, fun k hk s => (tree_cut w ht he hk).2 s, fun y k hy hk s1 s2 => tree_cross w ht he hy hk s1 s2, Sub.self, fun h => ?_⟩
    have := h.le w
    omega
/-- four points: the two greatest of the three sums are equal -/
def Four (d : Nat → Nat → Int) (x y z w : Nat) : Prop := d x y + d z w ≤ max (d x z + d y w) (d x w + d y z)
theorem Four.all {d : Nat → Nat → Int} (ds : ∀ i j, d i j = d j i) {x y z w : Nat} (h : Four d x y z w) : Four d y x z w ∧ Four d z w x y ∧ Four d w z x y := by
  unfold Four at *
  have := ds x y
  have := ds z w
  have := ds x z
  have := ds y w
  have := ds x w
  have := ds y z
  omega
end
end PL
namespace PL
def nbrs (rs : List Road) (u : Nat) : List (Nat × Int) := rs.flatMap fun e => (if e.1 = u then [(e.2.1, e.2.2)] else []) ++ (if e.2.1 = u then [(e.1, e.2.2)] else [])
theorem mem_nbrs {rs : List Road} {u x : Nat} {l : Int} : (x, l) ∈ nbrs rs u ↔ Edge rs u x l := by
  unfold nbrs Edge
  rw [List.mem_flatMap]
  constructor
  · rintro ⟨⟨a, b, c⟩, he, h⟩
    dsimp only at h
    rcases List.mem_append.mp h with h | h
    · by_cases q : a = u
      · rw [if_pos q] at h
        have := List.mem_singleton.mp h
        simp only [Prod.mk.injEq] at this
        exact .inl (by rw [this.1, this.2, ← q]; exact he)
      · rw [if_neg q] at h
        exact nomatch h
    · by_cases q : b = u
      · rw [if_pos q] at h
        have := List.mem_singleton.mp h
        simp only [Prod.mk.injEq] at this
        exact .inr (by rw [this.1, this.2, ← q]; exact he)
      · rw [if_neg q] at h
        exact nomatch h
  · rintro (h | h)
    · exact ⟨_, h, List.mem_append_left _ (by rw [if_pos rfl]; exact List.mem_singleton.mpr rfl)⟩
    · exact ⟨_, h, List.mem_append_right _ (by rw [if_pos rfl]; exact List.mem_singleton.mpr rfl)⟩
def okN (rs : List Road) (d : Mat) (u b x : Nat) : Bool := (nbrs rs u).any fun q => decide (q.1 = x ∧ q.2 + d q.1 b = d u b)
theorem okN_iff {rs : List Road} {d : Mat} {u b x : Nat} : okN rs d u b x = true ↔ ∃ l, Edge rs u x l ∧ l + d x b = d u b := by
  unfold okN
  rw [List.any_eq_true]
  constructor
  · rintro ⟨⟨y, l⟩, h, q⟩
    obtain ⟨q1, q2⟩ := of_decide_eq_true q
    dsimp only at q1 q2
    subst q1
    exact ⟨l, mem_nbrs.mp h, q2⟩
  · rintro ⟨l, h, q⟩
    exact ⟨(x, l), mem_nbrs.mpr h, decide_eq_true ⟨rfl, q⟩⟩
def nxt (n : Nat) (rs : List Road) (u b : Nat) : Nat := ((List.range n).filter (okN rs (dist n rs) u b)).headD 0
theorem head_least {n : Nat} {p : Nat → Bool} {x : Nat} (hx : x < n) (h : p x = true) : ((List.range n).filter p).headD 0 < n ∧ p (((List.range n).filter p).headD 0) = true ∧ ∀ y, y < n → p y = true → ((List.range n).filter p).headD 0 ≤ y := by
  have hp : ((List.range n).filter p).Pairwise (· < ·) := List.pairwise_lt_range.filter _
  have hm : ∀ y, y ∈ (List.range n).filter p ↔ y < n ∧ p y = true := fun y => by rw [List.mem_filter, List.mem_range]
  cases e : (List.range n).filter p with
  | nil =>
    have := (hm x).mpr ⟨hx, h⟩
    rw [e] at this
    exact nomatch this
  | cons y ys =>
    rw [e] at hp hm
    have hy := (hm y).mp List.mem_cons_self
    refine ⟨hy.1, hy.2, fun z hz pz => ?_⟩
    show y ≤ z
    rcases List.mem_cons.mp ((hm z).mpr ⟨hz, pz⟩) with q | q
    · omega
    · have := (List.pairwise_cons.mp hp).1 z q
      omega
section
variable {n : Nat} {rs : List Road}
theorem edge_lt (w : Web n rs) {u v : Nat} {l : Int} (h : Edge rs u v l) : u < n ∧ v < n ∧ 1 ≤ l ∧ l ≤ 100 ∧ u ≠ v := by
  rcases h with h | h
  · have h1 := w.lt _ h
    have h2 := w.len _ h
    dsimp only at h1 h2
    omega
  · have h1 := w.lt _ h
    have h2 := w.len _ h
    dsimp only at h1 h2
    omega
theorem edge_dist (w : Web n rs) {u v : Nat} {l : Int} (h : Edge rs u v l) : dist n rs u v ≤ l := by
  rcases h with h | h
  · exact (dist_road w h).1
  · exact (dist_road w h).2
theorem dist_pos (w : Web n rs) {u v : Nat} (hu : u < n) (hv : v < n) (ne : u ≠ v) : 1 ≤ dist n rs u v := by
  obtain ⟨x, l, a, b⟩ := dist_last w hu hv ne
  have := edge_lt w a
  have := (dist_zero w).nn u x
  omega
theorem nxt_spec (w : Web n rs) {u b : Nat} (hu : u < n) (hb : b < n) (ne : u ≠ b) : nxt n rs u b < n ∧ (∃ l, Edge rs u (nxt n rs u b) l ∧ 1 ≤ l ∧ l + dist n rs (nxt n rs u b) b = dist n rs u b) ∧ ∀ x l, Edge rs u x l → l + dist n rs x b = dist n rs u b → nxt n rs u b ≤ x := by
  obtain ⟨x, l, a, h⟩ := dist_last w hb hu (Ne.symm ne)
  have hx := edge_lt w a
  have ha : Edge rs u x l := a.symm
  have hd := edge_dist w ha
  have ht := dist_tri w hx.1 u b
  have s1 := dist_sym w x b
  have s2 := dist_sym w u b
  have ok : okN rs (dist n rs) u b x = true := okN_iff.mpr ⟨l, ha, by omega⟩
  obtain ⟨h1, h2, h3⟩ := head_least hx.1 ok
  obtain ⟨l2, e1, e2⟩ := okN_iff.mp h2
  exact ⟨h1, ⟨l2, e1, (edge_lt w e1).2.2.1, e2⟩, fun y l3 e3 e4 => h3 y (edge_lt w e3).2.1 (okN_iff.mpr ⟨l3, e3, e4⟩)⟩
def wayF (nx : Nat → Nat → Nat) (b : Nat) : Nat → Nat → List Nat
  | 0, u => [u]
  | f + 1, u => if u = b then [u] else u :: wayF nx b f (nx u b)
def wayP (n : Nat) (rs : List Road) (a b : Nat) : List Nat := wayF (nxt n rs) b n a
/-- how many points are nearer to the end -/
def rk (n : Nat) (rs : List Road) (b u : Nat) : Nat := rank n (fun v => dist n rs v b) u
theorem rk_le (b u : Nat) : rk n rs b u ≤ n := rank_le n _ u
theorem rk_nxt (w : Web n rs) {u b : Nat} (hu : u < n) (hb : b < n) (ne : u ≠ b) : rk n rs b (nxt n rs u b) < rk n rs b u := by
  obtain ⟨h1, ⟨l, _, h2, h3⟩, _⟩ := nxt_spec w hu hb ne
  exact rank_lt h1 (show dist n rs (nxt n rs u b) b < dist n rs u b by omega)
theorem wayF_at (nx : Nat → Nat → Nat) (b : Nat) (f : Nat) : wayF nx b f b = [b] := by
  cases f with
  | zero => rfl
  | succ f => exact if_pos rfl
theorem wayF_cons (nx : Nat → Nat → Nat) (b f u : Nat) : ∃ t, wayF nx b f u = u :: t := by
  cases f with
  | zero => exact ⟨[], rfl⟩
  | succ f =>
    unfold wayF
    by_cases q : u = b
    · exact ⟨[], if_pos q⟩
    · exact ⟨_, if_neg q⟩
theorem wayF_more (w : Web n rs) {b : Nat} (hb : b < n) : ∀ (f u : Nat), u < n → rk n rs b u ≤ f → wayF (nxt n rs) b (f + 1) u = wayF (nxt n rs) b f u
  | 0, u, hu, h => by
    by_cases q : u = b
    · subst q
      rw [wayF_at, wayF_at]
    · have := rk_nxt w hu hb q
      omega
  | f + 1, u, hu, h => by
    by_cases q : u = b
    · subst q
      rw [wayF_at, wayF_at]
    · have h1 := rk_nxt w hu hb q
      have h2 := nxt_spec w hu hb q
      have ih := wayF_more w hb f (nxt n rs u b) h2.1 (by omega)
      rw [wayF, if_neg q, ih]
      exact (if_neg q).symm
theorem wayP_step (w : Web n rs) {a b : Nat} (ha : a < n) (hb : b < n) (ne : a ≠ b) : wayP n rs a b = a :: wayP n rs (nxt n rs a b) b := by
  have h1 := rk_nxt w ha hb ne
  have h2 := nxt_spec w ha hb ne
  have h3 := rk_le (n := n) (rs := rs) b a
  unfold wayP
  rw [← wayF_more w hb n a ha h3, wayF, if_neg ne]
theorem wayP_end (a : Nat) : wayP n rs a a = [a] := wayF_at _ _ _
/-- along a way: from the end backwards -/
theorem way_ind (w : Web n rs) {b : Nat} (hb : b < n) {C : Nat → Prop} (h0 : C b) (h1 : ∀ u, u < n → u ≠ b → C (nxt n rs u b) → C u) : ∀ u, u < n → C u := by
  have key : ∀ f u, rk n rs b u ≤ f → u < n → C u := by
    intro f
    induction f with
    | zero =>
      intro u h hu
      by_cases q : u = b
      · exact q ▸ h0
      · have := rk_nxt w hu hb q
        omega
    | succ f ih =>
      intro u h hu
      by_cases q : u = b
      · exact q ▸ h0
      · have := rk_nxt w hu hb q
        exact h1 u hu q (ih _ (by omega) (nxt_spec w hu hb q).1)
  exact fun u hu => key n u (rk_le b u) hu
theorem wayP_cons (a b : Nat) : ∃ t, wayP n rs a b = a :: t := wayF_cons _ _ _ _
theorem wayP_mem (w : Web n rs) {a b : Nat} (ha : a < n) (hb : b < n) : ∀ k ∈ wayP n rs a b, k < n ∧ dist n rs a k + dist n rs k b = dist n rs a b := by
  refine way_ind w hb (C := fun a => ∀ k ∈ wayP n rs a b, k < n ∧ dist n rs a k + dist n rs k b = dist n rs a b) ?_ ?_ a ha
  · intro k hk
    rw [wayP_end] at hk
    rw [List.mem_singleton.mp hk, (dist_zero w).diag]
    exact ⟨hb, by omega⟩
  · intro u hu ne ih k hk
    rw [wayP_step w hu hb ne] at hk
    obtain ⟨h1, ⟨l, h2, h3, h4⟩, _⟩ := nxt_spec w hu hb ne
    rcases List.mem_cons.mp hk with q | q
    · rw [q, (dist_zero w).diag]
      exact ⟨hu, by omega⟩
    · obtain ⟨i1, i2⟩ := ih k q
      have t1 := dist_tri w h1 u k
      have t2 := dist_tri w i1 u b
      have e := edge_dist w h2
      exact ⟨i1, by omega⟩
theorem wayP_down (w : Web n rs) {a b : Nat} (ha : a < n) (hb : b < n) : (wayP n rs a b).Pairwise fun x y => dist n rs y b < dist n rs x b := by
  refine way_ind w hb (C := fun a => (wayP n rs a b).Pairwise fun x y => dist n rs y b < dist n rs x b) ?_ ?_ a ha
  · rw [wayP_end]
    exact List.pairwise_singleton _ _
  · intro u hu ne ih
    rw [wayP_step w hu hb ne]
    obtain ⟨h1, ⟨l, h2, h3, h4⟩, _⟩ := nxt_spec w hu hb ne
    refine List.pairwise_cons.mpr ⟨fun k hk => ?_, ih⟩
    have := wayP_mem w h1 hb k hk
    have := (dist_zero w).nn (nxt n rs u b) k
    omega
theorem wayP_nodup (w : Web n rs) {a b : Nat} (ha : a < n) (hb : b < n) : (wayP n rs a b).Nodup := (wayP_down w ha hb).imp fun h e => by
  rw [e] at h
  omega
theorem wayP_tree (w : Web n rs) (ht : rs.length + 1 ≤ n) {a b : Nat} (ha : a < n) (hb : b < n) : ∀ k, k < n → (k ∈ wayP n rs a b ↔ dist n rs a k + dist n rs k b = dist n rs a b) := by
  intro k hk
  refine ⟨fun h => (wayP_mem w ha hb k h).2, ?_⟩
  refine way_ind w hb (C := fun a => dist n rs a k + dist n rs k b = dist n rs a b → k ∈ wayP n rs a b) ?_ ?_ a ha
  · intro h
    rw [wayP_end]
    by_cases q : k = b
    · exact List.mem_singleton.mpr q
    · have := dist_pos w hk hb q
      have := (dist_zero w).nn b k
      rw [(dist_zero w).diag] at h
      omega
  · intro u hu ne ih h
    rw [wayP_step w hu hb ne]
    obtain ⟨h1, ⟨l, h2, h3, h4⟩, _⟩ := nxt_spec w hu hb ne
    by_cases q : k = u
    · rw [q]
      exact List.mem_cons_self
    · obtain ⟨side, s1, s2, s3, s4, s5⟩ := tree_sides w ht h2
      have nb : ¬ side b := fun h => by
        have := s1 b hb h
        omega
      have p := dist_pos w hu hk (Ne.symm q)
      have nk : ¬ side k := fun h' => by
        have := s3 k b hk hb h' nb
        omega
      have := s2 k hk nk
      exact List.mem_cons_of_mem _ (ih (by omega))
end
end PL
namespace PL
open PySem PySem.Spec PyProof.Rows L2 DL
section
variable {g : Gs} {ρ ρ1 : DL.Env} {Q : Fl → DL.Env → Prop}
theorem wG.whileS {c : DL.Env → Option (Bool × DL.Env)} (R : DL.Env → Nat → DL.Env → Prop) (m k : Nat) (hk : k < m) (start : R ρ k ρ)
    (turn : ∀ k ρ', R ρ k ρ' → ∃ b ρ1, c ρ' = some (b, ρ1) ∧ (b = false → Q .nx ρ1) ∧ (b = true → ∃ j, k = j + 1 ∧ wG g ρ1 (turnQ (R ρ j) Q))) : wG (gWhile c g m) ρ Q :=
  wG.while (R ρ) turn m k ρ hk start
end
def stepO (o : Option (List D)) (acc : List D) : Option (ForInStep (List D)) := o.map fun es => .yield (acc ++ es)
def opt2 (k : Bool) (x : Option (List D)) : Option (List D) := if k = true then x else some []
theorem ξR (x : Option (List D)) : opt2 true x = x := (rfl)
theorem ξS (x : Option (List D)) : opt2 false x = some [] := (rfl)
def goO {α : Type} (F : α → Option (List D)) : List α → List D → Option (List D)
  | [], acc => some acc
  | x :: r, acc => (F x).bind fun es => goO F r (acc ++ es)
theorem forIn'_goO {α : Type} (F : α → Option (List D)) : ∀ (xs : List α) (acc : List D), (forIn' (m := Option) xs acc fun x _ acc => stepO (F x) acc) = goO F xs acc
  | [], acc => by
    rw [List.forIn'_nil]
    rfl
  | x :: xs, acc => by
    rw [List.forIn'_cons]
    unfold goO stepO
    cases h : F x with
    | none => rfl
    | some es => exact forIn'_goO F xs (acc ++ es)
theorem goO_lcO {α : Type} {ρ : DL.Env} (b : D → DL.Env → Option DL.Env) (t : DL.Env → Option Bool) (g : DL.Env → Option (List D)) (enc : α → D) : ∀ (xs : List α) (acc : List D), goO (fun x => (b (enc x) ρ).bind fun ρ1 => (t ρ1).bind fun k => opt2 k (g ρ1)) xs acc = (lcO ρ b t g (xs.map enc)).map (acc ++ ·)
  | [], acc => by
    show some acc = some (acc ++ [])
    rw [List.append_nil]
  | x :: xs, acc => by
    have ih := goO_lcO b t g enc xs (ρ := ρ)
    rw [List.map_cons]
    unfold goO lcO
    cases h1 : b (enc x) ρ with
    | none => rfl
    | some ρ1 =>
      simp only [Option.bind_some]
      cases h2 : t ρ1 with
      | none => rfl
      | some k =>
        simp only [Option.bind_some]
        cases k with
        | false =>
          refine (ih (acc ++ [])).trans ?_
          rw [List.append_nil]
          rfl
        | true =>
          show (g ρ1).bind _ = _
          cases h3 : g ρ1 with
          | none => rfl
          | some es =>
            refine (ih (acc ++ es)).trans ?_
            cases lcO ρ b t g (xs.map enc) with
            | none => rfl
            | some fs => simp
theorem ξT {α : Type} {ρ : DL.Env} (b : D → DL.Env → Option DL.Env) (t : DL.Env → Option Bool) (g : DL.Env → Option (List D)) (enc : α → D) (xs : List α) : lcO ρ b t g (xs.map enc) = forIn' (m := Option) xs [] fun x _ acc => stepO ((b (enc x) ρ).bind fun ρ1 => (t ρ1).bind fun k => opt2 k (g ρ1)) acc := by
  rw [forIn'_goO, goO_lcO]
  cases lcO ρ b t g (xs.map enc) <;> simp
theorem ξU {ρ : DL.Env} (vs vs1 : List Nat) (it : DL.Env → Option (List D)) (b : D → DL.Env → Option DL.Env) (t : DL.Env → Option Bool) (it1 : DL.Env → Option (List D)) (b1 : D → DL.Env → Option DL.Env) (t1 : DL.Env → Option Bool) (f : DL.Env → Option D) : cLc2 vs vs1 it b t it1 b1 t1 f ρ = (it ρ).bind fun ds => (lcO (wipeE ρ vs) b t (inner2 vs1 it1 b1 t1 f) ds).bind few1 := (rfl)
theorem ξV {ρ : DL.Env} (vs1 : List Nat) (it1 : DL.Env → Option (List D)) (b1 : D → DL.Env → Option DL.Env) (t1 : DL.Env → Option Bool) (f : DL.Env → Option D) : inner2 vs1 it1 b1 t1 f ρ = (it1 ρ).bind fun ds => lcD (wipeE ρ vs1) b1 t1 f ds := (rfl)
theorem goO_all {α : Type} (es : α → List D) : ∀ (xs : List α) (acc : List D), goO (fun x => some (es x)) xs acc = some (acc ++ xs.flatMap es)
  | [], acc => by simp [goO]
  | x :: xs, acc => by
    unfold goO
    show goO _ xs (acc ++ es x) = _
    rw [goO_all es xs, List.flatMap_cons, List.append_assoc]
theorem ξW {α : Type} (es : α → List D) (xs : List α) : (forIn' (m := Option) xs [] fun x _ acc => stepO (some (es x)) acc) = some (xs.flatMap es) := by
  rw [forIn'_goO, goO_all]
  rfl
theorem ξX {ρ : DL.Env} (o : D → List D → Option D) (f : DL.Env → Option D) (g : DL.Env → Option (List D)) : cM o f g ρ = (f ρ).bind fun a => (g ρ).bind fun as => o a as := (rfl)
theorem rg2_n {a n : Nat} (h : n ≤ 1000) (ha : a ≤ 1000) : rg2 [.int (a : Nat), .int (n : Nat)] = some ((List.range (n - a)).map fun i => PyData.int ((i + a : Nat) : Int)) := by
  show (if (ok62 (a : Nat) && ok62 (n : Nat)) = true then some (rangeD (a : Nat) (((n : Nat) : Int) - ((a : Nat) : Int)).toNat) else none) = _
  have h6 : ∀ k : Nat, k ≤ 1000 → ok62 (k : Nat) = true := fun k hk => by
    unfold ok62
    rw [Bool.and_eq_true]
    exact ⟨decide_eq_true (by omega), decide_eq_true (by omega)⟩
  rw [h6 a ha, h6 n h, Bool.and_self, if_pos rfl, show (((n : Nat) : Int) - ((a : Nat) : Int)).toNat = n - a by omega]
  unfold rangeD
  refine congrArg some (List.map_congr_left fun i _ => ?_)
  congr 1
  omega
theorem sortOk_prod {α β : Type} [DecidableEq α] [Dat α] [DecidableEq β] [Dat β] (hf : Flat (α × β)) (ts : List (α × β)) : sortOk (ts.map dD) = true := by
  have h1 := allAlike_d ts
  have h3 := depA ts
  have h4 : PySem.W.Datum.depth (α × β) ≤ 50 := hf
  unfold sortOk
  rw [h1, decide_eq_true (by omega)]
  simp only [Bool.true_and, Bool.and_true, Bool.or_eq_true]
  left
  rw [List.all_map, List.all_eq_true]
  intro t ht
  rfl
theorem ixK_last (ds : List D) (d : D) : ixK (ds ++ [d]) (.int (-1)) = some d := by
  show atI (ds ++ [d]) (-1) = _
  unfold atI ixN
  rw [if_neg (by decide), List.length_append, List.length_singleton]
  rw [if_pos (by omega)]
  rw [Option.bind_some, show (-1 + ((ds.length + 1 : Nat) : Int)).toNat = ds.length by omega, List.getElem?_append_right (Nat.le_refl _), Nat.sub_self]
  rfl
theorem ξY (ds : List D) : oSl (.tuple ds) (some 1) none = some (.tuple (ds.drop 1)) := ηW ds 1
/-- the least of a sorted row that is in a set comes first -/
theorem sorted_first {α : Type} [DecidableEq α] [Dat α] {xs : List α} {p : α → Bool} {x : α} (hx : x ∈ xs) (hp : p x = true) : ∃ y, ((isort leK xs).filter p)[0]? = some y ∧ y ∈ xs ∧ p y = true ∧ ∀ z ∈ xs, p z = true → ltK z y = false := by
  have hs := (isort_sorted xs).filter p
  have hm : ∀ z, z ∈ (isort leK xs).filter p ↔ z ∈ xs ∧ p z = true := fun z => by rw [List.mem_filter, (isort_perm leK xs).mem_iff]
  cases e : (isort leK xs).filter p with
  | nil =>
    have := (hm x).mpr ⟨hx, hp⟩
    rw [e] at this
    exact nomatch this
  | cons y ys =>
    rw [e] at hs hm
    have hy := (hm y).mp List.mem_cons_self
    refine ⟨y, rfl, hy.1, hy.2, fun z hz pz => ?_⟩
    rcases List.mem_cons.mp ((hm z).mpr ⟨hz, pz⟩) with q | q
    · rw [q]
      exact ltK_irr y
    · exact (List.pairwise_cons.mp hs).1 z q
end PL
namespace PL
open PySem PySem.Spec PyProof.Rows L2 DL
end PL
namespace PL
open PySem PySem.Spec PyProof.Rows L2 DL
section
variable (ds : List D) (i : Int) (b : Bool)
theorem ξZ : isTy .tuple (.tuple ds) = true := (rfl)
theorem ξa : isTy .tuple (.list ds) = false := (rfl)
theorem ξb : isTy .tuple (.int i) = false := (rfl)
theorem ξc : isTy .tuple .none = false := (rfl)
theorem ξd : isTy .list (.list ds) = true := (rfl)
theorem ξe : isTy .list (.tuple ds) = false := (rfl)
theorem ξf : isTy .list (.int i) = false := (rfl)
theorem ξg : isTy .int (.int i) = true := (rfl)
theorem ξh : isTy .bool (.int i) = false := (rfl)
theorem ξi : isTy .int (.tuple ds) = false := (rfl)
theorem ξj : isTy .int (.list ds) = false := (rfl)
theorem ξk : isTy .int .none = false := (rfl)
theorem ξl : isTy .int (.bool b) = true := (rfl)
theorem ξm : isTy .bool (.bool b) = true := (rfl)
theorem ξn : isTy .str (.int i) = false := (rfl)
theorem ξo : isTy .str (.tuple ds) = false := (rfl)
theorem ξp : isTy .tuple (ratD q) = true := (rfl)
end
theorem ξq : decide True = true := (rfl)
theorem ξr : decide False = false := (rfl)
theorem ξs {α : Type} (a : α) : (a = a) = True := eq_self a
end PL
namespace PL
open PySem PySem.Spec PyProof.Rows L2 DL
def repK (ds : List D) (ρ : DL.Env) : D → Option (E × DL.Env)
  | .int k => if ds.length ≤ 1000 then (if k ≤ 1000 then (if -1000 ≤ k then some (.own (.list (List.replicate k.toNat ds).flatten), ρ) else none) else none) else none
  | _ => none
theorem ξt {ρ : DL.Env} (f : DL.Env → Option (List D × DL.Env)) (g : DL.Env → Option (D × DL.Env)) : wRep f g ρ = (f ρ).bind fun p => (g p.2).bind fun q => repK p.1 q.2 q.1 := (rfl)
theorem ξu {ρ : DL.Env} {n : Nat} (h : n ≤ 1000) (d : D) : repK [d] ρ (.int (n : Nat)) = some (.own (.list ((List.range n).map fun _ => d)), ρ) := by
  show (if [d].length ≤ 1000 then (if ((n : Nat) : Int) ≤ 1000 then (if (-1000 : Int) ≤ ((n : Nat) : Int) then some (E.own (.list (List.replicate ((n : Nat) : Int).toNat [d]).flatten), ρ) else none) else none) else none) = _
  rw [if_pos (by simp), if_pos (by omega), if_pos (by omega), Int.toNat_natCast]
  congr 4
  clear h
  induction n with
  | zero => rfl
  | succ n ih =>
    rw [List.replicate_succ', List.flatten_append, ih, List.range_succ, List.map_append]
    rfl
end PL
namespace PL
theorem minL_same {xs ys : List Int} (h : ∀ x, x ∈ xs ↔ x ∈ ys) : minL xs = minL ys := by
  by_cases e : xs = []
  · have : ys = [] := List.eq_nil_iff_forall_not_mem.mpr fun x hx => by
      have := (h x).mpr hx
      rw [e] at this
      exact nomatch this
    rw [e, this]
  · have e2 : ys ≠ [] := fun q => by
      obtain ⟨x, hx⟩ := List.exists_mem_of_ne_nil _ e
      have := (h x).mp hx
      rw [q] at this
      exact nomatch this
    exact minL_eq ((h _).mpr (minL_mem e2)) fun y hy => minL_le ((h y).mp hy)
theorem near_same {m : Mat} {hs gs : List Nat} (h : ∀ x, x ∈ hs ↔ x ∈ gs) (k : Nat) : nearM m hs k = nearM m gs k := minL_same fun x => by
  rw [List.mem_map, List.mem_map]
  exact ⟨fun ⟨y, hy, e⟩ => ⟨y, (h y).mp hy, e⟩, fun ⟨y, hy, e⟩ => ⟨y, (h y).mpr hy, e⟩⟩
theorem sumM_same {n : Nat} {w : Nat → Int} {m : Mat} {hs gs : List Nat} (h : ∀ x, x ∈ hs ↔ x ∈ gs) : sumM n w m hs = sumM n w m gs := by
  unfold sumM
  refine congrArg List.sum (List.map_congr_left fun k _ => ?_)
  rw [near_same h]
theorem reachM_same {n : Nat} {m : Mat} {hs gs : List Nat} (h : ∀ x, x ∈ hs ↔ x ∈ gs) : reachM n m hs = reachM n m gs := by
  unfold reachM
  refine congrArg maxL (List.map_congr_left fun k _ => near_same h k)
section
variable {n : Nat} {rs : List Road}
theorem median (w : Web n rs) (ht : rs.length + 1 ≤ n) {q k : Nat} (hq : q < n) (hk : k < n) {p : Nat} (hp : p < n) : ∃ c, c < n ∧ dist n rs p c + dist n rs c q = dist n rs p q ∧ dist n rs p c + dist n rs c k = dist n rs p k ∧ dist n rs q c + dist n rs c k = dist n rs q k := by
  have dg := (dist_zero w).diag
  have sy := dist_sym w
  refine way_ind w hq (C := fun p => ∃ c, c < n ∧ dist n rs p c + dist n rs c q = dist n rs p q ∧ dist n rs p c + dist n rs c k = dist n rs p k ∧ dist n rs q c + dist n rs c k = dist n rs q k) ?_ ?_ p hp
  · exact ⟨q, hq, by rw [dg]; omega, by rw [dg]; omega, by rw [dg]; omega⟩
  · intro u hu ne ⟨c, hc, c1, c2, c3⟩
    obtain ⟨v1, ⟨l, v2, v3, v4⟩, _⟩ := nxt_spec w hu hq ne
    generalize nxt n rs u q = v at *
    obtain ⟨side, s1, s2, s3, s4, s5⟩ := tree_sides w ht v2
    have nq : ¬ side q := fun h => by
      have := s1 q hq h
      omega
    by_cases sk : side k
    · refine ⟨u, hu, by rw [dg]; omega, by rw [dg]; omega, ?_⟩
      have := s3 k q hk hq sk nq
      rw [sy q u, sy q k]
      omega
    · have := s2 k hk sk
      have t1 := dist_tri w v1 u c
      have t2 := dist_tri w hc u k
      have := edge_dist w v2
      exact ⟨c, hc, by omega, by omega, c3⟩
/-- how far a point is from a way -/
theorem near_way (w : Web n rs) (ht : rs.length + 1 ≤ n) {p q k : Nat} (hp : p < n) (hq : q < n) (hk : k < n) : 2 * nearM (dist n rs) (wayP n rs p q) k = dist n rs k p + dist n rs k q - dist n rs p q := by
  obtain ⟨c, hc, c1, c2, c3⟩ := median w ht hq hk hp
  have sy := dist_sym w
  have e : nearM (dist n rs) (wayP n rs p q) k = dist n rs k c := minL_eq (List.mem_map.mpr ⟨c, (wayP_tree w ht hp hq c hc).mpr c1, rfl⟩) fun y hy => by
    obtain ⟨x, hx, ex⟩ := List.mem_map.mp hy
    obtain ⟨x1, x2⟩ := wayP_mem w hp hq x hx
    have t1 := dist_tri w x1 k p
    have t2 := dist_tri w x1 k q
    have := sy p x
    have := sy k c
    have := sy k p
    have := sy k q
    have := sy q c
    omega
  rw [e]
  have := sy k c
  have := sy k p
  have := sy k q
  have := sy q c
  omega
end
end PL
namespace PL
end PL
namespace PL
end PL
namespace PL
open PySem PySem.Spec PyProof.Rows L2 DL
end PL
namespace PL
open PySem PySem.Spec PyProof.Rows L2 DL
section
variable {ρ : DL.Env}
theorem ξv (f : DL.Env → Option (D × DL.Env)) : bTR f ρ = (f ρ).bind fun p => (truth p.1).map fun b => (b, p.2) := (rfl)
theorem ξw (f : DL.Env → Option (D × DL.Env)) : bVR f ρ = (f ρ).bind fun p => (isB p.1).map fun b => (b, p.2) := (rfl)
theorem ξx (f g : DL.Env → Option (Bool × DL.Env)) : bAndR f g ρ = (f ρ).bind fun p => if p.1 = true then g p.2 else some (false, p.2) := (rfl)
theorem ξy (f g : DL.Env → Option (Bool × DL.Env)) : bOrR f g ρ = (f ρ).bind fun p => if p.1 = true then some (true, p.2) else g p.2 := (rfl)
theorem ξz (f : DL.Env → Option (Bool × DL.Env)) : bNotR f ρ = (f ρ).bind fun p => some (!p.1, p.2) := (rfl)
end
end PL
namespace PL
open PySem PySem.Spec PyProof.Rows L2 DL
theorem ins_pw {γ : Type} {le : γ → γ → Bool} (tot : ∀ a b, le a b = false → le b a = true) (tr : ∀ a b c, le a b = true → le b c = true → le a c = true) (x : γ) : ∀ xs : List γ, xs.Pairwise (fun a b => le a b = true) → (ins le x xs).Pairwise fun a b => le a b = true
  | [], _ => List.pairwise_singleton _ _
  | y :: r, h => by
    unfold ins
    have h2 := List.pairwise_cons.mp h
    cases q : le x y with
    | true =>
      refine List.pairwise_cons.mpr ⟨fun z hz => ?_, h⟩
      rcases List.mem_cons.mp hz with e | e
      · rw [e]
        exact q
      · exact tr _ _ _ q (h2.1 z e)
    | false =>
      refine List.pairwise_cons.mpr ⟨fun z hz => ?_, ins_pw tot tr x r h2.2⟩
      rcases List.mem_cons.mp ((ins_perm le x r).mem_iff.mp hz) with e | e
      · rw [e]
        exact tot _ _ q
      · exact h2.1 z e
theorem isort_pw {γ : Type} {le : γ → γ → Bool} (tot : ∀ a b, le a b = false → le b a = true) (tr : ∀ a b c, le a b = true → le b c = true → le a c = true) : ∀ xs : List γ, (isort le xs).Pairwise fun a b => le a b = true
  | [] => List.Pairwise.nil
  | x :: xs => by
    unfold isort
    exact ins_pw tot tr x _ (isort_pw tot tr xs)
section
variable {n : Nat} {R : Nat → Nat → Prop}
def Apart (R : Nat → Nat → Prop) (A : List Nat) : Prop := ∀ j ∈ A, ∀ k ∈ A, j ≠ k → ¬ ∃ y, R j y ∧ R k y
end
end PL
namespace PL
open PySem PySem.Spec PyProof.Rows L2 DL
end PL
namespace PL
open PySem PySem.Spec PyProof.Rows L2 DL
end PL
namespace PL
open PySem PySem.Spec PyProof.Rows L2 DL
theorem ξ0 {ρ : DL.Env} (f : DL.Env → Option (D × DL.Env)) : iSR f ρ = (f ρ).bind fun p => (seqOf p.1).map fun ds => (ds, p.2) := (rfl)
end PL
namespace PL
open PySem PySem.Spec PyProof.Rows L2 DL
theorem divInt_le {a : Int} {d : Nat} (hd : 0 < d) : (Rat.divInt a (d : Nat)).num.natAbs ≤ a.natAbs ∧ (Rat.divInt a (d : Nat)).den ≤ d := by
  have hg : 0 < Int.gcd (d : Nat) a := Int.gcd_pos_of_ne_zero_left _ (by omega)
  constructor
  · rw [Rat.num_divInt, show ((d : Nat) : Int).sign = 1 from Int.sign_eq_one_of_pos (by omega), Int.one_mul, Int.natAbs_ediv_of_dvd (Int.gcd_dvd_right _ _)]
    exact Nat.div_le_self _ _
  · rw [Rat.den_divInt, if_neg (by omega)]
    exact Nat.div_le_self _ _
/-- ratios of a middle size -/
def Sg (q : Rat) : Prop := q.num.natAbs < 2 ^ 40 ∧ q.den < 2 ^ 15
theorem Sg.sub {p q : Rat} (hp : Sg p) (hq : Sg q) : Sb (p - q) := by
  have d1 := Nat.mul_lt_mul'' hp.2 hq.2
  have hd : 0 < p.den * q.den := Nat.mul_pos p.den_pos q.den_pos
  have n1 := Nat.mul_lt_mul'' hp.1 hq.2
  have n2 := Nat.mul_lt_mul'' hq.1 hp.2
  have := divInt_le (a := p.num * ((q.den : Nat) : Int) - q.num * ((p.den : Nat) : Int)) hd
  rw [Int.natCast_mul, rat_sub] at this
  have ha : (p.num * ((q.den : Nat) : Int) - q.num * ((p.den : Nat) : Int)).natAbs < 2 ^ 59 := by
    refine Nat.lt_of_le_of_lt (Int.natAbs_sub_le _ _) ?_
    rw [Int.natAbs_mul, Int.natAbs_mul]
    simp only [Int.natAbs_natCast]
    omega
  exact ⟨by omega, by omega⟩
/-- steps: a small denominator, at most 1000 -/
structure Stp (q : Rat) : Prop where
  nn : 0 ≤ q.num
  le : q.num ≤ 1000 * ((q.den : Nat) : Int)
  den : q.den ≤ 1400
theorem Stp.line {q : Rat} (h : Stp q) {a b : Int} (a0 : 0 ≤ a) (a1 : a ≤ 1200000) (b0 : 0 ≤ b) (b1 : b ≤ 1400) : Sm (q * (b : Rat)) ∧ Sg ((a : Rat) + q * (b : Rat)) := by
  have h1 := h.nn
  have h2 := h.le
  have h3 := h.den
  have hd := q.den_pos
  have m1 : 0 ≤ b * q.num ∧ b * q.num ≤ 1400 * 1400000 := ⟨Int.mul_nonneg b0 h1, Int.mul_le_mul b1 (by omega) h1 (by omega)⟩
  have m2 : 0 ≤ a * ((q.den : Nat) : Int) ∧ a * ((q.den : Nat) : Int) ≤ 1200000 * 1400 := ⟨Int.mul_nonneg a0 (by omega), Int.mul_le_mul a1 (by omega) (by omega) (by omega)⟩
  have eq : q = fr q.den q.num := (Rat.num_divInt_den q).symm
  have e1 : q * (b : Rat) = fr q.den (b * q.num) := by
    rw [Rat.mul_comm, ← fr_mul hd, ← eq]
  have e2 : (a : Rat) + q * (b : Rat) = fr q.den (a * ((q.den : Nat) : Int) + b * q.num) := by
    rw [e1, ← fr_add hd, fr_int hd]
  have l1 := divInt_le (a := b * q.num) hd
  have l2 := divInt_le (a := a * ((q.den : Nat) : Int) + b * q.num) hd
  rw [e2, e1]
  unfold fr
  exact ⟨⟨by omega, by omega⟩, ⟨by omega, by omega⟩⟩
def slopeQ (F : List Rat) (V : Rat → Rat) (k : Nat) : Rat := (V (F.getD (k + 1) 0) - V (F.getD k 0)) / (F.getD (k + 1) 0 - F.getD k 0)
end PL
namespace PL
open PySem PySem.Spec PyProof.Rows L2 DL
structure Bent (L : Nat) (F : Nat → Rat) (V : Rat → Rat) : Prop where
  up : ∀ k, k + 1 < L → F k < F (k + 1)
  line : ∀ k, k + 1 < L → ∃ s c : Rat, (∀ q, F k ≤ q → q ≤ F (k + 1) → V q = c + q * s) ∧ ∀ q, V q ≤ c + q * s
structure Rb (A B : Nat) (q : Rat) : Prop where
  num : q.num.natAbs ≤ A
  den : q.den ≤ B
theorem Rb.of {A B : Nat} {a : Int} {d : Nat} {q : Rat} (hd : 0 < d) (e : Rat.divInt a (d : Nat) = q) (h1 : a.natAbs ≤ A) (h2 : d ≤ B) : Rb A B q := by
  have := divInt_le (a := a) hd
  rw [e] at this
  exact ⟨by omega, by omega⟩
theorem Rb.add {A B A' B' : Nat} {p q : Rat} (hp : Rb A B p) (hq : Rb A' B' q) : Rb (A * B' + A' * B) (B * B') (p + q) := by
  refine Rb.of (Nat.mul_pos p.den_pos q.den_pos) (by rw [Int.natCast_mul]; exact rat_add p q) ?_ (Nat.mul_le_mul hp.den hq.den)
  refine Nat.le_trans (Int.natAbs_add_le _ _) ?_
  rw [Int.natAbs_mul, Int.natAbs_mul, Int.natAbs_natCast, Int.natAbs_natCast]
  exact Nat.add_le_add (Nat.mul_le_mul hp.num hq.den) (Nat.mul_le_mul hq.num hp.den)
theorem Rb.neg {A B : Nat} {p : Rat} (hp : Rb A B p) : Rb A B (-p) := ⟨by
  show (-p.num).natAbs ≤ A
  rw [Int.natAbs_neg]
  exact hp.num, hp.den⟩
theorem Rb.int {A : Nat} {a : Int} (h : a.natAbs ≤ A) : Rb A 1 (a : Rat) := ⟨h, Nat.le_refl _⟩
theorem Rb.le {A B A' B' : Nat} {q : Rat} (h : Rb A B q) (h1 : A ≤ A') (h2 : B ≤ B') : Rb A' B' q := ⟨Nat.le_trans h.num h1, Nat.le_trans h.den h2⟩
end PL
namespace PL
open PySem PySem.Spec PyProof.Rows L2 DL
def cross (f g : Nat → Int) (x y : Nat) : Rat := Rat.divInt (f y - f x) (g x - g y)
theorem getD_lt {F : List Rat} (h : F.Pairwise (· < ·)) {i j : Nat} (hij : i < j) (hj : j < F.length) : F.getD i 0 < F.getD j 0 := by
  have := List.pairwise_iff_getElem.mp h i j (by omega) hj hij
  rw [List.getD_eq_getElem?_getD, List.getD_eq_getElem?_getD, List.getElem?_eq_getElem hj, List.getElem?_eq_getElem (show i < F.length by omega)]
  exact this
end PL
namespace PL
open PySem PySem.Spec PyProof.Rows L2 DL
theorem Rb.sub {A B A' B' : Nat} {p q : Rat} (hp : Rb A B p) (hq : Rb A' B' q) : Rb (A * B' + A' * B) (B * B') (p - q) := by
  rw [Rat.sub_eq_add_neg]
  exact hp.add hq.neg
structure Shr (B : Nat) (q : Rat) : Prop where
  nn : 0 ≤ q
  le : q ≤ 1
  den : q.den ≤ B
theorem Shr.num {B : Nat} {q : Rat} (h : Shr B q) : 0 ≤ q.num ∧ q.num ≤ ((q.den : Nat) : Int) := by
  refine ⟨Rat.num_nonneg.mpr h.nn, ?_⟩
  have := (Rat.le_iff _ _).mp h.le
  have e1 : (1 : Rat).num = 1 := rfl
  have e2 : (1 : Rat).den = 1 := rfl
  rw [e1, e2] at this
  omega
end PL
namespace PL
open PySem PySem.Spec PyProof.Rows L2 DL
structure Fd (d M : Nat) (q : Rat) : Prop where
  ex : ∃ X : Int, q = fr d X ∧ 0 ≤ X ∧ X ≤ ((M * d : Nat) : Int)
section
variable {d M N : Nat} {p q : Rat}
theorem Fd.add (hd : 0 < d) (hp : Fd d M p) (hq : Fd d N q) : Fd d (M + N) (p + q) := by
  obtain ⟨X, e1, a1, b1⟩ := hp.ex
  obtain ⟨Y, e2, a2, b2⟩ := hq.ex
  refine ⟨X + Y, by rw [e1, e2, fr_add hd], by omega, ?_⟩
  rw [Nat.add_mul]
  omega
theorem Fd.int (hd : 0 < d) {a : Int} (a0 : 0 ≤ a) (a1 : a ≤ (M : Nat)) : Fd d M (a : Rat) := by
  refine ⟨a * (d : Nat), fr_int hd a, Int.mul_nonneg a0 (by omega), ?_⟩
  rw [Int.natCast_mul]
  exact Int.mul_le_mul_of_nonneg_right a1 (by omega)
end
theorem Bent.add {L : Nat} {F : Nat → Rat} {V W : Rat → Rat} (h : Bent L F V) (k : Bent L F W) : Bent L F (fun q => V q + W q) := by
  refine ⟨h.up, fun i hi => ?_⟩
  obtain ⟨s, c, h1, h2⟩ := h.line i hi
  obtain ⟨t, e, k1, k2⟩ := k.line i hi
  refine ⟨s + t, c + e, fun q q1 q2 => ?_, fun q => ?_⟩
  · have a := h1 q q1 q2
    have b := k1 q q1 q2
    show V q + W q = _
    grind
  · have a := h2 q
    have b := k2 q
    show V q + W q ≤ _
    grind
/-- bends among the shares, with slopes that are whole numbers -/
structure BI (A : Nat) (F : List Rat) (V : Rat → Rat) : Prop where
  bent : Bent F.length (fun k => F.getD k 0) V
  int : ∀ k, k + 1 < F.length → ∃ z : Int, z.natAbs ≤ A ∧ slopeQ F V k = (z : Rat)
theorem BI.add {A B : Nat} {F : List Rat} {V W : Rat → Rat} (h : BI A F V) (k : BI B F W) : BI (A + B) F (fun q => V q + W q) := by
  refine ⟨h.bent.add k.bent, fun i hi => ?_⟩
  obtain ⟨x, x1, x2⟩ := h.int i hi
  obtain ⟨y, y1, y2⟩ := k.int i hi
  refine ⟨x + y, by omega, ?_⟩
  rw [Rat.intCast_add, ← x2, ← y2]
  unfold slopeQ
  rw [Rat.div_def, Rat.div_def, Rat.div_def]
  grind
theorem BI.zero {F : List Rat} (hp : F.Pairwise (· < ·)) : BI 0 F (fun _ => 0) := by
  refine ⟨⟨fun k hk => getD_lt hp (Nat.lt_succ_self k) hk, fun k hk => ⟨0, 0, fun q _ _ => by grind, fun q => by grind⟩⟩, fun k hk => ⟨0, Nat.le_refl _, ?_⟩⟩
  unfold slopeQ
  rw [Rat.div_def]
  grind
theorem BI.sum {A : Nat} {F : List Rat} (hp : F.Pairwise (· < ·)) {α : Type} (G : α → Rat → Rat) : ∀ ts : List α, (∀ t ∈ ts, BI A F (G t)) → BI (A * ts.length) F (fun q => (ts.map fun t => G t q).sum)
  | [], _ => BI.zero hp
  | t :: ts, h => by
    have := (h t List.mem_cons_self).add (BI.sum hp G ts fun u hu => h u (List.mem_cons_of_mem _ hu))
    rw [show A * (t :: ts).length = A + A * ts.length by rw [List.length_cons, Nat.mul_add]; omega]
    exact this
end PL
namespace PL
open PySem PySem.Spec PyProof.Rows L2 DL
end PL
namespace PL
open PySem PySem.Spec PyProof.Rows L2 DL
def Rl (n : Nat) (d : Mat) (r : Int) (k x : Nat) : Prop := x < n ∧ d k x ≤ r
section
variable {n : Nat} {d d' : Mat} {r : Int} {σ : Nat → Nat}
structure Iso (n : Nat) (d d' : Mat) (σ : Nat → Nat) : Prop where
  lt : ∀ k, k < n → σ k < n
  onto : ∀ k, k < n → ∃ j, j < n ∧ σ j = k
  inj : ∀ i j, i < n → j < n → σ i = σ j → i = j
  same : ∀ i j, i < n → j < n → d' (σ i) (σ j) = d i j
theorem Iso.apart (h : Iso n d d' σ) {A : List Nat} (hA : Asc n A) (hh : Apart (Rl n d r) A) : Asc n (ssetN (A.map σ)) ∧ Apart (Rl n d' r) (ssetN (A.map σ)) ∧ A.length ≤ (ssetN (A.map σ)).length := by
  refine ⟨⟨ssetN_asc _, fun x hx => ?_⟩, fun j hj k hk ne ⟨y, y1, y2⟩ => ?_, ?_⟩
  · obtain ⟨y, hy, e⟩ := List.mem_map.mp (ssetN_mem.mp hx)
    rw [← e]
    exact h.lt y (hA.2 y hy)
  · obtain ⟨a, ha, ea⟩ := List.mem_map.mp (ssetN_mem.mp hj)
    obtain ⟨b, hb, eb⟩ := List.mem_map.mp (ssetN_mem.mp hk)
    obtain ⟨z, hz, ez⟩ := h.onto y y1.1
    refine hh a ha b hb (fun e => ne (by rw [← ea, ← eb, e])) ⟨z, ⟨hz, ?_⟩, hz, ?_⟩
    · rw [← h.same a z (hA.2 a ha) hz, ea, ez]
      exact y1.2
    · rw [← h.same b z (hA.2 b hb) hz, eb, ez]
      exact y2.2
  · have nd : ∀ l : List Nat, l.Nodup → (∀ x ∈ l, x < n) → (l.map σ).Nodup := fun l => by
      induction l with
      | nil => exact fun _ _ => .nil
      | cons a l ih =>
        intro h1 h2
        rw [List.nodup_cons] at h1
        rw [List.map_cons, List.nodup_cons]
        refine ⟨fun k => ?_, ih h1.2 fun x hx => h2 x (List.mem_cons_of_mem _ hx)⟩
        obtain ⟨b, hb, e⟩ := List.mem_map.mp k
        have := h.inj b a (h2 b (List.mem_cons_of_mem _ hb)) (h2 a List.mem_cons_self) e
        rw [this] at hb
        exact h1.1 hb
    have := nodup_len (A.map σ) (ssetN (A.map σ)) (nd A (hA.1.imp fun q => Nat.ne_of_lt q) hA.2) fun x hx => ssetN_mem.mpr hx
    rw [List.length_map] at this
    exact this
theorem Iso.back (h : Iso n d d' σ) : ∃ τ, Iso n d' d τ := by
  classical
  let τ : Nat → Nat := fun k => if hk : k < n then Classical.choose (h.onto k hk) else 0
  have hτ : ∀ k, k < n → τ k < n ∧ σ (τ k) = k := fun k hk => by
    have e : τ k = Classical.choose (h.onto k hk) := dif_pos hk
    rw [e]
    exact Classical.choose_spec (h.onto k hk)
  refine ⟨τ, fun k hk => (hτ k hk).1, fun k hk => ⟨σ k, h.lt k hk, ?_⟩, fun i j hi hj e => ?_, fun i j hi hj => ?_⟩
  · exact h.inj _ _ (hτ _ (h.lt k hk)).1 hk (hτ _ (h.lt k hk)).2
  · rw [← (hτ i hi).2, ← (hτ j hj).2, e]
  · rw [← h.same _ _ (hτ i hi).1 (hτ j hj).1, (hτ i hi).2, (hτ j hj).2]
end
end PL
namespace PL
open PySem PySem.Spec PyProof.Rows L2 DL
def repD (ds : List D) : D → Option D
  | .int k => if ds.length ≤ 1000 then (if k ≤ 1000 then (if -1000 ≤ k then some (.list (List.replicate k.toNat ds).flatten) else none) else none) else none
  | _ => none
theorem ξ1 {ρ : DL.Env} (f : DL.Env → Option (List D)) (g : DL.Env → Option D) : cRep f g ρ = (f ρ).bind fun ds => (g ρ).bind fun b => repD ds b := (rfl)
theorem ξ2 {n : Nat} (h : n ≤ 1000) (d : D) : repD [d] (.int (n : Nat)) = some (.list ((List.range n).map fun _ => d)) := by
  show (if [d].length ≤ 1000 then (if ((n : Nat) : Int) ≤ 1000 then (if (-1000 : Int) ≤ ((n : Nat) : Int) then some (PyData.list (List.replicate ((n : Nat) : Int).toNat [d]).flatten) else none) else none) else none) = _
  rw [if_pos (by simp), if_pos (by omega), if_pos (by omega), Int.toNat_natCast]
  congr 3
  clear h
  induction n with
  | zero => rfl
  | succ n ih =>
    rw [List.replicate_succ', List.flatten_append, ih, List.range_succ, List.map_append]
    rfl
end PL
namespace PL
open PySem PySem.Spec PyProof.Rows L2 DL
theorem Cn.trans {pts : List Nat} {rs : List Road} {x y z : Nat} (h1 : Cn pts rs x y) (h2 : Cn pts rs y z) : Cn pts rs x z := by
  induction h2 with
  | self => exact h1
  | step _ ha hy ih => exact .step ih ha hy
theorem Cn.symm {pts : List Nat} {rs : List Road} {x y : Nat} (hx : x ∈ pts) (h : Cn pts rs x y) : Cn pts rs y x ∧ y ∈ pts := by
  induction h with
  | self => exact ⟨.self, hx⟩
  | step h ha hy ih => exact ⟨Cn.trans (.step .self (adj_symm ha) ih.2) ih.1, hy⟩
end PL
namespace PL
open PySem PySem.Spec PyProof.Rows L2 DL
end PL
namespace PL
open PySem PySem.Spec PyProof.Rows L2 DL
/-- roads that need not be laid from point to point -/
structure WebZ (n : Nat) (rs : List Road) : Prop where
  lt : ∀ e ∈ rs, e.1 < e.2.1 ∧ e.2.1 < n
  len : ∀ e ∈ rs, 1 ≤ e.2.2 ∧ e.2.2 ≤ 100
  nd : (rs.map Pair).Nodup
  few : rs.length ≤ 14
theorem Web.zer {n : Nat} {rs : List Road} (w : Web n rs) : WebZ n rs := ⟨w.lt, w.len, w.nd, w.few⟩
theorem zero_laid0 {n : Nat} {rs : List Road} (w : WebZ n rs) {far : Int} (hf : 0 ≤ far) : Zero (rs.foldl lay (iniM far)) where
  diag := fun i => by
    rw [laid_none rs _ i i fun e he h => by
      have := (w.lt e he).1
      rcases h with ⟨h1, h2⟩ | ⟨h1, h2⟩ <;> omega]
    exact if_pos rfl
  nn := fun i j => by
    rcases laid_or rs (iniM far) i j with h | h
    · rw [h]
      unfold iniM
      split <;> omega
    · rcases h with h | h
      · have := (w.len _ h).1
        simp only at this
        omega
      · have := (w.len _ h).1
        simp only at this
        omega
section
variable {n : Nat} {rs : List Road}
theorem far_nn0 (w : WebZ n rs) : 0 ≤ far rs := by
  have := total_nn fun e he => (w.len e he).1
  unfold far
  omega
theorem dist_edge0 (w : WebZ n rs) {u v : Nat} {l : Int} (h : Edge rs u v l) : u < n ∧ v < n ∧ 1 ≤ l ∧ l ≤ 100 ∧ dist n rs u v ≤ l := by
  have key : ∀ e ∈ rs, dist n rs e.1 e.2.1 ≤ e.2.2 ∧ dist n rs e.2.1 e.1 ≤ e.2.2 := fun e he => by
    obtain ⟨h1, h2⟩ := laid_at rs (iniM (far rs)) (fun e he => (w.lt e he).1) w.nd e he
    have a1 := phases_le (m := rs.foldl lay (iniM (far rs))) e.1 e.2.1 n
    have a2 := phases_le (m := rs.foldl lay (iniM (far rs))) e.2.1 e.1 n
    unfold dist
    omega
  rcases h with h | h
  · have a := w.lt _ h
    have b := w.len _ h
    have c := key _ h
    dsimp only at a b c
    omega
  · have a := w.lt _ h
    have b := w.len _ h
    have c := key _ h
    dsimp only at a b c
    omega
structure Rn (n : Nat) (σ τ : Nat → Nat) : Prop where
  to : ∀ k, k < n → σ k < n ∧ τ (σ k) = k
  fro : ∀ k, k < n → τ k < n ∧ σ (τ k) = k
variable {σ τ : Nat → Nat}
theorem Rn.inj (r : Rn n σ τ) {a b : Nat} (ha : a < n) (hb : b < n) (e : σ a = σ b) : a = b := by rw [← (r.to a ha).2, e, (r.to b hb).2]
end
end PL
namespace PL
open PySem PySem.Spec PyProof.Rows L2 DL
theorem ξ3 {ρ : DL.Env} (f : DL.Env → Option (D × DL.Env)) (l h : DL.Env → Option (Option Int)) : rSl f l h ρ = (f ρ).bind fun p => (l p.2).bind fun lo => (h p.2).bind fun hi => (oSl p.1 lo hi).map fun d => (d, p.2) := (rfl)
end PL
namespace PL
open PySem PySem.Spec PyProof.Rows L2 DL
section
variable {ρ : DL.Env}
theorem ξ4 (i : Nat) (g : DL.Env → Option D) : cDg i g ρ = (g ρ).bind fun k => (dGet ρ[i]? k).bind fun o => o := (rfl)
theorem ξ5 (l : Bool) (ks : List (List Key × D)) (k : D) : dGet (some (some (.dt l ks))) k = (tkeyOf k).map fun k => dval ks k := (rfl)
theorem ξ6 (l : Bool) (ks : List (Key × D)) (k : D) : dGet (some (some (.dk l ks))) k = (keyOf k).map fun k => dval ks k := (rfl)
theorem ξ7 (i : Int) : keyOf (.int i) = some (.inl i) := (rfl)
theorem ξ8 : wDk ρ = some (.dk false [], ρ) := (rfl)
theorem ξ9 : wDt ρ = some (.dt false [], ρ) := (rfl)
theorem χA (g f : DL.Env → Option D) : wDisp g f ρ = (g ρ).bind fun k => (f ρ).bind fun d => (keyOf k).map fun k => (.dk false [(k, d)], ρ) := (rfl)
theorem χB (g f : DL.Env → Option D) : cDisp g f ρ = (g ρ).bind fun k => (f ρ).bind fun d => (keyOf k).map fun k => .dict [(kD k, d)] := (rfl)
theorem χC (i : Int) : kD (.inl i) = .int i := (rfl)
theorem χD (ks : List (Key × D)) : isDic (some (some (.dk false ks))) = true := (rfl)
theorem χE (ks : List (List Key × D)) : isDic (some (some (.dt false ks))) = true := (rfl)
def dPutE (i : Nat) (k d : D) (ρ : DL.Env) : Option (Option E) → Option DL.Env
  | some (some (.dk false ks)) => (keyOf k).bind fun k => if ks.length ≤ 1000 then some (ρ.set i (some (.dk false (dput ks k d)))) else none
  | some (some (.dt false ks)) => (tkeyOf k).bind fun k => if ks.length ≤ 1000 then some (ρ.set i (some (.dt false (dput ks k d)))) else none
  | _ => none
theorem χF (i : Nat) (f g : DL.Env → Option (D × DL.Env)) : gSetD i f g ρ = (f ρ).bind fun p => if isDic p.2[i]? = true then (g p.2).bind fun q => (dPutE i q.1 p.1 q.2 q.2[i]?).map fun ρ' => (Fl.nx, ρ') else none := by
  unfold gSetD
  congr 1
theorem χG (i : Nat) (k d : D) (ks : List (Key × D)) : dPutE i k d ρ (some (some (.dk false ks))) = (keyOf k).bind fun k => if ks.length ≤ 1000 then some (ρ.set i (some (.dk false (dput ks k d)))) else none := (rfl)
theorem χH (i : Nat) (k d : D) (ks : List (List Key × D)) : dPutE i k d ρ (some (some (.dt false ks))) = (tkeyOf k).bind fun k => if ks.length ≤ 1000 then some (ρ.set i (some (.dt false (dput ks k d)))) else none := (rfl)
theorem χI (i : Nat) (f : DL.Env → Option D) : cLkD i f ρ = (lkE ρ[i]?).bind fun e => (f (ρ.set i (some e))).bind fun d => if noDic d = true then some d else none := (rfl)
theorem χJ (ks : List (Key × D)) : lkE (some (some (.dk false ks))) = some (.dk true ks) := (rfl)
theorem χK (ks : List (List Key × D)) : lkE (some (some (.dt false ks))) = some (.dt true ks) := (rfl)
def iDE : Option (Option E) → Option (List D)
  | some (some (.dk true ks)) => some (ks.map fun p => kD p.1)
  | _ => none
theorem χL (i : Nat) : iD i ρ = iDE ρ[i]? := (rfl)
theorem χM (ks : List (Key × D)) : iDE (some (some (.dk true ks))) = some (ks.map fun p => kD p.1) := (rfl)
def skE : Option (Option E) → Option D
  | some (some (.dk l ks)) => oSk (.dict (ks.map fun p => (kD p.1, p.2)))
  | _ => none
theorem χN (i : Nat) : cSkO i ρ = skE ρ[i]? := (rfl)
theorem χO (l : Bool) (ks : List (Key × D)) : skE (some (some (.dk l ks))) = oSk (.dict (ks.map fun p => (kD p.1, p.2))) := (rfl)
theorem χP (l : Bool) (ks : List (Key × D)) : thE (some (.dk l ks)) = some (.sh (.dict (ks.map fun p => (kD p.1, p.2)))) := (rfl)
theorem χQ (l : Bool) (ks : List (List Key × D)) : thE (some (.dt l ks)) = none := (rfl)
end
section
variable {κ : Type} [DecidableEq κ]
theorem dput_new {ks : List (κ × D)} {k : κ} {d : D} (h : ∀ p ∈ ks, p.1 ≠ k) : dput ks k d = ks ++ [(k, d)] := by
  unfold dput
  rw [if_neg]
  intro e
  obtain ⟨p, hp, e⟩ := List.any_eq_true.mp e
  exact h p hp (of_decide_eq_true e)
theorem dval_map {α : Type} (key : α → κ) (val : α → D) : ∀ (xs : List α) (x : α), x ∈ xs → (∀ y ∈ xs, key y = key x → y = x) → dval (xs.map fun y => (key y, val y)) (key x) = some (val x)
  | [], _, h, _ => by cases h
  | a :: xs, x, h, inj => by
    unfold dval
    rw [List.map_cons, List.find?_cons]
    by_cases c : key a = key x
    · rw [decide_eq_true (show (key a, val a).1 = key x from c), inj a List.mem_cons_self c]
      rfl
    · rw [decide_eq_false (show ¬ (key a, val a).1 = key x from c)]
      rcases List.mem_cons.mp h with e | e
      · rw [e] at c
        exact absurd rfl c
      · exact dval_map key val xs x e fun y hy => inj y (List.mem_cons_of_mem _ hy)
end
def kI (xs : List Nat) : List Key := xs.map fun x => .inl ((x : Nat) : Int)
theorem keysOf_n : ∀ xs : List Nat, keysOf (xs.map fun x => .int ((x : Nat) : Int)) = some (kI xs)
  | [] => rfl
  | x :: xs => by
    show ((keyOf (.int ((x : Nat) : Int))).bind fun k => (keysOf (xs.map fun x => .int ((x : Nat) : Int))).map fun t => k :: t) = some (kI (x :: xs))
    rw [keysOf_n xs]
    rfl
theorem χR (xs : List Nat) : tkeyOf (.tuple (xs.map fun x => .int ((x : Nat) : Int))) = some (kI xs) := keysOf_n xs
end PL
namespace PL
open PySem PySem.Spec PyProof.Rows L2 DL
instance {α : Type} : Inhabited (PySem.W.Tup α) := ⟨⟨[]⟩⟩
def farS (p : Nat → Int) (j x : Nat) : Int := (((p j - p x).natAbs : Nat) : Int)
theorem ltK_pair {α β : Type} [DecidableEq α] [Dat α] [DecidableEq β] [Dat β] (p q : α × β) : ltK p q = if p.1 = q.1 then ltK p.2 q.2 else ltK p.1 q.1 := rfl
end PL
namespace PL
open PySem PySem.Spec PyProof.Rows L2 DL
def s6c (p : Nat → Int) (a b j : Nat) : Int := if farS p j a < farS p j b then 6 else if farS p j a = farS p j b then 3 else 0
/-- what a seller at a gets against one at b, in sixths -/
def s6 (n : Nat) (p w : Nat → Int) (a b : Nat) : Int := ((List.range n).map fun j => w j * s6c p a b j).sum
end PL
namespace PL
open PySem PySem.Spec PyProof.Rows L2 DL
end PL
namespace PL
open PySem PySem.Spec PyProof.Rows L2 DL
theorem χS (ds : List D) : oBack (.tuple ds) = some (.tuple ds.reverse) := (rfl)
end PL
namespace PL
open PySem PySem.Spec PyProof.Rows L2 DL
end PL
namespace PL
open PySem PySem.Spec PyProof.Rows L2 DL
end PL
namespace PL
open PySem PySem.Spec PyProof.Rows L2 DL
theorem χT {ρ : DL.Env} (i : Nat) (g f : DL.Env → Option D) : cDg2 i g f ρ = (g ρ).bind fun k => (f ρ).bind fun d => (dGet ρ[i]? k).map fun o => o.getD d := (rfl)
end PL
namespace PL
open PySem PySem.Spec PyProof.Rows L2 DL
theorem χU (a b : D) : twoD (.tuple [a, b]) = some (a, b) := (rfl)
theorem χV (k : Int) : DL.intD (.int k) = some k := (rfl)
theorem χW {ρ : DL.Env} (i : Nat) (f : DL.Env → Option (D × DL.Env)) (g1 g2 : DL.Env → Option D) : gSet2 i f g1 g2 ρ = (f ρ).bind fun p => (twoD p.1).bind fun ab => (ownL p.2[i]?).bind fun ds => (g1 p.2).bind fun k1 => (DL.intD k1).bind fun k => (ixN ds.length k).bind fun j =>
  (g2 (putL i (ds.set j ab.1) p.2)).bind fun k2 => (DL.intD k2).bind fun k' => (ownL (putL i (ds.set j ab.1) p.2)[i]?).bind fun es => (ixN es.length k').map fun j' => (.nx, putL i (es.set j' ab.2) (putL i (ds.set j ab.1) p.2)) := (rfl)
end PL
namespace PL
open PySem PySem.Spec PyProof.Rows L2 DL
theorem χX {ρ : DL.Env} (i : Nat) (f : DL.Env → Option (D × DL.Env)) : wCatO i f ρ = (ownL ρ[i]?).bind fun _ => (f ρ).bind fun q => (ownL q.2[i]?).bind fun ds => (wCatE ds q.1).map fun es => (.own (.list es), q.2) := (rfl)
theorem χY (ds es : List D) : wCatE ds (.list es) = if ds.length + es.length ≤ 1000000 then some (ds ++ es) else none := (rfl)
end PL
namespace PL
def layO (m : Mat) (e : Road) : Mat := set2 m e.1 e.2.1 e.2.2
structure OW (n : Nat) (rs : List Road) : Prop where
  lt : ∀ e ∈ rs, e.1 < n ∧ e.2.1 < n ∧ e.1 ≠ e.2.1
  len : ∀ e ∈ rs, 1 ≤ e.2.2 ∧ e.2.2 ≤ 100
  nd : (rs.map Pair).Nodup
  few : rs.length ≤ 40
def distO (n : Nat) (rs : List Road) : Mat := phases n (rs.foldl layO (iniM (far rs)))
end PL
namespace PL
open PySem PySem.Spec PyProof.Rows L2 DL
inductive FwO (n : Nat) (rs : List Road) (b : Nat) : Nat → List Nat → Prop
  | nil : FwO n rs b b [b]
  | step {u v : Nat} {l : Int} {p : List Nat} : (u, v, l) ∈ rs → l + distO n rs v b = distO n rs u b → FwO n rs b v p → FwO n rs b u (u :: p)
section
variable {n : Nat} {rs : List Road}
theorem FwO.lt (w : OW n rs) {b u : Nat} {p : List Nat} (hb : b < n) (h : FwO n rs b u p) : ∀ x ∈ p, x < n := by
  induction h with
  | nil => exact fun x hx => by rw [List.mem_singleton.mp hx]; exact hb
  | step he _ _ ih =>
    intro x hx
    rcases List.mem_cons.mp hx with q | q
    · rw [q]; exact (w.lt _ he).1
    · exact ih x q
theorem FwO.last {b u : Nat} {p : List Nat} (h : FwO n rs b u p) : ∃ q, p = q ++ [b] := by
  induction h with
  | nil => exact ⟨[], rfl⟩
  | @step u _ _ _ _ _ _ ih =>
    obtain ⟨q, e⟩ := ih
    exact ⟨u :: q, by rw [e]; rfl⟩
end
end PL
namespace PL
open PySem PySem.Spec PyProof.Rows L2 DL
section
variable {ρ : DL.Env}
def thenF (p : Option (Fl × DL.Env)) (k : Gs) : Option (Fl × DL.Env) := p.bind fun p => match p.1 with
  | .nx => k p.2
  | .ct => k p.2
  | .bk => some (.nx, p.2)
  | .ret d => some (.ret d, p.2)
theorem χZ (ρ' : DL.Env) (k : Gs) : thenF (some (.nx, ρ')) k = k ρ' := (rfl)
theorem χa (i k : Nat) (as : List Addr) (f : DL.Env → Option (List D)) (g : Gs) : gForF i k as f g ρ = (f ρ).bind fun ds => if ds.length ≤ 1000 then gLoopF i k g 0 as ds ρ else none := (rfl)
theorem χb (i k j : Nat) (a : Addr) (as : List Addr) (d : D) (ds : List D) (g : Gs) : gLoopF i k g j (a :: as) (d :: ds) ρ = thenF (g ((ρ.set i (some (.fn j a))).set k (some (.sh d)))) (gLoopF i k g (j + 1) as ds) := (rfl)
theorem χc (i k j : Nat) (g : Gs) : gLoopF i k g j [] [] ρ = some (.nx, ρ) := (rfl)
theorem χd (i : Nat) (as : List Addr) (g : Gs) : gForN i as g ρ = if as.length ≤ 1000 then gLoopN i g 0 as ρ else none := (rfl)
theorem χe (i j : Nat) (a : Addr) (as : List Addr) (g : Gs) : gLoopN i g j (a :: as) ρ = thenF (g (ρ.set i (some (.fn j a)))) (gLoopN i g (j + 1) as) := (rfl)
theorem χf (i j : Nat) (g : Gs) : gLoopN i g j [] ρ = some (.nx, ρ) := (rfl)
def callF (ms : List (Addr × (List D → Option D))) (r : Option (List D)) : Option (Option E) → Option D
  | some (some (.fn j a)) => match ms[j]? with
    | some p => if p.1 = a then r.bind p.2 else none
    | none => none
  | _ => none
theorem χg (i : Nat) (ms : List (Addr × (List D → Option D))) (f : DL.Env → Option (List D)) : cCf i ms f ρ = callF ms (f ρ) ρ[i]? := by
  unfold cCf
  cases ρ[i]? with
  | none => rfl
  | some e => cases e with
    | none => rfl
    | some e => cases e <;> rfl
theorem χh (a : Addr) (m : List D → Option D) (r : Option (List D)) (t) : callF ((a, m) :: t) r (some (some (.fn 0 a))) = r.bind m := if_pos rfl
theorem χi (a : Addr) (m : List D → Option D) (r : Option (List D)) (x t) : callF (x :: (a, m) :: t) r (some (some (.fn (0 + 1) a))) = r.bind m := if_pos rfl
theorem χj (a : Addr) (m : List D → Option D) (r : Option (List D)) (x y t) : callF (x :: y :: (a, m) :: t) r (some (some (.fn (0 + 1 + 1) a))) = r.bind m := if_pos rfl
end
end PL
namespace PL
open PySem PySem.Spec PyProof.Rows L2 DL
end PL
namespace PL
open PySem PySem.Spec PyProof.Rows L2 DL
section
variable {ρ : DL.Env}
theorem χk (i : Nat) (f : DL.Env → Option D) : cBorL i f ρ = (ownLs ρ[i]?).bind fun es => (f (ρ.set i (some (.sh (.list es))))).bind fun d => if othL es d = true then some d else none := (rfl)
theorem χl (ds : List D) : ownLs (some (some (.own (.list ds)))) = some ds := (rfl)
end
end PL
namespace PL
open PySem PySem.Spec PyProof.Rows L2 DL
section
variable {α β : Type}
theorem sLe (f g : α → Int) : ∀ L : List α, (∀ x ∈ L, f x ≤ g x) → (L.map f).sum ≤ (L.map g).sum
  | [], _ => Int.le_refl _
  | x :: L, h => by
    have a := h x List.mem_cons_self
    have b := sLe f g L fun y hy => h y (List.mem_cons_of_mem _ hy)
    rw [List.map_cons, List.map_cons, List.sum_cons, List.sum_cons]
    omega
end
end PL
namespace PL
open PySem PySem.Spec PyProof.Rows L2 DL
section
variable {ρ : DL.Env}
def iDTE : Option (Option E) → Option (List D)
  | some (some (.dt true ks)) => some (ks.map fun p => .tuple (p.1.map kD))
  | _ => none
theorem χm (i : Nat) : iDT i ρ = iDTE ρ[i]? := (rfl)
theorem χn (ks : List (List Key × D)) : iDTE (some (some (.dt true ks))) = some (ks.map fun p => .tuple (p.1.map kD)) := (rfl)
end
def kyL (X : List Nat) : List Key := X.map fun x => .inl ((x : Nat) : Int)
theorem keysOf_nn : ∀ X : List Nat, keysOf (X.map fun x => PyData.int ((x : Nat) : Int)) = some (kyL X)
  | [] => rfl
  | x :: X => by
    have ih := keysOf_nn X
    show ((keyOf (.int ((x : Nat) : Int))).bind fun k => (keysOf (X.map fun x => PyData.int ((x : Nat) : Int))).map (k :: ·)) = _
    rw [ih]
    rfl
theorem kyL_inj {X Y : List Nat} (h : kyL X = kyL Y) : X = Y := by
  unfold kyL at h
  have := congrArg (List.map fun k : Key => match k with | .inl i => i.toNat | .inr _ => 0) h
  rw [List.map_map, List.map_map] at this
  have e : ∀ Z : List Nat, Z.map ((fun k : Key => match k with | .inl i => i.toNat | .inr _ => 0) ∘ fun x : Nat => Sum.inl ((x : Nat) : Int)) = Z := fun Z => by
    induction Z with
    | nil => rfl
    | cons a Z ih => rw [List.map_cons, ih]; rfl
  rw [e, e] at this
  exact this
end PL
namespace PL
open PySem PySem.Spec PyProof.Rows L2 DL
section
variable {ρ : DL.Env}
def vlsE : Option (Option E) → Option D
  | some (some (.dt _ ks)) => some (.list (ks.map (·.2)))
  | _ => none
theorem χo (i : Nat) : cVls i ρ = vlsE ρ[i]? := (rfl)
theorem χp (l : Bool) (ks : List (List Key × D)) : vlsE (some (some (.dt l ks))) = some (.list (ks.map (·.2))) := (rfl)
end
end PL
namespace DG
open PySem PySem.Spec PyProof.Rows L2 DL
def top (i : Nat) : Stmt := PySem.Challenge.pw_nearhouses_k35_whole_cores.main.body.getD i (.Pass ⟨0, 0, 0, 0⟩)
structure Txt (mg : Str → Option Value) : Prop where
  bl_int : mg "int" = none
  bl_len : mg "len" = none
  bl_range : mg "range" = none
  bl_list : mg "list" = none
  bl_sum : mg "sum" = none
  bl_tuple : mg "tuple" = none
  bl_min : mg "min" = none
  bl_isinstance : mg "isinstance" = none
  bl_str : mg "str" = none
  bl_bool : mg "bool" = none
  gl_MOST_POINTS : ∃ t, mg "MOST_POINTS" = some (.int 8 t)
  gl_MOST_WEIGHT : ∃ t, mg "MOST_WEIGHT" = some (.int 100 t)
  gl_MOST_LENGTH : ∃ t, mg "MOST_LENGTH" = some (.int 100 t)
  bl_sorted : mg "sorted" = none
  gl_MOST_ROADS : ∃ t, mg "MOST_ROADS" = some (.int 14 t)
  bl_enumerate : mg "enumerate" = none
  bl_zip : mg "zip" = none
  bl_max : mg "max" = none
section
variable {P : Program} {w : World} {K : PySem.W.Frag} {mg : Str → Option Value} {base : Heap}
abbrev st__law_taken : Stmt := top 33
def gs__law_taken : Gs :=
  (gSeq (gIf (lfb (bV (c2 oGt (cIxO 0 (cK (.int 3))) (cK (.int 0)))))
  (gSeq (gAsg (lf (c2 oMod (cN oInt (cCons (cIxO 0 (cK (.int 3))) cNil)) (cVar 1))) (bNm 3))
  (gSeq (gSetI 0 (lf (c2 oDiv (cIxO 0 (cK (.int 3))) (cVar 1))) (lf (cK (.int 3))))
  (gRet (lf (cVar 3)))))
  gNx)
  (gSeq (gSetI 0 (lf (c2 oAdd (cIxO 0 (cK (.int 1))) (cK (.int 1)))) (lf (cK (.int 1))))
  (gSeq (gIf (lfb (bV (c2 oGt (cIxO 0 (cK (.int 1))) (cN oLen (cCons (cIxO 0 (cK (.int 0))) cNil)))))
  (gSeq (gSetI 0 (lf (c2 oMod (cN oInt (cCons (c2 oAdd (c2 oMul (cIxO 0 (cK (.int 2))) (cK (.int 48271))) (cK (.int 11))) cNil)) (cK (.int 2147483647)))) (lf (cK (.int 2))))
  (gRet (lf (c2 oMod (cN oInt (cCons (c2 oDiv (cIxO 0 (cK (.int 2))) (cK (.int 7))) cNil)) (cVar 1)))))
  gNx)
  (gSeq (gAsg (lf (c2 oIx (cIxO 0 (cK (.int 0))) (c2 oSub (cIxO 0 (cK (.int 1))) (cK (.int 1))))) (bNm 2))
  (gSeq (gSetI 0 (lf (c2 oMod (cN oInt (cCons (c2 oAdd (c2 oAdd (c2 oMul (cIxO 0 (cK (.int 2))) (cK (.int 48271))) (cVar 2)) (cK (.int 11))) cNil)) (cK (.int 2147483647)))) (lf (cK (.int 2))))
  (gSeq (gIf (lfb (bV (c2 oGe (cVar 2) (c2 oPow (cK (.int 10)) (cK (.int 18))))))
  (gSetI 0 (lf (c2 oDiv (cVar 2) (cVar 1))) (lf (cK (.int 3))))
  gNx)
  (gRet (lf (c2 oMod (cN oInt (cCons (cVar 2) cNil)) (cVar 1))))))))))
def mm__law_taken := runR 4 2 gs__law_taken
theorem sc__law_taken : FnScope ["_law_row", "_law_many", "_law_cell", "_law_found"] ["_law_row", "_law_many"] (defScope st__law_taken) := ⟨rfl, rfl, rfl, by decide +kernel, rfl, by decide +kernel, by decide +kernel⟩
theorem ok__law_taken {f : Addr} {fd : FuncData} (F : Fun K "_law_taken" "_law_taken" st__law_taken f fd) (T : Txt mg) : FnOk P w K mg base CX0 1 f fd ["_law_row", "_law_many"] (spR K mm__law_taken) := by
  have S := sc__law_taken
  refine okR 4 2 F S rfl rfl (by decide) (g := gs__law_taken) fun cdv A outer s H E z hr => ?_
  exact (s_cons (s_if (r_lfb (b_cmp (op_gtD (hu64 hr)) w_gt (q_ixO 0 q_int) q_int (by rfl)))
  (s_cons (s_set 3 S.nd (r_lf (q_op op_modN w_mod (q_callTy call_int1 w_int (by rfl) T.bl_int bt_int (q_cons (q_ixO 0 q_int) q_nil)) (q_var 1))))
  (s_cons (s_setI 0 (r_lf (q_op DL.op_fdivW w_div (q_ixO 0 q_int) (q_var 1))) (r_lf q_int))
  (s_one (s_ret (r_lf (q_var 3))))))
  s_nil)
  (s_cons (s_setI 0 (r_lf (q_op op_addA w_add (q_ixO 0 q_int) q_int)) (r_lf q_int))
  (s_cons (s_if (r_lfb (b_cmp (op_gtD (hu64 hr)) w_gt (q_ixO 0 q_int) (q_callB call_len w_len (by rfl) T.bl_len bt_len (q_cons (q_ixO 0 q_int) q_nil)) (by rfl)))
  (s_cons (s_setI 0 (r_lf (q_op op_modN w_mod (q_callTy call_int1 w_int (by rfl) T.bl_int bt_int (q_cons (q_op op_addA w_add (q_op op_mulA w_mul (q_ixO 0 q_int) q_int) q_int) q_nil)) q_int)) (r_lf q_int))
  (s_one (s_ret (r_lf (q_op op_modN w_mod (q_callTy call_int1 w_int (by rfl) T.bl_int bt_int (q_cons (q_op DL.op_fdivW w_div (q_ixO 0 q_int) q_int) q_nil)) (q_var 1))))))
  s_nil)
  (s_cons (s_set 2 S.nd (r_lf (q_ix ix_seq w_ix (q_ixO 0 q_int) (q_op op_sub w_sub (q_ixO 0 q_int) q_int))))
  (s_cons (s_setI 0 (r_lf (q_op op_modN w_mod (q_callTy call_int1 w_int (by rfl) T.bl_int bt_int (q_cons (q_op op_addA w_add (q_op op_addA w_add (q_op op_mulA w_mul (q_ixO 0 q_int) q_int) (q_var 2)) q_int) q_nil)) q_int)) (r_lf q_int))
  (s_cons (s_if (r_lfb (b_cmp (op_geD (hu64 hr)) w_ge (q_var 2) (q_op op_pow w_pow q_int q_int) (by rfl)))
  (s_one (s_setI 0 (r_lf (q_op DL.op_fdivW w_div (q_var 2) (q_var 1))) (r_lf q_int)))
  s_nil)
  (s_one (s_ret (r_lf (q_op op_modN w_mod (q_callTy call_int1 w_int (by rfl) T.bl_int bt_int (q_cons (q_var 2) q_nil)) (q_var 1)))))))))))
abbrev st__law_pick : Stmt := top 34
def gs__law_pick : Gs :=
  (gRet (r2 oIx (lf (cVar 1)) (rRow 0 mm__law_taken (lfs (cCons (cN oLen (cCons (cVar 1) cNil)) cNil)))))
def mm__law_pick := runR 2 2 gs__law_pick
theorem sc__law_pick : FnScope ["_law_row", "_law_things"] ["_law_row", "_law_things"] (defScope st__law_pick) := ⟨rfl, rfl, rfl, by decide +kernel, rfl, by decide +kernel, by decide +kernel⟩
theorem ok__law_pick {f : Addr} {fd : FuncData} (F : Fun K "_law_pick" "_law_pick" st__law_pick f fd) (T : Txt mg) (c__law_taken : Cal P w K mg base 1 "_law_taken" (spR K mm__law_taken)) : FnOk P w K mg base CX0 2 f fd ["_law_row", "_law_things"] (spR K mm__law_pick) := by
  have S := sc__law_pick
  refine okR 2 2 F S rfl rfl (by decide) (g := gs__law_pick) fun cdv A outer s H E z hr => ?_
  exact (s_one (s_ret (r_ix ix_seq w_ix (r_lf (q_var 1)) (r_row 0 c__law_taken hr (by decide) (by rfl) (r_lfs (q_cons (q_callB call_len w_len (by rfl) T.bl_len bt_len (q_cons (q_var 1) q_nil)) q_nil))))))
abbrev st__law_order : Stmt := top 35
def gs__law_order : Gs :=
  (gSeq (gPar2 2 3 (wsh (lf (cListRg (cRg1 (cVar 1))))) (wN few (lfs cNil)))
  (gSeq (gFor (lfs (iN rg1 (cCons (cVar 1) cNil))) (bNm 4)
  (gSeq (gAsg (rRow 0 mm__law_taken (lfs (cCons (cN oLen (cCons (cVar 2) cNil)) cNil))) (bNm 5))
  (gSeq (gApp 3 (lf (c2 oIx (cVar 2) (cVar 5))))
  (gAsg (lf (c2 oAdd (cSl (cVar 2) cNoPart (cPart (cVar 5))) (cSl (cVar 2) (cPart (c2 oAdd (cVar 5) (cK (.int 1)))) cNoPart))) (bNm 2)))))
  (gFz 3 (gRet (lf (cVar 3))))))
def mm__law_order := runR 6 2 gs__law_order
theorem sc__law_order : FnScope ["_law_row", "_law_many", "_law_left", "_law_found", "_law_turn", "_law_at"] ["_law_row", "_law_many"] (defScope st__law_order) := ⟨rfl, rfl, rfl, by decide +kernel, rfl, by decide +kernel, by decide +kernel⟩
theorem ok__law_order {f : Addr} {fd : FuncData} (F : Fun K "_law_order" "_law_order" st__law_order f fd) (T : Txt mg) (c__law_taken : Cal P w K mg base 1 "_law_taken" (spR K mm__law_taken)) : FnOk P w K mg base CX0 2 f fd ["_law_row", "_law_many"] (spR K mm__law_order) := by
  have S := sc__law_order
  refine okR 6 2 F S rfl rfl (by decide) (g := gs__law_order) fun cdv A outer s H E z hr => ?_
  exact (s_cons (s_par2 2 3 rfl S.nd (w_sh (r_lf (q_listRg rfl (by rfl) T.bl_list (q_rg1 (by rfl) T.bl_range (q_var 1))))) (w_lst (r_lfs q_nil)))
  (s_cons (s_for rfl (i_lf (i_range1 (by rfl) T.bl_range (q_cons (q_var 1) q_nil))) (g_nm 4 S.nd)
  (s_cons (s_set 5 S.nd (r_row 0 c__law_taken hr (by decide) (by rfl) (r_lfs (q_cons (q_callB call_len w_len (by rfl) T.bl_len bt_len (q_cons (q_var 2) q_nil)) q_nil))))
  (s_cons (s_app 3 (r_lf (q_ix ix_seq w_ix (q_var 2) (q_var 5))))
  (s_one (s_set 2 S.nd (r_lf (q_op op_addA w_add (q_slice (q_var 2) q_nopart (q_part (q_var 5))) (q_slice (q_var 2) (q_part (q_op op_addA w_add (q_var 5) q_int)) q_nopart))))))) PassesOwn.never)
  (s_one (s_fz 3 (s_ret (r_lf (q_var 3)))))))
abbrev st__law_web : Stmt := top 36
def gs__law_web : Gs :=
  (gSeq (gPar3 3 4 5 (wsh (r2 oAdd (lf (cK (.int 2))) (rRow 0 mm__law_taken (lfs (cCons (c2 oSub (cVar 1) (cK (.int 1))) cNil))))) (wsh (rRow 0 mm__law_pick (lfs (cCons (cLst (cCons (cK (.int 2)) (cCons (cK (.int 9)) (cCons (cK (.int 100)) cNil)))) cNil)))) (wN few (lfs cNil)))
  (gSeq (gFor (lfs (iN rg2 (cCons (cK (.int 1)) (cCons (cVar 3) cNil)))) (bNm 6)
  (gSeq (gAsg (rRow 0 mm__law_pick (rCons (rN dLst (rCons (lf (c2 oSub (cVar 6) (cK (.int 1)))) (rCons (rRow 0 mm__law_taken (lfs (cCons (cVar 6) cNil))) (rCons (lf (cK (.int 0))) rNil)))) rNil)) (bNm 10))
  (gApp 5 (rN dTup (rCons (lf (cVar 10)) (rCons (lf (cVar 6)) (rCons (r2 oAdd (lf (cK (.int 1))) (rRow 0 mm__law_taken (rCons (rRow 0 mm__law_pick (lfs (cCons (cLst (cCons (cK (.int 3)) (cCons (cVar 4) cNil))) cNil))) rNil))) rNil)))))))
  (gSeq (gFor (iNR rg1 (rCons (rRow 0 mm__law_taken (lfs (cCons (c2 oAdd (cVar 2) (cK (.int 1))) cNil))) rNil)) (bNm 7)
  (gSeq (gAsg (r2 oAdd (lf (cK (.int 1))) (rRow 0 mm__law_taken (lfs (cCons (c2 oSub (cVar 3) (cK (.int 1))) cNil)))) (bNm 6))
  (gSeq (gAsg (rRow 0 mm__law_taken (lfs (cCons (cVar 6) cNil))) (bNm 10))
  (gIf (lfb (bBor (bV (c2 oNotIn (cTup (cCons (cVar 10) (cCons (cVar 6) cNil))) (cLc [12] (iS (cVar 5)) (bNm 12) bYes (cSl (cVar 12) cNoPart (cPart (cK (.int 2)))))))))
  (gApp 5 (rN dTup (rCons (lf (cVar 10)) (rCons (lf (cVar 6)) (rCons (r2 oAdd (lf (cK (.int 1))) (rRow 0 mm__law_taken (lfs (cCons (cVar 4) cNil)))) rNil)))))
  gNx))))
  (gSeq (gAsg (rRow 0 mm__law_order (lfs (cCons (cBor (cN oLen (cCons (cVar 5) cNil))) cNil))) (bNm 8))
  (gSeq (gSetW 9 (wLc [11] (lfs (iN rg1 (cCons (cVar 3) cNil))) (bNm 11) bYesR (rRow 0 mm__law_taken (rCons (rRow 0 mm__law_pick (lfs (cCons (cLst (cCons (cK (.int 2)) (cCons (cK (.int 6)) (cCons (cK (.int 101)) cNil)))) cNil))) rNil))))
  (gSeq (gSetI 9 (lf (c2 oAdd (cIxO 9 (cK (.int 0))) (cIf (bV (c2 oEq (cBor (cN oSum (cCons (cVar 9) cNil))) (cK (.int 0)))) (cK (.int 1)) (cK (.int 0))))) (lf (cK (.int 0))))
  (gFz 9 (gRet (lf (cTup (cCons (cN oTuple (cCons (cVar 9) cNil)) (cCons (cN oTuple (cCons (cLc [11] (iS (cVar 8)) (bNm 11) bYes (cIxO 5 (cVar 11))) cNil)) cNil))))))))))))
def mm__law_web := runR 13 3 gs__law_web
theorem sc__law_web : FnScope ["_law_row", "_law_most", "_law_extra", "_law_count", "_law_big", "_law_roads", "_law_b", "_law_turn", "_law_order_here", "_law_weights", "_law_a", "_law_k", "_law_road"] ["_law_row", "_law_most", "_law_extra"] (defScope st__law_web) := ⟨rfl, rfl, rfl, by decide +kernel, rfl, by decide +kernel, by decide +kernel⟩
theorem ok__law_web {f : Addr} {fd : FuncData} (F : Fun K "_law_web" "_law_web" st__law_web f fd) (T : Txt mg) (c__law_taken : Cal P w K mg base 1 "_law_taken" (spR K mm__law_taken)) (c__law_pick : Cal P w K mg base 2 "_law_pick" (spR K mm__law_pick)) (c__law_order : Cal P w K mg base 2 "_law_order" (spR K mm__law_order)) : FnOk P w K mg base CX0 3 f fd ["_law_row", "_law_most", "_law_extra"] (spR K mm__law_web) := by
  have S := sc__law_web
  refine okR 13 3 F S rfl rfl (by decide) (g := gs__law_web) fun cdv A outer s H E z hr => ?_
  exact (s_cons (s_tup3 3 4 5 rfl S.nd (w_sh (r_op op_addA w_add (r_lf q_int) (r_row 0 c__law_taken hr (by decide) (by rfl) (r_lfs (q_cons (q_op op_sub w_sub (q_var 1) q_int) q_nil))))) (w_sh (r_row 0 c__law_pick hr (by decide) (by rfl) (r_lfs (q_cons (q_lst (q_cons q_int (q_cons q_int (q_cons q_int q_nil)))) q_nil)))) (w_lst (r_lfs q_nil)))
  (s_cons (s_for rfl (i_lf (i_range2 (by rfl) T.bl_range (q_cons q_int (q_cons (q_var 3) q_nil)))) (g_nm 6 S.nd)
  (s_cons (s_set 10 S.nd (r_row 0 c__law_pick hr (by decide) (by rfl) (r_cons (r_lst (r_cons (r_lf (q_op op_sub w_sub (q_var 6) q_int)) (r_cons (r_row 0 c__law_taken hr (by decide) (by rfl) (r_lfs (q_cons (q_var 6) q_nil))) (r_cons (r_lf q_int) r_nil)))) r_nil)))
  (s_one (s_app 5 (r_tup (r_cons (r_lf (q_var 10)) (r_cons (r_lf (q_var 6)) (r_cons (r_op op_addA w_add (r_lf q_int) (r_row 0 c__law_taken hr (by decide) (by rfl) (r_cons (r_row 0 c__law_pick hr (by decide) (by rfl) (r_lfs (q_cons (q_lst (q_cons q_int (q_cons (q_var 4) q_nil))) q_nil))) r_nil))) r_nil))))))) PassesOwn.never)
  (s_cons (s_for rfl (i_range1R (by rfl) T.bl_range (r_cons (r_row 0 c__law_taken hr (by decide) (by rfl) (r_lfs (q_cons (q_op op_addA w_add (q_var 2) q_int) q_nil))) r_nil)) (g_nm 7 S.nd)
  (s_cons (s_set 6 S.nd (r_op op_addA w_add (r_lf q_int) (r_row 0 c__law_taken hr (by decide) (by rfl) (r_lfs (q_cons (q_op op_sub w_sub (q_var 3) q_int) q_nil)))))
  (s_cons (s_set 10 S.nd (r_row 0 c__law_taken hr (by decide) (by rfl) (r_lfs (q_cons (q_var 6) q_nil))))
  (s_one (s_if (r_lfb (b_bor fun _ => (b_cmp (op_notInA (hu65 hr)) w_notIn (q_tup (q_cons (q_var 10) (q_cons (q_var 6) q_nil))) (q_lc rfl S.nd (blkOk_by (own := [("_law_road", 12)]) (by kernel_rfl)) (i_seq (q_var 5)) (fun _ _ _ _ _ => (g_nm 12 S.nd)) (fun _ _ _ _ _ => t_nil) (fun _ _ _ _ _ => (q_slice (q_var 12) q_nopart (q_part q_int)))) (by rfl))))
  (s_one (s_app 5 (r_tup (r_cons (r_lf (q_var 10)) (r_cons (r_lf (q_var 6)) (r_cons (r_op op_addA w_add (r_lf q_int) (r_row 0 c__law_taken hr (by decide) (by rfl) (r_lfs (q_cons (q_var 4) q_nil)))) r_nil))))))
  s_nil)))) PassesOwn.never)
  (s_cons (s_set 8 S.nd (r_row 0 c__law_order hr (by decide) (by rfl) (r_lfs (q_cons (q_bor fun _ => (q_callB call_len w_len (by rfl) T.bl_len bt_len (q_cons (q_var 5) q_nil))) q_nil))))
  (s_cons (s_lcW 9 rfl S.nd (blkOk_by (own := [("_law_k", 11)]) (by kernel_rfl)) (sw_true rfl rfl rfl (by rfl)) (i_lf (i_range1 (by rfl) T.bl_range (q_cons (q_var 3) q_nil))) (fun _ _ _ _ _ => (g_nm 11 S.nd)) (fun _ _ _ _ _ => t_nilR) (fun _ _ _ _ _ => (r_row 0 c__law_taken hr (by decide) (by rfl) (r_cons (r_row 0 c__law_pick hr (by decide) (by rfl) (r_lfs (q_cons (q_lst (q_cons q_int (q_cons q_int (q_cons q_int q_nil)))) q_nil))) r_nil))))
  (s_cons (s_setI 9 (r_lf (q_op op_addA w_add (q_ixO 9 q_int) (q_if (b_cmp (op_eqQ (hu64 hr)) w_eq (q_bor fun _ => (q_callB (cr_sumA rfl) w_sum (by rfl) T.bl_sum bt_sum (q_cons (q_var 9) q_nil))) q_int (by rfl)) q_int q_int))) (r_lf q_int))
  (s_one (s_fz 9 (s_ret (r_lf (q_tup (q_cons (q_callTy call_tuple_of w_tuple (by rfl) T.bl_tuple bt_tuple (q_cons (q_var 9) q_nil)) (q_cons (q_callTy call_tuple_of w_tuple (by rfl) T.bl_tuple bt_tuple (q_cons (q_lc rfl S.nd (blkOk_by (own := [("_law_k", 11)]) (by kernel_rfl)) (i_seq (q_var 8)) (fun _ _ _ _ _ => (g_nm 11 S.nd)) (fun _ _ _ _ _ => t_nil) (fun _ _ _ _ _ => (q_ixO 5 (q_var 11)))) q_nil)) q_nil)))))))))))))
abbrev st__law_tree : Stmt := top 37
def gs__law_tree : Gs :=
  (gRet (rRow 0 mm__law_web (lfs (cCons (cVar 1) (cCons (cK (.int 0)) cNil)))))
def mm__law_tree := runR 2 2 gs__law_tree
theorem sc__law_tree : FnScope ["_law_row", "_law_most"] ["_law_row", "_law_most"] (defScope st__law_tree) := ⟨rfl, rfl, rfl, by decide +kernel, rfl, by decide +kernel, by decide +kernel⟩
theorem ok__law_tree {f : Addr} {fd : FuncData} (F : Fun K "_law_tree" "_law_tree" st__law_tree f fd) (T : Txt mg) (c__law_web : Cal P w K mg base 3 "_law_web" (spR K mm__law_web)) : FnOk P w K mg base CX0 4 f fd ["_law_row", "_law_most"] (spR K mm__law_tree) := by
  have S := sc__law_tree
  refine okR 2 2 F S rfl rfl (by decide) (g := gs__law_tree) fun cdv A outer s H E z hr => ?_
  exact (s_one (s_ret (r_row 0 c__law_web hr (by decide) (by rfl) (r_lfs (q_cons (q_var 1) (q_cons q_int q_nil))))))
abbrev st__law_rows : Stmt := top 38
def gs__law_rows : Gs :=
  (gSeq (gPar2 1 2 (wsh (lf (cN oLen (cCons (c2 oIx (cVar 0) (cK (.int 0))) cNil)))) (wsh (lf (c2 oPow (cK (.int 10)) (cK (.int 6))))))
  (gSeq (gSetW 3 (wLc2 [8] (lfs (iN rg1 (cCons (cVar 1) cNil))) (bNm 8) (wLc [9] (lfs (iN rg1 (cCons (cVar 1) cNil))) (bNm 9) bYesR (lf (cIf (bV (c2 oEq (cVar 8) (cVar 9))) (cK (.int 0)) (cVar 2))))))
  (gSeq (gFor (lfs (iN rg1 (cCons (cVar 1) cNil))) (bNm 4)
  (gFor (lfs (iS (c2 oIx (cVar 0) (cK (.int 1))))) (bTp 3 (bCons (bNm 5) (bCons (bNm 6) (bCons (bNm 7) bNil))))
  (gFor (lfs (iN rg1 (cCons (cVar 1) cNil))) (bNm 8)
  (gSeq (gSetI2 3 (lf (cN oMin (cCons (cBor (c2 oIx (c2 oIx (cVar 3) (cVar 8)) (cVar 6))) (cCons (c2 oAdd (cBor (c2 oIx (c2 oIx (cVar 3) (cVar 8)) (cVar 5))) (cVar 7)) cNil)))) (cVar 8) (cVar 6))
  (gSetI2 3 (lf (cN oMin (cCons (cBor (c2 oIx (c2 oIx (cVar 3) (cVar 8)) (cVar 5))) (cCons (c2 oAdd (cBor (c2 oIx (c2 oIx (cVar 3) (cVar 8)) (cVar 6))) (cVar 7)) cNil)))) (cVar 8) (cVar 5))))))
  (gFz 3 (gRet (lf (cVar 3)))))))
def mm__law_rows := run 10 1 gs__law_rows
theorem sc__law_rows : FnScope ["_law_web_here", "_law_count", "_law_far", "_law_rows_here", "_law_turn", "_law_a", "_law_b", "_law_length", "_law_i", "_law_j"] ["_law_web_here"] (defScope st__law_rows) := ⟨rfl, rfl, rfl, by decide +kernel, rfl, by decide +kernel, by decide +kernel⟩
theorem ok__law_rows {f : Addr} {fd : FuncData} (F : Fun K "_law_rows" "_law_rows" st__law_rows f fd) (T : Txt mg) : FnOk P w K mg base CX0 1 f fd ["_law_web_here"] (spP K mm__law_rows) := by
  have S := sc__law_rows
  refine okP 10 1 F S rfl rfl (g := gs__law_rows) fun cdv A outer s H E z hr => ?_
  exact (s_cons (s_tup2 1 2 rfl S.nd (w_sh (r_lf (q_callB call_len w_len (by rfl) T.bl_len bt_len (q_cons (q_ix ix_seq w_ix (q_var 0) q_int) q_nil)))) (w_sh (r_lf (q_op op_pow w_pow q_int q_int))))
  (s_cons (s_lcW2 3 rfl S.nd (blkOk_by (own := [("_law_i", 8)]) (by kernel_rfl)) (sw_true rfl rfl rfl (by rfl)) (i_lf (i_range1 (by rfl) T.bl_range (q_cons (q_var 1) q_nil))) (fun _ _ _ _ _ => (g_nm 8 S.nd)) (fun _ _ _ _ _ => (w_lc rfl S.nd (blkOk_by (own := [("_law_j", 9)]) (by kernel_rfl)) (i_lf (i_range1 (by rfl) T.bl_range (q_cons (q_var 1) q_nil))) (fun _ _ _ _ _ => (g_nm 9 S.nd)) (fun _ _ _ _ _ => t_nilR) (fun _ _ _ _ _ => (r_lf (q_if (b_cmp (op_eqQ (hu64 hr)) w_eq (q_var 8) (q_var 9) (by rfl)) q_int (q_var 2)))))))
  (s_cons (s_for rfl (i_lf (i_range1 (by rfl) T.bl_range (q_cons (q_var 1) q_nil))) (g_nm 4 S.nd)
  (s_one (s_for rfl (i_lf (i_seq (q_ix ix_seq w_ix (q_var 0) q_int))) (g_tup rfl (g_cons (g_nm 5 S.nd) (g_cons (g_nm 6 S.nd) (g_cons (g_nm 7 S.nd) g_nil))))
  (s_one (s_for rfl (i_lf (i_range1 (by rfl) T.bl_range (q_cons (q_var 1) q_nil))) (g_nm 8 S.nd)
  (s_cons (s_setI2 3 (r_lf (q_callB (cr_minA rfl (hu64 hr)) w_min (by rfl) T.bl_min bt_min (q_cons (q_bor fun _ => (q_ix ix_seq w_ix (q_ix ix_seq w_ix (q_var 3) (q_var 8)) (q_var 6))) (q_cons (q_op op_addA w_add (q_bor fun _ => (q_ix ix_seq w_ix (q_ix ix_seq w_ix (q_var 3) (q_var 8)) (q_var 5))) (q_var 7)) q_nil)))) (q_var 8) (q_var 6))
  (s_one (s_setI2 3 (r_lf (q_callB (cr_minA rfl (hu64 hr)) w_min (by rfl) T.bl_min bt_min (q_cons (q_bor fun _ => (q_ix ix_seq w_ix (q_ix ix_seq w_ix (q_var 3) (q_var 8)) (q_var 5))) (q_cons (q_op op_addA w_add (q_bor fun _ => (q_ix ix_seq w_ix (q_ix ix_seq w_ix (q_var 3) (q_var 8)) (q_var 6))) (q_var 7)) q_nil)))) (q_var 8) (q_var 5)))) PassesOwn.never)) PassesOwn.never)) PassesOwn.never)
  (s_one (s_fz 3 (s_ret (r_lf (q_var 3))))))))
abbrev st__law_steps : Stmt := top 39
def gs__law_steps : Gs :=
  (gRet (lf (c2 oAdd (cLc [2, 3, 4] (iS (c2 oIx (cVar 0) (cK (.int 1)))) (bTp 3 (bCons (bNm 2) (bCons (bNm 3) (bCons (bNm 4) bNil)))) (bV (c2 oEq (cVar 2) (cVar 1))) (cTup (cCons (cVar 3) (cCons (cVar 4) cNil)))) (cLc [2, 3, 4] (iS (c2 oIx (cVar 0) (cK (.int 1)))) (bTp 3 (bCons (bNm 2) (bCons (bNm 3) (bCons (bNm 4) bNil)))) (bV (c2 oEq (cVar 3) (cVar 1))) (cTup (cCons (cVar 2) (cCons (cVar 4) cNil)))))))
def mm__law_steps := run 5 2 gs__law_steps
theorem sc__law_steps : FnScope ["_law_web_here", "_law_point", "_law_a", "_law_b", "_law_length"] ["_law_web_here", "_law_point"] (defScope st__law_steps) := ⟨rfl, rfl, rfl, by decide +kernel, rfl, by decide +kernel, by decide +kernel⟩
theorem ok__law_steps {f : Addr} {fd : FuncData} (F : Fun K "_law_steps" "_law_steps" st__law_steps f fd) (T : Txt mg) : FnOk P w K mg base CX0 1 f fd ["_law_web_here", "_law_point"] (spP K mm__law_steps) := by
  have S := sc__law_steps
  refine okP 5 2 F S rfl rfl (g := gs__law_steps) fun cdv A outer s H E z hr => ?_
  exact (s_one (s_ret (r_lf (q_op op_addA w_add (q_lc rfl S.nd (blkOk_by (own := [("_law_a", 2), ("_law_b", 3), ("_law_length", 4)]) (by kernel_rfl)) (i_seq (q_ix ix_seq w_ix (q_var 0) q_int)) (fun _ _ _ _ _ => (g_tup rfl (g_cons (g_nm 2 S.nd) (g_cons (g_nm 3 S.nd) (g_cons (g_nm 4 S.nd) g_nil))))) (fun _ _ _ _ _ => (t_one (b_cmp (op_eqQ (hu64 hr)) w_eq (q_var 2) (q_var 1) (by rfl)))) (fun _ _ _ _ _ => (q_tup (q_cons (q_var 3) (q_cons (q_var 4) q_nil))))) (q_lc rfl S.nd (blkOk_by (own := [("_law_a", 2), ("_law_b", 3), ("_law_length", 4)]) (by kernel_rfl)) (i_seq (q_ix ix_seq w_ix (q_var 0) q_int)) (fun _ _ _ _ _ => (g_tup rfl (g_cons (g_nm 2 S.nd) (g_cons (g_nm 3 S.nd) (g_cons (g_nm 4 S.nd) g_nil))))) (fun _ _ _ _ _ => (t_one (b_cmp (op_eqQ (hu64 hr)) w_eq (q_var 3) (q_var 1) (by rfl)))) (fun _ _ _ _ _ => (q_tup (q_cons (q_var 2) (q_cons (q_var 4) q_nil)))))))))
abbrev st__law_near : Stmt := top 40
def gs__law_near : Gs :=
  (gRet (lf (cLc [2] (iS (cVar 0)) (bNm 2) bYes (cN oMin (cCons (cLc [3] (iS (cVar 1)) (bNm 3) bYes (c2 oIx (cVar 2) (cVar 3))) cNil)))))
def mm__law_near := run 4 2 gs__law_near
theorem sc__law_near : FnScope ["_law_rows_here", "_law_houses", "_law_line", "_law_x"] ["_law_rows_here", "_law_houses"] (defScope st__law_near) := ⟨rfl, rfl, rfl, by decide +kernel, rfl, by decide +kernel, by decide +kernel⟩
theorem ok__law_near {f : Addr} {fd : FuncData} (F : Fun K "_law_near" "_law_near" st__law_near f fd) (T : Txt mg) : FnOk P w K mg base CX0 1 f fd ["_law_rows_here", "_law_houses"] (spP K mm__law_near) := by
  have S := sc__law_near
  refine okP 4 2 F S rfl rfl (g := gs__law_near) fun cdv A outer s H E z hr => ?_
  exact (s_one (s_ret (r_lf (q_lc rfl S.nd (blkOk_by (own := [("_law_line", 2)]) (by kernel_rfl)) (i_seq (q_var 0)) (fun _ _ _ _ _ => (g_nm 2 S.nd)) (fun _ _ _ _ _ => t_nil) (fun _ _ _ _ _ => (q_callB (cr_minA rfl (hu64 hr)) w_min (by rfl) T.bl_min bt_min (q_cons (q_lc rfl S.nd (blkOk_by (own := [("_law_x", 3)]) (by kernel_rfl)) (i_seq (q_var 1)) (fun _ _ _ _ _ => (g_nm 3 S.nd)) (fun _ _ _ _ _ => t_nil) (fun _ _ _ _ _ => (q_ix ix_seq w_ix (q_var 2) (q_var 3)))) q_nil)))))))
abbrev st__law_on_way : Stmt := top 41
def gs__law_on_way : Gs :=
  (gRet (lf (cLc [3] (iN rg1 (cCons (cN oLen (cCons (cVar 0) cNil)) cNil)) (bNm 3) (bV (c2 oEq (c2 oAdd (c2 oIx (c2 oIx (cVar 0) (cVar 1)) (cVar 3)) (c2 oIx (c2 oIx (cVar 0) (cVar 3)) (cVar 2))) (c2 oIx (c2 oIx (cVar 0) (cVar 1)) (cVar 2)))) (cVar 3))))
def mm__law_on_way := run 4 3 gs__law_on_way
theorem sc__law_on_way : FnScope ["_law_rows_here", "_law_a", "_law_b", "_law_k"] ["_law_rows_here", "_law_a", "_law_b"] (defScope st__law_on_way) := ⟨rfl, rfl, rfl, by decide +kernel, rfl, by decide +kernel, by decide +kernel⟩
theorem ok__law_on_way {f : Addr} {fd : FuncData} (F : Fun K "_law_on_way" "_law_on_way" st__law_on_way f fd) (T : Txt mg) : FnOk P w K mg base CX0 1 f fd ["_law_rows_here", "_law_a", "_law_b"] (spP K mm__law_on_way) := by
  have S := sc__law_on_way
  refine okP 4 3 F S rfl rfl (g := gs__law_on_way) fun cdv A outer s H E z hr => ?_
  exact (s_one (s_ret (r_lf (q_lc rfl S.nd (blkOk_by (own := [("_law_k", 3)]) (by kernel_rfl)) (i_range1 (by rfl) T.bl_range (q_cons (q_callB call_len w_len (by rfl) T.bl_len bt_len (q_cons (q_var 0) q_nil)) q_nil)) (fun _ _ _ _ _ => (g_nm 3 S.nd)) (fun _ _ _ _ _ => (t_one (b_cmp (op_eqQ (hu64 hr)) w_eq (q_op op_addA w_add (q_ix ix_seq w_ix (q_ix ix_seq w_ix (q_var 0) (q_var 1)) (q_var 3)) (q_ix ix_seq w_ix (q_ix ix_seq w_ix (q_var 0) (q_var 3)) (q_var 2))) (q_ix ix_seq w_ix (q_ix ix_seq w_ix (q_var 0) (q_var 1)) (q_var 2)) (by rfl)))) (fun _ _ _ _ _ => (q_var 3))))))
abbrev st__law_alike : Stmt := top 42
def gs__law_alike (mr : List D → Option D) : Gs :=
  (gSeq (gIf (lfb (bT (cIsi2 .tuple .list (cVar 1))))
  (gSeq (gIf (lfb (bOr (bNot (bT (cIsi2 .tuple .list (cVar 0)))) (bV (c2 oNe (cIsi .list (cVar 0)) (cIsi .list (cVar 1))))))
  (gRet (lf (cK (.bool false))))
  gNx)
  (gSeq (gIf (lfb (bV (c2 oNe (cN oLen (cCons (cVar 0) cNil)) (cN oLen (cCons (cVar 1) cNil)))))
  (gRet (lf (cK (.bool false))))
  gNx)
  (gRet (lf (c2 oEq (cLc [2] (iN rg1 (cCons (cN oLen (cCons (cVar 1) cNil)) cNil)) (bNm 2) (bNot (bT (cN mr (cCons (c2 oIx (cVar 0) (cVar 2)) (cCons (c2 oIx (cVar 1) (cVar 2)) cNil))))) (cVar 2)) (cLst cNil))))))
  gNx)
  (gSeq (gIf (lfb (bOr (bV (c2 oIs (cVar 1) (cK .none))) (bT (cIsi .str (cVar 1)))))
  (gRet (lf (cAnd (c2 oEq (cVar 0) (cVar 1)) (c2 oEq (cIsi .str (cVar 0)) (cIsi .str (cVar 1))))))
  gNx)
  (gRet (lf (cAnd (cIsi .int (cVar 0)) (cAnd (c2 oEq (cIsi .bool (cVar 0)) (cIsi .bool (cVar 1))) (c2 oEq (cVar 0) (cVar 1))))))))
def mm__law_alike : Nat → List D → Option D
  | 0 => fun _ => none
  | n + 1 => run 3 2 (gs__law_alike (mm__law_alike n))
theorem sc__law_alike : FnScope ["_law_found", "_law_due", "_law_k"] ["_law_found", "_law_due"] (defScope st__law_alike) := ⟨rfl, rfl, rfl, by decide +kernel, rfl, by decide +kernel, by decide +kernel⟩
theorem ok__law_alike {f : Addr} {fd : FuncData} (F : Fun K "_law_alike" "_law_alike" st__law_alike f fd) (T : Txt mg) (hm : mg "_law_alike" = some (.ref f)) (hb : Binds K fd ["_law_found", "_law_due"] []) : ∀ n, FnOk P w K mg base CX0 (0 + n) f fd ["_law_found", "_law_due"] (spP K (mm__law_alike n))
  | 0 => ok_none
  | n + 1 => by
    have cr : Cal P w K mg base (0 + n) "_law_alike" (spP K (mm__law_alike n)) := ⟨⟨f, fd, _, ok__law_alike F T  hm hb n, hm, F.kp, hb⟩⟩
    have S := sc__law_alike
    refine okP 3 2 F S rfl rfl (g := gs__law_alike (mm__law_alike n)) fun cdv A outer s H E z hr => ?_
    exact (s_cons (s_if (r_lfb (b_val (q_isi2 (q_var 1) (by rfl) T.bl_isinstance bt_isinstance (q_ty .tuple (by rfl) T.bl_tuple bt_tuple) (q_ty .list (by rfl) T.bl_list bt_list))))
  (s_cons (s_if (r_lfb ((b_or (b_not (b_val (q_isi2 (q_var 0) (by rfl) T.bl_isinstance bt_isinstance (q_ty .tuple (by rfl) T.bl_tuple bt_tuple) (q_ty .list (by rfl) T.bl_list bt_list)))) (b_or1 (b_cmp (op_neQ (hu64 hr)) w_ne (q_isi (q_var 0) (by rfl) T.bl_isinstance bt_isinstance (q_ty .list (by rfl) T.bl_list bt_list)) (q_isi (q_var 1) (by rfl) T.bl_isinstance bt_isinstance (q_ty .list (by rfl) T.bl_list bt_list)) (by rfl))))).pt)
  (s_one (s_ret (r_lf q_bl)))
  s_nil)
  (s_cons (s_if (r_lfb (b_cmp (op_neQ (hu64 hr)) w_ne (q_callB call_len w_len (by rfl) T.bl_len bt_len (q_cons (q_var 0) q_nil)) (q_callB call_len w_len (by rfl) T.bl_len bt_len (q_cons (q_var 1) q_nil)) (by rfl)))
  (s_one (s_ret (r_lf q_bl)))
  s_nil)
  (s_one (s_ret (r_lf (q_cmp (op_eqQ (hu64 hr)) w_eq (q_lc rfl S.nd (blkOk_by (own := [("_law_k", 2)]) (by kernel_rfl)) (i_range1 (by rfl) T.bl_range (q_cons (q_callB call_len w_len (by rfl) T.bl_len bt_len (q_cons (q_var 1) q_nil)) q_nil)) (fun _ _ _ _ _ => (g_nm 2 S.nd)) (fun _ _ _ _ _ => (t_one (b_not (b_val (q_call cr hr (Nat.le_refl _) (by rfl) (q_cons (q_ix ix_seq w_ix (q_var 0) (q_var 2)) (q_cons (q_ix ix_seq w_ix (q_var 1) (q_var 2)) q_nil))))))) (fun _ _ _ _ _ => (q_var 2))) (q_lst q_nil) (by rfl)))))))
  s_nil)
  (s_cons (s_if (r_lfb ((b_or (b_cmp op_isA w_is (q_var 1) q_non (by rfl)) (b_or1 (b_val (q_isi (q_var 1) (by rfl) T.bl_isinstance bt_isinstance (q_ty .str (by rfl) T.bl_str bt_str)))))).pt)
  (s_one (s_ret (r_lf (q_and (q_cmp (op_eqQ (hu64 hr)) w_eq (q_var 0) (q_var 1) (by rfl)) (q_one (q_cmp (op_eqQ (hu64 hr)) w_eq (q_isi (q_var 0) (by rfl) T.bl_isinstance bt_isinstance (q_ty .str (by rfl) T.bl_str bt_str)) (q_isi (q_var 1) (by rfl) T.bl_isinstance bt_isinstance (q_ty .str (by rfl) T.bl_str bt_str)) (by rfl)))))))
  s_nil)
  (s_one (s_ret (r_lf (q_and (q_isi (q_var 0) (by rfl) T.bl_isinstance bt_isinstance (q_ty .int (by rfl) T.bl_int bt_int)) (q_and (q_cmp (op_eqQ (hu64 hr)) w_eq (q_isi (q_var 0) (by rfl) T.bl_isinstance bt_isinstance (q_ty .bool (by rfl) T.bl_bool bt_bool)) (q_isi (q_var 1) (by rfl) T.bl_isinstance bt_isinstance (q_ty .bool (by rfl) T.bl_bool bt_bool)) (by rfl)) (q_one (q_cmp (op_eqQ (hu64 hr)) w_eq (q_var 0) (q_var 1) (by rfl))))))))))
abbrev st_is_in : Stmt := top 6
def gs_is_in : Gs :=
  (gRet (lf (cAnd (cIsi .int (cVar 0)) (cAnd (cNot (cIsi .bool (cVar 0))) (cChain oLe oLe (cVar 1) (cVar 0) (cVar 2))))))
def mm_is_in := run 3 3 gs_is_in
theorem sc_is_in : FnScope ["value", "least", "most"] ["value", "least", "most"] (defScope st_is_in) := ⟨rfl, rfl, rfl, by decide +kernel, rfl, by decide +kernel, by decide +kernel⟩
theorem ok_is_in {f : Addr} {fd : FuncData} (F : Fun K "is_in" "is_in" st_is_in f fd) (T : Txt mg) : FnOk P w K mg base CX0 1 f fd ["value", "least", "most"] (spP K mm_is_in) := by
  have S := sc_is_in
  refine okP 3 3 F S rfl rfl (g := gs_is_in) fun cdv A outer s H E z hr => ?_
  exact (s_one (s_ret (r_lf (q_and (q_isi (q_var 0) (by rfl) T.bl_isinstance bt_isinstance (q_ty .int (by rfl) T.bl_int bt_int)) (q_and (q_not (q_isi (q_var 0) (by rfl) T.bl_isinstance bt_isinstance (q_ty .bool (by rfl) T.bl_bool bt_bool))) (q_one (q_chain (op_leD (hu64 hr)) w_le (op_leD (hu64 hr)) w_le (q_var 1) (q_var 0) (q_var 2))))))))
abbrev st_is_weights : Stmt := top 13
def gs_is_weights : Gs :=
  (gSeq (gIf (lfb (bOr (bNot (bT (cIsi .tuple (cVar 0)))) (bNot (bV (cChain oLe oLe (cK (.int 2)) (cN oLen (cCons (cVar 0) cNil)) (cK (.int 8)))))))
  (gRet (lf (cK (.bool false))))
  gNx)
  (gRet (lf (cAnd (c2 oEq (cLc [1] (iS (cVar 0)) (bNm 1) (bNot (bT (cN mm_is_in (cCons (cVar 1) (cCons (cK (.int 0)) (cCons (cK (.int 100)) cNil)))))) (cVar 1)) (cLst cNil)) (c2 oGt (cN oSum (cCons (cVar 0) cNil)) (cK (.int 0)))))))
def mm_is_weights := run 2 1 gs_is_weights
theorem sc_is_weights : FnScope ["value", "one"] ["value"] (defScope st_is_weights) := ⟨rfl, rfl, rfl, by decide +kernel, rfl, by decide +kernel, by decide +kernel⟩
theorem ok_is_weights {f : Addr} {fd : FuncData} (F : Fun K "is_weights" "is_weights" st_is_weights f fd) (T : Txt mg) (c_is_in : Cal P w K mg base 1 "is_in" (spP K mm_is_in)) : FnOk P w K mg base CX0 2 f fd ["value"] (spP K mm_is_weights) := by
  have S := sc_is_weights
  refine okP 2 1 F S rfl rfl (g := gs_is_weights) fun cdv A outer s H E z hr => ?_
  exact (s_cons (s_if (r_lfb ((b_or (b_not (b_val (q_isi (q_var 0) (by rfl) T.bl_isinstance bt_isinstance (q_ty .tuple (by rfl) T.bl_tuple bt_tuple)))) (b_or1 (b_not (b_chain (op_leD (hu64 hr)) w_le (op_leD (hu64 hr)) w_le q_int (q_callB call_len w_len (by rfl) T.bl_len bt_len (q_cons (q_var 0) q_nil)) (q_glob (by rfl) T.gl_MOST_POINTS)))))).pt)
  (s_one (s_ret (r_lf q_bl)))
  s_nil)
  (s_one (s_ret (r_lf (q_and (q_cmp (op_eqQ (hu64 hr)) w_eq (q_lc rfl S.nd (blkOk_by (own := [("one", 1)]) (by kernel_rfl)) (i_seq (q_var 0)) (fun _ _ _ _ _ => (g_nm 1 S.nd)) (fun _ _ _ _ _ => (t_one (b_not (b_val (q_call c_is_in hr (by decide) (by rfl) (q_cons (q_var 1) (q_cons q_int (q_cons (q_glob (by rfl) T.gl_MOST_WEIGHT) q_nil)))))))) (fun _ _ _ _ _ => (q_var 1))) (q_lst q_nil) (by rfl)) (q_one (q_cmp (op_gtD (hu64 hr)) w_gt (q_callB (cr_sumA rfl) w_sum (by rfl) T.bl_sum bt_sum (q_cons (q_var 0) q_nil)) q_int (by rfl))))))))
abbrev st_is_road : Stmt := top 12
def gs_is_road : Gs :=
  (gSeq (gIf (lfb (bOr (bNot (bT (cIsi .tuple (cVar 0)))) (bV (c2 oNe (cN oLen (cCons (cVar 0) cNil)) (cK (.int 3))))))
  (gRet (lf (cK (.bool false))))
  gNx)
  (gSeq (gIf (lfb (bOr (bNot (bT (cN mm_is_in (cCons (c2 oIx (cVar 0) (cK (.int 0))) (cCons (cK (.int 0)) (cCons (c2 oSub (cVar 1) (cK (.int 1))) cNil)))))) (bNot (bT (cN mm_is_in (cCons (c2 oIx (cVar 0) (cK (.int 1))) (cCons (c2 oAdd (c2 oIx (cVar 0) (cK (.int 0))) (cK (.int 1))) (cCons (c2 oSub (cVar 1) (cK (.int 1))) cNil))))))))
  (gRet (lf (cK (.bool false))))
  gNx)
  (gRet (lf (cN mm_is_in (cCons (c2 oIx (cVar 0) (cK (.int 2))) (cCons (cK (.int 1)) (cCons (cK (.int 100)) cNil))))))))
def mm_is_road := run 2 2 gs_is_road
theorem sc_is_road : FnScope ["value", "count"] ["value", "count"] (defScope st_is_road) := ⟨rfl, rfl, rfl, by decide +kernel, rfl, by decide +kernel, by decide +kernel⟩
theorem ok_is_road {f : Addr} {fd : FuncData} (F : Fun K "is_road" "is_road" st_is_road f fd) (T : Txt mg) (c_is_in : Cal P w K mg base 1 "is_in" (spP K mm_is_in)) : FnOk P w K mg base CX0 2 f fd ["value", "count"] (spP K mm_is_road) := by
  have S := sc_is_road
  refine okP 2 2 F S rfl rfl (g := gs_is_road) fun cdv A outer s H E z hr => ?_
  exact (s_cons (s_if (r_lfb ((b_or (b_not (b_val (q_isi (q_var 0) (by rfl) T.bl_isinstance bt_isinstance (q_ty .tuple (by rfl) T.bl_tuple bt_tuple)))) (b_or1 (b_cmp (op_neQ (hu64 hr)) w_ne (q_callB call_len w_len (by rfl) T.bl_len bt_len (q_cons (q_var 0) q_nil)) q_int (by rfl))))).pt)
  (s_one (s_ret (r_lf q_bl)))
  s_nil)
  (s_cons (s_if (r_lfb ((b_or (b_not (b_val (q_call c_is_in hr (by decide) (by rfl) (q_cons (q_ix ix_seq w_ix (q_var 0) q_int) (q_cons q_int (q_cons (q_op op_sub w_sub (q_var 1) q_int) q_nil)))))) (b_or1 (b_not (b_val (q_call c_is_in hr (by decide) (by rfl) (q_cons (q_ix ix_seq w_ix (q_var 0) q_int) (q_cons (q_op op_addA w_add (q_ix ix_seq w_ix (q_var 0) q_int) q_int) (q_cons (q_op op_sub w_sub (q_var 1) q_int) q_nil))))))))).pt)
  (s_one (s_ret (r_lf q_bl)))
  s_nil)
  (s_one (s_ret (r_lf (q_call c_is_in hr (by decide) (by rfl) (q_cons (q_ix ix_seq w_ix (q_var 0) q_int) (q_cons q_int (q_cons (q_glob (by rfl) T.gl_MOST_LENGTH) q_nil)))))))))
abbrev st_parts_in : Stmt := top 17
def gs_parts_in : Gs :=
  (gSeq (gPar2 2 3 (wsh (lf (cN oList (cCons (cVar 0) cNil)))) (wN few (lfs cNil)))
  (gSeq (gWhile (lfb (bV (c2 oNe (cVar 2) (cLst cNil))))
  (gSeq (gPar2 4 5 (wN few (lfs (cCons (c2 oIx (cVar 2) (cK (.int 0))) cNil))) (wsh (lf (cK (.int 0)))))
  (gSeq (gWhile (lfb (bV (c2 oLt (cVar 5) (cBor (cN oLen (cCons (cVar 4) cNil))))))
  (gSeq (gFor (lfs (iS (cVar 1))) (bTp 3 (bCons (bNm 6) (bCons (bNm 7) (bCons (bNm 8) bNil))))
  (gFor (lfs (iS (cTup (cCons (cTup (cCons (cVar 6) (cCons (cVar 7) cNil))) (cCons (cTup (cCons (cVar 7) (cCons (cVar 6) cNil))) cNil))))) (bTp 2 (bCons (bNm 9) (bCons (bNm 10) bNil)))
  (gIf (lfb (bAnd (bV (c2 oEq (cVar 9) (cIxO 4 (cVar 5)))) (bAnd (bV (c2 oIn (cVar 10) (cVar 2))) (bBor (bV (c2 oNotIn (cVar 10) (cVar 4)))))))
  (gApp 4 (lf (cVar 10)))
  gNx)))
  (gAug 5 oAddI (lf (cK (.int 1))))) 400)
  (gSeq (gFz 4 (gApp 3 (lf (cN oTuple (cCons (cN oSortedA (cCons (cVar 4) cNil)) cNil)))))
  (gAsg (lf (cLc [11] (iS (cVar 2)) (bNm 11) (bV (c2 oNotIn (cVar 11) (cVar 4))) (cVar 11))) (bNm 2))))) 400)
  (gFz 3 (gRet (lf (cN oSortedA (cCons (cVar 3) cNil)))))))
def mm_parts_in := run 12 2 gs_parts_in
theorem sc_parts_in : FnScope ["points", "roads", "left", "found", "part", "at", "a", "b", "length", "one", "other", "x"] ["points", "roads"] (defScope st_parts_in) := ⟨rfl, rfl, rfl, by decide +kernel, rfl, by decide +kernel, by decide +kernel⟩
theorem ok_parts_in {f : Addr} {fd : FuncData} (F : Fun K "parts_in" "parts_in" st_parts_in f fd) (T : Txt mg) : FnOk P w K mg base CX0 1 f fd ["points", "roads"] (spP K mm_parts_in) := by
  have S := sc_parts_in
  refine okP 12 2 F S rfl rfl (g := gs_parts_in) fun cdv A outer s H E z hr => ?_
  exact (s_cons (s_par2 2 3 rfl S.nd (w_sh (r_lf (q_callTy call_list_of w_list (by rfl) T.bl_list bt_list (q_cons (q_var 0) q_nil)))) (w_lst (r_lfs q_nil)))
  (s_cons (s_while 400 (r_lfb (b_cmp (op_neQ (hu64 hr)) w_ne (q_var 2) (q_lst q_nil) (by rfl)))
  (s_cons (s_tup2 4 5 rfl S.nd (w_lst (r_lfs (q_cons (q_ix ix_seq w_ix (q_var 2) q_int) q_nil))) (w_sh (r_lf q_int)))
  (s_cons (s_while 400 (r_lfb (b_cmp (op_ltD (hu64 hr)) w_lt (q_var 5) (q_bor fun _ => (q_callB call_len w_len (by rfl) T.bl_len bt_len (q_cons (q_var 4) q_nil))) (by rfl)))
  (s_cons (s_for rfl (i_lf (i_seq (q_var 1))) (g_tup rfl (g_cons (g_nm 6 S.nd) (g_cons (g_nm 7 S.nd) (g_cons (g_nm 8 S.nd) g_nil))))
  (s_one (s_for rfl (i_lf (i_seq (q_tup (q_cons (q_tup (q_cons (q_var 6) (q_cons (q_var 7) q_nil))) (q_cons (q_tup (q_cons (q_var 7) (q_cons (q_var 6) q_nil))) q_nil))))) (g_tup rfl (g_cons (g_nm 9 S.nd) (g_cons (g_nm 10 S.nd) g_nil)))
  (s_one (s_if (r_lfb ((b_and (b_cmp (op_eqQ (hu64 hr)) w_eq (q_var 9) (q_ixO 4 (q_var 5)) (by rfl)) (b_and (b_cmp (op_inA (hu65 hr)) w_in (q_var 10) (q_var 2) (by rfl)) (b_and1 (b_bor fun _ => (b_cmp (op_notInA (hu65 hr)) w_notIn (q_var 10) (q_var 4) (by rfl))))))).pt)
  (s_one (s_app 4 (r_lf (q_var 10))))
  s_nil)) PassesOwn.never)) PassesOwn.never)
  (s_one (s_aug 5 iop_add w_addI S.nd (r_lf q_int)))) PassesOwn.never)
  (s_cons (s_fz 4 (s_app 3 (r_lf (q_callTy call_tuple_of w_tuple (by rfl) T.bl_tuple bt_tuple (q_cons (q_callB (cr_sortedA (hu64 hr)) w_sortedA (by rfl) T.bl_sorted bt_sorted (q_cons (q_var 4) q_nil)) q_nil)))))
  (s_one (s_lc 2 rfl S.nd (blkOk_by (own := [("x", 11)]) (by kernel_rfl)) (sw_true rfl rfl rfl (by rfl)) (i_seq (q_var 2)) (fun _ _ _ _ _ => (g_nm 11 S.nd)) (fun _ _ _ _ _ => (t_one (b_cmp (op_notInA (hu65 hr)) w_notIn (q_var 11) (q_var 4) (by rfl)))) (fun _ _ _ _ _ => (q_var 11))))))) PassesOwn.never)
  (s_one (s_fz 3 (s_ret (r_lf (q_callB (cr_sortedA (hu64 hr)) w_sortedA (by rfl) T.bl_sorted bt_sorted (q_cons (q_var 3) q_nil))))))))
abbrev st_need_web : Stmt := top 14
def gs_need_web : Gs :=
  (gSeq (gIf (lfb (bOr (bNot (bT (cIsi .tuple (cVar 0)))) (bOr (bV (c2 oNe (cN oLen (cCons (cVar 0) cNil)) (cK (.int 2)))) (bNot (bT (cN mm_is_weights (cCons (c2 oIx (cVar 0) (cK (.int 0))) cNil)))))))
  gNever
  gNx)
  (gSeq (gIf (lfb (bOr (bNot (bT (cIsi .tuple (c2 oIx (cVar 0) (cK (.int 1)))))) (bV (c2 oGt (cN oLen (cCons (c2 oIx (cVar 0) (cK (.int 1))) cNil)) (cK (.int 14))))))
  gNever
  gNx)
  (gSeq (gSetW 1 (wN few (lfs cNil)))
  (gSeq (gFor (lfs (iN en1 (cCons (c2 oIx (cVar 0) (cK (.int 1))) cNil))) (bTp 2 (bCons (bNm 2) (bCons (bNm 3) bNil)))
  (gSeq (gIf (lfb (bOr (bNot (bT (cN mm_is_road (cCons (cVar 3) (cCons (cN oLen (cCons (c2 oIx (cVar 0) (cK (.int 0))) cNil)) cNil))))) (bBor (bV (c2 oIn (cSl (cVar 3) cNoPart (cPart (cK (.int 2)))) (cVar 1))))))
  gNever
  gNx)
  (gApp 1 (lf (cSl (cVar 3) cNoPart (cPart (cK (.int 2))))))))
  (gIf (lfb (bV (c2 oGt (cN oLen (cCons (cN mm_parts_in (cCons (cListRg (cRg1 (cN oLen (cCons (c2 oIx (cVar 0) (cK (.int 0))) cNil)))) (cCons (c2 oIx (cVar 0) (cK (.int 1))) cNil))) cNil)) (cK (.int 1)))))
  gNever
  gNx)))))
def mm_need_web := run 4 1 gs_need_web
theorem sc_need_web : FnScope ["web", "pairs", "index", "one"] ["web"] (defScope st_need_web) := ⟨rfl, rfl, rfl, by decide +kernel, rfl, by decide +kernel, by decide +kernel⟩
theorem ok_need_web {f : Addr} {fd : FuncData} (F : Fun K "need_web" "need_web" st_need_web f fd) (T : Txt mg) (c_is_weights : Cal P w K mg base 2 "is_weights" (spP K mm_is_weights)) (c_is_road : Cal P w K mg base 2 "is_road" (spP K mm_is_road)) (c_parts_in : Cal P w K mg base 1 "parts_in" (spP K mm_parts_in)) : FnOk P w K mg base CX0 3 f fd ["web"] (spP K mm_need_web) := by
  have S := sc_need_web
  refine okP 4 1 F S rfl rfl (g := gs_need_web) fun cdv A outer s H E z hr => ?_
  exact (s_cons (s_if (r_lfb ((b_or (b_not (b_val (q_isi (q_var 0) (by rfl) T.bl_isinstance bt_isinstance (q_ty .tuple (by rfl) T.bl_tuple bt_tuple)))) (b_or (b_cmp (op_neQ (hu64 hr)) w_ne (q_callB call_len w_len (by rfl) T.bl_len bt_len (q_cons (q_var 0) q_nil)) q_int (by rfl)) (b_or1 (b_not (b_val (q_call c_is_weights hr (by decide) (by rfl) (q_cons (q_ix ix_seq w_ix (q_var 0) q_int) q_nil)))))))).pt)
  (s_one s_never)
  s_nil)
  (s_cons (s_if (r_lfb ((b_or (b_not (b_val (q_isi (q_ix ix_seq w_ix (q_var 0) q_int) (by rfl) T.bl_isinstance bt_isinstance (q_ty .tuple (by rfl) T.bl_tuple bt_tuple)))) (b_or1 (b_cmp (op_gtD (hu64 hr)) w_gt (q_callB call_len w_len (by rfl) T.bl_len bt_len (q_cons (q_ix ix_seq w_ix (q_var 0) q_int) q_nil)) (q_glob (by rfl) T.gl_MOST_ROADS) (by rfl))))).pt)
  (s_one s_never)
  s_nil)
  (s_cons (s_setW 1 S.nd (w_lst (r_lfs q_nil)))
  (s_cons (s_for rfl (i_lf (i_enum (by rfl) T.bl_enumerate (q_cons (q_ix ix_seq w_ix (q_var 0) q_int) q_nil))) (g_tup rfl (g_cons (g_nm 2 S.nd) (g_cons (g_nm 3 S.nd) g_nil)))
  (s_cons (s_if (r_lfb ((b_or (b_not (b_val (q_call c_is_road hr (by decide) (by rfl) (q_cons (q_var 3) (q_cons (q_callB call_len w_len (by rfl) T.bl_len bt_len (q_cons (q_ix ix_seq w_ix (q_var 0) q_int) q_nil)) q_nil))))) (b_or1 (b_bor fun _ => (b_cmp (op_inA (hu65 hr)) w_in (q_slice (q_var 3) q_nopart (q_part q_int)) (q_var 1) (by rfl)))))).pt)
  (s_one s_never)
  s_nil)
  (s_one (s_app 1 (r_lf (q_slice (q_var 3) q_nopart (q_part q_int)))))) PassesOwn.never)
  (s_one (s_if (r_lfb (b_cmp (op_gtD (hu64 hr)) w_gt (q_callB call_len w_len (by rfl) T.bl_len bt_len (q_cons (q_call c_parts_in hr (by decide) (by rfl) (q_cons (q_listRg rfl (by rfl) T.bl_list (q_rg1 (by rfl) T.bl_range (q_callB call_len w_len (by rfl) T.bl_len bt_len (q_cons (q_ix ix_seq w_ix (q_var 0) q_int) q_nil)))) (q_cons (q_ix ix_seq w_ix (q_var 0) q_int) q_nil))) q_nil)) q_int (by rfl)))
  (s_one s_never)
  s_nil))))))
abbrev st_need_tree : Stmt := top 16
def gs_need_tree : Gs :=
  (gSeq (gExpr (lf (cN mm_need_web (cCons (cVar 0) cNil))))
  (gIf (lfb (bV (c2 oNe (cN oLen (cCons (c2 oIx (cVar 0) (cK (.int 1))) cNil)) (c2 oSub (cN oLen (cCons (c2 oIx (cVar 0) (cK (.int 0))) cNil)) (cK (.int 1))))))
  gNever
  gNx))
def mm_need_tree := run 1 1 gs_need_tree
theorem sc_need_tree : FnScope ["web"] ["web"] (defScope st_need_tree) := ⟨rfl, rfl, rfl, by decide +kernel, rfl, by decide +kernel, by decide +kernel⟩
theorem ok_need_tree {f : Addr} {fd : FuncData} (F : Fun K "need_tree" "need_tree" st_need_tree f fd) (T : Txt mg) (c_need_web : Cal P w K mg base 3 "need_web" (spP K mm_need_web)) : FnOk P w K mg base CX0 4 f fd ["web"] (spP K mm_need_tree) := by
  have S := sc_need_tree
  refine okP 1 1 F S rfl rfl (g := gs_need_tree) fun cdv A outer s H E z hr => ?_
  exact (s_cons (s_expr (r_lf (q_call c_need_web hr (by decide) (by rfl) (q_cons (q_var 0) q_nil))))
  (s_one (s_if (r_lfb (b_cmp (op_neQ (hu64 hr)) w_ne (q_callB call_len w_len (by rfl) T.bl_len bt_len (q_cons (q_ix ix_seq w_ix (q_var 0) q_int) q_nil)) (q_op op_sub w_sub (q_callB call_len w_len (by rfl) T.bl_len bt_len (q_cons (q_ix ix_seq w_ix (q_var 0) q_int) q_nil)) q_int) (by rfl)))
  (s_one s_never)
  s_nil)))
abbrev st_need_point : Stmt := top 15
def gs_need_point : Gs :=
  (gIf (lfb (bNot (bT (cN mm_is_in (cCons (cVar 1) (cCons (cK (.int 0)) (cCons (c2 oSub (cN oLen (cCons (c2 oIx (cVar 0) (cK (.int 0))) cNil)) (cK (.int 1))) cNil)))))))
  gNever
  gNx)
def mm_need_point := run 2 2 gs_need_point
theorem sc_need_point : FnScope ["web", "point"] ["web", "point"] (defScope st_need_point) := ⟨rfl, rfl, rfl, by decide +kernel, rfl, by decide +kernel, by decide +kernel⟩
theorem ok_need_point {f : Addr} {fd : FuncData} (F : Fun K "need_point" "need_point" st_need_point f fd) (T : Txt mg) (c_is_in : Cal P w K mg base 1 "is_in" (spP K mm_is_in)) : FnOk P w K mg base CX0 2 f fd ["web", "point"] (spP K mm_need_point) := by
  have S := sc_need_point
  refine okP 2 2 F S rfl rfl (g := gs_need_point) fun cdv A outer s H E z hr => ?_
  exact (s_one (s_if (r_lfb (b_not (b_val (q_call c_is_in hr (by decide) (by rfl) (q_cons (q_var 1) (q_cons q_int (q_cons (q_op op_sub w_sub (q_callB call_len w_len (by rfl) T.bl_len bt_len (q_cons (q_ix ix_seq w_ix (q_var 0) q_int) q_nil)) q_int) q_nil)))))))
  (s_one s_never)
  s_nil))
abbrev st_need_ends : Stmt := top 25
def gs_need_ends : Gs :=
  (gSeq (gExpr (lf (cN mm_need_tree (cCons (cVar 0) cNil))))
  (gSeq (gExpr (lf (cN mm_need_point (cCons (cVar 0) (cCons (cVar 1) cNil)))))
  (gExpr (lf (cN mm_need_point (cCons (cVar 0) (cCons (cVar 2) cNil)))))))
def mm_need_ends := run 3 3 gs_need_ends
theorem sc_need_ends : FnScope ["tree", "a", "b"] ["tree", "a", "b"] (defScope st_need_ends) := ⟨rfl, rfl, rfl, by decide +kernel, rfl, by decide +kernel, by decide +kernel⟩
theorem ok_need_ends {f : Addr} {fd : FuncData} (F : Fun K "need_ends" "need_ends" st_need_ends f fd) (T : Txt mg) (c_need_tree : Cal P w K mg base 4 "need_tree" (spP K mm_need_tree)) (c_need_point : Cal P w K mg base 2 "need_point" (spP K mm_need_point)) : FnOk P w K mg base CX0 5 f fd ["tree", "a", "b"] (spP K mm_need_ends) := by
  have S := sc_need_ends
  refine okP 3 3 F S rfl rfl (g := gs_need_ends) fun cdv A outer s H E z hr => ?_
  exact (s_cons (s_expr (r_lf (q_call c_need_tree hr (by decide) (by rfl) (q_cons (q_var 0) q_nil))))
  (s_cons (s_expr (r_lf (q_call c_need_point hr (by decide) (by rfl) (q_cons (q_var 0) (q_cons (q_var 1) q_nil)))))
  (s_one (s_expr (r_lf (q_call c_need_point hr (by decide) (by rfl) (q_cons (q_var 0) (q_cons (q_var 2) q_nil))))))))
abbrev st_near_in : Stmt := top 22
def gs_near_in : Gs :=
  (gRet (lf (cLc [2] (iS (cVar 0)) (bNm 2) bYes (cN oMin (cCons (cLc [3] (iS (cVar 1)) (bNm 3) bYes (c2 oIx (cVar 2) (cVar 3))) cNil)))))
def mm_near_in := run 4 2 gs_near_in
theorem sc_near_in : FnScope ["rows", "houses", "row", "x"] ["rows", "houses"] (defScope st_near_in) := ⟨rfl, rfl, rfl, by decide +kernel, rfl, by decide +kernel, by decide +kernel⟩
theorem ok_near_in {f : Addr} {fd : FuncData} (F : Fun K "near_in" "near_in" st_near_in f fd) (T : Txt mg) : FnOk P w K mg base CX0 1 f fd ["rows", "houses"] (spP K mm_near_in) := by
  have S := sc_near_in
  refine okP 4 2 F S rfl rfl (g := gs_near_in) fun cdv A outer s H E z hr => ?_
  exact (s_one (s_ret (r_lf (q_lc rfl S.nd (blkOk_by (own := [("row", 2)]) (by kernel_rfl)) (i_seq (q_var 0)) (fun _ _ _ _ _ => (g_nm 2 S.nd)) (fun _ _ _ _ _ => t_nil) (fun _ _ _ _ _ => (q_callB (cr_minA rfl (hu64 hr)) w_min (by rfl) T.bl_min bt_min (q_cons (q_lc rfl S.nd (blkOk_by (own := [("x", 3)]) (by kernel_rfl)) (i_seq (q_var 1)) (fun _ _ _ _ _ => (g_nm 3 S.nd)) (fun _ _ _ _ _ => t_nil) (fun _ _ _ _ _ => (q_ix ix_seq w_ix (q_var 2) (q_var 3)))) q_nil)))))))
abbrev st_sum_in : Stmt := top 23
def gs_sum_in : Gs :=
  (gRet (lf (cN oSum (cCons (cLc [3, 4] (iN zp2 (cCons (cVar 0) (cCons (cN mm_near_in (cCons (cVar 1) (cCons (cVar 2) cNil))) cNil))) (bTp 2 (bCons (bNm 3) (bCons (bNm 4) bNil))) bYes (c2 oMul (cVar 3) (cVar 4))) cNil))))
def mm_sum_in := run 5 3 gs_sum_in
theorem sc_sum_in : FnScope ["weights", "rows", "houses", "one", "far"] ["weights", "rows", "houses"] (defScope st_sum_in) := ⟨rfl, rfl, rfl, by decide +kernel, rfl, by decide +kernel, by decide +kernel⟩
theorem ok_sum_in {f : Addr} {fd : FuncData} (F : Fun K "sum_in" "sum_in" st_sum_in f fd) (T : Txt mg) (c_near_in : Cal P w K mg base 1 "near_in" (spP K mm_near_in)) : FnOk P w K mg base CX0 2 f fd ["weights", "rows", "houses"] (spP K mm_sum_in) := by
  have S := sc_sum_in
  refine okP 5 3 F S rfl rfl (g := gs_sum_in) fun cdv A outer s H E z hr => ?_
  exact (s_one (s_ret (r_lf (q_callB (cr_sumA rfl) w_sum (by rfl) T.bl_sum bt_sum (q_cons (q_lc rfl S.nd (blkOk_by (own := [("one", 3), ("far", 4)]) (by kernel_rfl)) (i_zip (by rfl) T.bl_zip (q_cons (q_var 0) (q_cons (q_call c_near_in hr (by decide) (by rfl) (q_cons (q_var 1) (q_cons (q_var 2) q_nil))) q_nil))) (fun _ _ _ _ _ => (g_tup rfl (g_cons (g_nm 3 S.nd) (g_cons (g_nm 4 S.nd) g_nil)))) (fun _ _ _ _ _ => t_nil) (fun _ _ _ _ _ => (q_op op_mulA w_mul (q_var 3) (q_var 4)))) q_nil)))))
abbrev st_steps_from : Stmt := top 19
def gs_steps_from : Gs :=
  (gSeq (gSetW 2 (wN few (lfs cNil)))
  (gSeq (gFor (lfs (iS (c2 oIx (cVar 0) (cK (.int 1))))) (bTp 3 (bCons (bNm 3) (bCons (bNm 4) (bCons (bNm 5) bNil))))
  (gSeq (gIf (lfb (bV (c2 oEq (cVar 3) (cVar 1))))
  (gApp 2 (lf (cTup (cCons (cVar 4) (cCons (cVar 5) cNil)))))
  gNx)
  (gIf (lfb (bV (c2 oEq (cVar 4) (cVar 1))))
  (gApp 2 (lf (cTup (cCons (cVar 3) (cCons (cVar 5) cNil)))))
  gNx)))
  (gFz 2 (gRet (lf (cN oSortedA (cCons (cVar 2) cNil)))))))
def mm_steps_from := run 6 2 gs_steps_from
theorem sc_steps_from : FnScope ["web", "point", "found", "a", "b", "length"] ["web", "point"] (defScope st_steps_from) := ⟨rfl, rfl, rfl, by decide +kernel, rfl, by decide +kernel, by decide +kernel⟩
theorem ok_steps_from {f : Addr} {fd : FuncData} (F : Fun K "steps_from" "steps_from" st_steps_from f fd) (T : Txt mg) : FnOk P w K mg base CX0 1 f fd ["web", "point"] (spP K mm_steps_from) := by
  have S := sc_steps_from
  refine okP 6 2 F S rfl rfl (g := gs_steps_from) fun cdv A outer s H E z hr => ?_
  exact (s_cons (s_setW 2 S.nd (w_lst (r_lfs q_nil)))
  (s_cons (s_for rfl (i_lf (i_seq (q_ix ix_seq w_ix (q_var 0) q_int))) (g_tup rfl (g_cons (g_nm 3 S.nd) (g_cons (g_nm 4 S.nd) (g_cons (g_nm 5 S.nd) g_nil))))
  (s_cons (s_if (r_lfb (b_cmp (op_eqQ (hu64 hr)) w_eq (q_var 3) (q_var 1) (by rfl)))
  (s_one (s_app 2 (r_lf (q_tup (q_cons (q_var 4) (q_cons (q_var 5) q_nil))))))
  s_nil)
  (s_one (s_if (r_lfb (b_cmp (op_eqQ (hu64 hr)) w_eq (q_var 4) (q_var 1) (by rfl)))
  (s_one (s_app 2 (r_lf (q_tup (q_cons (q_var 3) (q_cons (q_var 5) q_nil))))))
  s_nil))) PassesOwn.never)
  (s_one (s_fz 2 (s_ret (r_lf (q_callB (cr_sortedA (hu64 hr)) w_sortedA (by rfl) T.bl_sorted bt_sorted (q_cons (q_var 2) q_nil))))))))
abbrev st_way_in : Stmt := top 20
def gs_way_in : Gs :=
  (gSeq (gSetW 4 (wN few (lfs (cCons (cVar 2) cNil))))
  (gSeq (gWhile (lfb (bV (c2 oNe (cIxO 4 (c1 oNeg (cK (.int 1)))) (cVar 3))))
  (gSeq (gAsg (lf (cIxO 4 (c1 oNeg (cK (.int 1))))) (bNm 5))
  (gSeq (gAsg (lf (cLc [7, 8] (iS (cN mm_steps_from (cCons (cVar 0) (cCons (cVar 5) cNil)))) (bTp 2 (bCons (bNm 7) (bCons (bNm 8) bNil))) (bV (c2 oEq (c2 oAdd (cVar 8) (c2 oIx (c2 oIx (cVar 1) (cVar 7)) (cVar 3))) (c2 oIx (c2 oIx (cVar 1) (cVar 5)) (cVar 3)))) (cVar 7))) (bNm 6))
  (gApp 4 (lf (c2 oIx (cVar 6) (cK (.int 0))))))) 400)
  (gFz 4 (gRet (lf (cN oTuple (cCons (cVar 4) cNil)))))))
def mm_way_in := run 9 4 gs_way_in
theorem sc_way_in : FnScope ["web", "rows", "a", "b", "found", "here", "ahead", "x", "length"] ["web", "rows", "a", "b"] (defScope st_way_in) := ⟨rfl, rfl, rfl, by decide +kernel, rfl, by decide +kernel, by decide +kernel⟩
theorem ok_way_in {f : Addr} {fd : FuncData} (F : Fun K "way_in" "way_in" st_way_in f fd) (T : Txt mg) (c_steps_from : Cal P w K mg base 1 "steps_from" (spP K mm_steps_from)) : FnOk P w K mg base CX0 2 f fd ["web", "rows", "a", "b"] (spP K mm_way_in) := by
  have S := sc_way_in
  refine okP 9 4 F S rfl rfl (g := gs_way_in) fun cdv A outer s H E z hr => ?_
  exact (s_cons (s_setW 4 S.nd (w_lst (r_lfs (q_cons (q_var 2) q_nil))))
  (s_cons (s_while 400 (r_lfb (b_cmp (op_neQ (hu64 hr)) w_ne (q_ixO 4 (q_un un_neg w_neg q_int)) (q_var 3) (by rfl)))
  (s_cons (s_set 5 S.nd (r_lf (q_ixO 4 (q_un un_neg w_neg q_int))))
  (s_cons (s_lc 6 rfl S.nd (blkOk_by (own := [("x", 7), ("length", 8)]) (by kernel_rfl)) (sw_true rfl rfl rfl (by rfl)) (i_seq (q_call c_steps_from hr (by decide) (by rfl) (q_cons (q_var 0) (q_cons (q_var 5) q_nil)))) (fun _ _ _ _ _ => (g_tup rfl (g_cons (g_nm 7 S.nd) (g_cons (g_nm 8 S.nd) g_nil)))) (fun _ _ _ _ _ => (t_one (b_cmp (op_eqQ (hu64 hr)) w_eq (q_op op_addA w_add (q_var 8) (q_ix ix_seq w_ix (q_ix ix_seq w_ix (q_var 1) (q_var 7)) (q_var 3))) (q_ix ix_seq w_ix (q_ix ix_seq w_ix (q_var 1) (q_var 5)) (q_var 3)) (by rfl)))) (fun _ _ _ _ _ => (q_var 7)))
  (s_one (s_app 4 (r_lf (q_ix ix_seq w_ix (q_var 6) q_int)))))) PassesOwn.never)
  (s_one (s_fz 4 (s_ret (r_lf (q_callTy call_tuple_of w_tuple (by rfl) T.bl_tuple bt_tuple (q_cons (q_var 4) q_nil))))))))
abbrev st_sum_on : Stmt := top 26
def gs_sum_on : Gs :=
  (gRet (lf (cN mm_sum_in (cCons (c2 oIx (cVar 0) (cK (.int 0))) (cCons (cVar 1) (cCons (cN mm_way_in (cCons (cVar 0) (cCons (cVar 1) (cCons (cVar 2) (cCons (cVar 3) cNil))))) cNil))))))
def mm_sum_on := run 4 4 gs_sum_on
theorem sc_sum_on : FnScope ["tree", "rows", "a", "b"] ["tree", "rows", "a", "b"] (defScope st_sum_on) := ⟨rfl, rfl, rfl, by decide +kernel, rfl, by decide +kernel, by decide +kernel⟩
theorem ok_sum_on {f : Addr} {fd : FuncData} (F : Fun K "sum_on" "sum_on" st_sum_on f fd) (T : Txt mg) (c_sum_in : Cal P w K mg base 2 "sum_in" (spP K mm_sum_in)) (c_way_in : Cal P w K mg base 2 "way_in" (spP K mm_way_in)) : FnOk P w K mg base CX0 3 f fd ["tree", "rows", "a", "b"] (spP K mm_sum_on) := by
  have S := sc_sum_on
  refine okP 4 4 F S rfl rfl (g := gs_sum_on) fun cdv A outer s H E z hr => ?_
  exact (s_one (s_ret (r_lf (q_call c_sum_in hr (by decide) (by rfl) (q_cons (q_ix ix_seq w_ix (q_var 0) q_int) (q_cons (q_var 1) (q_cons (q_call c_way_in hr (by decide) (by rfl) (q_cons (q_var 0) (q_cons (q_var 1) (q_cons (q_var 2) (q_cons (q_var 3) q_nil))))) q_nil)))))))
abbrev st_table_of : Stmt := top 18
def gs_table_of : Gs :=
  (gSeq (gAsg (lf (cN oLen (cCons (c2 oIx (cVar 0) (cK (.int 0))) cNil))) (bNm 1))
  (gSeq (gAsg (lf (c2 oAdd (cK (.int 1)) (cN oSum (cCons (cLc [4, 5, 6] (iS (c2 oIx (cVar 0) (cK (.int 1)))) (bTp 3 (bCons (bNm 4) (bCons (bNm 5) (bCons (bNm 6) bNil)))) bYes (cVar 6)) cNil)))) (bNm 2))
  (gSeq (gSetW 3 (wLc2 [8] (lfs (iN rg1 (cCons (cVar 1) cNil))) (bNm 8) (wLc [9] (lfs (iN rg1 (cCons (cVar 1) cNil))) (bNm 9) bYesR (lf (cIf (bV (c2 oEq (cVar 8) (cVar 9))) (cK (.int 0)) (cVar 2))))))
  (gSeq (gFor (lfs (iS (c2 oIx (cVar 0) (cK (.int 1))))) (bTp 3 (bCons (bNm 4) (bCons (bNm 5) (bCons (bNm 6) bNil))))
  (gSeq (gSetI2 3 (lf (cVar 6)) (cVar 4) (cVar 5))
  (gSetI2 3 (lf (cVar 6)) (cVar 5) (cVar 4))))
  (gSeq (gFor (lfs (iN rg1 (cCons (cVar 1) cNil))) (bNm 7)
  (gFor (lfs (iN rg1 (cCons (cVar 1) cNil))) (bNm 8)
  (gFor (lfs (iN rg1 (cCons (cVar 1) cNil))) (bNm 9)
  (gSetI2 3 (lf (cN oMin (cCons (cBor (c2 oIx (c2 oIx (cVar 3) (cVar 8)) (cVar 9))) (cCons (c2 oAdd (cBor (c2 oIx (c2 oIx (cVar 3) (cVar 8)) (cVar 7))) (cBor (c2 oIx (c2 oIx (cVar 3) (cVar 7)) (cVar 9)))) cNil)))) (cVar 8) (cVar 9)))))
  (gFz 3 (gRet (lf (cVar 3)))))))))
def mm_table_of := run 10 1 gs_table_of
theorem sc_table_of : FnScope ["web", "count", "far", "rows", "a", "b", "length", "k", "i", "j"] ["web"] (defScope st_table_of) := ⟨rfl, rfl, rfl, by decide +kernel, rfl, by decide +kernel, by decide +kernel⟩
theorem ok_table_of {f : Addr} {fd : FuncData} (F : Fun K "table_of" "table_of" st_table_of f fd) (T : Txt mg) : FnOk P w K mg base CX0 1 f fd ["web"] (spP K mm_table_of) := by
  have S := sc_table_of
  refine okP 10 1 F S rfl rfl (g := gs_table_of) fun cdv A outer s H E z hr => ?_
  exact (s_cons (s_set 1 S.nd (r_lf (q_callB call_len w_len (by rfl) T.bl_len bt_len (q_cons (q_ix ix_seq w_ix (q_var 0) q_int) q_nil))))
  (s_cons (s_set 2 S.nd (r_lf (q_op op_addA w_add q_int (q_callB (cr_sumA rfl) w_sum (by rfl) T.bl_sum bt_sum (q_cons (q_lc rfl S.nd (blkOk_by (own := [("a", 4), ("b", 5), ("length", 6)]) (by kernel_rfl)) (i_seq (q_ix ix_seq w_ix (q_var 0) q_int)) (fun _ _ _ _ _ => (g_tup rfl (g_cons (g_nm 4 S.nd) (g_cons (g_nm 5 S.nd) (g_cons (g_nm 6 S.nd) g_nil))))) (fun _ _ _ _ _ => t_nil) (fun _ _ _ _ _ => (q_var 6))) q_nil)))))
  (s_cons (s_lcW2 3 rfl S.nd (blkOk_by (own := [("i", 8)]) (by kernel_rfl)) (sw_true rfl rfl rfl (by rfl)) (i_lf (i_range1 (by rfl) T.bl_range (q_cons (q_var 1) q_nil))) (fun _ _ _ _ _ => (g_nm 8 S.nd)) (fun _ _ _ _ _ => (w_lc rfl S.nd (blkOk_by (own := [("j", 9)]) (by kernel_rfl)) (i_lf (i_range1 (by rfl) T.bl_range (q_cons (q_var 1) q_nil))) (fun _ _ _ _ _ => (g_nm 9 S.nd)) (fun _ _ _ _ _ => t_nilR) (fun _ _ _ _ _ => (r_lf (q_if (b_cmp (op_eqQ (hu64 hr)) w_eq (q_var 8) (q_var 9) (by rfl)) q_int (q_var 2)))))))
  (s_cons (s_for rfl (i_lf (i_seq (q_ix ix_seq w_ix (q_var 0) q_int))) (g_tup rfl (g_cons (g_nm 4 S.nd) (g_cons (g_nm 5 S.nd) (g_cons (g_nm 6 S.nd) g_nil))))
  (s_cons (s_setI2 3 (r_lf (q_var 6)) (q_var 4) (q_var 5))
  (s_one (s_setI2 3 (r_lf (q_var 6)) (q_var 5) (q_var 4)))) PassesOwn.never)
  (s_cons (s_for rfl (i_lf (i_range1 (by rfl) T.bl_range (q_cons (q_var 1) q_nil))) (g_nm 7 S.nd)
  (s_one (s_for rfl (i_lf (i_range1 (by rfl) T.bl_range (q_cons (q_var 1) q_nil))) (g_nm 8 S.nd)
  (s_one (s_for rfl (i_lf (i_range1 (by rfl) T.bl_range (q_cons (q_var 1) q_nil))) (g_nm 9 S.nd)
  (s_one (s_setI2 3 (r_lf (q_callB (cr_minA rfl (hu64 hr)) w_min (by rfl) T.bl_min bt_min (q_cons (q_bor fun _ => (q_ix ix_seq w_ix (q_ix ix_seq w_ix (q_var 3) (q_var 8)) (q_var 9))) (q_cons (q_op op_addA w_add (q_bor fun _ => (q_ix ix_seq w_ix (q_ix ix_seq w_ix (q_var 3) (q_var 8)) (q_var 7))) (q_bor fun _ => (q_ix ix_seq w_ix (q_ix ix_seq w_ix (q_var 3) (q_var 7)) (q_var 9)))) q_nil)))) (q_var 8) (q_var 9))) PassesOwn.never)) PassesOwn.never)) PassesOwn.never)
  (s_one (s_fz 3 (s_ret (r_lf (q_var 3))))))))))
abbrev st_way_sum : Stmt := top 28
def gs_way_sum : Gs :=
  (gSeq (gExpr (lf (cN mm_need_ends (cCons (cVar 0) (cCons (cVar 1) (cCons (cVar 2) cNil))))))
  (gRet (lf (cN mm_sum_on (cCons (cVar 0) (cCons (cN mm_table_of (cCons (cVar 0) cNil)) (cCons (cVar 1) (cCons (cVar 2) cNil))))))))
def mm_way_sum := run 3 3 gs_way_sum
theorem sc_way_sum : FnScope ["tree", "a", "b"] ["tree", "a", "b"] (defScope st_way_sum) := ⟨rfl, rfl, rfl, by decide +kernel, rfl, by decide +kernel, by decide +kernel⟩
theorem ok_way_sum {f : Addr} {fd : FuncData} (F : Fun K "way_sum" "way_sum" st_way_sum f fd) (T : Txt mg) (c_need_ends : Cal P w K mg base 5 "need_ends" (spP K mm_need_ends)) (c_sum_on : Cal P w K mg base 3 "sum_on" (spP K mm_sum_on)) (c_table_of : Cal P w K mg base 1 "table_of" (spP K mm_table_of)) : FnOk P w K mg base CX0 6 f fd ["tree", "a", "b"] (spP K mm_way_sum) := by
  have S := sc_way_sum
  refine okP 3 3 F S rfl rfl (g := gs_way_sum) fun cdv A outer s H E z hr => ?_
  exact (s_cons (s_expr (r_lf (q_call c_need_ends hr (by decide) (by rfl) (q_cons (q_var 0) (q_cons (q_var 1) (q_cons (q_var 2) q_nil))))))
  (s_one (s_ret (r_lf (q_call c_sum_on hr (by decide) (by rfl) (q_cons (q_var 0) (q_cons (q_call c_table_of hr (by decide) (by rfl) (q_cons (q_var 0) q_nil)) (q_cons (q_var 1) (q_cons (q_var 2) q_nil)))))))))
abbrev st_reach_on : Stmt := top 27
def gs_reach_on : Gs :=
  (gRet (lf (cN oMax (cCons (cN mm_near_in (cCons (cVar 1) (cCons (cN mm_way_in (cCons (cVar 0) (cCons (cVar 1) (cCons (cVar 2) (cCons (cVar 3) cNil))))) cNil))) cNil))))
def mm_reach_on := run 4 4 gs_reach_on
theorem sc_reach_on : FnScope ["tree", "rows", "a", "b"] ["tree", "rows", "a", "b"] (defScope st_reach_on) := ⟨rfl, rfl, rfl, by decide +kernel, rfl, by decide +kernel, by decide +kernel⟩
theorem ok_reach_on {f : Addr} {fd : FuncData} (F : Fun K "reach_on" "reach_on" st_reach_on f fd) (T : Txt mg) (c_near_in : Cal P w K mg base 1 "near_in" (spP K mm_near_in)) (c_way_in : Cal P w K mg base 2 "way_in" (spP K mm_way_in)) : FnOk P w K mg base CX0 3 f fd ["tree", "rows", "a", "b"] (spP K mm_reach_on) := by
  have S := sc_reach_on
  refine okP 4 4 F S rfl rfl (g := gs_reach_on) fun cdv A outer s H E z hr => ?_
  exact (s_one (s_ret (r_lf (q_callB (cr_maxA rfl (hu64 hr)) w_max (by rfl) T.bl_max bt_max (q_cons (q_call c_near_in hr (by decide) (by rfl) (q_cons (q_var 1) (q_cons (q_call c_way_in hr (by decide) (by rfl) (q_cons (q_var 0) (q_cons (q_var 1) (q_cons (q_var 2) (q_cons (q_var 3) q_nil))))) q_nil))) q_nil)))))
abbrev st_way_reach : Stmt := top 29
def gs_way_reach : Gs :=
  (gSeq (gExpr (lf (cN mm_need_ends (cCons (cVar 0) (cCons (cVar 1) (cCons (cVar 2) cNil))))))
  (gRet (lf (cN mm_reach_on (cCons (cVar 0) (cCons (cN mm_table_of (cCons (cVar 0) cNil)) (cCons (cVar 1) (cCons (cVar 2) cNil))))))))
def mm_way_reach := run 3 3 gs_way_reach
theorem sc_way_reach : FnScope ["tree", "a", "b"] ["tree", "a", "b"] (defScope st_way_reach) := ⟨rfl, rfl, rfl, by decide +kernel, rfl, by decide +kernel, by decide +kernel⟩
theorem ok_way_reach {f : Addr} {fd : FuncData} (F : Fun K "way_reach" "way_reach" st_way_reach f fd) (T : Txt mg) (c_need_ends : Cal P w K mg base 5 "need_ends" (spP K mm_need_ends)) (c_reach_on : Cal P w K mg base 3 "reach_on" (spP K mm_reach_on)) (c_table_of : Cal P w K mg base 1 "table_of" (spP K mm_table_of)) : FnOk P w K mg base CX0 6 f fd ["tree", "a", "b"] (spP K mm_way_reach) := by
  have S := sc_way_reach
  refine okP 3 3 F S rfl rfl (g := gs_way_reach) fun cdv A outer s H E z hr => ?_
  exact (s_cons (s_expr (r_lf (q_call c_need_ends hr (by decide) (by rfl) (q_cons (q_var 0) (q_cons (q_var 1) (q_cons (q_var 2) q_nil))))))
  (s_one (s_ret (r_lf (q_call c_reach_on hr (by decide) (by rfl) (q_cons (q_var 0) (q_cons (q_call c_table_of hr (by decide) (by rfl) (q_cons (q_var 0) q_nil)) (q_cons (q_var 1) (q_cons (q_var 2) q_nil)))))))))
abbrev st_all_ends : Stmt := top 30
def gs_all_ends : Gs :=
  (gSeq (gAsg (lf (cN oLen (cCons (c2 oIx (cVar 0) (cK (.int 0))) cNil))) (bNm 1))
  (gRet (lf (cLc2 [2, 3] [3] (iN rg1 (cCons (cVar 1) cNil)) (bNm 2) bYes (iN rg2 (cCons (cVar 2) (cCons (cVar 1) cNil))) (bNm 3) bYes (cTup (cCons (cVar 2) (cCons (cVar 3) cNil)))))))
def mm_all_ends := run 4 1 gs_all_ends
theorem sc_all_ends : FnScope ["tree", "count", "a", "b"] ["tree"] (defScope st_all_ends) := ⟨rfl, rfl, rfl, by decide +kernel, rfl, by decide +kernel, by decide +kernel⟩
theorem ok_all_ends {f : Addr} {fd : FuncData} (F : Fun K "all_ends" "all_ends" st_all_ends f fd) (T : Txt mg) : FnOk P w K mg base CX0 1 f fd ["tree"] (spP K mm_all_ends) := by
  have S := sc_all_ends
  refine okP 4 1 F S rfl rfl (g := gs_all_ends) fun cdv A outer s H E z hr => ?_
  exact (s_cons (s_set 1 S.nd (r_lf (q_callB call_len w_len (by rfl) T.bl_len bt_len (q_cons (q_ix ix_seq w_ix (q_var 0) q_int) q_nil))))
  (s_one (s_ret (r_lf (q_lc2 (vs1 := [3]) rfl S.nd (blkOk_by (own := [("a", 2), ("b", 3)]) (by kernel_rfl)) (by decide) (i_range1 (by rfl) T.bl_range (q_cons (q_var 1) q_nil)) (fun _ _ _ _ _ => (g_nm 2 S.nd)) (fun _ _ _ _ _ => t_nil) (fun _ _ _ _ _ => (i_range2 (by rfl) T.bl_range (q_cons (q_var 2) (q_cons (q_var 1) q_nil)))) (fun _ _ _ _ _ => (g_nm 3 S.nd)) (fun _ _ _ _ _ => t_nil) (fun _ _ _ _ _ => (q_tup (q_cons (q_var 2) (q_cons (q_var 3) q_nil)))))))))
abbrev st_core : Stmt := top 31
def gs_core : Gs :=
  (gSeq (gExpr (lf (cN mm_need_tree (cCons (cVar 0) cNil))))
  (gSeq (gAsg (lf (cN mm_table_of (cCons (cVar 0) cNil))) (bNm 1))
  (gRet (lf (cN oMin (cCons (cLc [2, 3] (iS (cN mm_all_ends (cCons (cVar 0) cNil))) (bTp 2 (bCons (bNm 2) (bCons (bNm 3) bNil))) bYes (cTup (cCons (cN mm_sum_on (cCons (cVar 0) (cCons (cVar 1) (cCons (cVar 2) (cCons (cVar 3) cNil))))) (cCons (cTup (cCons (cVar 2) (cCons (cVar 3) cNil))) cNil)))) cNil))))))
def mm_core := run 4 1 gs_core
theorem sc_core : FnScope ["tree", "rows", "a", "b"] ["tree"] (defScope st_core) := ⟨rfl, rfl, rfl, by decide +kernel, rfl, by decide +kernel, by decide +kernel⟩
theorem ok_core {f : Addr} {fd : FuncData} (F : Fun K "core" "core" st_core f fd) (T : Txt mg) (c_need_tree : Cal P w K mg base 4 "need_tree" (spP K mm_need_tree)) (c_table_of : Cal P w K mg base 1 "table_of" (spP K mm_table_of)) (c_all_ends : Cal P w K mg base 1 "all_ends" (spP K mm_all_ends)) (c_sum_on : Cal P w K mg base 3 "sum_on" (spP K mm_sum_on)) : FnOk P w K mg base CX0 5 f fd ["tree"] (spP K mm_core) := by
  have S := sc_core
  refine okP 4 1 F S rfl rfl (g := gs_core) fun cdv A outer s H E z hr => ?_
  exact (s_cons (s_expr (r_lf (q_call c_need_tree hr (by decide) (by rfl) (q_cons (q_var 0) q_nil))))
  (s_cons (s_set 1 S.nd (r_lf (q_call c_table_of hr (by decide) (by rfl) (q_cons (q_var 0) q_nil))))
  (s_one (s_ret (r_lf (q_callB (cr_minA rfl (hu64 hr)) w_min (by rfl) T.bl_min bt_min (q_cons (q_lc rfl S.nd (blkOk_by (own := [("a", 2), ("b", 3)]) (by kernel_rfl)) (i_seq (q_call c_all_ends hr (by decide) (by rfl) (q_cons (q_var 0) q_nil))) (fun _ _ _ _ _ => (g_tup rfl (g_cons (g_nm 2 S.nd) (g_cons (g_nm 3 S.nd) g_nil)))) (fun _ _ _ _ _ => t_nil) (fun _ _ _ _ _ => (q_tup (q_cons (q_call c_sum_on hr (by decide) (by rfl) (q_cons (q_var 0) (q_cons (q_var 1) (q_cons (q_var 2) (q_cons (q_var 3) q_nil))))) (q_cons (q_tup (q_cons (q_var 2) (q_cons (q_var 3) q_nil))) q_nil))))) q_nil)))))))
abbrev st__law_couples : Stmt := top 43
def gs__law_couples : Gs :=
  (gSeq (gAsg (lf (cLst cNil)) (bNm 1))
  (gSeq (gFor (lfs (iN rg1 (cCons (cN oLen (cCons (cVar 0) cNil)) cNil))) (bNm 2)
  (gAsg (lf (c2 oAdd (cVar 1) (cLc [3] (iN rg1 (cCons (cVar 2) cNil)) (bNm 3) bYes (cTup (cCons (c2 oIx (cVar 0) (cVar 3)) (cCons (c2 oIx (cVar 0) (cVar 2)) cNil)))))) (bNm 1)))
  (gRet (lf (cVar 1)))))
def mm__law_couples := run 4 1 gs__law_couples
theorem sc__law_couples : FnScope ["_law_things", "_law_found", "_law_j", "_law_i"] ["_law_things"] (defScope st__law_couples) := ⟨rfl, rfl, rfl, by decide +kernel, rfl, by decide +kernel, by decide +kernel⟩
theorem ok__law_couples {f : Addr} {fd : FuncData} (F : Fun K "_law_couples" "_law_couples" st__law_couples f fd) (T : Txt mg) : FnOk P w K mg base CX0 1 f fd ["_law_things"] (spP K mm__law_couples) := by
  have S := sc__law_couples
  refine okP 4 1 F S rfl rfl (g := gs__law_couples) fun cdv A outer s H E z hr => ?_
  exact (s_cons (s_set 1 S.nd (r_lf (q_lst q_nil)))
  (s_cons (s_for rfl (i_lf (i_range1 (by rfl) T.bl_range (q_cons (q_callB call_len w_len (by rfl) T.bl_len bt_len (q_cons (q_var 0) q_nil)) q_nil))) (g_nm 2 S.nd)
  (s_one (s_set 1 S.nd (r_lf (q_op op_addA w_add (q_var 1) (q_lc rfl S.nd (blkOk_by (own := [("_law_i", 3)]) (by kernel_rfl)) (i_range1 (by rfl) T.bl_range (q_cons (q_var 2) q_nil)) (fun _ _ _ _ _ => (g_nm 3 S.nd)) (fun _ _ _ _ _ => t_nil) (fun _ _ _ _ _ => (q_tup (q_cons (q_ix ix_seq w_ix (q_var 0) (q_var 3)) (q_cons (q_ix ix_seq w_ix (q_var 0) (q_var 2)) q_nil))))))))) PassesOwn.never)
  (s_one (s_ret (r_lf (q_var 1))))))
abbrev st_law : Stmt := top 44
def gs_law : Gs :=
  (gSeq (gSetW 1 (wN few (lfs (cCons (cVar 0) (cCons (cK (.int 0)) (cCons (cK (.int 6335)) (cCons (cK (.int 0)) cNil)))))))
  (gSeq (gAsg (rRow 1 mm__law_tree (lfs (cCons (cK (.int 8)) cNil))) (bNm 2))
  (gSeq (gPar2 3 4 (wsh (lf (cN mm__law_rows (cCons (cVar 2) cNil)))) (wsh (lf (cN oLen (cCons (c2 oIx (cVar 2) (cK (.int 0))) cNil)))))
  (gSeq (gPar2 5 6 wDt (wsh (lf (cLc [11] (iN rg1 (cCons (cVar 4) cNil)) (bNm 11) (bV (c2 oEq (cN oLen (cCons (cN mm__law_steps (cCons (cVar 2) (cCons (cVar 11) cNil))) cNil)) (cK (.int 1)))) (cVar 11)))))
  (gSeq (gFor (lfs (iN rg1 (cCons (cVar 4) cNil))) (bNm 7)
  (gFor (lfs (iN rg2 (cCons (cVar 7) (cCons (cVar 4) cNil)))) (bNm 8)
  (gSeq (gAsg (lf (cN mm__law_near (cCons (cVar 3) (cCons (cN mm__law_on_way (cCons (cVar 3) (cCons (cVar 7) (cCons (cVar 8) cNil)))) cNil)))) (bNm 9))
  (gSetD 5 (lf (cN oSum (cCons (cLc [11] (iN rg1 (cCons (cVar 4) cNil)) (bNm 11) bYes (c2 oMul (c2 oIx (c2 oIx (cVar 2) (cK (.int 0))) (cVar 11)) (c2 oIx (cVar 9) (cVar 11)))) cNil))) (lf (cTup (cCons (cVar 7) (cCons (cVar 8) cNil))))))))
  (gSeq (gPar2 7 8 (wsh (rRow 1 mm__law_taken (lfs (cCons (cVar 4) cNil)))) (wsh (rRow 1 mm__law_taken (lfs (cCons (cVar 4) cNil)))))
  (gSeq (gAsg (lf (cN mm__law_near (cCons (cVar 3) (cCons (cN mm__law_on_way (cCons (cVar 3) (cCons (cVar 7) (cCons (cVar 8) cNil)))) cNil)))) (bNm 9))
  (gSeq (gIf (lfb (bNot (bT (cN (mm__law_alike 6) (cCons (cLst (cCons (cN mm_way_sum (cCons (cVar 2) (cCons (cVar 7) (cCons (cVar 8) cNil)))) (cCons (cN mm_way_reach (cCons (cVar 2) (cCons (cVar 7) (cCons (cVar 8) cNil)))) cNil))) (cCons (cLst (cCons (cDg 5 (cTup (cCons (cN oMin (cCons (cVar 7) (cCons (cVar 8) cNil))) (cCons (cN oMax (cCons (cVar 7) (cCons (cVar 8) cNil))) cNil)))) (cCons (cN oMax (cCons (cVar 9) cNil)) cNil))) cNil))))))
  (gRet (lf (cK (.bool false))))
  gNx)
  (gSeq (gAsg (lf (cN oMin (cCons (cVls 5) cNil))) (bNm 10))
  (gSeq (gIf (lfb (bNot (bT (cN (mm__law_alike 6) (cCons (cN mm_core (cCons (cVar 2) cNil)) (cCons (cTup (cCons (cVar 10) (cCons (cN oMin (cCons (cLkD 5 (cLc [12] (iDT 5) (bNm 12) (bV (c2 oEq (cDg 5 (cVar 12)) (cVar 10))) (cVar 12))) cNil)) cNil))) cNil))))))
  (gRet (lf (cK (.bool false))))
  gNx)
  (gRet (lf (c2 oEq (cVar 10) (cN oMin (cCons (c2 oAdd (cLc [12] (iS (cN mm__law_couples (cCons (cVar 6) cNil))) (bNm 12) bYes (cDg 5 (cVar 12))) (cLc [13] (iS (cVar 6)) (bNm 13) bYes (cDg 5 (cTup (cCons (cVar 13) (cCons (cVar 13) cNil)))))) cNil)))))))))))))))
def mm_law := run 14 1 gs_law
theorem sc_law : FnScope ["_law_script", "_law_row", "_law_tree_here", "_law_rows_here", "_law_count", "_law_sums", "_law_ends", "_law_a", "_law_b", "_law_near_here", "_law_least", "_law_k", "_law_pair", "_law_x"] ["_law_script"] (defScope st_law) := ⟨rfl, rfl, rfl, by decide +kernel, rfl, by decide +kernel, by decide +kernel⟩
theorem ok_law {f : Addr} {fd : FuncData} (F : Fun K "law" "law" st_law f fd) (T : Txt mg) (c__law_tree : Cal P w K mg base 4 "_law_tree" (spR K mm__law_tree)) (c__law_rows : Cal P w K mg base 1 "_law_rows" (spP K mm__law_rows)) (c__law_steps : Cal P w K mg base 1 "_law_steps" (spP K mm__law_steps)) (c__law_near : Cal P w K mg base 1 "_law_near" (spP K mm__law_near)) (c__law_on_way : Cal P w K mg base 1 "_law_on_way" (spP K mm__law_on_way)) (c__law_taken : Cal P w K mg base 1 "_law_taken" (spR K mm__law_taken)) (c__law_alike : Cal P w K mg base 6 "_law_alike" (spP K (mm__law_alike 6))) (c_way_sum : Cal P w K mg base 6 "way_sum" (spP K mm_way_sum)) (c_way_reach : Cal P w K mg base 6 "way_reach" (spP K mm_way_reach)) (c_core : Cal P w K mg base 5 "core" (spP K mm_core)) (c__law_couples : Cal P w K mg base 1 "_law_couples" (spP K mm__law_couples)) : FnOk P w K mg base CX0 7 f fd ["_law_script"] (spP K mm_law) := by
  have S := sc_law
  refine okP 14 1 F S rfl rfl (g := gs_law) fun cdv A outer s H E z hr => ?_
  exact (s_cons (s_setW 1 S.nd (w_lst (r_lfs (q_cons (q_var 0) (q_cons q_int (q_cons q_int (q_cons q_int q_nil)))))))
  (s_cons (s_set 2 S.nd (r_row 1 c__law_tree hr (by decide) (by rfl) (r_lfs (q_cons q_int q_nil))))
  (s_cons (s_par2 3 4 rfl S.nd (w_sh (r_lf (q_call c__law_rows hr (by decide) (by rfl) (q_cons (q_var 2) q_nil)))) (w_sh (r_lf (q_callB call_len w_len (by rfl) T.bl_len bt_len (q_cons (q_ix ix_seq w_ix (q_var 2) q_int) q_nil)))))
  (s_cons (s_tup2 5 6 rfl S.nd w_dt (w_sh (r_lf (q_lc rfl S.nd (blkOk_by (own := [("_law_k", 11)]) (by kernel_rfl)) (i_range1 (by rfl) T.bl_range (q_cons (q_var 4) q_nil)) (fun _ _ _ _ _ => (g_nm 11 S.nd)) (fun _ _ _ _ _ => (t_one (b_cmp (op_eqQ (hu64 hr)) w_eq (q_callB call_len w_len (by rfl) T.bl_len bt_len (q_cons (q_call c__law_steps hr (by decide) (by rfl) (q_cons (q_var 2) (q_cons (q_var 11) q_nil))) q_nil)) q_int (by rfl)))) (fun _ _ _ _ _ => (q_var 11))))))
  (s_cons (s_for rfl (i_lf (i_range1 (by rfl) T.bl_range (q_cons (q_var 4) q_nil))) (g_nm 7 S.nd)
  (s_one (s_for rfl (i_lf (i_range2 (by rfl) T.bl_range (q_cons (q_var 7) (q_cons (q_var 4) q_nil)))) (g_nm 8 S.nd)
  (s_cons (s_set 9 S.nd (r_lf (q_call c__law_near hr (by decide) (by rfl) (q_cons (q_var 3) (q_cons (q_call c__law_on_way hr (by decide) (by rfl) (q_cons (q_var 3) (q_cons (q_var 7) (q_cons (q_var 8) q_nil)))) q_nil)))))
  (s_one (s_setD 5 (hu64 hr) (r_lf (q_callB (cr_sumA rfl) w_sum (by rfl) T.bl_sum bt_sum (q_cons (q_lc rfl S.nd (blkOk_by (own := [("_law_k", 11)]) (by kernel_rfl)) (i_range1 (by rfl) T.bl_range (q_cons (q_var 4) q_nil)) (fun _ _ _ _ _ => (g_nm 11 S.nd)) (fun _ _ _ _ _ => t_nil) (fun _ _ _ _ _ => (q_op op_mulA w_mul (q_ix ix_seq w_ix (q_ix ix_seq w_ix (q_var 2) q_int) (q_var 11)) (q_ix ix_seq w_ix (q_var 9) (q_var 11))))) q_nil))) (r_lf (q_tup (q_cons (q_var 7) (q_cons (q_var 8) q_nil))))))) PassesOwn.never)) PassesOwn.never)
  (s_cons (s_par2 7 8 rfl S.nd (w_sh (r_row 1 c__law_taken hr (by decide) (by rfl) (r_lfs (q_cons (q_var 4) q_nil)))) (w_sh (r_row 1 c__law_taken hr (by decide) (by rfl) (r_lfs (q_cons (q_var 4) q_nil)))))
  (s_cons (s_set 9 S.nd (r_lf (q_call c__law_near hr (by decide) (by rfl) (q_cons (q_var 3) (q_cons (q_call c__law_on_way hr (by decide) (by rfl) (q_cons (q_var 3) (q_cons (q_var 7) (q_cons (q_var 8) q_nil)))) q_nil)))))
  (s_cons (s_if (r_lfb (b_not (b_val (q_call c__law_alike hr (by decide) (by rfl) (q_cons (q_lst (q_cons (q_call c_way_sum hr (by decide) (by rfl) (q_cons (q_var 2) (q_cons (q_var 7) (q_cons (q_var 8) q_nil)))) (q_cons (q_call c_way_reach hr (by decide) (by rfl) (q_cons (q_var 2) (q_cons (q_var 7) (q_cons (q_var 8) q_nil)))) q_nil))) (q_cons (q_lst (q_cons (q_dg 5 (hu64 hr) (q_tup (q_cons (q_callB (cr_minA rfl (hu64 hr)) w_min (by rfl) T.bl_min bt_min (q_cons (q_var 7) (q_cons (q_var 8) q_nil))) (q_cons (q_callB (cr_maxA rfl (hu64 hr)) w_max (by rfl) T.bl_max bt_max (q_cons (q_var 7) (q_cons (q_var 8) q_nil))) q_nil)))) (q_cons (q_callB (cr_maxA rfl (hu64 hr)) w_max (by rfl) T.bl_max bt_max (q_cons (q_var 9) q_nil)) q_nil))) q_nil))))))
  (s_one (s_ret (r_lf q_bl)))
  s_nil)
  (s_cons (s_set 10 S.nd (r_lf (q_callB (cr_minA rfl (hu64 hr)) w_min (by rfl) T.bl_min bt_min (q_cons (q_vls 5 rfl (by rfl) T.bl_list) q_nil))))
  (s_cons (s_if (r_lfb (b_not (b_val (q_call c__law_alike hr (by decide) (by rfl) (q_cons (q_call c_core hr (by decide) (by rfl) (q_cons (q_var 2) q_nil)) (q_cons (q_tup (q_cons (q_var 10) (q_cons (q_callB (cr_minA rfl (hu64 hr)) w_min (by rfl) T.bl_min bt_min (q_cons (q_lkD 5 (q_lc rfl S.nd (blkOk_by (own := [("_law_pair", 12)]) (by kernel_rfl)) (i_dt 5) (fun _ _ _ _ _ => (g_nm 12 S.nd)) (fun _ _ _ _ _ => (t_one (b_cmp (op_eqQ (hu64 hr)) w_eq (q_dg 5 (hu64 hr) (q_var 12)) (q_var 10) (by rfl)))) (fun _ _ _ _ _ => (q_var 12)))) q_nil)) q_nil))) q_nil))))))
  (s_one (s_ret (r_lf q_bl)))
  s_nil)
  (s_one (s_ret (r_lf (q_cmp (op_eqQ (hu64 hr)) w_eq (q_var 10) (q_callB (cr_minA rfl (hu64 hr)) w_min (by rfl) T.bl_min bt_min (q_cons (q_op op_addA w_add (q_lc rfl S.nd (blkOk_by (own := [("_law_pair", 12)]) (by kernel_rfl)) (i_seq (q_call c__law_couples hr (by decide) (by rfl) (q_cons (q_var 6) q_nil))) (fun _ _ _ _ _ => (g_nm 12 S.nd)) (fun _ _ _ _ _ => t_nil) (fun _ _ _ _ _ => (q_dg 5 (hu64 hr) (q_var 12)))) (q_lc rfl S.nd (blkOk_by (own := [("_law_x", 13)]) (by kernel_rfl)) (i_seq (q_var 6)) (fun _ _ _ _ _ => (g_nm 13 S.nd)) (fun _ _ _ _ _ => t_nil) (fun _ _ _ _ _ => (q_dg 5 (hu64 hr) (q_tup (q_cons (q_var 13) (q_cons (q_var 13) q_nil))))))) q_nil)) (by rfl)))))))))))))))
end
end DG
namespace DG
open PySem PySem.Spec PyProof.Rows L2 DL
theorem lt_ii (a b : Int) : PySem.W.dataLt (.int a) (.int b) = decide (a < b) := by
  have h := congrFun (congrFun (PySem.W.dataLe_int (fun x : Int => x)) b) a
  rw [PySem.W.dataLe_eq] at h
  have h : (!PySem.W.dataLt (.int a) (.int b)) = decide (b ≤ a) := h
  by_cases q : a < b
  · rw [decide_eq_false (by omega)] at h
    rw [decide_eq_true q]
    simpa using h
  · rw [decide_eq_true (by omega)] at h
    rw [decide_eq_false q]
    simpa using h
theorem oGt_ii (a b : Int) : oGt (.int a) (.int b) = some (.bool (decide (b < a))) := by
  have e : oGt (.int a) (.int b) = some (.bool (PySem.W.dataLt (.int b) (.int a))) := rfl
  rw [e, lt_ii]
theorem oGe_ii (a b : Int) : oGe (.int a) (.int b) = some (.bool (decide (b ≤ a))) := by
  have e : oGe (.int a) (.int b) = some (.bool (!PySem.W.dataLt (.int a) (.int b))) := rfl
  rw [e, lt_ii]
  congr 2
  by_cases q : a < b
  · rw [decide_eq_true q, decide_eq_false (by omega)]; rfl
  · rw [decide_eq_false q, decide_eq_true (by omega)]; rfl
theorem oDiv_ii (a b : Int) (h : b ≠ 0) (h2 : b.natAbs < 1073741824) : oDiv (.int a) (.int b) = some (.int (a.fdiv b)) := by
  unfold oDiv
  simp [h, Nat.lt_of_lt_of_le h2 (show 1073741824 ≤ 2 ^ 200 by decide)]
theorem oMod_ii (a b : Int) (h : b ≠ 0) : oMod (.int a) (.int b) = some (.int (a.fmod b)) := by
  unfold oMod
  simp [h]
def rowD (ns : List Int) (k sd ps : Int) : List D := [.list (ns.map .int), .int k, .int sd, .int ps]
theorem atI_int (ns : List Int) (k : Int) (h0 : 0 ≤ k) (h1 : k < ns.length) : ∃ c : Int, atI (ns.map PyData.int) k = some (.int c) := by
  unfold atI ixN
  rw [if_pos h0, if_pos (by rw [List.length_map]; exact h1)]
  refine ⟨ns[k.toNat]'(by omega), ?_⟩
  show (ns.map PyData.int)[k.toNat]? = _
  rw [List.getElem?_map, List.getElem?_eq_getElem (by omega)]
  rfl
theorem at0 (a b c d : D) : atI [a, b, c, d] 0 = some a := rfl
theorem at1 (a b c d : D) : atI [a, b, c, d] 1 = some b := rfl
theorem at2 (a b c d : D) : atI [a, b, c, d] 2 = some c := rfl
theorem at3 (a b c d : D) : atI [a, b, c, d] 3 = some d := rfl
theorem taken_ok (ns : List Int) (k sd ps m : Int) (hk : 0 ≤ k) (hm : 0 < m) (hm2 : m < 1000000) : ∃ r k' sd' ps', mm__law_taken (rowD ns k sd ps) [.int m] = some (.int r, rowD ns k' sd' ps') ∧ 0 ≤ r ∧ r < m ∧ 0 ≤ k' := by
  have hmz : m ≠ 0 := by omega
  have hma : m.natAbs < 1073741824 := by omega
  have hr : ∀ x : Int, 0 ≤ x.fmod m ∧ x.fmod m < m := fun x => ⟨Int.fmod_nonneg_of_pos _ hm, Int.fmod_lt_of_pos _ hm⟩
  by_cases h1 : 0 < ps
  · refine ⟨ps.fmod m, k, sd, ps.fdiv m, ?_, (hr _).1, (hr _).2, hk⟩
    simp [mm__law_taken, rowD, runR, gs__law_taken, ini, gSeq, gIf, gAsg, gSetI, gRet, lf, lfb, bV, c2, cN, cCons, cNil, cIxO, cVar, cK, bNm, ownL, putL, oGt_ii, oDiv_ii, oMod_ii, hmz, hma, h1, isB, oInt, fin, rowL, atI, ixN]
  · have hmul : ∀ a : Int, oMul (.int a) (.int 48271) = some (.int (a * 48271)) := fun a => by
      show (if (b64 a || b64 48271) = true then some (PyData.int (a * 48271)) else none) = _
      rw [show b64 48271 = true from rfl, Bool.or_true, if_pos rfl]
    have hadd : ∀ a b : Int, oAdd (.int a) (.int b) = some (.int (a + b)) := fun _ _ => rfl
    have hsub : ∀ a b : Int, oSub (.int a) (.int b) = some (.int (a - b)) := fun _ _ => rfl
    have hix : ∀ i : Int, oIx (.list (ns.map .int)) (.int i) = atI (ns.map .int) i := fun _ => rfl
    have hpow : oPow (.int 10) (.int 18) = some (.int 1000000000000000000) := rfl
    have hlen : oLen [.list (ns.map .int)] = some (.int ns.length) := by
      show some (PyData.int ((ns.map PyData.int).length : Nat)) = _
      rw [List.length_map]
    by_cases h2 : (ns.length : Int) < k + 1
    · refine ⟨(((sd * 48271 + 11).fmod 2147483647).fdiv 7).fmod m, k + 1, (sd * 48271 + 11).fmod 2147483647, ps, ?_, (hr _).1, (hr _).2, by omega⟩
      simp [mm__law_taken, rowD, runR, gs__law_taken, ini, gSeq, gIf, gAsg, gSetI, gRet, lf, lfb, bV, c2, cN, cCons, cNil, cIxO, cVar, cK, bNm, ownL, putL, oGt_ii, oDiv_ii, oMod_ii, hmz, hma, h1, isB, oInt, fin, rowL, at0, at1, at2, at3, ixN, hmul, hadd, hlen, h2, gNx]
    · obtain ⟨c, hc⟩ := atI_int ns k hk (by omega)
      have hc' : atI (ns.map PyData.int) (k + 1 - 1) = some (.int c) := by
        rw [show k + 1 - 1 = k by omega]
        exact hc
      by_cases h3 : (1000000000000000000 : Int) ≤ c
      · refine ⟨c.fmod m, k + 1, (sd * 48271 + c + 11).fmod 2147483647, c.fdiv m, ?_, (hr _).1, (hr _).2, by omega⟩
        simp [mm__law_taken, rowD, runR, gs__law_taken, ini, gSeq, gIf, gAsg, gSetI, gRet, lf, lfb, bV, c2, cN, cCons, cNil, cIxO, cVar, cK, bNm, ownL, putL, oGt_ii, oGe_ii, oDiv_ii, oMod_ii, hmz, hma, h1, isB, oInt, fin, rowL, ixN, hmul, hadd, hsub, hlen, h2, hix, hc, hpow, h3, at0, at1, at2, at3, gNx]
      · refine ⟨c.fmod m, k + 1, (sd * 48271 + c + 11).fmod 2147483647, ps, ?_, (hr _).1, (hr _).2, by omega⟩
        simp [mm__law_taken, rowD, runR, gs__law_taken, ini, gSeq, gIf, gAsg, gSetI, gRet, lf, lfb, bV, c2, cN, cCons, cNil, cIxO, cVar, cK, bNm, ownL, putL, oGt_ii, oGe_ii, oDiv_ii, oMod_ii, hmz, hma, h1, isB, oInt, fin, rowL, ixN, hmul, hadd, hsub, hlen, h2, hix, hc, hpow, h3, at0, at1, at2, at3, gNx]
end DG
namespace PL
open PySem PySem.Spec PyProof.Rows L2 DL
/-- the row that draws are taken from -/
structure Stt where
  k : Int
  sd : Int
  ps : Int
def stD (ns : List Int) (s : Stt) : List D := DG.rowD ns s.k s.sd s.ps
theorem taken_st (ns : List Int) (s : Stt) (hk : 0 ≤ s.k) (m : Int) (hm : 0 < m) (hm2 : m < 1000000) : ∃ (r : Int) (s' : Stt), DG.mm__law_taken (stD ns s) [.int m] = some (.int r, stD ns s') ∧ 0 ≤ r ∧ r < m ∧ 0 ≤ s'.k := by
  obtain ⟨r, k', sd', ps', h1, h2, h3, h4⟩ := DG.taken_ok ns s.k s.sd s.ps m hk hm hm2
  exact ⟨r, ⟨k', sd', ps'⟩, h1, h2, h3, h4⟩
theorem pick_st (ns : List Int) (s : Stt) (hk : 0 ≤ s.k) (xs : List D) (h0 : xs ≠ []) (h1 : xs.length < 1000000) : ∃ (x : D) (s' : Stt), DG.mm__law_pick (stD ns s) [.list xs] = some (x, stD ns s') ∧ x ∈ xs ∧ 0 ≤ s'.k := by
  have hl : 0 < xs.length := List.length_pos_iff.mpr h0
  obtain ⟨r, s', e, r0, r1, k'⟩ := taken_st ns s hk (xs.length : Nat) (by omega) (by omega)
  have hr : r.toNat < xs.length := by omega
  refine ⟨xs[r.toNat], s', ?_, List.getElem_mem _, k'⟩
  have hix : oIx (.list xs) (.int r) = some xs[r.toNat] := by
    have q := atI_nat (xs := xs) (List.getElem?_eq_getElem hr)
    rw [Int.toNat_of_nonneg r0] at q
    exact q
  have ee : rRow 0 DG.mm__law_taken (lfs (cCons (cN oLen (cCons (cVar 1) cNil)) cNil)) [some (.row (.list (stD ns s))), some (.sh (.list xs))] = some (.int r, [some (.row (.list (stD ns s'))), some (.sh (.list xs))]) := by
    have e1 : lfs (cCons (cN oLen (cCons (cVar 1) cNil)) cNil) [some (.row (.list (stD ns s))), some (.sh (.list xs))] = some ([.int (xs.length : Nat)], [some (.row (.list (stD ns s))), some (.sh (.list xs))]) := rfl
    unfold rRow
    rw [show ownL ([some (E.row (.list (stD ns s))), some (.sh (.list xs))] : DL.Env)[0]? = some (stD ns s) from rfl, Option.bind_some, e1, Option.bind_some]
    dsimp only
    rw [show ownL ([some (E.row (.list (stD ns s))), some (.sh (.list xs))] : DL.Env)[0]? = some (stD ns s) from rfl, Option.bind_some, e]
    rfl
  show ((DG.gs__law_pick [some (.row (.list (stD ns s))), some (.sh (.list xs))]).bind fun p => (fin p).bind fun d => (rowL p.2[0]?).bind fun ds' => some (d, ds')) = _
  unfold DG.gs__law_pick gRet r2
  rw [show lf (cVar 1) [some (E.row (.list (stD ns s))), some (.sh (.list xs))] = some (.list xs, [some (E.row (.list (stD ns s))), some (.sh (.list xs))]) from rfl, Option.bind_some]
  dsimp only
  rw [ee, Option.bind_some]
  dsimp only
  rw [hix]
  rfl
end PL
namespace PL
open PySem PySem.Spec PyProof.Rows L2 DL
def roadD (e : Road) : D := .tuple [.int (e.1 : Nat), .int (e.2.1 : Nat), .int e.2.2]
def webD (ws : List Int) (rs : List Road) : D := .tuple [.tuple (ws.map .int), .tuple (rs.map roadD)]
theorem lcR_pure {α : Type} {i : Nat} {f : DL.Env → Option D} (enc e : α → D) : ∀ (xs : List α) (ρ : DL.Env), (∀ x ∈ xs, f ((ρ.set i none).set i (some (.sh (enc x)))) = some (e x)) → lcR [i] (bNm i) bYesR (lf f) (xs.map enc) ρ = some (xs.map e, ρ.set i none)
  | [], ρ, _ => rfl
  | x :: xs, ρ, h => by
    have h1 := h x List.mem_cons_self
    have e1 : ((ρ.set i none).set i (some (E.sh (enc x)))).set i none = ρ.set i none := by rw [List.set_set, List.set_set]
    have ih := lcR_pure enc e xs ((ρ.set i none).set i (some (.sh (enc x)))) fun y hy => by
      rw [e1]
      exact h y (List.mem_cons_of_mem _ hy)
    rw [e1] at ih
    have e0 : bNm i (enc x) (ρ.set i none) = some ((ρ.set i none).set i (some (.sh (enc x)))) := rfl
    have e2 : lf f ((ρ.set i none).set i (some (.sh (enc x)))) = some (e x, (ρ.set i none).set i (some (.sh (enc x)))) := by
      unfold lf
      rw [h1]
      rfl
    rw [List.map_cons]
    unfold lcR
    have e3 : wipeE ρ [i] = ρ.set i none := rfl
    have e4 : ∀ ρ : DL.Env, bYesR ρ = some (true, ρ) := fun _ => rfl
    rw [e3, e0, Option.bind_some, e4, Option.bind_some, if_pos rfl, e2, Option.bind_some, ih]
    rfl
theorem lcW2_pure {α : Type} {i : Nat} {f : DL.Env → Option (E × DL.Env)} (enc e : α → D) : ∀ (xs : List α) (ρ : DL.Env), (∀ x ∈ xs, ∃ ρ2, f ((ρ.set i none).set i (some (.sh (enc x)))) = some (.own (e x), ρ2) ∧ ρ2.set i none = ρ.set i none) → lcW2 [i] (bNm i) f (xs.map enc) ρ = some (xs.map e, ρ.set i none)
  | [], ρ, _ => rfl
  | x :: xs, ρ, h => by
    obtain ⟨ρ2, h1, h2⟩ := h x List.mem_cons_self
    have ih := lcW2_pure enc e xs ρ2 fun y hy => by
      rw [h2]
      exact h y (List.mem_cons_of_mem _ hy)
    rw [h2] at ih
    have e0 : bNm i (enc x) (ρ.set i none) = some ((ρ.set i none).set i (some (.sh (enc x)))) := rfl
    have e3 : wipeE ρ [i] = ρ.set i none := rfl
    rw [List.map_cons]
    unfold lcW2
    rw [e3, e0, Option.bind_some, h1, Option.bind_some]
    show (Option.bind (lcW2 [i] (bNm i) f (xs.map enc) ρ2)) _ = _
    rw [ih]
    rfl
theorem ok62_nat {n : Nat} (h : n ≤ 1000) : ok62 (n : Nat) = true := by
  unfold ok62
  rw [Bool.and_eq_true]
  exact ⟨decide_eq_true (by omega), decide_eq_true (by omega)⟩
theorem rg1_nat {n : Nat} (h : n ≤ 1000) : rg1 [.int (n : Nat)] = some ((List.range n).map fun i => PyData.int (i : Nat)) := by
  show (if ok62 (n : Nat) = true then some (rangeD 0 (n : Int).toNat) else none) = _
  rw [if_pos (ok62_nat h), Int.toNat_natCast, rangeD_map]
theorem eq_ii (a b : Int) : oEq (.int a) (.int b) = some (.bool (a == b)) := by
  have e : oEq (.int a) (.int b) = some (.bool (PyData.eqv (.int a) (.int b))) := rfl
  rw [e]
  have e2 : PyData.eqv (.int a) (.int b) = (a == b) := by
    simp [PyData.eqv]
  rw [e2]
theorem ini_ok {n : Nat} (hn : n ≤ 1000) (far : Int) (x0 x3 x4 x5 x6 x7 : Option E) :
    wLc2 [8] (lfs (iN rg1 (cCons (cVar 1) cNil))) (bNm 8) (wLc [9] (lfs (iN rg1 (cCons (cVar 1) cNil))) (bNm 9) bYesR (lf (cIf (bV (c2 oEq (cVar 8) (cVar 9))) (cK (.int 0)) (cVar 2))))
      [x0, some (.sh (.int (n : Nat))), some (.sh (.int far)), x3, x4, x5, x6, x7, none, none] = some (.own2 (.list (matD n (iniM far))), [x0, some (.sh (.int (n : Nat))), some (.sh (.int far)), x3, x4, x5, x6, x7, none, none]) := by
  have hit : ∀ y8 y9 : Option E, lfs (iN rg1 (cCons (cVar 1) cNil)) [x0, some (.sh (.int (n : Nat))), some (.sh (.int far)), x3, x4, x5, x6, x7, y8, y9] = some ((List.range n).map (fun i => PyData.int (i : Nat)), [x0, some (.sh (.int (n : Nat))), some (.sh (.int far)), x3, x4, x5, x6, x7, y8, y9]) := fun y8 y9 => by
    have e : cCons (cVar 1) cNil [x0, some (.sh (.int (n : Nat))), some (.sh (.int far)), x3, x4, x5, x6, x7, y8, y9] = some [PyData.int (n : Nat)] := rfl
    unfold lfs iN
    rw [e, Option.bind_some, rg1_nat hn]
    rfl
  have inner : ∀ (i : Nat) (y9 : Option E), wLc [9] (lfs (iN rg1 (cCons (cVar 1) cNil))) (bNm 9) bYesR (lf (cIf (bV (c2 oEq (cVar 8) (cVar 9))) (cK (.int 0)) (cVar 2))) [x0, some (.sh (.int (n : Nat))), some (.sh (.int far)), x3, x4, x5, x6, x7, some (.sh (.int (i : Nat))), y9] = some (.own (rowD n (iniM far i)), [x0, some (.sh (.int (n : Nat))), some (.sh (.int far)), x3, x4, x5, x6, x7, some (.sh (.int (i : Nat))), none]) := fun i y9 => by
    have hl := lcR_pure (i := 9) (f := cIf (bV (c2 oEq (cVar 8) (cVar 9))) (cK (.int 0)) (cVar 2)) (fun j : Nat => PyData.int (j : Nat)) (fun j : Nat => PyData.int (iniM far i j)) (List.range n) [x0, some (.sh (.int (n : Nat))), some (.sh (.int far)), x3, x4, x5, x6, x7, some (.sh (.int (i : Nat))), y9] fun j _ => by
      have e : cIf (bV (c2 oEq (cVar 8) (cVar 9))) (cK (.int 0)) (cVar 2) [x0, some (.sh (.int (n : Nat))), some (.sh (.int far)), x3, x4, x5, x6, x7, some (.sh (.int (i : Nat))), some (.sh (.int (j : Nat)))] = ((oEq (.int (i : Nat)) (.int (j : Nat))).bind isB).bind fun b => if b = true then some (.int 0) else some (.int far) := rfl
      show cIf (bV (c2 oEq (cVar 8) (cVar 9))) (cK (.int 0)) (cVar 2) [x0, some (.sh (.int (n : Nat))), some (.sh (.int far)), x3, x4, x5, x6, x7, some (.sh (.int (i : Nat))), some (.sh (.int (j : Nat)))] = _
      rw [e, eq_ii]
      unfold iniM
      by_cases q : i = j
      · subst q
        simp [isB]
      · have q2 : ((i : Int) == (j : Int)) = false := by
          rw [beq_eq_false_iff_ne]
          omega
        rw [q2, if_neg q]
        rfl
    unfold wLc rLc
    rw [hit, Option.bind_some, hl, Option.bind_some]
    unfold few2
    rw [if_pos (by rw [List.length_map, List.length_range]; exact hn)]
    rfl
  have outer := lcW2_pure (i := 8) (f := wLc [9] (lfs (iN rg1 (cCons (cVar 1) cNil))) (bNm 9) bYesR (lf (cIf (bV (c2 oEq (cVar 8) (cVar 9))) (cK (.int 0)) (cVar 2)))) (fun j : Nat => PyData.int (j : Nat)) (fun i : Nat => rowD n (iniM far i)) (List.range n) [x0, some (.sh (.int (n : Nat))), some (.sh (.int far)), x3, x4, x5, x6, x7, none, none] fun i _ => ⟨_, inner i none, rfl⟩
  unfold wLc2
  rw [hit, Option.bind_some, outer, Option.bind_some]
  rw [if_pos (by rw [List.length_map, List.length_range]; exact hn)]
  rfl
theorem ix_mat {n i : Nat} (m : Mat) (h : i < n) : oIx (.list (matD n m)) (.int (i : Nat)) = some (rowD n (m i)) := atI_mat m h
theorem ix_row {n j : Nat} (r : Row) (h : j < n) : oIx (rowD n r) (.int (j : Nat)) = some (.int (r j)) := atI_row r h
theorem min_ii (a b : Int) : oMin [.int a, .int b] = some (.int (min a b)) := by
  show some (PyData.int (if b < a then b else a)) = _
  congr 2
  split <;> omega
def relaxG : Gs := gSetI2 3 (lf (cN oMin (cCons (cBor (c2 oIx (c2 oIx (cVar 3) (cVar 8)) (cVar 9))) (cCons (c2 oAdd (cBor (c2 oIx (c2 oIx (cVar 3) (cVar 8)) (cVar 7))) (cBor (c2 oIx (c2 oIx (cVar 3) (cVar 7)) (cVar 9)))) cNil)))) (cVar 8) (cVar 9)
theorem set_at {n i j : Nat} {v : Int} (m : Mat) (hi : i < n) (hj : j < n) {f : DL.Env → Option (D × DL.Env)} {g h : DL.Env → Option D} {ρ : DL.Env} {s : Nat} (h0 : f ρ = some (.int v, ρ)) (h1 : ρ[s]? = some (some (.own2 (.list (matD n m))))) (h2 : g ρ = some (.int (i : Nat))) (h3 : h ρ = some (.int (j : Nat))) :
    gSetI2 s f g h ρ = some (.nx, ρ.set s (some (.own2 (.list (matD n (set2 m i j v)))))) := by
  unfold gSetI2
  rw [h0, Option.bind_some]
  dsimp only
  rw [h1]
  show (some (matD n m)).bind _ = _
  rw [Option.bind_some, h2, Option.bind_some, h3, Option.bind_some]
  dsimp only
  rw [matD_len, ixN_nat hi, Option.bind_some, matD_get m hi, Option.bind_some]
  show (some ((List.range n).map fun j => PyData.int (m i j))).bind _ = _
  rw [Option.bind_some]
  have e : ixN ((List.range n).map fun j => PyData.int (m i j)).length (j : Nat) = some j := by
    rw [List.length_map, List.length_range]
    exact ixN_nat hj
  rw [e, Option.map_some, row_set (m i) v]
  show some (Fl.nx, ρ.set s (some (.own2 (.list ((matD n m).set i (rowD n (set1 (m i) j v))))))) = _
  rw [mat_set]
theorem relax_ok {n i j k : Nat} (hi : i < n) (hj : j < n) (hk : k < n) (m : Mat) (x0 x1 x2 x4 x5 x6 : Option E) :
    relaxG [x0, x1, x2, some (.own2 (.list (matD n m))), x4, x5, x6, some (.sh (.int (k : Nat))), some (.sh (.int (i : Nat))), some (.sh (.int (j : Nat)))] = some (.nx, [x0, x1, x2, some (.own2 (.list (matD n (set2 m i j (min (m i j) (m i k + m k j)))))), x4, x5, x6, some (.sh (.int (k : Nat))), some (.sh (.int (i : Nat))), some (.sh (.int (j : Nat)))]) := by
  refine set_at (v := min (m i j) (m i k + m k j)) m hi hj ?_ rfl rfl rfl
  have b1 : ∀ (p q : Nat) (cp cq : Nat), p < n → q < n → (∀ ρ : DL.Env, ρ = [x0, x1, x2, some (.own2 (.list (matD n m))), x4, x5, x6, some (.sh (.int (k : Nat))), some (.sh (.int (i : Nat))), some (.sh (.int (j : Nat)))] → cVar cp (ρ.map thE) = some (.int (p : Nat)) ∧ cVar cq (ρ.map thE) = some (.int (q : Nat)) ∧ cVar 3 (ρ.map thE) = some (.list (matD n m)) →
      cBor (c2 oIx (c2 oIx (cVar 3) (cVar cp)) (cVar cq)) ρ = some (.int (m p q))) := fun p q cp cq hp hq ρ e ⟨h1, h2, h3⟩ => by
    unfold cBor c2
    rw [h3, Option.bind_some, h1, Option.bind_some, ix_mat m hp, Option.bind_some, h2, Option.bind_some, ix_row (m p) hq, Option.bind_some]
    rfl
  unfold lf cN cCons
  rw [b1 i j 8 9 hi hj _ rfl ⟨rfl, rfl, rfl⟩, Option.bind_some]
  have e2 : c2 oAdd (cBor (c2 oIx (c2 oIx (cVar 3) (cVar 8)) (cVar 7))) (cBor (c2 oIx (c2 oIx (cVar 3) (cVar 7)) (cVar 9))) [x0, x1, x2, some (.own2 (.list (matD n m))), x4, x5, x6, some (.sh (.int (k : Nat))), some (.sh (.int (i : Nat))), some (.sh (.int (j : Nat)))] = some (.int (m i k + m k j)) := by
    show (cBor _ _).bind _ = _
    rw [b1 i k 8 7 hi hk _ rfl ⟨rfl, rfl, rfl⟩, Option.bind_some, b1 k j 7 9 hk hj _ rfl ⟨rfl, rfl, rfl⟩, Option.bind_some]
    rfl
  rw [e2]
  show Option.map _ (oMin [.int (m i j), .int (m i k + m k j)]) = _
  rw [min_ii]
  rfl
theorem range_it {n : Nat} (hn : n ≤ 1000) {ρ : DL.Env} (h : ρ[1]? = some (some (.sh (.int (n : Nat))))) : lfs (iN rg1 (cCons (cVar 1) cNil)) ρ = some ((List.range n).map (fun i => PyData.int (i : Nat)), ρ) := by
  have e : cCons (cVar 1) cNil ρ = some [PyData.int (n : Nat)] := by
    unfold cCons cVar
    rw [h]
    rfl
  unfold lfs iN
  rw [e, Option.bind_some, rg1_nat hn]
  rfl
theorem loopJ {n i k : Nat} (hn : n ≤ 1000) (hi : i < n) (hk : k < n) (m : Mat) (x0 x2 x4 x5 x6 x9 : Option E) :
    ∃ y9, gFor (lfs (iN rg1 (cCons (cVar 1) cNil))) (bNm 9) relaxG [x0, some (.sh (.int (n : Nat))), x2, some (.own2 (.list (matD n m))), x4, x5, x6, some (.sh (.int (k : Nat))), some (.sh (.int (i : Nat))), x9] = some (.nx, [x0, some (.sh (.int (n : Nat))), x2, some (.own2 (.list (matD n (line k n m i)))), x4, x5, x6, some (.sh (.int (k : Nat))), some (.sh (.int (i : Nat))), y9]) := by
  unfold gFor
  rw [range_it hn rfl, Option.bind_some]
  obtain ⟨ρ', h1, y9, h2⟩ := loop_rel (b := bNm 9) (g := relaxG) (fun j : Nat => PyData.int (j : Nat)) (fun (m : Mat) ρ => ∃ y, ρ = [x0, some (.sh (.int (n : Nat))), x2, some (.own2 (.list (matD n m))), x4, x5, x6, some (.sh (.int (k : Nat))), some (.sh (.int (i : Nat))), y]) (relax k i) (List.range n) m _ (fun s j ρ hj ⟨y, e⟩ => by
    subst e
    exact ⟨_, _, rfl, .inl (relax_ok hi (List.mem_range.mp hj) hk s x0 _ x2 x4 x5 x6), _, rfl⟩) ⟨x9, rfl⟩
  subst h2
  exact ⟨y9, h1⟩
theorem loopI {n k : Nat} (hn : n ≤ 1000) (hk : k < n) (m : Mat) (x0 x2 x4 x5 x6 x8 x9 : Option E) :
    ∃ y8 y9, gFor (lfs (iN rg1 (cCons (cVar 1) cNil))) (bNm 8) (gFor (lfs (iN rg1 (cCons (cVar 1) cNil))) (bNm 9) relaxG) [x0, some (.sh (.int (n : Nat))), x2, some (.own2 (.list (matD n m))), x4, x5, x6, some (.sh (.int (k : Nat))), x8, x9] = some (.nx, [x0, some (.sh (.int (n : Nat))), x2, some (.own2 (.list (matD n (turn n m k)))), x4, x5, x6, some (.sh (.int (k : Nat))), y8, y9]) := by
  unfold gFor
  rw [range_it hn rfl, Option.bind_some]
  obtain ⟨ρ', h1, y8, y9, h2⟩ := loop_rel (b := bNm 8) (g := gFor (lfs (iN rg1 (cCons (cVar 1) cNil))) (bNm 9) relaxG) (fun j : Nat => PyData.int (j : Nat)) (fun (m : Mat) ρ => ∃ y8 y9, ρ = [x0, some (.sh (.int (n : Nat))), x2, some (.own2 (.list (matD n m))), x4, x5, x6, some (.sh (.int (k : Nat))), y8, y9]) (line k n) (List.range n) m _ (fun s i ρ hi ⟨y8, y9, e⟩ => by
    subst e
    obtain ⟨z9, hz⟩ := loopJ hn (List.mem_range.mp hi) hk s x0 x2 x4 x5 x6 y9
    exact ⟨_, _, rfl, .inl hz, _, _, rfl⟩) ⟨x8, x9, rfl⟩
  subst h2
  exact ⟨y8, y9, h1⟩
theorem loopK {n : Nat} (hn : n ≤ 1000) (m : Mat) (x0 x2 x4 x5 x6 x7 x8 x9 : Option E) :
    ∃ y7 y8 y9, gFor (lfs (iN rg1 (cCons (cVar 1) cNil))) (bNm 7) (gFor (lfs (iN rg1 (cCons (cVar 1) cNil))) (bNm 8) (gFor (lfs (iN rg1 (cCons (cVar 1) cNil))) (bNm 9) relaxG)) [x0, some (.sh (.int (n : Nat))), x2, some (.own2 (.list (matD n m))), x4, x5, x6, x7, x8, x9] = some (.nx, [x0, some (.sh (.int (n : Nat))), x2, some (.own2 (.list (matD n (table n m)))), x4, x5, x6, y7, y8, y9]) := by
  unfold gFor
  rw [range_it hn rfl, Option.bind_some]
  obtain ⟨ρ', h1, y7, y8, y9, h2⟩ := loop_rel (b := bNm 7) (g := gFor (lfs (iN rg1 (cCons (cVar 1) cNil))) (bNm 8) (gFor (lfs (iN rg1 (cCons (cVar 1) cNil))) (bNm 9) relaxG)) (fun j : Nat => PyData.int (j : Nat)) (fun (m : Mat) ρ => ∃ y7 y8 y9, ρ = [x0, some (.sh (.int (n : Nat))), x2, some (.own2 (.list (matD n m))), x4, x5, x6, y7, y8, y9]) (turn n) (List.range n) m _ (fun s k ρ hk ⟨y7, y8, y9, e⟩ => by
    subst e
    obtain ⟨z8, z9, hz⟩ := loopI hn (List.mem_range.mp hk) s x0 x2 x4 x5 x6 y8 y9
    exact ⟨_, _, rfl, .inl hz, _, _, _, rfl⟩) ⟨x7, x8, x9, rfl⟩
  subst h2
  exact ⟨y7, y8, y9, h1⟩
theorem loopR {n : Nat} (rs : List Road) (hr : ∀ e ∈ rs, e.1 < n ∧ e.2.1 < n) (m : Mat) (d0 : D) (x1 x2 x4 x5 x6 x7 x8 x9 : Option E) :
    ∃ y4 y5 y6, gFor (lfs (iS (c2 oIx (cVar 0) (cK (.int 1))))) (bTp 3 (bCons (bNm 4) (bCons (bNm 5) (bCons (bNm 6) bNil)))) (gSeq (gSetI2 3 (lf (cVar 6)) (cVar 4) (cVar 5)) (gSetI2 3 (lf (cVar 6)) (cVar 5) (cVar 4))) [some (.sh (.tuple [d0, .tuple (rs.map roadD)])), x1, x2, some (.own2 (.list (matD n m))), x4, x5, x6, x7, x8, x9] = some (.nx, [some (.sh (.tuple [d0, .tuple (rs.map roadD)])), x1, x2, some (.own2 (.list (matD n (rs.foldl lay m)))), y4, y5, y6, x7, x8, x9]) := by
  have it : lfs (iS (c2 oIx (cVar 0) (cK (.int 1)))) [some (.sh (.tuple [d0, .tuple (rs.map roadD)])), x1, x2, some (.own2 (.list (matD n m))), x4, x5, x6, x7, x8, x9] = some (rs.map roadD, [some (.sh (.tuple [d0, .tuple (rs.map roadD)])), x1, x2, some (.own2 (.list (matD n m))), x4, x5, x6, x7, x8, x9]) := rfl
  unfold gFor
  rw [it, Option.bind_some]
  obtain ⟨ρ', h1, y4, y5, y6, h2⟩ := loop_rel (b := bTp 3 (bCons (bNm 4) (bCons (bNm 5) (bCons (bNm 6) bNil)))) (g := gSeq (gSetI2 3 (lf (cVar 6)) (cVar 4) (cVar 5)) (gSetI2 3 (lf (cVar 6)) (cVar 5) (cVar 4))) roadD (fun (m : Mat) ρ => ∃ y4 y5 y6, ρ = [some (.sh (.tuple [d0, .tuple (rs.map roadD)])), x1, x2, some (.own2 (.list (matD n m))), y4, y5, y6, x7, x8, x9]) lay rs m _ (fun s e ρ he ⟨y4, y5, y6, q⟩ => by
    subst q
    obtain ⟨ha, hb⟩ := hr e he
    refine ⟨[some (.sh (.tuple [d0, .tuple (rs.map roadD)])), x1, x2, some (.own2 (.list (matD n s))), some (.sh (.int (e.1 : Nat))), some (.sh (.int (e.2.1 : Nat))), some (.sh (.int e.2.2)), x7, x8, x9], [some (.sh (.tuple [d0, .tuple (rs.map roadD)])), x1, x2, some (.own2 (.list (matD n (lay s e)))), some (.sh (.int (e.1 : Nat))), some (.sh (.int (e.2.1 : Nat))), some (.sh (.int e.2.2)), x7, x8, x9], rfl, .inl ?_, some (.sh (.int (e.1 : Nat))), some (.sh (.int (e.2.1 : Nat))), some (.sh (.int e.2.2)), rfl⟩
    unfold gSeq
    rw [set_at (v := e.2.2) s ha hb rfl rfl rfl rfl, Option.bind_some]
    exact set_at (v := e.2.2) (set2 s e.1 e.2.1 e.2.2) hb ha rfl rfl rfl rfl) ⟨x4, x5, x6, rfl⟩
  subst h2
  exact ⟨y4, y5, y6, h1⟩
theorem c2_at {o : D → D → Option D} {f g : DL.Env → Option D} {ρ : DL.Env} {a b : D} (h1 : f ρ = some a) (h2 : g ρ = some b) : c2 o f g ρ = o a b := by
  unfold c2
  rw [h1, Option.bind_some, h2, Option.bind_some]
theorem cN1_at {o : List D → Option D} {f : DL.Env → Option D} {ρ : DL.Env} {a : D} (h1 : f ρ = some a) : cN o (cCons f cNil) ρ = o [a] := by
  unfold cN cCons
  rw [h1, Option.bind_some]
  rfl
def farOf (rs : List Road) : Int := 1 + sumI (rs.map (·.2.2))
theorem farOf_eq (rs : List Road) : farOf rs = far rs := by
  unfold farOf far total
  rw [sumI_eq]
theorem intsOf_map : ∀ ns : List Int, intsOf (ns.map PyData.int) = some ns
  | [] => rfl
  | n :: ns => by
    rw [List.map_cons]
    unfold intsOf
    rw [intsOf_map ns]
    rfl
theorem table_of_ok (ws : List Int) (rs : List Road) (hn : ws.length ≤ 1000) (hm : rs.length ≤ 1000) (hr : ∀ e ∈ rs, e.1 < ws.length ∧ e.2.1 < ws.length) :
    DG.mm_table_of [webD ws rs] = some (.list (matD ws.length (table ws.length (rs.foldl lay (iniM (farOf rs)))))) := by
  have hw : webD ws rs = .tuple [.tuple (ws.map .int), .tuple (rs.map roadD)] := rfl
  rw [hw]
  show ((DG.gs_table_of [some (.sh (.tuple [.tuple (ws.map .int), .tuple (rs.map roadD)])), none, none, none, none, none, none, none, none, none]).bind fin) = _
  unfold DG.gs_table_of
  unfold gSeq
  have s1 : gAsg (lf (cN oLen (cCons (c2 oIx (cVar 0) (cK (.int 0))) cNil))) (bNm 1) [some (.sh (.tuple [.tuple (ws.map .int), .tuple (rs.map roadD)])), none, none, none, none, none, none, none, none, none] = some (.nx, [some (.sh (.tuple [.tuple (ws.map .int), .tuple (rs.map roadD)])), some (.sh (.int (ws.length : Nat))), none, none, none, none, none, none, none, none]) := by
    have e : lf (cN oLen (cCons (c2 oIx (cVar 0) (cK (.int 0))) cNil)) [some (.sh (.tuple [.tuple (ws.map .int), .tuple (rs.map roadD)])), none, none, none, none, none, none, none, none, none] = some (.int ((ws.map PyData.int).length : Nat), [some (.sh (.tuple [.tuple (ws.map .int), .tuple (rs.map roadD)])), none, none, none, none, none, none, none, none, none]) := rfl
    unfold gAsg
    rw [e, List.length_map]
    rfl
  rw [s1, Option.bind_some]
  dsimp only
  have s2 : gAsg (lf (c2 oAdd (cK (.int 1)) (cN oSum (cCons (cLc [4, 5, 6] (iS (c2 oIx (cVar 0) (cK (.int 1)))) (bTp 3 (bCons (bNm 4) (bCons (bNm 5) (bCons (bNm 6) bNil)))) bYes (cVar 6)) cNil)))) (bNm 2) [some (.sh (.tuple [.tuple (ws.map .int), .tuple (rs.map roadD)])), some (.sh (.int (ws.length : Nat))), none, none, none, none, none, none, none, none] = some (.nx, [some (.sh (.tuple [.tuple (ws.map .int), .tuple (rs.map roadD)])), some (.sh (.int (ws.length : Nat))), some (.sh (.int (farOf rs))), none, none, none, none, none, none, none]) := by
    have h1 := lcD_all (ρ0 := [some (.sh (.tuple [.tuple (ws.map .int), .tuple (rs.map roadD)])), some (.sh (.int (ws.length : Nat))), none, none, none, none, none, none, none, none]) (b := bTp 3 (bCons (bNm 4) (bCons (bNm 5) (bCons (bNm 6) bNil)))) (f := cVar 6) roadD (fun e => PyData.int e.2.2) rs fun e _ => ⟨[some (.sh (.tuple [.tuple (ws.map .int), .tuple (rs.map roadD)])), some (.sh (.int (ws.length : Nat))), none, none, some (.sh (.int (e.1 : Nat))), some (.sh (.int (e.2.1 : Nat))), some (.sh (.int e.2.2)), none, none, none], rfl, rfl⟩
    have h2 : cLc [4, 5, 6] (iS (c2 oIx (cVar 0) (cK (.int 1)))) (bTp 3 (bCons (bNm 4) (bCons (bNm 5) (bCons (bNm 6) bNil)))) bYes (cVar 6) [some (.sh (.tuple [.tuple (ws.map .int), .tuple (rs.map roadD)])), some (.sh (.int (ws.length : Nat))), none, none, none, none, none, none, none, none] = some (.list ((rs.map (·.2.2)).map .int)) := by
      have it : iS (c2 oIx (cVar 0) (cK (.int 1))) [some (.sh (.tuple [.tuple (ws.map .int), .tuple (rs.map roadD)])), some (.sh (.int (ws.length : Nat))), none, none, none, none, none, none, none, none] = some (rs.map roadD) := rfl
      have wp : wipeE [some (.sh (.tuple [.tuple (ws.map .int), .tuple (rs.map roadD)])), some (.sh (.int (ws.length : Nat))), none, none, none, none, none, none, none, none] [4, 5, 6] = [some (E.sh (.tuple [.tuple (ws.map .int), .tuple (rs.map roadD)])), some (.sh (.int (ws.length : Nat))), none, none, none, none, none, none, none, none] := rfl
      unfold cLc
      rw [it, Option.bind_some, wp, h1, Option.bind_some, if_pos (by rw [List.length_map]; exact hm), List.map_map]
      rfl
    have h3 : c2 oAdd (cK (.int 1)) (cN oSum (cCons (cLc [4, 5, 6] (iS (c2 oIx (cVar 0) (cK (.int 1)))) (bTp 3 (bCons (bNm 4) (bCons (bNm 5) (bCons (bNm 6) bNil)))) bYes (cVar 6)) cNil)) [some (.sh (.tuple [.tuple (ws.map .int), .tuple (rs.map roadD)])), some (.sh (.int (ws.length : Nat))), none, none, none, none, none, none, none, none] = some (.int (farOf rs)) := by
      have e5 : oSum [.list ((rs.map (·.2.2)).map .int)] = (intsOf ((rs.map (·.2.2)).map .int)).map fun ns => .int (sumI ns) := rfl
      have e6 : oSum [.list ((rs.map (·.2.2)).map .int)] = some (.int (sumI (rs.map (·.2.2)))) := by
        rw [e5, intsOf_map]
        rfl
      exact c2_at (a := .int 1) rfl ((cN1_at h2).trans e6)
    unfold gAsg lf
    rw [h3]
    rfl
  rw [s2, Option.bind_some]
  dsimp only
  unfold gSetW
  rw [ini_ok hn]
  rw [Option.map_some, Option.bind_some]
  dsimp only
  obtain ⟨y4, y5, y6, h4⟩ := loopR rs hr (iniM (farOf rs)) (.tuple (ws.map .int)) (some (.sh (.int (ws.length : Nat)))) (some (.sh (.int (farOf rs)))) none none none none none none
  obtain ⟨y7, y8, y9, h5⟩ := loopK hn (rs.foldl lay (iniM (farOf rs))) (some (.sh (.tuple [.tuple (ws.map .int), .tuple (rs.map roadD)]))) (some (.sh (.int (farOf rs)))) y4 y5 y6 none none none
  unfold gSeq at h4
  show (Option.bind (Option.bind (gFor _ _ _ [some (.sh (.tuple [.tuple (ws.map .int), .tuple (rs.map roadD)])), some (.sh (.int (ws.length : Nat))), some (.sh (.int (farOf rs))), some (.own2 (.list (matD ws.length (iniM (farOf rs))))), none, none, none, none, none, none]) _) fin) = _
  rw [h4, Option.bind_some]
  dsimp only
  unfold relaxG at h5
  rw [h5, Option.bind_some]
  rfl
end PL
namespace PL
open PySem PySem.Spec PyProof.Rows L2 DL
/-- an entry of the table in slot s, read through the borrowed view -/
theorem ent_at {n p q s cp cq : Nat} (m : Mat) {ρ : DL.Env} (hp : p < n) (hq : q < n) (h3 : cVar s (ρ.map thE) = some (.list (matD n m))) (h1 : cVar cp (ρ.map thE) = some (.int (p : Nat))) (h2 : cVar cq (ρ.map thE) = some (.int (q : Nat))) : cBor (c2 oIx (c2 oIx (cVar s) (cVar cp)) (cVar cq)) ρ = some (.int (m p q)) := by
  unfold cBor c2
  rw [h3, Option.bind_some, h1, Option.bind_some, ix_mat m hp, Option.bind_some, h2, Option.bind_some, ix_row (m p) hq, Option.bind_some]
  rfl
theorem cN2_at {o : List D → Option D} {f g : DL.Env → Option D} {ρ : DL.Env} {a b : D} (h1 : f ρ = some a) (h2 : g ρ = some b) : cN o (cCons f (cCons g cNil)) ρ = o [a, b] := by
  unfold cN cCons
  rw [h1, Option.bind_some, h2]
  rfl
def envR (x0 x1 x2 x4 : Option E) (e : Road) (x8 x9 : Option E) (n : Nat) (m : Mat) : DL.Env := [x0, x1, x2, some (.own2 (.list (matD n m))), x4, some (.sh (.int (e.1 : Nat))), some (.sh (.int (e.2.1 : Nat))), some (.sh (.int e.2.2)), x8, x9]
def relA : Gs := gSetI2 3 (lf (cN oMin (cCons (cBor (c2 oIx (c2 oIx (cVar 3) (cVar 8)) (cVar 6))) (cCons (c2 oAdd (cBor (c2 oIx (c2 oIx (cVar 3) (cVar 8)) (cVar 5))) (cVar 7)) cNil)))) (cVar 8) (cVar 6)
def relB : Gs := gSetI2 3 (lf (cN oMin (cCons (cBor (c2 oIx (c2 oIx (cVar 3) (cVar 8)) (cVar 5))) (cCons (c2 oAdd (cBor (c2 oIx (c2 oIx (cVar 3) (cVar 8)) (cVar 6))) (cVar 7)) cNil)))) (cVar 8) (cVar 5)
theorem relA_ok {n i : Nat} {e : Road} (hi : i < n) (ha : e.1 < n) (hb : e.2.1 < n) (m : Mat) (x0 x1 x2 x4 x9 : Option E) : relA (envR x0 x1 x2 x4 e (some (.sh (.int (i : Nat)))) x9 n m) = some (.nx, envR x0 x1 x2 x4 e (some (.sh (.int (i : Nat)))) x9 n (set2 m i e.2.1 (min (m i e.2.1) (m i e.1 + e.2.2)))) := by
  refine set_at (v := min (m i e.2.1) (m i e.1 + e.2.2)) m hi hb ?_ rfl rfl rfl
  have e1 := ent_at (s := 3) (cp := 8) (cq := 6) (ρ := envR x0 x1 x2 x4 e (some (.sh (.int (i : Nat)))) x9 n m) m hi hb rfl rfl rfl
  have e2 := ent_at (s := 3) (cp := 8) (cq := 5) (ρ := envR x0 x1 x2 x4 e (some (.sh (.int (i : Nat)))) x9 n m) m hi ha rfl rfl rfl
  have e3 : c2 oAdd (cBor (c2 oIx (c2 oIx (cVar 3) (cVar 8)) (cVar 5))) (cVar 7) (envR x0 x1 x2 x4 e (some (.sh (.int (i : Nat)))) x9 n m) = some (.int (m i e.1 + e.2.2)) := (c2_at (b := .int e.2.2) e2 rfl).trans rfl
  unfold lf
  rw [cN2_at e1 e3, min_ii]
  rfl
theorem relB_ok {n i : Nat} {e : Road} (hi : i < n) (ha : e.1 < n) (hb : e.2.1 < n) (m : Mat) (x0 x1 x2 x4 x9 : Option E) : relB (envR x0 x1 x2 x4 e (some (.sh (.int (i : Nat)))) x9 n m) = some (.nx, envR x0 x1 x2 x4 e (some (.sh (.int (i : Nat)))) x9 n (set2 m i e.1 (min (m i e.1) (m i e.2.1 + e.2.2)))) := by
  refine set_at (v := min (m i e.1) (m i e.2.1 + e.2.2)) m hi ha ?_ rfl rfl rfl
  have e1 := ent_at (s := 3) (cp := 8) (cq := 5) (ρ := envR x0 x1 x2 x4 e (some (.sh (.int (i : Nat)))) x9 n m) m hi ha rfl rfl rfl
  have e2 := ent_at (s := 3) (cp := 8) (cq := 6) (ρ := envR x0 x1 x2 x4 e (some (.sh (.int (i : Nat)))) x9 n m) m hi hb rfl rfl rfl
  have e3 : c2 oAdd (cBor (c2 oIx (c2 oIx (cVar 3) (cVar 8)) (cVar 6))) (cVar 7) (envR x0 x1 x2 x4 e (some (.sh (.int (i : Nat)))) x9 n m) = some (.int (m i e.2.1 + e.2.2)) := (c2_at (b := .int e.2.2) e2 rfl).trans rfl
  unfold lf
  rw [cN2_at e1 e3, min_ii]
  rfl
theorem loopE {n : Nat} (hn : n ≤ 1000) {e : Road} (ha : e.1 < n) (hb : e.2.1 < n) (m : Mat) (x0 x2 x4 x8 x9 : Option E) : ∃ y8, gFor (lfs (iN rg1 (cCons (cVar 1) cNil))) (bNm 8) (gSeq relA relB) (envR x0 (some (.sh (.int (n : Nat)))) x2 x4 e x8 x9 n m) = some (.nx, envR x0 (some (.sh (.int (n : Nat)))) x2 x4 e y8 x9 n (stepM n m e)) := by
  unfold gFor
  rw [range_it hn rfl, Option.bind_some]
  obtain ⟨ρ', h1, y8, h2⟩ := loop_rel (b := bNm 8) (g := gSeq relA relB) (fun j : Nat => PyData.int (j : Nat)) (fun (m : Mat) ρ => ∃ y, ρ = envR x0 (some (.sh (.int (n : Nat)))) x2 x4 e y x9 n m) (relaxR e) (List.range n) m _ (fun s i ρ hi ⟨y, q⟩ => by
    subst q
    have hi := List.mem_range.mp hi
    refine ⟨envR x0 (some (.sh (.int (n : Nat)))) x2 x4 e (some (.sh (.int (i : Nat)))) x9 n s, envR x0 (some (.sh (.int (n : Nat)))) x2 x4 e (some (.sh (.int (i : Nat)))) x9 n (relaxR e s i), rfl, .inl ?_, _, rfl⟩
    unfold gSeq
    rw [relA_ok hi ha hb, Option.bind_some]
    exact relB_ok hi ha hb _ _ _ _ _ _) ⟨x8, rfl⟩
  subst h2
  exact ⟨y8, h1⟩
abbrev roadsB : D → DL.Env → Option DL.Env := bTp 3 (bCons (bNm 5) (bCons (bNm 6) (bCons (bNm 7) bNil)))
theorem loopRoads {n : Nat} (hn : n ≤ 1000) (rs : List Road) (hr : ∀ e ∈ rs, e.1 < n ∧ e.2.1 < n) (m : Mat) (d0 : D) (x2 x4 x5 x6 x7 x8 x9 : Option E) :
    ∃ y5 y6 y7 y8, gFor (lfs (iS (c2 oIx (cVar 0) (cK (.int 1))))) roadsB (gFor (lfs (iN rg1 (cCons (cVar 1) cNil))) (bNm 8) (gSeq relA relB)) [some (.sh (.tuple [d0, .tuple (rs.map roadD)])), some (.sh (.int (n : Nat))), x2, some (.own2 (.list (matD n m))), x4, x5, x6, x7, x8, x9]
      = some (.nx, [some (.sh (.tuple [d0, .tuple (rs.map roadD)])), some (.sh (.int (n : Nat))), x2, some (.own2 (.list (matD n (rs.foldl (stepM n) m)))), x4, y5, y6, y7, y8, x9]) := by
  have it : lfs (iS (c2 oIx (cVar 0) (cK (.int 1)))) [some (.sh (.tuple [d0, .tuple (rs.map roadD)])), some (.sh (.int (n : Nat))), x2, some (.own2 (.list (matD n m))), x4, x5, x6, x7, x8, x9] = some (rs.map roadD, [some (.sh (.tuple [d0, .tuple (rs.map roadD)])), some (.sh (.int (n : Nat))), x2, some (.own2 (.list (matD n m))), x4, x5, x6, x7, x8, x9]) := rfl
  rw [show gFor (lfs (iS (c2 oIx (cVar 0) (cK (.int 1))))) roadsB (gFor (lfs (iN rg1 (cCons (cVar 1) cNil))) (bNm 8) (gSeq relA relB)) [some (.sh (.tuple [d0, .tuple (rs.map roadD)])), some (.sh (.int (n : Nat))), x2, some (.own2 (.list (matD n m))), x4, x5, x6, x7, x8, x9] = (lfs (iS (c2 oIx (cVar 0) (cK (.int 1)))) [some (.sh (.tuple [d0, .tuple (rs.map roadD)])), some (.sh (.int (n : Nat))), x2, some (.own2 (.list (matD n m))), x4, x5, x6, x7, x8, x9]).bind fun p => gLoop roadsB (gFor (lfs (iN rg1 (cCons (cVar 1) cNil))) (bNm 8) (gSeq relA relB)) p.1 p.2 from rfl]
  rw [it, Option.bind_some]
  obtain ⟨ρ', h1, y5, y6, y7, y8, h2⟩ := loop_rel (b := roadsB) (g := gFor (lfs (iN rg1 (cCons (cVar 1) cNil))) (bNm 8) (gSeq relA relB)) roadD (fun (m : Mat) ρ => ∃ y5 y6 y7 y8, ρ = [some (.sh (.tuple [d0, .tuple (rs.map roadD)])), some (.sh (.int (n : Nat))), x2, some (.own2 (.list (matD n m))), x4, y5, y6, y7, y8, x9]) (stepM n) rs m _ (fun s e ρ he ⟨y5, y6, y7, y8, q⟩ => by
    subst q
    obtain ⟨ha, hb⟩ := hr e he
    obtain ⟨z8, hz⟩ := loopE hn ha hb s (some (.sh (.tuple [d0, .tuple (rs.map roadD)]))) x2 x4 y8 x9
    exact ⟨_, _, rfl, .inl hz, some (.sh (.int (e.1 : Nat))), some (.sh (.int (e.2.1 : Nat))), some (.sh (.int e.2.2)), z8, rfl⟩) ⟨x5, x6, x7, x8, rfl⟩
  subst h2
  exact ⟨y5, y6, y7, y8, h1⟩
theorem loopTurns {n : Nat} (hn : n ≤ 1000) (rs : List Road) (hr : ∀ e ∈ rs, e.1 < n ∧ e.2.1 < n) (m : Mat) (d0 : D) (x2 x4 x5 x6 x7 x8 x9 : Option E) :
    ∃ y4 y5 y6 y7 y8, gFor (lfs (iN rg1 (cCons (cVar 1) cNil))) (bNm 4) (gFor (lfs (iS (c2 oIx (cVar 0) (cK (.int 1))))) roadsB (gFor (lfs (iN rg1 (cCons (cVar 1) cNil))) (bNm 8) (gSeq relA relB))) [some (.sh (.tuple [d0, .tuple (rs.map roadD)])), some (.sh (.int (n : Nat))), x2, some (.own2 (.list (matD n m))), x4, x5, x6, x7, x8, x9]
      = some (.nx, [some (.sh (.tuple [d0, .tuple (rs.map roadD)])), some (.sh (.int (n : Nat))), x2, some (.own2 (.list (matD n (rowsM n rs m)))), y4, y5, y6, y7, y8, x9]) := by
  rw [show gFor (lfs (iN rg1 (cCons (cVar 1) cNil))) (bNm 4) (gFor (lfs (iS (c2 oIx (cVar 0) (cK (.int 1))))) roadsB (gFor (lfs (iN rg1 (cCons (cVar 1) cNil))) (bNm 8) (gSeq relA relB))) [some (.sh (.tuple [d0, .tuple (rs.map roadD)])), some (.sh (.int (n : Nat))), x2, some (.own2 (.list (matD n m))), x4, x5, x6, x7, x8, x9] = (lfs (iN rg1 (cCons (cVar 1) cNil)) [some (.sh (.tuple [d0, .tuple (rs.map roadD)])), some (.sh (.int (n : Nat))), x2, some (.own2 (.list (matD n m))), x4, x5, x6, x7, x8, x9]).bind fun p => gLoop (bNm 4) (gFor (lfs (iS (c2 oIx (cVar 0) (cK (.int 1))))) roadsB (gFor (lfs (iN rg1 (cCons (cVar 1) cNil))) (bNm 8) (gSeq relA relB))) p.1 p.2 from rfl]
  rw [range_it hn rfl, Option.bind_some]
  obtain ⟨ρ', h1, y4, y5, y6, y7, y8, h2⟩ := loop_rel (b := bNm 4) (g := gFor (lfs (iS (c2 oIx (cVar 0) (cK (.int 1))))) roadsB (gFor (lfs (iN rg1 (cCons (cVar 1) cNil))) (bNm 8) (gSeq relA relB))) (fun j : Nat => PyData.int (j : Nat)) (fun (m : Mat) ρ => ∃ y4 y5 y6 y7 y8, ρ = [some (.sh (.tuple [d0, .tuple (rs.map roadD)])), some (.sh (.int (n : Nat))), x2, some (.own2 (.list (matD n m))), y4, y5, y6, y7, y8, x9]) (roundM n rs) (List.range n) m _ (fun s i ρ hi ⟨y4, y5, y6, y7, y8, q⟩ => by
    subst q
    obtain ⟨z5, z6, z7, z8, hz⟩ := loopRoads hn rs hr s d0 x2 (some (.sh (.int (i : Nat)))) y5 y6 y7 y8 x9
    exact ⟨_, _, rfl, .inl hz, _, z5, z6, z7, z8, rfl⟩) ⟨x4, x5, x6, x7, x8, rfl⟩
  subst h2
  exact ⟨y4, y5, y6, y7, y8, h1⟩
theorem law_rows_ok (ws : List Int) (rs : List Road) (hn : ws.length ≤ 1000) (hr : ∀ e ∈ rs, e.1 < ws.length ∧ e.2.1 < ws.length) :
    DG.mm__law_rows [webD ws rs] = some (.list (matD ws.length (rowsM ws.length rs (iniM 1000000)))) := by
  have hw : webD ws rs = .tuple [.tuple (ws.map .int), .tuple (rs.map roadD)] := rfl
  rw [hw]
  show ((DG.gs__law_rows [some (.sh (.tuple [.tuple (ws.map .int), .tuple (rs.map roadD)])), none, none, none, none, none, none, none, none, none]).bind fin) = _
  unfold DG.gs__law_rows
  unfold gSeq
  have s1 : gPar2 1 2 (wsh (lf (cN oLen (cCons (c2 oIx (cVar 0) (cK (.int 0))) cNil)))) (wsh (lf (c2 oPow (cK (.int 10)) (cK (.int 6))))) [some (.sh (.tuple [.tuple (ws.map .int), .tuple (rs.map roadD)])), none, none, none, none, none, none, none, none, none] = some (.nx, [some (.sh (.tuple [.tuple (ws.map .int), .tuple (rs.map roadD)])), some (.sh (.int (ws.length : Nat))), some (.sh (.int 1000000)), none, none, none, none, none, none, none]) := by
    have e : wsh (lf (cN oLen (cCons (c2 oIx (cVar 0) (cK (.int 0))) cNil))) [some (.sh (.tuple [.tuple (ws.map .int), .tuple (rs.map roadD)])), none, none, none, none, none, none, none, none, none] = some (.sh (.int ((ws.map PyData.int).length : Nat)), [some (.sh (.tuple [.tuple (ws.map .int), .tuple (rs.map roadD)])), none, none, none, none, none, none, none, none, none]) := rfl
    unfold gPar2
    rw [e, List.length_map]
    rfl
  rw [s1, Option.bind_some]
  dsimp only
  unfold gSetW
  rw [ini_ok hn]
  rw [Option.map_some, Option.bind_some]
  dsimp only
  obtain ⟨y4, y5, y6, y7, y8, h4⟩ := loopTurns hn rs hr (iniM 1000000) (.tuple (ws.map .int)) (some (.sh (.int 1000000))) none none none none none none
  unfold relA relB gSeq at h4
  show (Option.bind (Option.bind (gFor _ _ _ [some (.sh (.tuple [.tuple (ws.map .int), .tuple (rs.map roadD)])), some (.sh (.int (ws.length : Nat))), some (.sh (.int 1000000)), some (.own2 (.list (matD ws.length (iniM 1000000)))), none, none, none, none, none, none]) _) fin) = _
  rw [h4, Option.bind_some]
  rfl
end PL
namespace PL
open PySem PySem.Spec PyProof.Rows L2 DL
theorem matD_congr {n : Nat} {m m' : Mat} (h : ∀ i j, i < n → j < n → m i j = m' i j) : matD n m = matD n m' := by
  unfold matD rowD
  refine List.map_congr_left fun i hi => ?_
  rw [List.map_congr_left fun j hj => ?_]
  rw [h i j (List.mem_range.mp hi) (List.mem_range.mp hj)]
theorem web_lt {n : Nat} {rs : List Road} (w : Web n rs) : ∀ e ∈ rs, e.1 < n ∧ e.2.1 < n := fun e he => by
  have := w.lt e he
  omega
/-- the table that the program makes of a web -/
theorem table_dist0 {ws : List Int} {rs : List Road} (w : WebZ ws.length rs) (hn : ws.length ≤ 1000) : DG.mm_table_of [webD ws rs] = some (.list (matD ws.length (dist ws.length rs))) := by
  rw [table_of_ok ws rs hn (by have := w.few; omega) fun e he => by have := w.lt e he; omega, farOf_eq]
  have t := table_eq (zero_laid0 w (far_nn0 w)) ws.length ws.length (Nat.le_refl _)
  have e : matD ws.length (table ws.length (rs.foldl lay (iniM (far rs)))) = matD ws.length (dist ws.length rs) := matD_congr fun i j hi hj => t.2 i j hi hj
  rw [e]
theorem table_dist {ws : List Int} {rs : List Road} (w : Web ws.length rs) (hn : ws.length ≤ 1000) : DG.mm_table_of [webD ws rs] = some (.list (matD ws.length (dist ws.length rs))) := table_dist0 w.zer hn
/-- the rows that the law makes of it: the same -/
theorem rows_same {ws : List Int} {rs : List Road} (w : Web ws.length rs) (hn : ws.length ≤ 1000) : DG.mm__law_rows [webD ws rs] = some (.list (matD ws.length (dist ws.length rs))) := by
  rw [law_rows_ok ws rs hn (web_lt w)]
  have e : matD ws.length (rowsM ws.length rs (iniM 1000000)) = matD ws.length (dist ws.length rs) := matD_congr fun i j hi hj => by
    show rowsM ws.length rs (iniM 1000000) i j = _
    unfold rowsM
    rw [rowsM_eq hi]
    exact rows_dist w hi hj
  rw [e]
end PL
namespace PL
open PySem PySem.Spec PyProof.Rows L2 DL
/-- the row of draws -/
def RowS (ns : List Int) (ds : List D) : Prop := ∃ s : Stt, ds = stD ns s ∧ 0 ≤ s.k
theorem taken {ns : List Int} {ds : List D} (h : RowS ns ds) {m : Int} {M : Nat} (hm : m = (M : Nat)) (h0 : 0 < M) (h1 : M < 1000000) : ∃ (r : Nat) (ds' : List D), DG.mm__law_taken ds [.int m] = some (.int (r : Nat), ds') ∧ r < M ∧ RowS ns ds' := by
  obtain ⟨s, e, hk⟩ := h
  subst e hm
  obtain ⟨r, s', e1, r0, r1, k'⟩ := taken_st ns s hk (M : Nat) (by omega) (by omega)
  refine ⟨r.toNat, stD ns s', ?_, by omega, s', rfl, k'⟩
  rw [e1, Int.toNat_of_nonneg r0]
theorem pick {ns : List Int} {ds : List D} (h : RowS ns ds) {xs : List D} (h0 : xs ≠ []) (h1 : xs.length < 1000000) : ∃ (x : D) (ds' : List D), DG.mm__law_pick ds [.list xs] = some (x, ds') ∧ x ∈ xs ∧ RowS ns ds' := by
  obtain ⟨s, e, hk⟩ := h
  subst e
  obtain ⟨x, s', e1, hx, k'⟩ := pick_st ns s hk xs h0 h1
  exact ⟨x, _, e1, hx, s', rfl, k'⟩
def natL (xs : List Nat) : D := .list (xs.map fun x => .int (x : Nat))
def natT (xs : List Nat) : D := .tuple (xs.map fun x => .int (x : Nat))
theorem order_ok {ns : List Int} {ds : List D} (h : RowS ns ds) {n : Nat} (hn : n ≤ 1000) : ∃ (p : List Nat) (ds' : List D), DG.mm__law_order ds [.int (n : Nat)] = some (natL p, ds') ∧ p.Perm (List.range n) ∧ RowS ns ds' := by
  have w : ∃ d ds', DG.mm__law_order ds [.int (n : Nat)] = some (d, ds') ∧ ∃ p : List Nat, d = natL p ∧ p.Perm (List.range n) ∧ RowS ns ds' := by
    refine runR_ok rfl ?_
    unfold DG.gs__law_order
    refine wG.seq (wG.par2 (a := .sh (natL (List.range n))) (b := .own (.list [])) (ρ1 := some (.row (.list ds)) :: ini 5 [.int (n : Nat)]) (ρ2 := some (.row (.list ds)) :: ini 5 [.int (n : Nat)]) ?_ ?_ ?_)
    · simp only [List.map_append, List.map_cons, List.map_nil, List.length_append, PL.δA, PL.δB, PL.δC, PL.δD, PL.δE, PL.δF, PL.δG, PL.δH, PL.δI, PL.δJ, PL.δK, PL.δL, PL.δM, PL.δN, PL.δO, PL.δP, PL.δQ, PL.δR, PL.δS, PL.δT, PL.δU, PL.δV, PL.δW, PL.δX, PL.δY, PL.δZ, PL.δa, PL.δb, PL.δc, PL.δd, PL.δe, PL.δf, PL.δg, PL.δh, PL.δi, PL.δj, PL.δk, PL.δl, PL.δm, PL.δn, PL.δo, PL.δp, PL.δq, PL.δr, PL.δs, PL.δt, PL.δu, PL.δv, PL.δw, PL.δx, PL.δy, PL.δz, PL.δ0, PL.δ1, PL.δ2, PL.δ3, PL.δ4, PL.δ5, PL.δ6, PL.δ7, PL.δ8, PL.δ9, PL.ζA, PL.ζB, PL.ζC, PL.ζD, PL.ζE, PL.ζF, PL.ζG, PL.ζH, PL.ζI, PL.ζJ, PL.ζK, PL.ζL, PL.ζM, PL.ζN, PL.ζO, PL.ζP, PL.ζQ, PL.ζR, PL.ζS, PL.ζT, PL.ζU, PL.ζV, PL.ζW, PL.ζX, PL.ζY, PL.ζZ, PL.ζa, PL.ζb, PL.ζc, PL.ζd, PL.ζe, PL.ζf, PL.ζg, PL.ζh, PL.ζi, PL.ζj, PL.ζk, PL.ζl, PL.ζm, PL.ζn, PL.ζo, PL.ζp, PL.ζq, PL.ζr, PL.ζs, PL.ζt, PL.ζu, PL.ζv, PL.ζw, PL.ζx, PL.ζy, PL.ζz, PL.ζ0, PL.ζ1, PL.ζ2, PL.ζ3, PL.ζ4, PL.ζ5, PL.ζ6, PL.ζ7, PL.ζ8, PL.ζ9, PL.ηA, PL.ηB, PL.ηC, PL.ηD, PL.ηE, PL.ηF, PL.ηG, PL.ηH, PL.ηI, PL.ηJ, PL.ηK, PL.ηL, PL.ηM, PL.ηN, PL.ηO, PL.ηP, PL.ηQ, PL.ηR, PL.ηS, PL.ηT, PL.ηU, PL.ηV, PL.ηW, PL.ηX, PL.ηY, PL.ηZ, PL.ηa, PL.ηb, PL.ηc, PL.ηd, PL.ηe, PL.ηf, PL.ηg, PL.ηh, PL.ηi, PL.ηj, PL.ηk, PL.ηl, PL.ηm, PL.ηn, PL.ηo, PL.ηp, PL.ηq, PL.ηr, PL.ηs, PL.ηt, PL.ηu, PL.ηv, PL.ηw, PL.ηx, PL.ηy, PL.ηz, PL.η0, PL.η1, PL.η2, PL.η3, PL.η4, PL.η5, PL.η6, PL.η7, PL.η8, PL.η9, PL.ξA, PL.ξB, PL.ξC, PL.ξD, PL.ξE, PL.ξF, PL.ξG, PL.ξH, PL.ξI, PL.ξJ, PL.ξK, PL.ξL, PL.ξM, PL.ξN, PL.ξO, PL.ξP, PL.ξQ, PL.ξR, PL.ξS, PL.ξT, PL.ξU, PL.ξV, PL.ξW, PL.ξX, PL.ξY, PL.ξZ, PL.ξa, PL.ξb, PL.ξc, PL.ξd, PL.ξe, PL.ξf, PL.ξg, PL.ξh, PL.ξi, PL.ξj, PL.ξk, PL.ξl, PL.ξm, PL.ξn, PL.ξo, PL.ξp, PL.ξq, PL.ξr, PL.ξs, PL.ξt, PL.ξu, PL.ξv, PL.ξw, PL.ξx, PL.ξy, PL.ξz, PL.ξ0, PL.ξ1, PL.ξ2, PL.ξ3, PL.ξ4, PL.ξ5, PL.ξ6, PL.ξ7, PL.ξ8, PL.ξ9, PL.χA, PL.χB, PL.χC, PL.χD, PL.χE, PL.χF, PL.χG, PL.χH, PL.χI, PL.χJ, PL.χK, PL.χL, PL.χM, PL.χN, PL.χO, PL.χP, PL.χQ, PL.χR, PL.χS, PL.χT, PL.χU, PL.χV, PL.χW, PL.χX, PL.χY, PL.χZ, PL.χa, PL.χb, PL.χc, PL.χd, PL.χe, PL.χf, PL.χg, PL.χh, PL.χi, PL.χj, PL.χk, PL.χl, PL.χm, PL.χn, PL.χo, PL.χp, ini, hn, natL]
    · simp only [List.map_append, List.map_cons, List.map_nil, List.length_append, PL.δA, PL.δB, PL.δC, PL.δD, PL.δE, PL.δF, PL.δG, PL.δH, PL.δI, PL.δJ, PL.δK, PL.δL, PL.δM, PL.δN, PL.δO, PL.δP, PL.δQ, PL.δR, PL.δS, PL.δT, PL.δU, PL.δV, PL.δW, PL.δX, PL.δY, PL.δZ, PL.δa, PL.δb, PL.δc, PL.δd, PL.δe, PL.δf, PL.δg, PL.δh, PL.δi, PL.δj, PL.δk, PL.δl, PL.δm, PL.δn, PL.δo, PL.δp, PL.δq, PL.δr, PL.δs, PL.δt, PL.δu, PL.δv, PL.δw, PL.δx, PL.δy, PL.δz, PL.δ0, PL.δ1, PL.δ2, PL.δ3, PL.δ4, PL.δ5, PL.δ6, PL.δ7, PL.δ8, PL.δ9, PL.ζA, PL.ζB, PL.ζC, PL.ζD, PL.ζE, PL.ζF, PL.ζG, PL.ζH, PL.ζI, PL.ζJ, PL.ζK, PL.ζL, PL.ζM, PL.ζN, PL.ζO, PL.ζP, PL.ζQ, PL.ζR, PL.ζS, PL.ζT, PL.ζU, PL.ζV, PL.ζW, PL.ζX, PL.ζY, PL.ζZ, PL.ζa, PL.ζb, PL.ζc, PL.ζd, PL.ζe, PL.ζf, PL.ζg, PL.ζh, PL.ζi, PL.ζj, PL.ζk, PL.ζl, PL.ζm, PL.ζn, PL.ζo, PL.ζp, PL.ζq, PL.ζr, PL.ζs, PL.ζt, PL.ζu, PL.ζv, PL.ζw, PL.ζx, PL.ζy, PL.ζz, PL.ζ0, PL.ζ1, PL.ζ2, PL.ζ3, PL.ζ4, PL.ζ5, PL.ζ6, PL.ζ7, PL.ζ8, PL.ζ9, PL.ηA, PL.ηB, PL.ηC, PL.ηD, PL.ηE, PL.ηF, PL.ηG, PL.ηH, PL.ηI, PL.ηJ, PL.ηK, PL.ηL, PL.ηM, PL.ηN, PL.ηO, PL.ηP, PL.ηQ, PL.ηR, PL.ηS, PL.ηT, PL.ηU, PL.ηV, PL.ηW, PL.ηX, PL.ηY, PL.ηZ, PL.ηa, PL.ηb, PL.ηc, PL.ηd, PL.ηe, PL.ηf, PL.ηg, PL.ηh, PL.ηi, PL.ηj, PL.ηk, PL.ηl, PL.ηm, PL.ηn, PL.ηo, PL.ηp, PL.ηq, PL.ηr, PL.ηs, PL.ηt, PL.ηu, PL.ηv, PL.ηw, PL.ηx, PL.ηy, PL.ηz, PL.η0, PL.η1, PL.η2, PL.η3, PL.η4, PL.η5, PL.η6, PL.η7, PL.η8, PL.η9, PL.ξA, PL.ξB, PL.ξC, PL.ξD, PL.ξE, PL.ξF, PL.ξG, PL.ξH, PL.ξI, PL.ξJ, PL.ξK, PL.ξL, PL.ξM, PL.ξN, PL.ξO, PL.ξP, PL.ξQ, PL.ξR, PL.ξS, PL.ξT, PL.ξU, PL.ξV, PL.ξW, PL.ξX, PL.ξY, PL.ξZ, PL.ξa, PL.ξb, PL.ξc, PL.ξd, PL.ξe, PL.ξf, PL.ξg, PL.ξh, PL.ξi, PL.ξj, PL.ξk, PL.ξl, PL.ξm, PL.ξn, PL.ξo, PL.ξp, PL.ξq, PL.ξr, PL.ξs, PL.ξt, PL.ξu, PL.ξv, PL.ξw, PL.ξx, PL.ξy, PL.ξz, PL.ξ0, PL.ξ1, PL.ξ2, PL.ξ3, PL.ξ4, PL.ξ5, PL.ξ6, PL.ξ7, PL.ξ8, PL.ξ9, PL.χA, PL.χB, PL.χC, PL.χD, PL.χE, PL.χF, PL.χG, PL.χH, PL.χI, PL.χJ, PL.χK, PL.χL, PL.χM, PL.χN, PL.χO, PL.χP, PL.χQ, PL.χR, PL.χS, PL.χT, PL.χU, PL.χV, PL.χW, PL.χX, PL.χY, PL.χZ, PL.χa, PL.χb, PL.χc, PL.χd, PL.χe, PL.χf, PL.χg, PL.χh, PL.χi, PL.χj, PL.χk, PL.χl, PL.χm, PL.χn, PL.χo, PL.χp, Nat.zero_le]
    refine wG.seq (wG.loop (fun i : Nat => PyData.int (i : Nat)) (List.range n) (fun pre ρ => ∃ ds left found x4 x5, ρ = [some (.row (.list ds)), some (.sh (.int (n : Nat))), some (.sh (natL left)), some (.own (natL found)), x4, x5] ∧ RowS ns ds ∧ (found ++ left).Perm (List.range n) ∧ left.length + pre.length = n) (ρ1 := [some (.row (.list ds)), some (.sh (.int (n : Nat))), some (.sh (natL (List.range n))), some (.own (natL [])), none, none]) ?_ ?_ ?_ ?_)
    · simp only [List.map_append, List.map_cons, List.map_nil, List.length_append, PL.δA, PL.δB, PL.δC, PL.δD, PL.δE, PL.δF, PL.δG, PL.δH, PL.δI, PL.δJ, PL.δK, PL.δL, PL.δM, PL.δN, PL.δO, PL.δP, PL.δQ, PL.δR, PL.δS, PL.δT, PL.δU, PL.δV, PL.δW, PL.δX, PL.δY, PL.δZ, PL.δa, PL.δb, PL.δc, PL.δd, PL.δe, PL.δf, PL.δg, PL.δh, PL.δi, PL.δj, PL.δk, PL.δl, PL.δm, PL.δn, PL.δo, PL.δp, PL.δq, PL.δr, PL.δs, PL.δt, PL.δu, PL.δv, PL.δw, PL.δx, PL.δy, PL.δz, PL.δ0, PL.δ1, PL.δ2, PL.δ3, PL.δ4, PL.δ5, PL.δ6, PL.δ7, PL.δ8, PL.δ9, PL.ζA, PL.ζB, PL.ζC, PL.ζD, PL.ζE, PL.ζF, PL.ζG, PL.ζH, PL.ζI, PL.ζJ, PL.ζK, PL.ζL, PL.ζM, PL.ζN, PL.ζO, PL.ζP, PL.ζQ, PL.ζR, PL.ζS, PL.ζT, PL.ζU, PL.ζV, PL.ζW, PL.ζX, PL.ζY, PL.ζZ, PL.ζa, PL.ζb, PL.ζc, PL.ζd, PL.ζe, PL.ζf, PL.ζg, PL.ζh, PL.ζi, PL.ζj, PL.ζk, PL.ζl, PL.ζm, PL.ζn, PL.ζo, PL.ζp, PL.ζq, PL.ζr, PL.ζs, PL.ζt, PL.ζu, PL.ζv, PL.ζw, PL.ζx, PL.ζy, PL.ζz, PL.ζ0, PL.ζ1, PL.ζ2, PL.ζ3, PL.ζ4, PL.ζ5, PL.ζ6, PL.ζ7, PL.ζ8, PL.ζ9, PL.ηA, PL.ηB, PL.ηC, PL.ηD, PL.ηE, PL.ηF, PL.ηG, PL.ηH, PL.ηI, PL.ηJ, PL.ηK, PL.ηL, PL.ηM, PL.ηN, PL.ηO, PL.ηP, PL.ηQ, PL.ηR, PL.ηS, PL.ηT, PL.ηU, PL.ηV, PL.ηW, PL.ηX, PL.ηY, PL.ηZ, PL.ηa, PL.ηb, PL.ηc, PL.ηd, PL.ηe, PL.ηf, PL.ηg, PL.ηh, PL.ηi, PL.ηj, PL.ηk, PL.ηl, PL.ηm, PL.ηn, PL.ηo, PL.ηp, PL.ηq, PL.ηr, PL.ηs, PL.ηt, PL.ηu, PL.ηv, PL.ηw, PL.ηx, PL.ηy, PL.ηz, PL.η0, PL.η1, PL.η2, PL.η3, PL.η4, PL.η5, PL.η6, PL.η7, PL.η8, PL.η9, PL.ξA, PL.ξB, PL.ξC, PL.ξD, PL.ξE, PL.ξF, PL.ξG, PL.ξH, PL.ξI, PL.ξJ, PL.ξK, PL.ξL, PL.ξM, PL.ξN, PL.ξO, PL.ξP, PL.ξQ, PL.ξR, PL.ξS, PL.ξT, PL.ξU, PL.ξV, PL.ξW, PL.ξX, PL.ξY, PL.ξZ, PL.ξa, PL.ξb, PL.ξc, PL.ξd, PL.ξe, PL.ξf, PL.ξg, PL.ξh, PL.ξi, PL.ξj, PL.ξk, PL.ξl, PL.ξm, PL.ξn, PL.ξo, PL.ξp, PL.ξq, PL.ξr, PL.ξs, PL.ξt, PL.ξu, PL.ξv, PL.ξw, PL.ξx, PL.ξy, PL.ξz, PL.ξ0, PL.ξ1, PL.ξ2, PL.ξ3, PL.ξ4, PL.ξ5, PL.ξ6, PL.ξ7, PL.ξ8, PL.ξ9, PL.χA, PL.χB, PL.χC, PL.χD, PL.χE, PL.χF, PL.χG, PL.χH, PL.χI, PL.χJ, PL.χK, PL.χL, PL.χM, PL.χN, PL.χO, PL.χP, PL.χQ, PL.χR, PL.χS, PL.χT, PL.χU, PL.χV, PL.χW, PL.χX, PL.χY, PL.χZ, PL.χa, PL.χb, PL.χc, PL.χd, PL.χe, PL.χf, PL.χg, PL.χh, PL.χi, PL.χj, PL.χk, PL.χl, PL.χm, PL.χn, PL.χo, PL.χp, ini, hn, natL]
    · exact ⟨ds, List.range n, [], none, none, rfl, h, .refl _, by simp⟩
    · intro pre x post ρ ex hr
      obtain ⟨ds, left, found, x4, x5, e, hs, hp, hl⟩ := hr
      subst e
      have lx := congrArg List.length ex
      simp at lx
      obtain ⟨r, ds1, e1, hr1, hs1⟩ := taken hs (m := (left.length : Nat)) rfl (by omega) (by omega)
      have hg : left[r]? = some left[r] := List.getElem?_eq_getElem hr1
      have hfl : found.length ≤ 1000 := by
        have := hp.length_eq
        rw [List.length_append, List.length_range] at this
        omega
      have e3 : ((r : Nat) : Int) + 1 = ((r + 1 : Nat) : Int) := by omega
      refine ⟨_, rfl, .nx, [some (.row (.list ds1)), some (.sh (.int (n : Nat))), some (.sh (natL (left.take r ++ left.drop (r + 1)))), some (.own (natL (found ++ [left[r]]))), some (.sh (.int (x : Nat))), some (.sh (.int (r : Nat)))], ?_, ?_⟩
      · simp only [List.map_append, List.map_cons, List.map_nil, List.length_append, PL.δA, PL.δB, PL.δC, PL.δD, PL.δE, PL.δF, PL.δG, PL.δH, PL.δI, PL.δJ, PL.δK, PL.δL, PL.δM, PL.δN, PL.δO, PL.δP, PL.δQ, PL.δR, PL.δS, PL.δT, PL.δU, PL.δV, PL.δW, PL.δX, PL.δY, PL.δZ, PL.δa, PL.δb, PL.δc, PL.δd, PL.δe, PL.δf, PL.δg, PL.δh, PL.δi, PL.δj, PL.δk, PL.δl, PL.δm, PL.δn, PL.δo, PL.δp, PL.δq, PL.δr, PL.δs, PL.δt, PL.δu, PL.δv, PL.δw, PL.δx, PL.δy, PL.δz, PL.δ0, PL.δ1, PL.δ2, PL.δ3, PL.δ4, PL.δ5, PL.δ6, PL.δ7, PL.δ8, PL.δ9, PL.ζA, PL.ζB, PL.ζC, PL.ζD, PL.ζE, PL.ζF, PL.ζG, PL.ζH, PL.ζI, PL.ζJ, PL.ζK, PL.ζL, PL.ζM, PL.ζN, PL.ζO, PL.ζP, PL.ζQ, PL.ζR, PL.ζS, PL.ζT, PL.ζU, PL.ζV, PL.ζW, PL.ζX, PL.ζY, PL.ζZ, PL.ζa, PL.ζb, PL.ζc, PL.ζd, PL.ζe, PL.ζf, PL.ζg, PL.ζh, PL.ζi, PL.ζj, PL.ζk, PL.ζl, PL.ζm, PL.ζn, PL.ζo, PL.ζp, PL.ζq, PL.ζr, PL.ζs, PL.ζt, PL.ζu, PL.ζv, PL.ζw, PL.ζx, PL.ζy, PL.ζz, PL.ζ0, PL.ζ1, PL.ζ2, PL.ζ3, PL.ζ4, PL.ζ5, PL.ζ6, PL.ζ7, PL.ζ8, PL.ζ9, PL.ηA, PL.ηB, PL.ηC, PL.ηD, PL.ηE, PL.ηF, PL.ηG, PL.ηH, PL.ηI, PL.ηJ, PL.ηK, PL.ηL, PL.ηM, PL.ηN, PL.ηO, PL.ηP, PL.ηQ, PL.ηR, PL.ηS, PL.ηT, PL.ηU, PL.ηV, PL.ηW, PL.ηX, PL.ηY, PL.ηZ, PL.ηa, PL.ηb, PL.ηc, PL.ηd, PL.ηe, PL.ηf, PL.ηg, PL.ηh, PL.ηi, PL.ηj, PL.ηk, PL.ηl, PL.ηm, PL.ηn, PL.ηo, PL.ηp, PL.ηq, PL.ηr, PL.ηs, PL.ηt, PL.ηu, PL.ηv, PL.ηw, PL.ηx, PL.ηy, PL.ηz, PL.η0, PL.η1, PL.η2, PL.η3, PL.η4, PL.η5, PL.η6, PL.η7, PL.η8, PL.η9, PL.ξA, PL.ξB, PL.ξC, PL.ξD, PL.ξE, PL.ξF, PL.ξG, PL.ξH, PL.ξI, PL.ξJ, PL.ξK, PL.ξL, PL.ξM, PL.ξN, PL.ξO, PL.ξP, PL.ξQ, PL.ξR, PL.ξS, PL.ξT, PL.ξU, PL.ξV, PL.ξW, PL.ξX, PL.ξY, PL.ξZ, PL.ξa, PL.ξb, PL.ξc, PL.ξd, PL.ξe, PL.ξf, PL.ξg, PL.ξh, PL.ξi, PL.ξj, PL.ξk, PL.ξl, PL.ξm, PL.ξn, PL.ξo, PL.ξp, PL.ξq, PL.ξr, PL.ξs, PL.ξt, PL.ξu, PL.ξv, PL.ξw, PL.ξx, PL.ξy, PL.ξz, PL.ξ0, PL.ξ1, PL.ξ2, PL.ξ3, PL.ξ4, PL.ξ5, PL.ξ6, PL.ξ7, PL.ξ8, PL.ξ9, PL.χA, PL.χB, PL.χC, PL.χD, PL.χE, PL.χF, PL.χG, PL.χH, PL.χI, PL.χJ, PL.χK, PL.χL, PL.χM, PL.χN, PL.χO, PL.χP, PL.χQ, PL.χR, PL.χS, PL.χT, PL.χU, PL.χV, PL.χW, PL.χX, PL.χY, PL.χZ, PL.χa, PL.χb, PL.χc, PL.χd, PL.χe, PL.χf, PL.χg, PL.χh, PL.χi, PL.χj, PL.χk, PL.χl, PL.χm, PL.χn, PL.χo, PL.χp, natL, e1, hg, hfl, e3]
        rw [cat_l _ _ (by rw [List.length_take, List.length_drop, List.length_map]; omega)]
        simp only [List.map_append, List.map_cons, List.map_nil, List.length_append, PL.δA, PL.δB, PL.δC, PL.δD, PL.δE, PL.δF, PL.δG, PL.δH, PL.δI, PL.δJ, PL.δK, PL.δL, PL.δM, PL.δN, PL.δO, PL.δP, PL.δQ, PL.δR, PL.δS, PL.δT, PL.δU, PL.δV, PL.δW, PL.δX, PL.δY, PL.δZ, PL.δa, PL.δb, PL.δc, PL.δd, PL.δe, PL.δf, PL.δg, PL.δh, PL.δi, PL.δj, PL.δk, PL.δl, PL.δm, PL.δn, PL.δo, PL.δp, PL.δq, PL.δr, PL.δs, PL.δt, PL.δu, PL.δv, PL.δw, PL.δx, PL.δy, PL.δz, PL.δ0, PL.δ1, PL.δ2, PL.δ3, PL.δ4, PL.δ5, PL.δ6, PL.δ7, PL.δ8, PL.δ9, PL.ζA, PL.ζB, PL.ζC, PL.ζD, PL.ζE, PL.ζF, PL.ζG, PL.ζH, PL.ζI, PL.ζJ, PL.ζK, PL.ζL, PL.ζM, PL.ζN, PL.ζO, PL.ζP, PL.ζQ, PL.ζR, PL.ζS, PL.ζT, PL.ζU, PL.ζV, PL.ζW, PL.ζX, PL.ζY, PL.ζZ, PL.ζa, PL.ζb, PL.ζc, PL.ζd, PL.ζe, PL.ζf, PL.ζg, PL.ζh, PL.ζi, PL.ζj, PL.ζk, PL.ζl, PL.ζm, PL.ζn, PL.ζo, PL.ζp, PL.ζq, PL.ζr, PL.ζs, PL.ζt, PL.ζu, PL.ζv, PL.ζw, PL.ζx, PL.ζy, PL.ζz, PL.ζ0, PL.ζ1, PL.ζ2, PL.ζ3, PL.ζ4, PL.ζ5, PL.ζ6, PL.ζ7, PL.ζ8, PL.ζ9, PL.ηA, PL.ηB, PL.ηC, PL.ηD, PL.ηE, PL.ηF, PL.ηG, PL.ηH, PL.ηI, PL.ηJ, PL.ηK, PL.ηL, PL.ηM, PL.ηN, PL.ηO, PL.ηP, PL.ηQ, PL.ηR, PL.ηS, PL.ηT, PL.ηU, PL.ηV, PL.ηW, PL.ηX, PL.ηY, PL.ηZ, PL.ηa, PL.ηb, PL.ηc, PL.ηd, PL.ηe, PL.ηf, PL.ηg, PL.ηh, PL.ηi, PL.ηj, PL.ηk, PL.ηl, PL.ηm, PL.ηn, PL.ηo, PL.ηp, PL.ηq, PL.ηr, PL.ηs, PL.ηt, PL.ηu, PL.ηv, PL.ηw, PL.ηx, PL.ηy, PL.ηz, PL.η0, PL.η1, PL.η2, PL.η3, PL.η4, PL.η5, PL.η6, PL.η7, PL.η8, PL.η9, PL.ξA, PL.ξB, PL.ξC, PL.ξD, PL.ξE, PL.ξF, PL.ξG, PL.ξH, PL.ξI, PL.ξJ, PL.ξK, PL.ξL, PL.ξM, PL.ξN, PL.ξO, PL.ξP, PL.ξQ, PL.ξR, PL.ξS, PL.ξT, PL.ξU, PL.ξV, PL.ξW, PL.ξX, PL.ξY, PL.ξZ, PL.ξa, PL.ξb, PL.ξc, PL.ξd, PL.ξe, PL.ξf, PL.ξg, PL.ξh, PL.ξi, PL.ξj, PL.ξk, PL.ξl, PL.ξm, PL.ξn, PL.ξo, PL.ξp, PL.ξq, PL.ξr, PL.ξs, PL.ξt, PL.ξu, PL.ξv, PL.ξw, PL.ξx, PL.ξy, PL.ξz, PL.ξ0, PL.ξ1, PL.ξ2, PL.ξ3, PL.ξ4, PL.ξ5, PL.ξ6, PL.ξ7, PL.ξ8, PL.ξ9, PL.χA, PL.χB, PL.χC, PL.χD, PL.χE, PL.χF, PL.χG, PL.χH, PL.χI, PL.χJ, PL.χK, PL.χL, PL.χM, PL.χN, PL.χO, PL.χP, PL.χQ, PL.χR, PL.χS, PL.χT, PL.χU, PL.χV, PL.χW, PL.χX, PL.χY, PL.χZ, PL.χa, PL.χb, PL.χc, PL.χd, PL.χe, PL.χf, PL.χg, PL.χh, PL.χi, PL.χj, PL.χk, PL.χl, PL.χm, PL.χn, PL.χo, PL.χp, List.map_take, List.map_drop]
      · refine ⟨ds1, _, _, _, _, rfl, hs1, ?_, ?_⟩
        · refine List.Perm.trans ?_ hp
          rw [List.append_assoc]
          refine List.Perm.append_left _ ?_
          have e4 : left = left.take r ++ (left[r] :: left.drop (r + 1)) := by simp
          conv => rhs; rw [e4]
          exact (List.perm_middle (l₁ := left.take r) (l₂ := left.drop (r + 1)) (a := left[r])).symm
        · rw [List.length_append, List.length_append, List.length_take, List.length_drop]
          simp
          omega
    · intro ρ hr
      obtain ⟨ds, left, found, x4, x5, e, hs, hp, hl⟩ := hr
      subst e
      have hl0 : left = [] := List.eq_nil_of_length_eq_zero (by
        rw [List.length_range] at hl
        omega)
      subst hl0
      rw [List.append_nil] at hp
      refine wG.fz (wG.ret (d := natL found) (ρ1 := [some (.row (.list ds)), some (.sh (.int (n : Nat))), some (.sh (natL [])), some (.sh (natL found)), x4, x5]) ?_ ⟨ds, rfl, found, rfl, hp, hs⟩)
      rfl
  obtain ⟨d, ds', e, p, ed, hp, hs⟩ := w
  subst ed
  exact ⟨p, ds', e, hp, hs⟩
end PL
namespace PL
open PySem PySem.Spec PyProof.Rows L2 DL
def webT (n : Nat) (w : Nat → Int) (rs : List Road) : D := .tuple [.tuple ((List.range n).map fun k => .int (w k)), .tuple (rs.map roadD)]
structure WebOk (n : Nat) (w : Nat → Int) (rs : List Road) : Prop where
  web : Web n rs
  n2 : 2 ≤ n
  n8 : n ≤ 8
  w0 : ∀ k, k < n → 0 ≤ w k
  w100 : ∀ k, k < n → w k ≤ 100
  wpos : 0 < ((List.range n).map w).sum
def rsOk (n : Nat) (rs : List Road) : Prop := (∀ e ∈ rs, e.1 < e.2.1 ∧ e.2.1 < n) ∧ (∀ e ∈ rs, 1 ≤ e.2.2 ∧ e.2.2 ≤ 100) ∧ (rs.map Pair).Nodup
theorem χq {n : Nat} (h : n ≤ 1000) : rg2 [.int 1, .int (n : Nat)] = some ((List.range (n - 1)).map fun i => PyData.int ((i + 1 : Nat) : Int)) := by
  have h6 : ok62 (n : Nat) = true := ok62_nat h
  show (if (ok62 1 && ok62 (n : Nat)) = true then some (rangeD 1 (((n : Nat) : Int) - 1).toNat) else none) = _
  rw [h6, show ok62 1 = true from by decide, Bool.and_self, if_pos rfl]
  refine congrArg some ?_
  unfold rangeD
  rw [show (((n : Nat) : Int) - 1).toNat = n - 1 by omega]
  exact List.map_congr_left fun i _ => congrArg PyData.int (by omega)
theorem nil_or {α : Type} {x : α} {xs : List α} : (x :: xs : List α) ≠ [] := by simp
theorem pick3 {ns : List Int} {ds : List D} (h : RowS ns ds) (a b c : Int) : ∃ (x : Int) (ds' : List D), DG.mm__law_pick ds [.list [.int a, .int b, .int c]] = some (.int x, ds') ∧ (x = a ∨ x = b ∨ x = c) ∧ RowS ns ds' := by
  obtain ⟨x, ds', e, hx, hs⟩ := pick h (xs := [.int a, .int b, .int c]) nil_or (by simp)
  simp at hx
  rcases hx with q | q | q
  · subst q
    exact ⟨a, ds', e, .inl rfl, hs⟩
  · subst q
    exact ⟨b, ds', e, .inr (.inl rfl), hs⟩
  · subst q
    exact ⟨c, ds', e, .inr (.inr rfl), hs⟩
theorem pick2 {ns : List Int} {ds : List D} (h : RowS ns ds) (a b : Int) : ∃ (x : Int) (ds' : List D), DG.mm__law_pick ds [.list [.int a, .int b]] = some (.int x, ds') ∧ (x = a ∨ x = b) ∧ RowS ns ds' := by
  obtain ⟨x, ds', e, hx, hs⟩ := pick h (xs := [.int a, .int b]) nil_or (by simp)
  simp at hx
  rcases hx with q | q
  · subst q
    exact ⟨a, ds', e, .inl rfl, hs⟩
  · subst q
    exact ⟨b, ds', e, .inr rfl, hs⟩
/-- ints drawn -/
theorem takenI {ns : List Int} {ds : List D} (h : RowS ns ds) {m : Int} (h0 : 0 < m) (h1 : m < 1000000) : ∃ (r : Nat) (ds' : List D), DG.mm__law_taken ds [.int m] = some (.int (r : Nat), ds') ∧ ((r : Nat) : Int) < m ∧ RowS ns ds' := by
  obtain ⟨r, ds', e, hr, hs⟩ := taken h (m := m) (M := m.toNat) (by omega) (by omega) (by omega)
  exact ⟨r, ds', e, by omega, hs⟩
abbrev envW (ds : List D) (x1 x2 : Option E) (n : Nat) (big : Int) (rs : List Road) (x6 x7 x8 x9 x10 x11 x12 : Option E) : DL.Env := [some (.row (.list ds)), x1, x2, some (.sh (.int (n : Nat))), some (.sh (.int big)), some (.own (.list (rs.map roadD))), x6, x7, x8, x9, x10, x11, x12]
/-- the roads to each point -/
def Tree0 (k : Nat) (rs : List Road) : Prop := rs.map (fun e => e.2.1) = (List.range k).map (· + 1) ∧ (∀ e ∈ rs, e.1 < e.2.1) ∧ ∀ e ∈ rs, 1 ≤ e.2.2 ∧ e.2.2 ≤ 100
abbrev loopA : Gs := gFor (lfs (iN rg2 (cCons (cK (.int 1)) (cCons (cVar 3) cNil)))) (bNm 6)
  (gSeq (gAsg (rRow 0 DG.mm__law_pick (rCons (rN dLst (rCons (lf (c2 oSub (cVar 6) (cK (.int 1)))) (rCons (rRow 0 DG.mm__law_taken (lfs (cCons (cVar 6) cNil))) (rCons (lf (cK (.int 0))) rNil)))) rNil)) (bNm 10))
  (gApp 5 (rN dTup (rCons (lf (cVar 10)) (rCons (lf (cVar 6)) (rCons (r2 oAdd (lf (cK (.int 1))) (rRow 0 DG.mm__law_taken (rCons (rRow 0 DG.mm__law_pick (lfs (cCons (cLst (cCons (cK (.int 3)) (cCons (cVar 4) cNil))) cNil))) rNil))) rNil))))))
theorem loopA_ok {ns : List Int} {ds : List D} {n : Nat} {big : Int} {x1 x2 x6 x7 x8 x9 x10 x11 x12 : Option E} {Q : Fl → DL.Env → Prop} (h : RowS ns ds) (hn : n ≤ 8) (hb : 1 ≤ big ∧ big ≤ 100)
    (q : ∀ ds rs x6 x10, RowS ns ds → Tree0 (n - 1) rs → Q .nx (envW ds x1 x2 n big rs x6 x7 x8 x9 x10 x11 x12)) : wG loopA (envW ds x1 x2 n big [] x6 x7 x8 x9 x10 x11 x12) Q := by
  refine wG.loop (fun i : Nat => PyData.int ((i + 1 : Nat) : Int)) (List.range (n - 1)) (fun pre ρ => ∃ ds rs x6 x10, ρ = envW ds x1 x2 n big rs x6 x7 x8 x9 x10 x11 x12 ∧ RowS ns ds ∧ Tree0 pre.length rs) (ρ1 := envW ds x1 x2 n big [] x6 x7 x8 x9 x10 x11 x12) ?_ ⟨ds, [], x6, x10, rfl, h, rfl, fun e he => (nomatch he), fun e he => (nomatch he)⟩ ?_ ?_
  · simp only [List.map_append, List.map_cons, List.map_nil, List.length_append, PL.δA, PL.δB, PL.δC, PL.δD, PL.δE, PL.δF, PL.δG, PL.δH, PL.δI, PL.δJ, PL.δK, PL.δL, PL.δM, PL.δN, PL.δO, PL.δP, PL.δQ, PL.δR, PL.δS, PL.δT, PL.δU, PL.δV, PL.δW, PL.δX, PL.δY, PL.δZ, PL.δa, PL.δb, PL.δc, PL.δd, PL.δe, PL.δf, PL.δg, PL.δh, PL.δi, PL.δj, PL.δk, PL.δl, PL.δm, PL.δn, PL.δo, PL.δp, PL.δq, PL.δr, PL.δs, PL.δt, PL.δu, PL.δv, PL.δw, PL.δx, PL.δy, PL.δz, PL.δ0, PL.δ1, PL.δ2, PL.δ3, PL.δ4, PL.δ5, PL.δ6, PL.δ7, PL.δ8, PL.δ9, PL.ζA, PL.ζB, PL.ζC, PL.ζD, PL.ζE, PL.ζF, PL.ζG, PL.ζH, PL.ζI, PL.ζJ, PL.ζK, PL.ζL, PL.ζM, PL.ζN, PL.ζO, PL.ζP, PL.ζQ, PL.ζR, PL.ζS, PL.ζT, PL.ζU, PL.ζV, PL.ζW, PL.ζX, PL.ζY, PL.ζZ, PL.ζa, PL.ζb, PL.ζc, PL.ζd, PL.ζe, PL.ζf, PL.ζg, PL.ζh, PL.ζi, PL.ζj, PL.ζk, PL.ζl, PL.ζm, PL.ζn, PL.ζo, PL.ζp, PL.ζq, PL.ζr, PL.ζs, PL.ζt, PL.ζu, PL.ζv, PL.ζw, PL.ζx, PL.ζy, PL.ζz, PL.ζ0, PL.ζ1, PL.ζ2, PL.ζ3, PL.ζ4, PL.ζ5, PL.ζ6, PL.ζ7, PL.ζ8, PL.ζ9, PL.ηA, PL.ηB, PL.ηC, PL.ηD, PL.ηE, PL.ηF, PL.ηG, PL.ηH, PL.ηI, PL.ηJ, PL.ηK, PL.ηL, PL.ηM, PL.ηN, PL.ηO, PL.ηP, PL.ηQ, PL.ηR, PL.ηS, PL.ηT, PL.ηU, PL.ηV, PL.ηW, PL.ηX, PL.ηY, PL.ηZ, PL.ηa, PL.ηb, PL.ηc, PL.ηd, PL.ηe, PL.ηf, PL.ηg, PL.ηh, PL.ηi, PL.ηj, PL.ηk, PL.ηl, PL.ηm, PL.ηn, PL.ηo, PL.ηp, PL.ηq, PL.ηr, PL.ηs, PL.ηt, PL.ηu, PL.ηv, PL.ηw, PL.ηx, PL.ηy, PL.ηz, PL.η0, PL.η1, PL.η2, PL.η3, PL.η4, PL.η5, PL.η6, PL.η7, PL.η8, PL.η9, PL.ξA, PL.ξB, PL.ξC, PL.ξD, PL.ξE, PL.ξF, PL.ξG, PL.ξH, PL.ξI, PL.ξJ, PL.ξK, PL.ξL, PL.ξM, PL.ξN, PL.ξO, PL.ξP, PL.ξQ, PL.ξR, PL.ξS, PL.ξT, PL.ξU, PL.ξV, PL.ξW, PL.ξX, PL.ξY, PL.ξZ, PL.ξa, PL.ξb, PL.ξc, PL.ξd, PL.ξe, PL.ξf, PL.ξg, PL.ξh, PL.ξi, PL.ξj, PL.ξk, PL.ξl, PL.ξm, PL.ξn, PL.ξo, PL.ξp, PL.ξq, PL.ξr, PL.ξs, PL.ξt, PL.ξu, PL.ξv, PL.ξw, PL.ξx, PL.ξy, PL.ξz, PL.ξ0, PL.ξ1, PL.ξ2, PL.ξ3, PL.ξ4, PL.ξ5, PL.ξ6, PL.ξ7, PL.ξ8, PL.ξ9, PL.χA, PL.χB, PL.χC, PL.χD, PL.χE, PL.χF, PL.χG, PL.χH, PL.χI, PL.χJ, PL.χK, PL.χL, PL.χM, PL.χN, PL.χO, PL.χP, PL.χQ, PL.χR, PL.χS, PL.χT, PL.χU, PL.χV, PL.χW, PL.χX, PL.χY, PL.χZ, PL.χa, PL.χb, PL.χc, PL.χd, PL.χe, PL.χf, PL.χg, PL.χh, PL.χi, PL.χj, PL.χk, PL.χl, PL.χm, PL.χn, PL.χo, PL.χp, PL.χq, show n ≤ 1000 by omega]
  · intro pre i post ρ ex ⟨ds, rs, x6, x10, e, hs, hT⟩
    subst e
    have lx := congrArg List.length ex
    have ei : i = pre.length := by
      have h1 : (List.range (n - 1))[pre.length]? = some i := by rw [ex]; simp
      rw [List.getElem?_range (by simp at lx; omega)] at h1
      exact (Option.some.inj h1).symm
    simp at lx
    obtain ⟨r1, ds1, e1, hr1, hs1⟩ := takenI hs (m := ((i + 1 : Nat) : Int)) (by omega) (by omega)
    obtain ⟨a, ds2, e2, ha, hs2⟩ := pick3 hs1 (((i + 1 : Nat) : Int) - 1) ((r1 : Nat) : Int) 0
    obtain ⟨v, ds3, e3, hv, hs3⟩ := pick2 hs2 3 big
    obtain ⟨r2, ds4, e4, hr2, hs4⟩ := takenI hs3 (m := v) (by omega) (by omega)
    have ea : ∃ a' : Nat, a = ((a' : Nat) : Int) ∧ a' < i + 1 := ⟨a.toNat, by omega, by omega⟩
    obtain ⟨a', rfl, ha'⟩ := ea
    have hrl : rs.length = pre.length := by
      have := congrArg List.length hT.1
      simpa using this
    refine ⟨_, rfl, .nx, envW ds4 x1 x2 n big (rs ++ [(a', i + 1, 1 + ((r2 : Nat) : Int))]) (some (.sh (.int ((i + 1 : Nat) : Int)))) x7 x8 x9 (some (.sh (.int ((a' : Nat) : Int)))) x11 x12, ?_, ?_⟩
    · simp only [List.map_append, List.map_cons, List.map_nil, List.length_append, PL.δA, PL.δB, PL.δC, PL.δD, PL.δE, PL.δF, PL.δG, PL.δH, PL.δI, PL.δJ, PL.δK, PL.δL, PL.δM, PL.δN, PL.δO, PL.δP, PL.δQ, PL.δR, PL.δS, PL.δT, PL.δU, PL.δV, PL.δW, PL.δX, PL.δY, PL.δZ, PL.δa, PL.δb, PL.δc, PL.δd, PL.δe, PL.δf, PL.δg, PL.δh, PL.δi, PL.δj, PL.δk, PL.δl, PL.δm, PL.δn, PL.δo, PL.δp, PL.δq, PL.δr, PL.δs, PL.δt, PL.δu, PL.δv, PL.δw, PL.δx, PL.δy, PL.δz, PL.δ0, PL.δ1, PL.δ2, PL.δ3, PL.δ4, PL.δ5, PL.δ6, PL.δ7, PL.δ8, PL.δ9, PL.ζA, PL.ζB, PL.ζC, PL.ζD, PL.ζE, PL.ζF, PL.ζG, PL.ζH, PL.ζI, PL.ζJ, PL.ζK, PL.ζL, PL.ζM, PL.ζN, PL.ζO, PL.ζP, PL.ζQ, PL.ζR, PL.ζS, PL.ζT, PL.ζU, PL.ζV, PL.ζW, PL.ζX, PL.ζY, PL.ζZ, PL.ζa, PL.ζb, PL.ζc, PL.ζd, PL.ζe, PL.ζf, PL.ζg, PL.ζh, PL.ζi, PL.ζj, PL.ζk, PL.ζl, PL.ζm, PL.ζn, PL.ζo, PL.ζp, PL.ζq, PL.ζr, PL.ζs, PL.ζt, PL.ζu, PL.ζv, PL.ζw, PL.ζx, PL.ζy, PL.ζz, PL.ζ0, PL.ζ1, PL.ζ2, PL.ζ3, PL.ζ4, PL.ζ5, PL.ζ6, PL.ζ7, PL.ζ8, PL.ζ9, PL.ηA, PL.ηB, PL.ηC, PL.ηD, PL.ηE, PL.ηF, PL.ηG, PL.ηH, PL.ηI, PL.ηJ, PL.ηK, PL.ηL, PL.ηM, PL.ηN, PL.ηO, PL.ηP, PL.ηQ, PL.ηR, PL.ηS, PL.ηT, PL.ηU, PL.ηV, PL.ηW, PL.ηX, PL.ηY, PL.ηZ, PL.ηa, PL.ηb, PL.ηc, PL.ηd, PL.ηe, PL.ηf, PL.ηg, PL.ηh, PL.ηi, PL.ηj, PL.ηk, PL.ηl, PL.ηm, PL.ηn, PL.ηo, PL.ηp, PL.ηq, PL.ηr, PL.ηs, PL.ηt, PL.ηu, PL.ηv, PL.ηw, PL.ηx, PL.ηy, PL.ηz, PL.η0, PL.η1, PL.η2, PL.η3, PL.η4, PL.η5, PL.η6, PL.η7, PL.η8, PL.η9, PL.ξA, PL.ξB, PL.ξC, PL.ξD, PL.ξE, PL.ξF, PL.ξG, PL.ξH, PL.ξI, PL.ξJ, PL.ξK, PL.ξL, PL.ξM, PL.ξN, PL.ξO, PL.ξP, PL.ξQ, PL.ξR, PL.ξS, PL.ξT, PL.ξU, PL.ξV, PL.ξW, PL.ξX, PL.ξY, PL.ξZ, PL.ξa, PL.ξb, PL.ξc, PL.ξd, PL.ξe, PL.ξf, PL.ξg, PL.ξh, PL.ξi, PL.ξj, PL.ξk, PL.ξl, PL.ξm, PL.ξn, PL.ξo, PL.ξp, PL.ξq, PL.ξr, PL.ξs, PL.ξt, PL.ξu, PL.ξv, PL.ξw, PL.ξx, PL.ξy, PL.ξz, PL.ξ0, PL.ξ1, PL.ξ2, PL.ξ3, PL.ξ4, PL.ξ5, PL.ξ6, PL.ξ7, PL.ξ8, PL.ξ9, PL.χA, PL.χB, PL.χC, PL.χD, PL.χE, PL.χF, PL.χG, PL.χH, PL.χI, PL.χJ, PL.χK, PL.χL, PL.χM, PL.χN, PL.χO, PL.χP, PL.χQ, PL.χR, PL.χS, PL.χT, PL.χU, PL.χV, PL.χW, PL.χX, PL.χY, PL.χZ, PL.χa, PL.χb, PL.χc, PL.χd, PL.χe, PL.χf, PL.χg, PL.χh, PL.χi, PL.χj, PL.χk, PL.χl, PL.χm, PL.χn, PL.χo, PL.χp, PL.χq, envW, e1, e2, e3, e4, roadD, Nat.reduceLeDiff, show rs.length ≤ 1000 by omega]
    · refine ⟨ds4, _, _, _, rfl, hs4, ?_, ?_, ?_⟩
      · rw [List.map_append, hT.1, List.length_append, ei]
        simp [List.range_succ]
      · intro e he
        rcases List.mem_append.mp he with he | he
        · exact hT.2.1 e he
        · rw [List.mem_singleton.mp he]
          exact ha'
      · intro e he
        rcases List.mem_append.mp he with he | he
        · exact hT.2.2 e he
        · rw [List.mem_singleton.mp he]
          show 1 ≤ 1 + ((r2 : Nat) : Int) ∧ 1 + ((r2 : Nat) : Int) ≤ 100
          omega
  · intro ρ ⟨ds, rs, x6, x10, e, hs, hT⟩
    subst e
    rw [List.length_range] at hT
    exact q ds rs x6 x10 hs hT
theorem notIn_pairs (a b : Nat) (rs : List Road) : oNotIn (.tuple [.int (a : Nat), .int (b : Nat)]) (.list (rs.map fun e => .tuple [.int (e.1 : Nat), .int (e.2.1 : Nat)])) = some (.bool (!decide ((a, b) ∈ rs.map Pair))) := by
  have := notIn_l (α := Nat × Nat) (by decide) (a, b) (rs.map Pair)
  rw [List.map_map] at this
  refine this.trans (congrArg (fun x : Bool => some (PyData.bool (!x))) (decide_eq_decide.mpr Iff.rfl))
abbrev loopB : Gs := gFor (iNR rg1 (rCons (rRow 0 DG.mm__law_taken (lfs (cCons (c2 oAdd (cVar 2) (cK (.int 1))) cNil))) rNil)) (bNm 7)
  (gSeq (gAsg (r2 oAdd (lf (cK (.int 1))) (rRow 0 DG.mm__law_taken (lfs (cCons (c2 oSub (cVar 3) (cK (.int 1))) cNil)))) (bNm 6))
  (gSeq (gAsg (rRow 0 DG.mm__law_taken (lfs (cCons (cVar 6) cNil))) (bNm 10))
  (gIf (lfb (bBor (bV (c2 oNotIn (cTup (cCons (cVar 10) (cCons (cVar 6) cNil))) (cLc [12] (iS (cVar 5)) (bNm 12) bYes (cSl (cVar 12) cNoPart (cPart (cK (.int 2)))))))))
  (gApp 5 (rN dTup (rCons (lf (cVar 10)) (rCons (lf (cVar 6)) (rCons (r2 oAdd (lf (cK (.int 1))) (rRow 0 DG.mm__law_taken (lfs (cCons (cVar 4) cNil)))) rNil)))))
  gNx)))
def Web0 (n extra : Nat) (rs : List Road) : Prop := rsOk n rs ∧ rs.length ≤ n - 1 + extra ∧ ∀ b, 0 < b → b < n → ∃ e ∈ rs, e.2.1 = b
theorem loopB_ok {ns : List Int} {ds : List D} {n extra : Nat} {big : Int} {rs : List Road} {x1 x6 x7 x8 x9 x10 x11 x12 : Option E} {Q : Fl → DL.Env → Prop} (h : RowS ns ds) (hn2 : 2 ≤ n) (hn : n ≤ 8) (hx : extra ≤ 100) (hb : 1 ≤ big ∧ big ≤ 100) (hw : Web0 n 0 rs)
    (q : ∀ ds rs x6 x7 x10, RowS ns ds → Web0 n extra rs → Q .nx (envW ds x1 (some (.sh (.int (extra : Nat)))) n big rs x6 x7 x8 x9 x10 x11 x12)) : wG loopB (envW ds x1 (some (.sh (.int (extra : Nat)))) n big rs x6 x7 x8 x9 x10 x11 x12) Q := by
  obtain ⟨m, ds0, e0, hm, hs0⟩ := takenI h (m := ((extra : Nat) : Int) + 1) (by omega) (by omega)
  refine wG.loop (fun i : Nat => PyData.int ((i : Nat) : Int)) (List.range m) (fun pre ρ => ∃ ds rs x6 x7 x10, ρ = envW ds x1 (some (.sh (.int (extra : Nat)))) n big rs x6 x7 x8 x9 x10 x11 x12 ∧ RowS ns ds ∧ Web0 n pre.length rs) (ρ1 := envW ds0 x1 (some (.sh (.int (extra : Nat)))) n big rs x6 x7 x8 x9 x10 x11 x12) ?_ ⟨ds0, rs, x6, x7, x10, rfl, hs0, hw⟩ ?_ ?_
  · simp only [List.map_append, List.map_cons, List.map_nil, List.length_append, PL.δA, PL.δB, PL.δC, PL.δD, PL.δE, PL.δF, PL.δG, PL.δH, PL.δI, PL.δJ, PL.δK, PL.δL, PL.δM, PL.δN, PL.δO, PL.δP, PL.δQ, PL.δR, PL.δS, PL.δT, PL.δU, PL.δV, PL.δW, PL.δX, PL.δY, PL.δZ, PL.δa, PL.δb, PL.δc, PL.δd, PL.δe, PL.δf, PL.δg, PL.δh, PL.δi, PL.δj, PL.δk, PL.δl, PL.δm, PL.δn, PL.δo, PL.δp, PL.δq, PL.δr, PL.δs, PL.δt, PL.δu, PL.δv, PL.δw, PL.δx, PL.δy, PL.δz, PL.δ0, PL.δ1, PL.δ2, PL.δ3, PL.δ4, PL.δ5, PL.δ6, PL.δ7, PL.δ8, PL.δ9, PL.ζA, PL.ζB, PL.ζC, PL.ζD, PL.ζE, PL.ζF, PL.ζG, PL.ζH, PL.ζI, PL.ζJ, PL.ζK, PL.ζL, PL.ζM, PL.ζN, PL.ζO, PL.ζP, PL.ζQ, PL.ζR, PL.ζS, PL.ζT, PL.ζU, PL.ζV, PL.ζW, PL.ζX, PL.ζY, PL.ζZ, PL.ζa, PL.ζb, PL.ζc, PL.ζd, PL.ζe, PL.ζf, PL.ζg, PL.ζh, PL.ζi, PL.ζj, PL.ζk, PL.ζl, PL.ζm, PL.ζn, PL.ζo, PL.ζp, PL.ζq, PL.ζr, PL.ζs, PL.ζt, PL.ζu, PL.ζv, PL.ζw, PL.ζx, PL.ζy, PL.ζz, PL.ζ0, PL.ζ1, PL.ζ2, PL.ζ3, PL.ζ4, PL.ζ5, PL.ζ6, PL.ζ7, PL.ζ8, PL.ζ9, PL.ηA, PL.ηB, PL.ηC, PL.ηD, PL.ηE, PL.ηF, PL.ηG, PL.ηH, PL.ηI, PL.ηJ, PL.ηK, PL.ηL, PL.ηM, PL.ηN, PL.ηO, PL.ηP, PL.ηQ, PL.ηR, PL.ηS, PL.ηT, PL.ηU, PL.ηV, PL.ηW, PL.ηX, PL.ηY, PL.ηZ, PL.ηa, PL.ηb, PL.ηc, PL.ηd, PL.ηe, PL.ηf, PL.ηg, PL.ηh, PL.ηi, PL.ηj, PL.ηk, PL.ηl, PL.ηm, PL.ηn, PL.ηo, PL.ηp, PL.ηq, PL.ηr, PL.ηs, PL.ηt, PL.ηu, PL.ηv, PL.ηw, PL.ηx, PL.ηy, PL.ηz, PL.η0, PL.η1, PL.η2, PL.η3, PL.η4, PL.η5, PL.η6, PL.η7, PL.η8, PL.η9, PL.ξA, PL.ξB, PL.ξC, PL.ξD, PL.ξE, PL.ξF, PL.ξG, PL.ξH, PL.ξI, PL.ξJ, PL.ξK, PL.ξL, PL.ξM, PL.ξN, PL.ξO, PL.ξP, PL.ξQ, PL.ξR, PL.ξS, PL.ξT, PL.ξU, PL.ξV, PL.ξW, PL.ξX, PL.ξY, PL.ξZ, PL.ξa, PL.ξb, PL.ξc, PL.ξd, PL.ξe, PL.ξf, PL.ξg, PL.ξh, PL.ξi, PL.ξj, PL.ξk, PL.ξl, PL.ξm, PL.ξn, PL.ξo, PL.ξp, PL.ξq, PL.ξr, PL.ξs, PL.ξt, PL.ξu, PL.ξv, PL.ξw, PL.ξx, PL.ξy, PL.ξz, PL.ξ0, PL.ξ1, PL.ξ2, PL.ξ3, PL.ξ4, PL.ξ5, PL.ξ6, PL.ξ7, PL.ξ8, PL.ξ9, PL.χA, PL.χB, PL.χC, PL.χD, PL.χE, PL.χF, PL.χG, PL.χH, PL.χI, PL.χJ, PL.χK, PL.χL, PL.χM, PL.χN, PL.χO, PL.χP, PL.χQ, PL.χR, PL.χS, PL.χT, PL.χU, PL.χV, PL.χW, PL.χX, PL.χY, PL.χZ, PL.χa, PL.χb, PL.χc, PL.χd, PL.χe, PL.χf, PL.χg, PL.χh, PL.χi, PL.χj, PL.χk, PL.χl, PL.χm, PL.χn, PL.χo, PL.χp, PL.χq, envW, e0, show m ≤ 1000 by omega]
  · intro pre i post ρ ex ⟨ds, rs, x6, x7, x10, e, hs, hw, hl, ht⟩
    subst e
    have lx := congrArg List.length ex
    simp at lx
    obtain ⟨r1, ds1, e1, hr1, hs1⟩ := takenI hs (m := ((n : Nat) : Int) - 1) (by omega) (by omega)
    have hb1 : (1 : Int) + ((r1 : Nat) : Int) = ((r1 + 1 : Nat) : Int) := by omega
    obtain ⟨r2, ds2, e2, hr2, hs2⟩ := takenI hs1 (m := ((r1 + 1 : Nat) : Int)) (by omega) (by omega)
    obtain ⟨r3, ds3, e3, hr3, hs3⟩ := takenI hs2 (m := big) (by omega) (by omega)
    have hN := notIn_pairs r2 (r1 + 1) rs
    by_cases hin : (r2, r1 + 1) ∈ rs.map Pair
    · rw [decide_eq_true hin] at hN
      refine ⟨_, rfl, .nx, envW ds2 x1 (some (.sh (.int (extra : Nat)))) n big rs (some (.sh (.int ((r1 + 1 : Nat) : Int)))) (some (.sh (.int ((i : Nat) : Int)))) x8 x9 (some (.sh (.int ((r2 : Nat) : Int)))) x11 x12, ?_, ?_⟩
      · simp only [List.map_append, List.map_cons, List.map_nil, List.length_append, PL.δA, PL.δB, PL.δC, PL.δD, PL.δE, PL.δF, PL.δG, PL.δH, PL.δI, PL.δJ, PL.δK, PL.δL, PL.δM, PL.δN, PL.δO, PL.δP, PL.δQ, PL.δR, PL.δS, PL.δT, PL.δU, PL.δV, PL.δW, PL.δX, PL.δY, PL.δZ, PL.δa, PL.δb, PL.δc, PL.δd, PL.δe, PL.δf, PL.δg, PL.δh, PL.δi, PL.δj, PL.δk, PL.δl, PL.δm, PL.δn, PL.δo, PL.δp, PL.δq, PL.δr, PL.δs, PL.δt, PL.δu, PL.δv, PL.δw, PL.δx, PL.δy, PL.δz, PL.δ0, PL.δ1, PL.δ2, PL.δ3, PL.δ4, PL.δ5, PL.δ6, PL.δ7, PL.δ8, PL.δ9, PL.ζA, PL.ζB, PL.ζC, PL.ζD, PL.ζE, PL.ζF, PL.ζG, PL.ζH, PL.ζI, PL.ζJ, PL.ζK, PL.ζL, PL.ζM, PL.ζN, PL.ζO, PL.ζP, PL.ζQ, PL.ζR, PL.ζS, PL.ζT, PL.ζU, PL.ζV, PL.ζW, PL.ζX, PL.ζY, PL.ζZ, PL.ζa, PL.ζb, PL.ζc, PL.ζd, PL.ζe, PL.ζf, PL.ζg, PL.ζh, PL.ζi, PL.ζj, PL.ζk, PL.ζl, PL.ζm, PL.ζn, PL.ζo, PL.ζp, PL.ζq, PL.ζr, PL.ζs, PL.ζt, PL.ζu, PL.ζv, PL.ζw, PL.ζx, PL.ζy, PL.ζz, PL.ζ0, PL.ζ1, PL.ζ2, PL.ζ3, PL.ζ4, PL.ζ5, PL.ζ6, PL.ζ7, PL.ζ8, PL.ζ9, PL.ηA, PL.ηB, PL.ηC, PL.ηD, PL.ηE, PL.ηF, PL.ηG, PL.ηH, PL.ηI, PL.ηJ, PL.ηK, PL.ηL, PL.ηM, PL.ηN, PL.ηO, PL.ηP, PL.ηQ, PL.ηR, PL.ηS, PL.ηT, PL.ηU, PL.ηV, PL.ηW, PL.ηX, PL.ηY, PL.ηZ, PL.ηa, PL.ηb, PL.ηc, PL.ηd, PL.ηe, PL.ηf, PL.ηg, PL.ηh, PL.ηi, PL.ηj, PL.ηk, PL.ηl, PL.ηm, PL.ηn, PL.ηo, PL.ηp, PL.ηq, PL.ηr, PL.ηs, PL.ηt, PL.ηu, PL.ηv, PL.ηw, PL.ηx, PL.ηy, PL.ηz, PL.η0, PL.η1, PL.η2, PL.η3, PL.η4, PL.η5, PL.η6, PL.η7, PL.η8, PL.η9, PL.ξA, PL.ξB, PL.ξC, PL.ξD, PL.ξE, PL.ξF, PL.ξG, PL.ξH, PL.ξI, PL.ξJ, PL.ξK, PL.ξL, PL.ξM, PL.ξN, PL.ξO, PL.ξP, PL.ξQ, PL.ξR, PL.ξS, PL.ξT, PL.ξU, PL.ξV, PL.ξW, PL.ξX, PL.ξY, PL.ξZ, PL.ξa, PL.ξb, PL.ξc, PL.ξd, PL.ξe, PL.ξf, PL.ξg, PL.ξh, PL.ξi, PL.ξj, PL.ξk, PL.ξl, PL.ξm, PL.ξn, PL.ξo, PL.ξp, PL.ξq, PL.ξr, PL.ξs, PL.ξt, PL.ξu, PL.ξv, PL.ξw, PL.ξx, PL.ξy, PL.ξz, PL.ξ0, PL.ξ1, PL.ξ2, PL.ξ3, PL.ξ4, PL.ξ5, PL.ξ6, PL.ξ7, PL.ξ8, PL.ξ9, PL.χA, PL.χB, PL.χC, PL.χD, PL.χE, PL.χF, PL.χG, PL.χH, PL.χI, PL.χJ, PL.χK, PL.χL, PL.χM, PL.χN, PL.χO, PL.χP, PL.χQ, PL.χR, PL.χS, PL.χT, PL.χU, PL.χV, PL.χW, PL.χX, PL.χY, PL.χZ, PL.χa, PL.χb, PL.χc, PL.χd, PL.χe, PL.χf, PL.χg, PL.χh, PL.χi, PL.χj, PL.χk, PL.χl, PL.χm, PL.χn, PL.χo, PL.χp, PL.χq, envW, e1, e2, hb1, roadD, Nat.reduceLeDiff, show rs.length ≤ 1000 by omega, hN]
      · refine ⟨ds2, rs, _, _, _, rfl, hs2, hw, ?_, ht⟩
        rw [List.length_append]
        omega
    · rw [decide_eq_false hin] at hN
      refine ⟨_, rfl, .nx, envW ds3 x1 (some (.sh (.int (extra : Nat)))) n big (rs ++ [(r2, r1 + 1, 1 + ((r3 : Nat) : Int))]) (some (.sh (.int ((r1 + 1 : Nat) : Int)))) (some (.sh (.int ((i : Nat) : Int)))) x8 x9 (some (.sh (.int ((r2 : Nat) : Int)))) x11 x12, ?_, ?_⟩
      · simp only [List.map_append, List.map_cons, List.map_nil, List.length_append, PL.δA, PL.δB, PL.δC, PL.δD, PL.δE, PL.δF, PL.δG, PL.δH, PL.δI, PL.δJ, PL.δK, PL.δL, PL.δM, PL.δN, PL.δO, PL.δP, PL.δQ, PL.δR, PL.δS, PL.δT, PL.δU, PL.δV, PL.δW, PL.δX, PL.δY, PL.δZ, PL.δa, PL.δb, PL.δc, PL.δd, PL.δe, PL.δf, PL.δg, PL.δh, PL.δi, PL.δj, PL.δk, PL.δl, PL.δm, PL.δn, PL.δo, PL.δp, PL.δq, PL.δr, PL.δs, PL.δt, PL.δu, PL.δv, PL.δw, PL.δx, PL.δy, PL.δz, PL.δ0, PL.δ1, PL.δ2, PL.δ3, PL.δ4, PL.δ5, PL.δ6, PL.δ7, PL.δ8, PL.δ9, PL.ζA, PL.ζB, PL.ζC, PL.ζD, PL.ζE, PL.ζF, PL.ζG, PL.ζH, PL.ζI, PL.ζJ, PL.ζK, PL.ζL, PL.ζM, PL.ζN, PL.ζO, PL.ζP, PL.ζQ, PL.ζR, PL.ζS, PL.ζT, PL.ζU, PL.ζV, PL.ζW, PL.ζX, PL.ζY, PL.ζZ, PL.ζa, PL.ζb, PL.ζc, PL.ζd, PL.ζe, PL.ζf, PL.ζg, PL.ζh, PL.ζi, PL.ζj, PL.ζk, PL.ζl, PL.ζm, PL.ζn, PL.ζo, PL.ζp, PL.ζq, PL.ζr, PL.ζs, PL.ζt, PL.ζu, PL.ζv, PL.ζw, PL.ζx, PL.ζy, PL.ζz, PL.ζ0, PL.ζ1, PL.ζ2, PL.ζ3, PL.ζ4, PL.ζ5, PL.ζ6, PL.ζ7, PL.ζ8, PL.ζ9, PL.ηA, PL.ηB, PL.ηC, PL.ηD, PL.ηE, PL.ηF, PL.ηG, PL.ηH, PL.ηI, PL.ηJ, PL.ηK, PL.ηL, PL.ηM, PL.ηN, PL.ηO, PL.ηP, PL.ηQ, PL.ηR, PL.ηS, PL.ηT, PL.ηU, PL.ηV, PL.ηW, PL.ηX, PL.ηY, PL.ηZ, PL.ηa, PL.ηb, PL.ηc, PL.ηd, PL.ηe, PL.ηf, PL.ηg, PL.ηh, PL.ηi, PL.ηj, PL.ηk, PL.ηl, PL.ηm, PL.ηn, PL.ηo, PL.ηp, PL.ηq, PL.ηr, PL.ηs, PL.ηt, PL.ηu, PL.ηv, PL.ηw, PL.ηx, PL.ηy, PL.ηz, PL.η0, PL.η1, PL.η2, PL.η3, PL.η4, PL.η5, PL.η6, PL.η7, PL.η8, PL.η9, PL.ξA, PL.ξB, PL.ξC, PL.ξD, PL.ξE, PL.ξF, PL.ξG, PL.ξH, PL.ξI, PL.ξJ, PL.ξK, PL.ξL, PL.ξM, PL.ξN, PL.ξO, PL.ξP, PL.ξQ, PL.ξR, PL.ξS, PL.ξT, PL.ξU, PL.ξV, PL.ξW, PL.ξX, PL.ξY, PL.ξZ, PL.ξa, PL.ξb, PL.ξc, PL.ξd, PL.ξe, PL.ξf, PL.ξg, PL.ξh, PL.ξi, PL.ξj, PL.ξk, PL.ξl, PL.ξm, PL.ξn, PL.ξo, PL.ξp, PL.ξq, PL.ξr, PL.ξs, PL.ξt, PL.ξu, PL.ξv, PL.ξw, PL.ξx, PL.ξy, PL.ξz, PL.ξ0, PL.ξ1, PL.ξ2, PL.ξ3, PL.ξ4, PL.ξ5, PL.ξ6, PL.ξ7, PL.ξ8, PL.ξ9, PL.χA, PL.χB, PL.χC, PL.χD, PL.χE, PL.χF, PL.χG, PL.χH, PL.χI, PL.χJ, PL.χK, PL.χL, PL.χM, PL.χN, PL.χO, PL.χP, PL.χQ, PL.χR, PL.χS, PL.χT, PL.χU, PL.χV, PL.χW, PL.χX, PL.χY, PL.χZ, PL.χa, PL.χb, PL.χc, PL.χd, PL.χe, PL.χf, PL.χg, PL.χh, PL.χi, PL.χj, PL.χk, PL.χl, PL.χm, PL.χn, PL.χo, PL.χp, PL.χq, envW, e1, e2, e3, hb1, roadD, Nat.reduceLeDiff, show rs.length ≤ 1000 by omega, hN]
      · refine ⟨ds3, _, _, _, _, rfl, hs3, ⟨?_, ?_, ?_⟩, ?_, ?_⟩
        · intro e he
          rcases List.mem_append.mp he with he | he
          · exact hw.1 e he
          · rw [List.mem_singleton.mp he]
            show r2 < r1 + 1 ∧ r1 + 1 < n
            omega
        · intro e he
          rcases List.mem_append.mp he with he | he
          · exact hw.2.1 e he
          · rw [List.mem_singleton.mp he]
            show 1 ≤ 1 + ((r3 : Nat) : Int) ∧ 1 + ((r3 : Nat) : Int) ≤ 100
            omega
        · rw [List.map_append, List.nodup_append]
          refine ⟨hw.2.2, by simp, ?_⟩
          intro a ha b hb e
          subst e
          rw [List.map_cons, List.map_nil, List.mem_singleton] at hb
          rw [hb] at ha
          exact hin ha
        · rw [List.length_append, List.length_append]
          simp
          omega
        · intro b h0 h1
          obtain ⟨e, he, q⟩ := ht b h0 h1
          exact ⟨e, List.mem_append_left _ he, q⟩
  · intro ρ ⟨ds, rs, x6, x7, x10, e, hs, hw, hl, ht⟩
    subst e
    rw [List.length_range] at hl
    exact q ds rs x6 x7 x10 hs ⟨hw, by omega, ht⟩
/-- comprehensions that draw -/
theorem lcR_wp {α : Type} {vs : List Nat} {b : D → DL.Env → Option DL.Env} {t : DL.Env → Option (Bool × DL.Env)} {f : DL.Env → Option (D × DL.Env)} (enc : α → D) (xs : List α) (R : List α → List D → DL.Env → Prop)
    (turn : ∀ pre x post acc ρ, xs = pre ++ x :: post → R pre acc ρ → ∃ ρ1 k ρ2, b (enc x) (wipeE ρ vs) = some ρ1 ∧ t ρ1 = some (k, ρ2) ∧ (k = true → ∃ d ρ3, f ρ2 = some (d, ρ3) ∧ R (pre ++ [x]) (acc ++ [d]) ρ3) ∧ (k = false → R (pre ++ [x]) acc ρ2)) :
    ∀ (post pre : List α) (acc : List D) (ρ : DL.Env), xs = pre ++ post → R pre acc ρ → ∃ ds ρ', lcR vs b t f (post.map enc) ρ = some (ds, wipeE ρ' vs) ∧ R xs (acc ++ ds) ρ'
  | [], pre, acc, ρ, e, r => by
    rw [List.append_nil] at e
    subst e
    exact ⟨[], ρ, rfl, by rw [List.append_nil]; exact r⟩
  | x :: post, pre, acc, ρ, e, r => by
    obtain ⟨ρ1, k, ρ2, e1, e2, k1, k2⟩ := turn pre x post acc ρ e r
    cases k with
    | true =>
      obtain ⟨d, ρ3, e3, r3⟩ := k1 rfl
      obtain ⟨ds, ρ', e4, r4⟩ := lcR_wp enc xs R turn post (pre ++ [x]) (acc ++ [d]) ρ3 (by rw [e]; simp) r3
      refine ⟨d :: ds, ρ', ?_, by simpa using r4⟩
      rw [List.map_cons]
      unfold lcR
      rw [e1, Option.bind_some, e2, Option.bind_some, if_pos rfl, e3, Option.bind_some, e4]
      rfl
    | false =>
      obtain ⟨ds, ρ', e4, r4⟩ := lcR_wp enc xs R turn post (pre ++ [x]) acc ρ2 (by rw [e]; simp) (k2 rfl)
      refine ⟨ds, ρ', ?_, r4⟩
      rw [List.map_cons]
      unfold lcR
      rw [e1, Option.bind_some, e2, Option.bind_some, if_neg Bool.false_ne_true, e4]
abbrev stC : Gs := gSetW 9 (wLc [11] (lfs (iN rg1 (cCons (cVar 3) cNil))) (bNm 11) bYesR (rRow 0 DG.mm__law_taken (rCons (rRow 0 DG.mm__law_pick (lfs (cCons (cLst (cCons (cK (.int 2)) (cCons (cK (.int 6)) (cCons (cK (.int 101)) cNil)))) cNil))) rNil)))
theorem stC_ok {ns : List Int} {ds : List D} {n : Nat} {big : Int} {rs : List Road} {x1 x2 x6 x7 x8 x9 x10 x11 x12 : Option E} {Q : Fl → DL.Env → Prop} (h : RowS ns ds) (hn : n ≤ 8)
    (q : ∀ ds (ws : List Int), RowS ns ds → ws.length = n → (∀ w ∈ ws, 0 ≤ w ∧ w ≤ 100) → Q .nx (envW ds x1 x2 n big rs x6 x7 x8 (some (.own (.list (ws.map .int)))) x10 none x12)) : wG stC (envW ds x1 x2 n big rs x6 x7 x8 x9 x10 x11 x12) Q := by
  obtain ⟨es, ρ', e, ds', ws, y11, e2, hs', hl, hw, ee⟩ := lcR_wp (vs := [11]) (b := bNm 11) (t := bYesR) (f := rRow 0 DG.mm__law_taken (rCons (rRow 0 DG.mm__law_pick (lfs (cCons (cLst (cCons (cK (.int 2)) (cCons (cK (.int 6)) (cCons (cK (.int 101)) cNil)))) cNil))) rNil)) (fun i : Nat => PyData.int (i : Nat)) (List.range n)
    (fun pre acc ρ => ∃ ds ws y11, ρ = envW ds x1 x2 n big rs x6 x7 x8 x9 x10 y11 x12 ∧ RowS ns ds ∧ ws.length = pre.length ∧ (∀ w ∈ ws, 0 ≤ w ∧ w ≤ 100) ∧ acc = ws.map .int)
    (fun pre x post acc ρ ex ⟨ds, ws, y11, e, hs, hl, hw, ea⟩ => by
      subst e
      obtain ⟨v, ds1, e1, hv, hs1⟩ := pick3 hs 2 6 101
      obtain ⟨r, ds2, e2, hr, hs2⟩ := takenI hs1 (m := v) (by omega) (by omega)
      refine ⟨_, true, envW ds x1 x2 n big rs x6 x7 x8 x9 x10 (some (.sh (.int (x : Nat)))) x12, rfl, rfl, fun _ => ⟨.int (r : Nat), envW ds2 x1 x2 n big rs x6 x7 x8 x9 x10 (some (.sh (.int (x : Nat)))) x12, ?_, ds2, ws ++ [((r : Nat) : Int)], _, rfl, hs2, ?_, ?_, ?_⟩, fun q => nomatch q⟩
      · simp only [List.map_append, List.map_cons, List.map_nil, List.length_append, PL.δA, PL.δB, PL.δC, PL.δD, PL.δE, PL.δF, PL.δG, PL.δH, PL.δI, PL.δJ, PL.δK, PL.δL, PL.δM, PL.δN, PL.δO, PL.δP, PL.δQ, PL.δR, PL.δS, PL.δT, PL.δU, PL.δV, PL.δW, PL.δX, PL.δY, PL.δZ, PL.δa, PL.δb, PL.δc, PL.δd, PL.δe, PL.δf, PL.δg, PL.δh, PL.δi, PL.δj, PL.δk, PL.δl, PL.δm, PL.δn, PL.δo, PL.δp, PL.δq, PL.δr, PL.δs, PL.δt, PL.δu, PL.δv, PL.δw, PL.δx, PL.δy, PL.δz, PL.δ0, PL.δ1, PL.δ2, PL.δ3, PL.δ4, PL.δ5, PL.δ6, PL.δ7, PL.δ8, PL.δ9, PL.ζA, PL.ζB, PL.ζC, PL.ζD, PL.ζE, PL.ζF, PL.ζG, PL.ζH, PL.ζI, PL.ζJ, PL.ζK, PL.ζL, PL.ζM, PL.ζN, PL.ζO, PL.ζP, PL.ζQ, PL.ζR, PL.ζS, PL.ζT, PL.ζU, PL.ζV, PL.ζW, PL.ζX, PL.ζY, PL.ζZ, PL.ζa, PL.ζb, PL.ζc, PL.ζd, PL.ζe, PL.ζf, PL.ζg, PL.ζh, PL.ζi, PL.ζj, PL.ζk, PL.ζl, PL.ζm, PL.ζn, PL.ζo, PL.ζp, PL.ζq, PL.ζr, PL.ζs, PL.ζt, PL.ζu, PL.ζv, PL.ζw, PL.ζx, PL.ζy, PL.ζz, PL.ζ0, PL.ζ1, PL.ζ2, PL.ζ3, PL.ζ4, PL.ζ5, PL.ζ6, PL.ζ7, PL.ζ8, PL.ζ9, PL.ηA, PL.ηB, PL.ηC, PL.ηD, PL.ηE, PL.ηF, PL.ηG, PL.ηH, PL.ηI, PL.ηJ, PL.ηK, PL.ηL, PL.ηM, PL.ηN, PL.ηO, PL.ηP, PL.ηQ, PL.ηR, PL.ηS, PL.ηT, PL.ηU, PL.ηV, PL.ηW, PL.ηX, PL.ηY, PL.ηZ, PL.ηa, PL.ηb, PL.ηc, PL.ηd, PL.ηe, PL.ηf, PL.ηg, PL.ηh, PL.ηi, PL.ηj, PL.ηk, PL.ηl, PL.ηm, PL.ηn, PL.ηo, PL.ηp, PL.ηq, PL.ηr, PL.ηs, PL.ηt, PL.ηu, PL.ηv, PL.ηw, PL.ηx, PL.ηy, PL.ηz, PL.η0, PL.η1, PL.η2, PL.η3, PL.η4, PL.η5, PL.η6, PL.η7, PL.η8, PL.η9, PL.ξA, PL.ξB, PL.ξC, PL.ξD, PL.ξE, PL.ξF, PL.ξG, PL.ξH, PL.ξI, PL.ξJ, PL.ξK, PL.ξL, PL.ξM, PL.ξN, PL.ξO, PL.ξP, PL.ξQ, PL.ξR, PL.ξS, PL.ξT, PL.ξU, PL.ξV, PL.ξW, PL.ξX, PL.ξY, PL.ξZ, PL.ξa, PL.ξb, PL.ξc, PL.ξd, PL.ξe, PL.ξf, PL.ξg, PL.ξh, PL.ξi, PL.ξj, PL.ξk, PL.ξl, PL.ξm, PL.ξn, PL.ξo, PL.ξp, PL.ξq, PL.ξr, PL.ξs, PL.ξt, PL.ξu, PL.ξv, PL.ξw, PL.ξx, PL.ξy, PL.ξz, PL.ξ0, PL.ξ1, PL.ξ2, PL.ξ3, PL.ξ4, PL.ξ5, PL.ξ6, PL.ξ7, PL.ξ8, PL.ξ9, PL.χA, PL.χB, PL.χC, PL.χD, PL.χE, PL.χF, PL.χG, PL.χH, PL.χI, PL.χJ, PL.χK, PL.χL, PL.χM, PL.χN, PL.χO, PL.χP, PL.χQ, PL.χR, PL.χS, PL.χT, PL.χU, PL.χV, PL.χW, PL.χX, PL.χY, PL.χZ, PL.χa, PL.χb, PL.χc, PL.χd, PL.χe, PL.χf, PL.χg, PL.χh, PL.χi, PL.χj, PL.χk, PL.χl, PL.χm, PL.χn, PL.χo, PL.χp, PL.χq, envW, e1, e2, Nat.reduceLeDiff]
      · rw [List.length_append, List.length_append, hl]
        rfl
      · intro w hm
        rcases List.mem_append.mp hm with hm | hm
        · exact hw w hm
        · rw [List.mem_singleton.mp hm]
          omega
      · rw [ea, List.map_append]
        rfl) (List.range n) [] [] (envW ds x1 x2 n big rs x6 x7 x8 x9 x10 x11 x12) rfl ⟨ds, [], x11, rfl, h, rfl, fun w hw => (nomatch hw), rfl⟩
  rw [List.nil_append] at ee
  subst ee e2
  refine wG.setW (d := .own (.list (ws.map .int))) (ρ1 := envW ds' x1 x2 n big rs x6 x7 x8 x9 x10 none x12) ?_ (q ds' ws hs' (by rw [hl, List.length_range]) hw)
  have ei : lfs (iN rg1 (cCons (cVar 3) cNil)) (envW ds x1 x2 n big rs x6 x7 x8 x9 x10 x11 x12) = some ((List.range n).map (fun i : Nat => PyData.int (i : Nat)), envW ds x1 x2 n big rs x6 x7 x8 x9 x10 x11 x12) := by
    simp only [List.map_append, List.map_cons, List.map_nil, List.length_append, PL.δA, PL.δB, PL.δC, PL.δD, PL.δE, PL.δF, PL.δG, PL.δH, PL.δI, PL.δJ, PL.δK, PL.δL, PL.δM, PL.δN, PL.δO, PL.δP, PL.δQ, PL.δR, PL.δS, PL.δT, PL.δU, PL.δV, PL.δW, PL.δX, PL.δY, PL.δZ, PL.δa, PL.δb, PL.δc, PL.δd, PL.δe, PL.δf, PL.δg, PL.δh, PL.δi, PL.δj, PL.δk, PL.δl, PL.δm, PL.δn, PL.δo, PL.δp, PL.δq, PL.δr, PL.δs, PL.δt, PL.δu, PL.δv, PL.δw, PL.δx, PL.δy, PL.δz, PL.δ0, PL.δ1, PL.δ2, PL.δ3, PL.δ4, PL.δ5, PL.δ6, PL.δ7, PL.δ8, PL.δ9, PL.ζA, PL.ζB, PL.ζC, PL.ζD, PL.ζE, PL.ζF, PL.ζG, PL.ζH, PL.ζI, PL.ζJ, PL.ζK, PL.ζL, PL.ζM, PL.ζN, PL.ζO, PL.ζP, PL.ζQ, PL.ζR, PL.ζS, PL.ζT, PL.ζU, PL.ζV, PL.ζW, PL.ζX, PL.ζY, PL.ζZ, PL.ζa, PL.ζb, PL.ζc, PL.ζd, PL.ζe, PL.ζf, PL.ζg, PL.ζh, PL.ζi, PL.ζj, PL.ζk, PL.ζl, PL.ζm, PL.ζn, PL.ζo, PL.ζp, PL.ζq, PL.ζr, PL.ζs, PL.ζt, PL.ζu, PL.ζv, PL.ζw, PL.ζx, PL.ζy, PL.ζz, PL.ζ0, PL.ζ1, PL.ζ2, PL.ζ3, PL.ζ4, PL.ζ5, PL.ζ6, PL.ζ7, PL.ζ8, PL.ζ9, PL.ηA, PL.ηB, PL.ηC, PL.ηD, PL.ηE, PL.ηF, PL.ηG, PL.ηH, PL.ηI, PL.ηJ, PL.ηK, PL.ηL, PL.ηM, PL.ηN, PL.ηO, PL.ηP, PL.ηQ, PL.ηR, PL.ηS, PL.ηT, PL.ηU, PL.ηV, PL.ηW, PL.ηX, PL.ηY, PL.ηZ, PL.ηa, PL.ηb, PL.ηc, PL.ηd, PL.ηe, PL.ηf, PL.ηg, PL.ηh, PL.ηi, PL.ηj, PL.ηk, PL.ηl, PL.ηm, PL.ηn, PL.ηo, PL.ηp, PL.ηq, PL.ηr, PL.ηs, PL.ηt, PL.ηu, PL.ηv, PL.ηw, PL.ηx, PL.ηy, PL.ηz, PL.η0, PL.η1, PL.η2, PL.η3, PL.η4, PL.η5, PL.η6, PL.η7, PL.η8, PL.η9, PL.ξA, PL.ξB, PL.ξC, PL.ξD, PL.ξE, PL.ξF, PL.ξG, PL.ξH, PL.ξI, PL.ξJ, PL.ξK, PL.ξL, PL.ξM, PL.ξN, PL.ξO, PL.ξP, PL.ξQ, PL.ξR, PL.ξS, PL.ξT, PL.ξU, PL.ξV, PL.ξW, PL.ξX, PL.ξY, PL.ξZ, PL.ξa, PL.ξb, PL.ξc, PL.ξd, PL.ξe, PL.ξf, PL.ξg, PL.ξh, PL.ξi, PL.ξj, PL.ξk, PL.ξl, PL.ξm, PL.ξn, PL.ξo, PL.ξp, PL.ξq, PL.ξr, PL.ξs, PL.ξt, PL.ξu, PL.ξv, PL.ξw, PL.ξx, PL.ξy, PL.ξz, PL.ξ0, PL.ξ1, PL.ξ2, PL.ξ3, PL.ξ4, PL.ξ5, PL.ξ6, PL.ξ7, PL.ξ8, PL.ξ9, PL.χA, PL.χB, PL.χC, PL.χD, PL.χE, PL.χF, PL.χG, PL.χH, PL.χI, PL.χJ, PL.χK, PL.χL, PL.χM, PL.χN, PL.χO, PL.χP, PL.χQ, PL.χR, PL.χS, PL.χT, PL.χU, PL.χV, PL.χW, PL.χX, PL.χY, PL.χZ, PL.χa, PL.χb, PL.χc, PL.χd, PL.χe, PL.χf, PL.χg, PL.χh, PL.χi, PL.χj, PL.χk, PL.χl, PL.χm, PL.χn, PL.χo, PL.χp, PL.χq, envW, show n ≤ 1000 by omega]
  unfold wLc rLc
  rw [ei, Option.bind_some]
  dsimp only
  rw [e, Option.bind_some]
  unfold few2
  rw [if_pos (by rw [List.length_map, hl, List.length_range]; omega)]
  rfl
theorem mapR {α β : Type} (f : α → β) (d : α) : ∀ (xs : List α), (List.range xs.length).map (fun k => f (xs.getD k d)) = xs.map f := fun xs => by
  apply List.ext_getElem?
  intro i
  rw [List.getElem?_map, List.getElem?_map]
  by_cases h : i < xs.length
  · rw [List.getElem?_range h, List.getElem?_eq_getElem h, Option.map_some, Option.map_some, List.getD_eq_getElem?_getD, List.getElem?_eq_getElem h]
    rfl
  · rw [List.getElem?_eq_none (by rw [List.length_range]; omega), List.getElem?_eq_none (by omega)]
    rfl
theorem sum_nn : ∀ ws : List Int, (∀ w ∈ ws, 0 ≤ w) → 0 ≤ ws.sum
  | [], _ => Int.le_refl _
  | w :: ws, h => by
    rw [List.sum_cons]
    have := h w List.mem_cons_self
    have := sum_nn ws fun x hx => h x (List.mem_cons_of_mem _ hx)
    omega
theorem perm_roads {p : List Nat} {rs : List Road} (h : p.Perm (List.range rs.length)) : (p.map fun k => rs.getD k (0, 0, 0)).Perm rs := by
  have h2 := h.map fun k => rs.getD k (0, 0, 0)
  rw [show (List.range rs.length).map (fun k => rs.getD k (0, 0, 0)) = rs from by
    have := mapR (fun x : Road => x) (0, 0, 0) rs
    rwa [List.map_id'] at this] at h2
  exact h2
theorem web_perm {n : Nat} {rs rs' : List Road} (h : rs'.Perm rs) (hw : rsOk n rs) (hl : rs.length ≤ 14) (ht : ∀ b, 0 < b → b < n → ∃ e ∈ rs, e.2.1 = b) : Web n rs' where
  lt e he := hw.1 e (h.mem_iff.mp he)
  len e he := hw.2.1 e (h.mem_iff.mp he)
  nd := (h.map Pair).nodup_iff.mpr hw.2.2
  few := by rw [h.length_eq]; exact hl
  tree b h0 h1 := by
    obtain ⟨e, he, q⟩ := ht b h0 h1
    exact ⟨e, h.mem_iff.mpr he, q⟩
set_option maxHeartbeats 1000000 in
theorem web_ok {ns : List Int} {ds : List D} (h : RowS ns ds) {most extra : Nat} (hm2 : 2 ≤ most) (hm : most ≤ 8) (hx : extra ≤ 7) : ∃ (n : Nat) (w : Nat → Int) (rs : List Road) (ds' : List D), DG.mm__law_web ds [.int (most : Nat), .int (extra : Nat)] = some (webT n w rs, ds') ∧ WebOk n w rs ∧ n ≤ most ∧ rs.length ≤ n - 1 + extra ∧ RowS ns ds' := by
  have w : ∃ d ds', DG.mm__law_web ds [.int (most : Nat), .int (extra : Nat)] = some (d, ds') ∧ ∃ n w rs, d = webT n w rs ∧ WebOk n w rs ∧ n ≤ most ∧ rs.length ≤ n - 1 + extra ∧ RowS ns ds' := by
    refine runR_ok rfl ?_
    unfold DG.gs__law_web
    obtain ⟨r, ds1, e1, hr, hs1⟩ := takenI h (m := ((most : Nat) : Int) - 1) (by omega) (by omega)
    obtain ⟨big, ds2, e2, hb, hs2⟩ := pick3 hs1 2 9 100
    have hn : (2 : Int) + ((r : Nat) : Int) = ((r + 2 : Nat) : Int) := by omega
    refine wG.seq (wG.par3 (a := .sh (.int ((r + 2 : Nat) : Int))) (b := .sh (.int big)) (c := .own (.list [])) (ρ1 := some (.row (.list ds1)) :: ini 12 [.int (most : Nat), .int (extra : Nat)]) (ρ2 := some (.row (.list ds2)) :: ini 12 [.int (most : Nat), .int (extra : Nat)]) (ρ3 := some (.row (.list ds2)) :: ini 12 [.int (most : Nat), .int (extra : Nat)]) ?_ ?_ ?_ ?_)
    · simp only [List.map_append, List.map_cons, List.map_nil, List.length_append, PL.δA, PL.δB, PL.δC, PL.δD, PL.δE, PL.δF, PL.δG, PL.δH, PL.δI, PL.δJ, PL.δK, PL.δL, PL.δM, PL.δN, PL.δO, PL.δP, PL.δQ, PL.δR, PL.δS, PL.δT, PL.δU, PL.δV, PL.δW, PL.δX, PL.δY, PL.δZ, PL.δa, PL.δb, PL.δc, PL.δd, PL.δe, PL.δf, PL.δg, PL.δh, PL.δi, PL.δj, PL.δk, PL.δl, PL.δm, PL.δn, PL.δo, PL.δp, PL.δq, PL.δr, PL.δs, PL.δt, PL.δu, PL.δv, PL.δw, PL.δx, PL.δy, PL.δz, PL.δ0, PL.δ1, PL.δ2, PL.δ3, PL.δ4, PL.δ5, PL.δ6, PL.δ7, PL.δ8, PL.δ9, PL.ζA, PL.ζB, PL.ζC, PL.ζD, PL.ζE, PL.ζF, PL.ζG, PL.ζH, PL.ζI, PL.ζJ, PL.ζK, PL.ζL, PL.ζM, PL.ζN, PL.ζO, PL.ζP, PL.ζQ, PL.ζR, PL.ζS, PL.ζT, PL.ζU, PL.ζV, PL.ζW, PL.ζX, PL.ζY, PL.ζZ, PL.ζa, PL.ζb, PL.ζc, PL.ζd, PL.ζe, PL.ζf, PL.ζg, PL.ζh, PL.ζi, PL.ζj, PL.ζk, PL.ζl, PL.ζm, PL.ζn, PL.ζo, PL.ζp, PL.ζq, PL.ζr, PL.ζs, PL.ζt, PL.ζu, PL.ζv, PL.ζw, PL.ζx, PL.ζy, PL.ζz, PL.ζ0, PL.ζ1, PL.ζ2, PL.ζ3, PL.ζ4, PL.ζ5, PL.ζ6, PL.ζ7, PL.ζ8, PL.ζ9, PL.ηA, PL.ηB, PL.ηC, PL.ηD, PL.ηE, PL.ηF, PL.ηG, PL.ηH, PL.ηI, PL.ηJ, PL.ηK, PL.ηL, PL.ηM, PL.ηN, PL.ηO, PL.ηP, PL.ηQ, PL.ηR, PL.ηS, PL.ηT, PL.ηU, PL.ηV, PL.ηW, PL.ηX, PL.ηY, PL.ηZ, PL.ηa, PL.ηb, PL.ηc, PL.ηd, PL.ηe, PL.ηf, PL.ηg, PL.ηh, PL.ηi, PL.ηj, PL.ηk, PL.ηl, PL.ηm, PL.ηn, PL.ηo, PL.ηp, PL.ηq, PL.ηr, PL.ηs, PL.ηt, PL.ηu, PL.ηv, PL.ηw, PL.ηx, PL.ηy, PL.ηz, PL.η0, PL.η1, PL.η2, PL.η3, PL.η4, PL.η5, PL.η6, PL.η7, PL.η8, PL.η9, PL.ξA, PL.ξB, PL.ξC, PL.ξD, PL.ξE, PL.ξF, PL.ξG, PL.ξH, PL.ξI, PL.ξJ, PL.ξK, PL.ξL, PL.ξM, PL.ξN, PL.ξO, PL.ξP, PL.ξQ, PL.ξR, PL.ξS, PL.ξT, PL.ξU, PL.ξV, PL.ξW, PL.ξX, PL.ξY, PL.ξZ, PL.ξa, PL.ξb, PL.ξc, PL.ξd, PL.ξe, PL.ξf, PL.ξg, PL.ξh, PL.ξi, PL.ξj, PL.ξk, PL.ξl, PL.ξm, PL.ξn, PL.ξo, PL.ξp, PL.ξq, PL.ξr, PL.ξs, PL.ξt, PL.ξu, PL.ξv, PL.ξw, PL.ξx, PL.ξy, PL.ξz, PL.ξ0, PL.ξ1, PL.ξ2, PL.ξ3, PL.ξ4, PL.ξ5, PL.ξ6, PL.ξ7, PL.ξ8, PL.ξ9, PL.χA, PL.χB, PL.χC, PL.χD, PL.χE, PL.χF, PL.χG, PL.χH, PL.χI, PL.χJ, PL.χK, PL.χL, PL.χM, PL.χN, PL.χO, PL.χP, PL.χQ, PL.χR, PL.χS, PL.χT, PL.χU, PL.χV, PL.χW, PL.χX, PL.χY, PL.χZ, PL.χa, PL.χb, PL.χc, PL.χd, PL.χe, PL.χf, PL.χg, PL.χh, PL.χi, PL.χj, PL.χk, PL.χl, PL.χm, PL.χn, PL.χo, PL.χp, PL.χq, ini, e1, hn]
    · simp only [List.map_append, List.map_cons, List.map_nil, List.length_append, PL.δA, PL.δB, PL.δC, PL.δD, PL.δE, PL.δF, PL.δG, PL.δH, PL.δI, PL.δJ, PL.δK, PL.δL, PL.δM, PL.δN, PL.δO, PL.δP, PL.δQ, PL.δR, PL.δS, PL.δT, PL.δU, PL.δV, PL.δW, PL.δX, PL.δY, PL.δZ, PL.δa, PL.δb, PL.δc, PL.δd, PL.δe, PL.δf, PL.δg, PL.δh, PL.δi, PL.δj, PL.δk, PL.δl, PL.δm, PL.δn, PL.δo, PL.δp, PL.δq, PL.δr, PL.δs, PL.δt, PL.δu, PL.δv, PL.δw, PL.δx, PL.δy, PL.δz, PL.δ0, PL.δ1, PL.δ2, PL.δ3, PL.δ4, PL.δ5, PL.δ6, PL.δ7, PL.δ8, PL.δ9, PL.ζA, PL.ζB, PL.ζC, PL.ζD, PL.ζE, PL.ζF, PL.ζG, PL.ζH, PL.ζI, PL.ζJ, PL.ζK, PL.ζL, PL.ζM, PL.ζN, PL.ζO, PL.ζP, PL.ζQ, PL.ζR, PL.ζS, PL.ζT, PL.ζU, PL.ζV, PL.ζW, PL.ζX, PL.ζY, PL.ζZ, PL.ζa, PL.ζb, PL.ζc, PL.ζd, PL.ζe, PL.ζf, PL.ζg, PL.ζh, PL.ζi, PL.ζj, PL.ζk, PL.ζl, PL.ζm, PL.ζn, PL.ζo, PL.ζp, PL.ζq, PL.ζr, PL.ζs, PL.ζt, PL.ζu, PL.ζv, PL.ζw, PL.ζx, PL.ζy, PL.ζz, PL.ζ0, PL.ζ1, PL.ζ2, PL.ζ3, PL.ζ4, PL.ζ5, PL.ζ6, PL.ζ7, PL.ζ8, PL.ζ9, PL.ηA, PL.ηB, PL.ηC, PL.ηD, PL.ηE, PL.ηF, PL.ηG, PL.ηH, PL.ηI, PL.ηJ, PL.ηK, PL.ηL, PL.ηM, PL.ηN, PL.ηO, PL.ηP, PL.ηQ, PL.ηR, PL.ηS, PL.ηT, PL.ηU, PL.ηV, PL.ηW, PL.ηX, PL.ηY, PL.ηZ, PL.ηa, PL.ηb, PL.ηc, PL.ηd, PL.ηe, PL.ηf, PL.ηg, PL.ηh, PL.ηi, PL.ηj, PL.ηk, PL.ηl, PL.ηm, PL.ηn, PL.ηo, PL.ηp, PL.ηq, PL.ηr, PL.ηs, PL.ηt, PL.ηu, PL.ηv, PL.ηw, PL.ηx, PL.ηy, PL.ηz, PL.η0, PL.η1, PL.η2, PL.η3, PL.η4, PL.η5, PL.η6, PL.η7, PL.η8, PL.η9, PL.ξA, PL.ξB, PL.ξC, PL.ξD, PL.ξE, PL.ξF, PL.ξG, PL.ξH, PL.ξI, PL.ξJ, PL.ξK, PL.ξL, PL.ξM, PL.ξN, PL.ξO, PL.ξP, PL.ξQ, PL.ξR, PL.ξS, PL.ξT, PL.ξU, PL.ξV, PL.ξW, PL.ξX, PL.ξY, PL.ξZ, PL.ξa, PL.ξb, PL.ξc, PL.ξd, PL.ξe, PL.ξf, PL.ξg, PL.ξh, PL.ξi, PL.ξj, PL.ξk, PL.ξl, PL.ξm, PL.ξn, PL.ξo, PL.ξp, PL.ξq, PL.ξr, PL.ξs, PL.ξt, PL.ξu, PL.ξv, PL.ξw, PL.ξx, PL.ξy, PL.ξz, PL.ξ0, PL.ξ1, PL.ξ2, PL.ξ3, PL.ξ4, PL.ξ5, PL.ξ6, PL.ξ7, PL.ξ8, PL.ξ9, PL.χA, PL.χB, PL.χC, PL.χD, PL.χE, PL.χF, PL.χG, PL.χH, PL.χI, PL.χJ, PL.χK, PL.χL, PL.χM, PL.χN, PL.χO, PL.χP, PL.χQ, PL.χR, PL.χS, PL.χT, PL.χU, PL.χV, PL.χW, PL.χX, PL.χY, PL.χZ, PL.χa, PL.χb, PL.χc, PL.χd, PL.χe, PL.χf, PL.χg, PL.χh, PL.χi, PL.χj, PL.χk, PL.χl, PL.χm, PL.χn, PL.χo, PL.χp, PL.χq, ini, e2, Nat.reduceLeDiff]
    · simp only [List.map_append, List.map_cons, List.map_nil, List.length_append, PL.δA, PL.δB, PL.δC, PL.δD, PL.δE, PL.δF, PL.δG, PL.δH, PL.δI, PL.δJ, PL.δK, PL.δL, PL.δM, PL.δN, PL.δO, PL.δP, PL.δQ, PL.δR, PL.δS, PL.δT, PL.δU, PL.δV, PL.δW, PL.δX, PL.δY, PL.δZ, PL.δa, PL.δb, PL.δc, PL.δd, PL.δe, PL.δf, PL.δg, PL.δh, PL.δi, PL.δj, PL.δk, PL.δl, PL.δm, PL.δn, PL.δo, PL.δp, PL.δq, PL.δr, PL.δs, PL.δt, PL.δu, PL.δv, PL.δw, PL.δx, PL.δy, PL.δz, PL.δ0, PL.δ1, PL.δ2, PL.δ3, PL.δ4, PL.δ5, PL.δ6, PL.δ7, PL.δ8, PL.δ9, PL.ζA, PL.ζB, PL.ζC, PL.ζD, PL.ζE, PL.ζF, PL.ζG, PL.ζH, PL.ζI, PL.ζJ, PL.ζK, PL.ζL, PL.ζM, PL.ζN, PL.ζO, PL.ζP, PL.ζQ, PL.ζR, PL.ζS, PL.ζT, PL.ζU, PL.ζV, PL.ζW, PL.ζX, PL.ζY, PL.ζZ, PL.ζa, PL.ζb, PL.ζc, PL.ζd, PL.ζe, PL.ζf, PL.ζg, PL.ζh, PL.ζi, PL.ζj, PL.ζk, PL.ζl, PL.ζm, PL.ζn, PL.ζo, PL.ζp, PL.ζq, PL.ζr, PL.ζs, PL.ζt, PL.ζu, PL.ζv, PL.ζw, PL.ζx, PL.ζy, PL.ζz, PL.ζ0, PL.ζ1, PL.ζ2, PL.ζ3, PL.ζ4, PL.ζ5, PL.ζ6, PL.ζ7, PL.ζ8, PL.ζ9, PL.ηA, PL.ηB, PL.ηC, PL.ηD, PL.ηE, PL.ηF, PL.ηG, PL.ηH, PL.ηI, PL.ηJ, PL.ηK, PL.ηL, PL.ηM, PL.ηN, PL.ηO, PL.ηP, PL.ηQ, PL.ηR, PL.ηS, PL.ηT, PL.ηU, PL.ηV, PL.ηW, PL.ηX, PL.ηY, PL.ηZ, PL.ηa, PL.ηb, PL.ηc, PL.ηd, PL.ηe, PL.ηf, PL.ηg, PL.ηh, PL.ηi, PL.ηj, PL.ηk, PL.ηl, PL.ηm, PL.ηn, PL.ηo, PL.ηp, PL.ηq, PL.ηr, PL.ηs, PL.ηt, PL.ηu, PL.ηv, PL.ηw, PL.ηx, PL.ηy, PL.ηz, PL.η0, PL.η1, PL.η2, PL.η3, PL.η4, PL.η5, PL.η6, PL.η7, PL.η8, PL.η9, PL.ξA, PL.ξB, PL.ξC, PL.ξD, PL.ξE, PL.ξF, PL.ξG, PL.ξH, PL.ξI, PL.ξJ, PL.ξK, PL.ξL, PL.ξM, PL.ξN, PL.ξO, PL.ξP, PL.ξQ, PL.ξR, PL.ξS, PL.ξT, PL.ξU, PL.ξV, PL.ξW, PL.ξX, PL.ξY, PL.ξZ, PL.ξa, PL.ξb, PL.ξc, PL.ξd, PL.ξe, PL.ξf, PL.ξg, PL.ξh, PL.ξi, PL.ξj, PL.ξk, PL.ξl, PL.ξm, PL.ξn, PL.ξo, PL.ξp, PL.ξq, PL.ξr, PL.ξs, PL.ξt, PL.ξu, PL.ξv, PL.ξw, PL.ξx, PL.ξy, PL.ξz, PL.ξ0, PL.ξ1, PL.ξ2, PL.ξ3, PL.ξ4, PL.ξ5, PL.ξ6, PL.ξ7, PL.ξ8, PL.ξ9, PL.χA, PL.χB, PL.χC, PL.χD, PL.χE, PL.χF, PL.χG, PL.χH, PL.χI, PL.χJ, PL.χK, PL.χL, PL.χM, PL.χN, PL.χO, PL.χP, PL.χQ, PL.χR, PL.χS, PL.χT, PL.χU, PL.χV, PL.χW, PL.χX, PL.χY, PL.χZ, PL.χa, PL.χb, PL.χc, PL.χd, PL.χe, PL.χf, PL.χg, PL.χh, PL.χi, PL.χj, PL.χk, PL.χl, PL.χm, PL.χn, PL.χo, PL.χp, PL.χq, Nat.reduceLeDiff]
    refine wG.seq (loopA_ok (n := r + 2) (big := big) hs2 (by omega) (by omega) fun ds3 rs3 y6 y10 hs3 hT => ?_)
    have hw0 : Web0 (r + 2) 0 rs3 := by
      have hl : rs3.length = r + 2 - 1 := by
        have := congrArg List.length hT.1
        simpa using this
      have ht : ∀ b, 0 < b → b < r + 2 → ∃ e ∈ rs3, e.2.1 = b := fun b h0 h1 => by
        have : b ∈ rs3.map (fun e => e.2.1) := by
          rw [hT.1]
          exact List.mem_map.mpr ⟨b - 1, List.mem_range.mpr (by omega), by omega⟩
        obtain ⟨e, he, q⟩ := List.mem_map.mp this
        exact ⟨e, he, q⟩
      refine ⟨⟨fun e he => ⟨hT.2.1 e he, ?_⟩, hT.2.2, ?_⟩, by omega, ht⟩
      · have : e.2.1 ∈ rs3.map (fun e => e.2.1) := List.mem_map.mpr ⟨e, he, rfl⟩
        rw [hT.1] at this
        obtain ⟨k, hk, q⟩ := List.mem_map.mp this
        have := List.mem_range.mp hk
        omega
      · have h1 : (rs3.map (fun e => e.2.1)).Nodup := by
          rw [hT.1, List.nodup_iff_pairwise_ne, List.pairwise_map]
          exact (List.nodup_iff_pairwise_ne.mp List.nodup_range).imp fun h => by omega
        have h2 : rs3.map (fun e => e.2.1) = (rs3.map Pair).map (fun p => p.2) := by
          rw [List.map_map]
          rfl
        rw [h2] at h1
        exact List.Pairwise.of_map (fun p : Nat × Nat => p.2) (fun a b h e => h (by rw [e])) h1
    refine wG.seq (loopB_ok (extra := extra) hs3 (by omega) (by omega) (by omega) (by omega) hw0 fun ds4 rs y6 y7 y10 hs4 hw => ?_)
    have hlr : rs.length ≤ 14 := by
      have := hw.2.1
      omega
    obtain ⟨p, ds5, e5, hp, hs5⟩ := order_ok hs4 (n := rs.length) (by omega)
    refine wG.seq (wG.set (d := natL p) (ρ1 := envW ds5 (some (.sh (.int (most : Nat)))) (some (.sh (.int (extra : Nat)))) (r + 2) big rs y6 y7 none none y10 none none) ?_ ?_)
    · simp only [List.map_append, List.map_cons, List.map_nil, List.length_append, PL.δA, PL.δB, PL.δC, PL.δD, PL.δE, PL.δF, PL.δG, PL.δH, PL.δI, PL.δJ, PL.δK, PL.δL, PL.δM, PL.δN, PL.δO, PL.δP, PL.δQ, PL.δR, PL.δS, PL.δT, PL.δU, PL.δV, PL.δW, PL.δX, PL.δY, PL.δZ, PL.δa, PL.δb, PL.δc, PL.δd, PL.δe, PL.δf, PL.δg, PL.δh, PL.δi, PL.δj, PL.δk, PL.δl, PL.δm, PL.δn, PL.δo, PL.δp, PL.δq, PL.δr, PL.δs, PL.δt, PL.δu, PL.δv, PL.δw, PL.δx, PL.δy, PL.δz, PL.δ0, PL.δ1, PL.δ2, PL.δ3, PL.δ4, PL.δ5, PL.δ6, PL.δ7, PL.δ8, PL.δ9, PL.ζA, PL.ζB, PL.ζC, PL.ζD, PL.ζE, PL.ζF, PL.ζG, PL.ζH, PL.ζI, PL.ζJ, PL.ζK, PL.ζL, PL.ζM, PL.ζN, PL.ζO, PL.ζP, PL.ζQ, PL.ζR, PL.ζS, PL.ζT, PL.ζU, PL.ζV, PL.ζW, PL.ζX, PL.ζY, PL.ζZ, PL.ζa, PL.ζb, PL.ζc, PL.ζd, PL.ζe, PL.ζf, PL.ζg, PL.ζh, PL.ζi, PL.ζj, PL.ζk, PL.ζl, PL.ζm, PL.ζn, PL.ζo, PL.ζp, PL.ζq, PL.ζr, PL.ζs, PL.ζt, PL.ζu, PL.ζv, PL.ζw, PL.ζx, PL.ζy, PL.ζz, PL.ζ0, PL.ζ1, PL.ζ2, PL.ζ3, PL.ζ4, PL.ζ5, PL.ζ6, PL.ζ7, PL.ζ8, PL.ζ9, PL.ηA, PL.ηB, PL.ηC, PL.ηD, PL.ηE, PL.ηF, PL.ηG, PL.ηH, PL.ηI, PL.ηJ, PL.ηK, PL.ηL, PL.ηM, PL.ηN, PL.ηO, PL.ηP, PL.ηQ, PL.ηR, PL.ηS, PL.ηT, PL.ηU, PL.ηV, PL.ηW, PL.ηX, PL.ηY, PL.ηZ, PL.ηa, PL.ηb, PL.ηc, PL.ηd, PL.ηe, PL.ηf, PL.ηg, PL.ηh, PL.ηi, PL.ηj, PL.ηk, PL.ηl, PL.ηm, PL.ηn, PL.ηo, PL.ηp, PL.ηq, PL.ηr, PL.ηs, PL.ηt, PL.ηu, PL.ηv, PL.ηw, PL.ηx, PL.ηy, PL.ηz, PL.η0, PL.η1, PL.η2, PL.η3, PL.η4, PL.η5, PL.η6, PL.η7, PL.η8, PL.η9, PL.ξA, PL.ξB, PL.ξC, PL.ξD, PL.ξE, PL.ξF, PL.ξG, PL.ξH, PL.ξI, PL.ξJ, PL.ξK, PL.ξL, PL.ξM, PL.ξN, PL.ξO, PL.ξP, PL.ξQ, PL.ξR, PL.ξS, PL.ξT, PL.ξU, PL.ξV, PL.ξW, PL.ξX, PL.ξY, PL.ξZ, PL.ξa, PL.ξb, PL.ξc, PL.ξd, PL.ξe, PL.ξf, PL.ξg, PL.ξh, PL.ξi, PL.ξj, PL.ξk, PL.ξl, PL.ξm, PL.ξn, PL.ξo, PL.ξp, PL.ξq, PL.ξr, PL.ξs, PL.ξt, PL.ξu, PL.ξv, PL.ξw, PL.ξx, PL.ξy, PL.ξz, PL.ξ0, PL.ξ1, PL.ξ2, PL.ξ3, PL.ξ4, PL.ξ5, PL.ξ6, PL.ξ7, PL.ξ8, PL.ξ9, PL.χA, PL.χB, PL.χC, PL.χD, PL.χE, PL.χF, PL.χG, PL.χH, PL.χI, PL.χJ, PL.χK, PL.χL, PL.χM, PL.χN, PL.χO, PL.χP, PL.χQ, PL.χR, PL.χS, PL.χT, PL.χU, PL.χV, PL.χW, PL.χX, PL.χY, PL.χZ, PL.χa, PL.χb, PL.χc, PL.χd, PL.χe, PL.χf, PL.χg, PL.χh, PL.χi, PL.χj, PL.χk, PL.χl, PL.χm, PL.χn, PL.χo, PL.χp, PL.χq, envW, e5]
    refine wG.seq (stC_ok (n := r + 2) (big := big) hs5 (by omega) fun ds6 ws hs6 hl hws => ?_)
    obtain ⟨w0, wr, ews⟩ : ∃ w0 wr, ws = w0 :: wr := by
      cases ws with
      | nil => simp at hl
      | cons a b => exact ⟨a, b, rfl⟩
    have hsum : oSum [.list (ws.map .int)] = some (.int ws.sum) := by
      have := ηY (fun x : Int => x) ws
      rwa [List.map_id'] at this
    have hw00 := hws w0 (by rw [ews]; exact List.mem_cons_self)
    have hsn := sum_nn ws fun w hm => (hws w hm).1
    obtain ⟨v, hv, hv0, hvs, hv1⟩ : ∃ v : Int, (if ws.sum = 0 then w0 + 1 else w0 + 0) = v ∧ 0 ≤ v ∧ 0 < (v :: wr).sum ∧ v ≤ 100 := by
      refine ⟨_, rfl, ?_, ?_, ?_⟩
      · split <;> omega
      · have : ws.sum = w0 + wr.sum := by rw [ews, List.sum_cons]
        rw [List.sum_cons]
        split <;> omega
      · have : ws.sum = w0 + wr.sum := by rw [ews, List.sum_cons]
        have := sum_nn wr fun w hm => (hws w (by rw [ews]; exact List.mem_cons_of_mem _ hm)).1
        split <;> omega
    refine wG.seq (wG.setI (d := .int v) (j := 0) (m := 0) (es := ws.map .int) (ds := ws.map .int) (ρ1 := envW ds6 (some (.sh (.int (most : Nat)))) (some (.sh (.int (extra : Nat)))) (r + 2) big rs y6 y7 (some (.sh (natL p))) (some (.own (.list (ws.map .int)))) y10 none none) (ρ2 := envW ds6 (some (.sh (.int (most : Nat)))) (some (.sh (.int (extra : Nat)))) (r + 2) big rs y6 y7 (some (.sh (natL p))) (some (.own (.list (ws.map .int)))) y10 none none) ?_ rfl rfl rfl ?_ ?_)
    · have h0 : (ws.map PyData.int)[0]? = some (.int w0) := by rw [ews]; rfl
      simp only [List.map_append, List.map_cons, List.map_nil, List.length_append, PL.δA, PL.δB, PL.δC, PL.δD, PL.δE, PL.δF, PL.δG, PL.δH, PL.δI, PL.δJ, PL.δK, PL.δL, PL.δM, PL.δN, PL.δO, PL.δP, PL.δQ, PL.δR, PL.δS, PL.δT, PL.δU, PL.δV, PL.δW, PL.δX, PL.δY, PL.δZ, PL.δa, PL.δb, PL.δc, PL.δd, PL.δe, PL.δf, PL.δg, PL.δh, PL.δi, PL.δj, PL.δk, PL.δl, PL.δm, PL.δn, PL.δo, PL.δp, PL.δq, PL.δr, PL.δs, PL.δt, PL.δu, PL.δv, PL.δw, PL.δx, PL.δy, PL.δz, PL.δ0, PL.δ1, PL.δ2, PL.δ3, PL.δ4, PL.δ5, PL.δ6, PL.δ7, PL.δ8, PL.δ9, PL.ζA, PL.ζB, PL.ζC, PL.ζD, PL.ζE, PL.ζF, PL.ζG, PL.ζH, PL.ζI, PL.ζJ, PL.ζK, PL.ζL, PL.ζM, PL.ζN, PL.ζO, PL.ζP, PL.ζQ, PL.ζR, PL.ζS, PL.ζT, PL.ζU, PL.ζV, PL.ζW, PL.ζX, PL.ζY, PL.ζZ, PL.ζa, PL.ζb, PL.ζc, PL.ζd, PL.ζe, PL.ζf, PL.ζg, PL.ζh, PL.ζi, PL.ζj, PL.ζk, PL.ζl, PL.ζm, PL.ζn, PL.ζo, PL.ζp, PL.ζq, PL.ζr, PL.ζs, PL.ζt, PL.ζu, PL.ζv, PL.ζw, PL.ζx, PL.ζy, PL.ζz, PL.ζ0, PL.ζ1, PL.ζ2, PL.ζ3, PL.ζ4, PL.ζ5, PL.ζ6, PL.ζ7, PL.ζ8, PL.ζ9, PL.ηA, PL.ηB, PL.ηC, PL.ηD, PL.ηE, PL.ηF, PL.ηG, PL.ηH, PL.ηI, PL.ηJ, PL.ηK, PL.ηL, PL.ηM, PL.ηN, PL.ηO, PL.ηP, PL.ηQ, PL.ηR, PL.ηS, PL.ηT, PL.ηU, PL.ηV, PL.ηW, PL.ηX, PL.ηY, PL.ηZ, PL.ηa, PL.ηb, PL.ηc, PL.ηd, PL.ηe, PL.ηf, PL.ηg, PL.ηh, PL.ηi, PL.ηj, PL.ηk, PL.ηl, PL.ηm, PL.ηn, PL.ηo, PL.ηp, PL.ηq, PL.ηr, PL.ηs, PL.ηt, PL.ηu, PL.ηv, PL.ηw, PL.ηx, PL.ηy, PL.ηz, PL.η0, PL.η1, PL.η2, PL.η3, PL.η4, PL.η5, PL.η6, PL.η7, PL.η8, PL.η9, PL.ξA, PL.ξB, PL.ξC, PL.ξD, PL.ξE, PL.ξF, PL.ξG, PL.ξH, PL.ξI, PL.ξJ, PL.ξK, PL.ξL, PL.ξM, PL.ξN, PL.ξO, PL.ξP, PL.ξQ, PL.ξR, PL.ξS, PL.ξT, PL.ξU, PL.ξV, PL.ξW, PL.ξX, PL.ξY, PL.ξZ, PL.ξa, PL.ξb, PL.ξc, PL.ξd, PL.ξe, PL.ξf, PL.ξg, PL.ξh, PL.ξi, PL.ξj, PL.ξk, PL.ξl, PL.ξm, PL.ξn, PL.ξo, PL.ξp, PL.ξq, PL.ξr, PL.ξs, PL.ξt, PL.ξu, PL.ξv, PL.ξw, PL.ξx, PL.ξy, PL.ξz, PL.ξ0, PL.ξ1, PL.ξ2, PL.ξ3, PL.ξ4, PL.ξ5, PL.ξ6, PL.ξ7, PL.ξ8, PL.ξ9, PL.χA, PL.χB, PL.χC, PL.χD, PL.χE, PL.χF, PL.χG, PL.χH, PL.χI, PL.χJ, PL.χK, PL.χL, PL.χM, PL.χN, PL.χO, PL.χP, PL.χQ, PL.χR, PL.χS, PL.χT, PL.χU, PL.χV, PL.χW, PL.χX, PL.χY, PL.χZ, PL.χa, PL.χb, PL.χc, PL.χd, PL.χe, PL.χf, PL.χg, PL.χh, PL.χi, PL.χj, PL.χk, PL.χl, PL.χm, PL.χn, PL.χo, PL.χp, PL.χq, envW, h0, hsum]
      by_cases hz : ws.sum = 0
      · rw [if_pos hz] at hv
        simp only [hz, decide_true, List.map_append, List.map_cons, List.map_nil, List.length_append, PL.δA, PL.δB, PL.δC, PL.δD, PL.δE, PL.δF, PL.δG, PL.δH, PL.δI, PL.δJ, PL.δK, PL.δL, PL.δM, PL.δN, PL.δO, PL.δP, PL.δQ, PL.δR, PL.δS, PL.δT, PL.δU, PL.δV, PL.δW, PL.δX, PL.δY, PL.δZ, PL.δa, PL.δb, PL.δc, PL.δd, PL.δe, PL.δf, PL.δg, PL.δh, PL.δi, PL.δj, PL.δk, PL.δl, PL.δm, PL.δn, PL.δo, PL.δp, PL.δq, PL.δr, PL.δs, PL.δt, PL.δu, PL.δv, PL.δw, PL.δx, PL.δy, PL.δz, PL.δ0, PL.δ1, PL.δ2, PL.δ3, PL.δ4, PL.δ5, PL.δ6, PL.δ7, PL.δ8, PL.δ9, PL.ζA, PL.ζB, PL.ζC, PL.ζD, PL.ζE, PL.ζF, PL.ζG, PL.ζH, PL.ζI, PL.ζJ, PL.ζK, PL.ζL, PL.ζM, PL.ζN, PL.ζO, PL.ζP, PL.ζQ, PL.ζR, PL.ζS, PL.ζT, PL.ζU, PL.ζV, PL.ζW, PL.ζX, PL.ζY, PL.ζZ, PL.ζa, PL.ζb, PL.ζc, PL.ζd, PL.ζe, PL.ζf, PL.ζg, PL.ζh, PL.ζi, PL.ζj, PL.ζk, PL.ζl, PL.ζm, PL.ζn, PL.ζo, PL.ζp, PL.ζq, PL.ζr, PL.ζs, PL.ζt, PL.ζu, PL.ζv, PL.ζw, PL.ζx, PL.ζy, PL.ζz, PL.ζ0, PL.ζ1, PL.ζ2, PL.ζ3, PL.ζ4, PL.ζ5, PL.ζ6, PL.ζ7, PL.ζ8, PL.ζ9, PL.ηA, PL.ηB, PL.ηC, PL.ηD, PL.ηE, PL.ηF, PL.ηG, PL.ηH, PL.ηI, PL.ηJ, PL.ηK, PL.ηL, PL.ηM, PL.ηN, PL.ηO, PL.ηP, PL.ηQ, PL.ηR, PL.ηS, PL.ηT, PL.ηU, PL.ηV, PL.ηW, PL.ηX, PL.ηY, PL.ηZ, PL.ηa, PL.ηb, PL.ηc, PL.ηd, PL.ηe, PL.ηf, PL.ηg, PL.ηh, PL.ηi, PL.ηj, PL.ηk, PL.ηl, PL.ηm, PL.ηn, PL.ηo, PL.ηp, PL.ηq, PL.ηr, PL.ηs, PL.ηt, PL.ηu, PL.ηv, PL.ηw, PL.ηx, PL.ηy, PL.ηz, PL.η0, PL.η1, PL.η2, PL.η3, PL.η4, PL.η5, PL.η6, PL.η7, PL.η8, PL.η9, PL.ξA, PL.ξB, PL.ξC, PL.ξD, PL.ξE, PL.ξF, PL.ξG, PL.ξH, PL.ξI, PL.ξJ, PL.ξK, PL.ξL, PL.ξM, PL.ξN, PL.ξO, PL.ξP, PL.ξQ, PL.ξR, PL.ξS, PL.ξT, PL.ξU, PL.ξV, PL.ξW, PL.ξX, PL.ξY, PL.ξZ, PL.ξa, PL.ξb, PL.ξc, PL.ξd, PL.ξe, PL.ξf, PL.ξg, PL.ξh, PL.ξi, PL.ξj, PL.ξk, PL.ξl, PL.ξm, PL.ξn, PL.ξo, PL.ξp, PL.ξq, PL.ξr, PL.ξs, PL.ξt, PL.ξu, PL.ξv, PL.ξw, PL.ξx, PL.ξy, PL.ξz, PL.ξ0, PL.ξ1, PL.ξ2, PL.ξ3, PL.ξ4, PL.ξ5, PL.ξ6, PL.ξ7, PL.ξ8, PL.ξ9, PL.χA, PL.χB, PL.χC, PL.χD, PL.χE, PL.χF, PL.χG, PL.χH, PL.χI, PL.χJ, PL.χK, PL.χL, PL.χM, PL.χN, PL.χO, PL.χP, PL.χQ, PL.χR, PL.χS, PL.χT, PL.χU, PL.χV, PL.χW, PL.χX, PL.χY, PL.χZ, PL.χa, PL.χb, PL.χc, PL.χd, PL.χe, PL.χf, PL.χg, PL.χh, PL.χi, PL.χj, PL.χk, PL.χl, PL.χm, PL.χn, PL.χo, PL.χp, PL.χq, hv]
      · rw [if_neg hz] at hv
        simp only [hz, decide_false, List.map_append, List.map_cons, List.map_nil, List.length_append, PL.δA, PL.δB, PL.δC, PL.δD, PL.δE, PL.δF, PL.δG, PL.δH, PL.δI, PL.δJ, PL.δK, PL.δL, PL.δM, PL.δN, PL.δO, PL.δP, PL.δQ, PL.δR, PL.δS, PL.δT, PL.δU, PL.δV, PL.δW, PL.δX, PL.δY, PL.δZ, PL.δa, PL.δb, PL.δc, PL.δd, PL.δe, PL.δf, PL.δg, PL.δh, PL.δi, PL.δj, PL.δk, PL.δl, PL.δm, PL.δn, PL.δo, PL.δp, PL.δq, PL.δr, PL.δs, PL.δt, PL.δu, PL.δv, PL.δw, PL.δx, PL.δy, PL.δz, PL.δ0, PL.δ1, PL.δ2, PL.δ3, PL.δ4, PL.δ5, PL.δ6, PL.δ7, PL.δ8, PL.δ9, PL.ζA, PL.ζB, PL.ζC, PL.ζD, PL.ζE, PL.ζF, PL.ζG, PL.ζH, PL.ζI, PL.ζJ, PL.ζK, PL.ζL, PL.ζM, PL.ζN, PL.ζO, PL.ζP, PL.ζQ, PL.ζR, PL.ζS, PL.ζT, PL.ζU, PL.ζV, PL.ζW, PL.ζX, PL.ζY, PL.ζZ, PL.ζa, PL.ζb, PL.ζc, PL.ζd, PL.ζe, PL.ζf, PL.ζg, PL.ζh, PL.ζi, PL.ζj, PL.ζk, PL.ζl, PL.ζm, PL.ζn, PL.ζo, PL.ζp, PL.ζq, PL.ζr, PL.ζs, PL.ζt, PL.ζu, PL.ζv, PL.ζw, PL.ζx, PL.ζy, PL.ζz, PL.ζ0, PL.ζ1, PL.ζ2, PL.ζ3, PL.ζ4, PL.ζ5, PL.ζ6, PL.ζ7, PL.ζ8, PL.ζ9, PL.ηA, PL.ηB, PL.ηC, PL.ηD, PL.ηE, PL.ηF, PL.ηG, PL.ηH, PL.ηI, PL.ηJ, PL.ηK, PL.ηL, PL.ηM, PL.ηN, PL.ηO, PL.ηP, PL.ηQ, PL.ηR, PL.ηS, PL.ηT, PL.ηU, PL.ηV, PL.ηW, PL.ηX, PL.ηY, PL.ηZ, PL.ηa, PL.ηb, PL.ηc, PL.ηd, PL.ηe, PL.ηf, PL.ηg, PL.ηh, PL.ηi, PL.ηj, PL.ηk, PL.ηl, PL.ηm, PL.ηn, PL.ηo, PL.ηp, PL.ηq, PL.ηr, PL.ηs, PL.ηt, PL.ηu, PL.ηv, PL.ηw, PL.ηx, PL.ηy, PL.ηz, PL.η0, PL.η1, PL.η2, PL.η3, PL.η4, PL.η5, PL.η6, PL.η7, PL.η8, PL.η9, PL.ξA, PL.ξB, PL.ξC, PL.ξD, PL.ξE, PL.ξF, PL.ξG, PL.ξH, PL.ξI, PL.ξJ, PL.ξK, PL.ξL, PL.ξM, PL.ξN, PL.ξO, PL.ξP, PL.ξQ, PL.ξR, PL.ξS, PL.ξT, PL.ξU, PL.ξV, PL.ξW, PL.ξX, PL.ξY, PL.ξZ, PL.ξa, PL.ξb, PL.ξc, PL.ξd, PL.ξe, PL.ξf, PL.ξg, PL.ξh, PL.ξi, PL.ξj, PL.ξk, PL.ξl, PL.ξm, PL.ξn, PL.ξo, PL.ξp, PL.ξq, PL.ξr, PL.ξs, PL.ξt, PL.ξu, PL.ξv, PL.ξw, PL.ξx, PL.ξy, PL.ξz, PL.ξ0, PL.ξ1, PL.ξ2, PL.ξ3, PL.ξ4, PL.ξ5, PL.ξ6, PL.ξ7, PL.ξ8, PL.ξ9, PL.χA, PL.χB, PL.χC, PL.χD, PL.χE, PL.χF, PL.χG, PL.χH, PL.χI, PL.χJ, PL.χK, PL.χL, PL.χM, PL.χN, PL.χO, PL.χP, PL.χQ, PL.χR, PL.χS, PL.χT, PL.χU, PL.χV, PL.χW, PL.χX, PL.χY, PL.χZ, PL.χa, PL.χb, PL.χc, PL.χd, PL.χe, PL.χf, PL.χg, PL.χh, PL.χi, PL.χj, PL.χk, PL.χl, PL.χm, PL.χn, PL.χo, PL.χp, PL.χq, hv]
    · rw [List.length_map, hl]
      exact ixN_nat (i := 0) (by omega)
    have hset : (ws.map PyData.int).set 0 (.int v) = (v :: wr).map .int := by
      rw [ews]
      rfl
    rw [hset]
    have hlv : (v :: wr).length = r + 2 := by
      rw [← hl, ews]
      rfl
    have hroads : ∀ x ∈ p, (rs.map roadD)[x]? = some (roadD (rs.getD x (0, 0, 0))) := fun x hx => by
      have hx' := List.mem_range.mp (hp.mem_iff.mp hx)
      rw [List.getElem?_map, List.getElem?_eq_getElem hx', List.getD_eq_getElem?_getD, List.getElem?_eq_getElem hx']
      rfl
    have hpl : p.length ≤ 1000 := by
      rw [hp.length_eq, List.length_range]
      omega
    have hlen : wr.length ≤ 999 := by
      simp at hlv
      omega
    refine wG.fz (wG.ret (d := webT (r + 2) (fun k => (v :: wr).getD k 0) (p.map fun k => rs.getD k (0, 0, 0))) (ρ1 := envW ds6 (some (.sh (.int (most : Nat)))) (some (.sh (.int (extra : Nat)))) (r + 2) big rs y6 y7 (some (.sh (natL p))) (some (.sh (.list ((v :: wr).map .int)))) y10 none none) ?_ ⟨ds6, rfl, r + 2, _, _, rfl, ?_, by omega, ?_, hs6⟩)
    · rw [show DL.fz 9 (putL 9 ((v :: wr).map .int) (envW ds6 (some (.sh (.int (most : Nat)))) (some (.sh (.int (extra : Nat)))) (r + 2) big rs y6 y7 (some (.sh (natL p))) (some (.own (.list (ws.map .int)))) y10 none none)) = envW ds6 (some (.sh (.int (most : Nat)))) (some (.sh (.int (extra : Nat)))) (r + 2) big rs y6 y7 (some (.sh (natL p))) (some (.sh (.list ((v :: wr).map .int)))) y10 none none from rfl]
      have e7 := mapR PyData.int 0 (v :: wr)
      rw [hlv] at e7
      unfold webT
      rw [e7]
      simp (config := {contextual := true, maxDischargeDepth := 7}) only [List.map_append, List.map_cons, List.map_nil, List.length_append, PL.δA, PL.δB, PL.δC, PL.δD, PL.δE, PL.δF, PL.δG, PL.δH, PL.δI, PL.δJ, PL.δK, PL.δL, PL.δM, PL.δN, PL.δO, PL.δP, PL.δQ, PL.δR, PL.δS, PL.δT, PL.δU, PL.δV, PL.δW, PL.δX, PL.δY, PL.δZ, PL.δa, PL.δb, PL.δc, PL.δd, PL.δe, PL.δf, PL.δg, PL.δh, PL.δi, PL.δj, PL.δk, PL.δl, PL.δm, PL.δn, PL.δo, PL.δp, PL.δq, PL.δr, PL.δs, PL.δt, PL.δu, PL.δv, PL.δw, PL.δx, PL.δy, PL.δz, PL.δ0, PL.δ1, PL.δ2, PL.δ3, PL.δ4, PL.δ5, PL.δ6, PL.δ7, PL.δ8, PL.δ9, PL.ζA, PL.ζB, PL.ζC, PL.ζD, PL.ζE, PL.ζF, PL.ζG, PL.ζH, PL.ζI, PL.ζJ, PL.ζK, PL.ζL, PL.ζM, PL.ζN, PL.ζO, PL.ζP, PL.ζQ, PL.ζR, PL.ζS, PL.ζT, PL.ζU, PL.ζV, PL.ζW, PL.ζX, PL.ζY, PL.ζZ, PL.ζa, PL.ζb, PL.ζc, PL.ζd, PL.ζe, PL.ζf, PL.ζg, PL.ζh, PL.ζi, PL.ζj, PL.ζk, PL.ζl, PL.ζm, PL.ζn, PL.ζo, PL.ζp, PL.ζq, PL.ζr, PL.ζs, PL.ζt, PL.ζu, PL.ζv, PL.ζw, PL.ζx, PL.ζy, PL.ζz, PL.ζ0, PL.ζ1, PL.ζ2, PL.ζ3, PL.ζ4, PL.ζ5, PL.ζ6, PL.ζ7, PL.ζ8, PL.ζ9, PL.ηA, PL.ηB, PL.ηC, PL.ηD, PL.ηE, PL.ηF, PL.ηG, PL.ηH, PL.ηI, PL.ηJ, PL.ηK, PL.ηL, PL.ηM, PL.ηN, PL.ηO, PL.ηP, PL.ηQ, PL.ηR, PL.ηS, PL.ηT, PL.ηU, PL.ηV, PL.ηW, PL.ηX, PL.ηY, PL.ηZ, PL.ηa, PL.ηb, PL.ηc, PL.ηd, PL.ηe, PL.ηf, PL.ηg, PL.ηh, PL.ηi, PL.ηj, PL.ηk, PL.ηl, PL.ηm, PL.ηn, PL.ηo, PL.ηp, PL.ηq, PL.ηr, PL.ηs, PL.ηt, PL.ηu, PL.ηv, PL.ηw, PL.ηx, PL.ηy, PL.ηz, PL.η0, PL.η1, PL.η2, PL.η3, PL.η4, PL.η5, PL.η6, PL.η7, PL.η8, PL.η9, PL.ξA, PL.ξB, PL.ξC, PL.ξD, PL.ξE, PL.ξF, PL.ξG, PL.ξH, PL.ξI, PL.ξJ, PL.ξK, PL.ξL, PL.ξM, PL.ξN, PL.ξO, PL.ξP, PL.ξQ, PL.ξR, PL.ξS, PL.ξT, PL.ξU, PL.ξV, PL.ξW, PL.ξX, PL.ξY, PL.ξZ, PL.ξa, PL.ξb, PL.ξc, PL.ξd, PL.ξe, PL.ξf, PL.ξg, PL.ξh, PL.ξi, PL.ξj, PL.ξk, PL.ξl, PL.ξm, PL.ξn, PL.ξo, PL.ξp, PL.ξq, PL.ξr, PL.ξs, PL.ξt, PL.ξu, PL.ξv, PL.ξw, PL.ξx, PL.ξy, PL.ξz, PL.ξ0, PL.ξ1, PL.ξ2, PL.ξ3, PL.ξ4, PL.ξ5, PL.ξ6, PL.ξ7, PL.ξ8, PL.ξ9, PL.χA, PL.χB, PL.χC, PL.χD, PL.χE, PL.χF, PL.χG, PL.χH, PL.χI, PL.χJ, PL.χK, PL.χL, PL.χM, PL.χN, PL.χO, PL.χP, PL.χQ, PL.χR, PL.χS, PL.χT, PL.χU, PL.χV, PL.χW, PL.χX, PL.χY, PL.χZ, PL.χa, PL.χb, PL.χc, PL.χd, PL.χe, PL.χf, PL.χg, PL.χh, PL.χi, PL.χj, PL.χk, PL.χl, PL.χm, PL.χn, PL.χo, PL.χp, PL.χq, envW, natL, hroads, hpl, Nat.reduceLeDiff, List.map_map]
      rfl
    · have hw' := web_perm (perm_roads hp) hw.1 hlr hw.2.2
      refine ⟨hw', by omega, by omega, ?_, ?_, ?_⟩
      · intro k hk
        have : k < (v :: wr).length := by omega
        show 0 ≤ (v :: wr).getD k 0
        rw [List.getD_eq_getElem?_getD, List.getElem?_eq_getElem this]
        have hm := List.getElem_mem this
        rcases List.mem_cons.mp hm with q | q
        · show 0 ≤ (v :: wr)[k]
          rw [q]
          exact hv0
        · exact (hws _ (by rw [ews]; exact List.mem_cons_of_mem _ q)).1
      · intro k hk
        have : k < (v :: wr).length := by omega
        show (v :: wr).getD k 0 ≤ 100
        rw [List.getD_eq_getElem?_getD, List.getElem?_eq_getElem this]
        have hm := List.getElem_mem this
        rcases List.mem_cons.mp hm with q | q
        · show (v :: wr)[k] ≤ 100
          rw [q]
          exact hv1
        · exact (hws _ (by rw [ews]; exact List.mem_cons_of_mem _ q)).2
      · have e8 := mapR (fun x : Int => x) 0 (v :: wr)
        rw [hlv, List.map_id'] at e8
        show 0 < ((List.range (r + 2)).map fun k => (v :: wr).getD k 0).sum
        rw [e8]
        exact hvs
    · rw [(perm_roads hp).length_eq]
      exact hw.2.1
  obtain ⟨d, ds', e, n, w, rs, ed, h1, h2, h3, h4⟩ := w
  subst ed
  exact ⟨n, w, rs, ds', e, h1, h2, h3, h4⟩
end PL
namespace PL
open PySem PySem.Spec PyProof.Rows L2 DL
abbrev envP (pts rs : D) (left : List Nat) (x3 x4 x5 x6 x7 x8 x9 x10 x11 : Option E) : DL.Env := [some (.sh pts), some (.sh rs), some (.sh (natL left)), x3, x4, x5, x6, x7, x8, x9, x10, x11]
abbrev bodyP : Gs := gFor (lfs (iS (cTup (cCons (cTup (cCons (cVar 6) (cCons (cVar 7) cNil))) (cCons (cTup (cCons (cVar 7) (cCons (cVar 6) cNil))) cNil))))) (bTp 2 (bCons (bNm 9) (bCons (bNm 10) bNil)))
  (gIf (lfb (bAnd (bV (c2 oEq (cVar 9) (cIxO 4 (cVar 5)))) (bAnd (bV (c2 oIn (cVar 10) (cVar 2))) (bBor (bV (c2 oNotIn (cVar 10) (cVar 4)))))))
  (gApp 4 (lf (cVar 10)))
  gNx)
theorem in_nl (x : Nat) (xs : List Nat) : oIn (.int (x : Nat)) (.list (xs.map fun x => .int (x : Nat))) = some (.bool (decide (x ∈ xs))) := (in_l (α := Nat) (by decide) x xs).trans (congrArg (fun x : Bool => some (PyData.bool x)) (decide_eq_decide.mpr Iff.rfl))
theorem notIn_nl (x : Nat) (xs : List Nat) : oNotIn (.int (x : Nat)) (.list (xs.map fun x => .int (x : Nat))) = some (.bool (!decide (x ∈ xs))) := (notIn_l (α := Nat) (by decide) x xs).trans (congrArg (fun x : Bool => some (PyData.bool (!x))) (decide_eq_decide.mpr Iff.rfl))
theorem eq_nn (a b : Nat) : oEq (.int (a : Nat)) (.int (b : Nat)) = some (.bool (decide (a = b))) := by
  rw [ζ8]
  exact congrArg (fun x : Bool => some (PyData.bool x)) (decide_eq_decide.mpr (by omega))
theorem addP_ok {pts rs : D} {left part : List Nat} {at_ u a b : Nat} {x3 x6 x7 x8 x11 : Option E} (hu : part[at_]? = some u) (hp : part.length ≤ 1000) :
    (gIf (lfb (bAnd (bV (c2 oEq (cVar 9) (cIxO 4 (cVar 5)))) (bAnd (bV (c2 oIn (cVar 10) (cVar 2))) (bBor (bV (c2 oNotIn (cVar 10) (cVar 4)))))))
      (gApp 4 (lf (cVar 10))) gNx) (envP pts rs left x3 (some (.own (natL part))) (some (.sh (.int (at_ : Nat)))) x6 x7 x8 (some (.sh (.int (a : Nat)))) (some (.sh (.int (b : Nat)))) x11)
    = some (.nx, envP pts rs left x3 (some (.own (natL (addP left u part (a, b))))) (some (.sh (.int (at_ : Nat)))) x6 x7 x8 (some (.sh (.int (a : Nat)))) (some (.sh (.int (b : Nat)))) x11) := by
  have hg : (part.map fun x => PyData.int (x : Nat))[at_]? = some (.int (u : Nat)) := by
    rw [List.getElem?_map, hu]
    rfl
  by_cases h1 : a = u
  · subst h1
    by_cases h2 : b ∈ left
    · by_cases h3 : b ∈ part
      · have e : addP left a part (a, b) = part := if_neg fun c => c.2.2 h3
        rw [e]
        simp only [List.map_append, List.map_cons, List.map_nil, List.length_append, PL.δA, PL.δB, PL.δC, PL.δD, PL.δE, PL.δF, PL.δG, PL.δH, PL.δI, PL.δJ, PL.δK, PL.δL, PL.δM, PL.δN, PL.δO, PL.δP, PL.δQ, PL.δR, PL.δS, PL.δT, PL.δU, PL.δV, PL.δW, PL.δX, PL.δY, PL.δZ, PL.δa, PL.δb, PL.δc, PL.δd, PL.δe, PL.δf, PL.δg, PL.δh, PL.δi, PL.δj, PL.δk, PL.δl, PL.δm, PL.δn, PL.δo, PL.δp, PL.δq, PL.δr, PL.δs, PL.δt, PL.δu, PL.δv, PL.δw, PL.δx, PL.δy, PL.δz, PL.δ0, PL.δ1, PL.δ2, PL.δ3, PL.δ4, PL.δ5, PL.δ6, PL.δ7, PL.δ8, PL.δ9, PL.ζA, PL.ζB, PL.ζC, PL.ζD, PL.ζE, PL.ζF, PL.ζG, PL.ζH, PL.ζI, PL.ζJ, PL.ζK, PL.ζL, PL.ζM, PL.ζN, PL.ζO, PL.ζP, PL.ζQ, PL.ζR, PL.ζS, PL.ζT, PL.ζU, PL.ζV, PL.ζW, PL.ζX, PL.ζY, PL.ζZ, PL.ζa, PL.ζb, PL.ζc, PL.ζd, PL.ζe, PL.ζf, PL.ζg, PL.ζh, PL.ζi, PL.ζj, PL.ζk, PL.ζl, PL.ζm, PL.ζn, PL.ζo, PL.ζp, PL.ζq, PL.ζr, PL.ζs, PL.ζt, PL.ζu, PL.ζv, PL.ζw, PL.ζx, PL.ζy, PL.ζz, PL.ζ0, PL.ζ1, PL.ζ2, PL.ζ3, PL.ζ4, PL.ζ5, PL.ζ6, PL.ζ7, PL.ζ8, PL.ζ9, PL.ηA, PL.ηB, PL.ηC, PL.ηD, PL.ηE, PL.ηF, PL.ηG, PL.ηH, PL.ηI, PL.ηJ, PL.ηK, PL.ηL, PL.ηM, PL.ηN, PL.ηO, PL.ηP, PL.ηQ, PL.ηR, PL.ηS, PL.ηT, PL.ηU, PL.ηV, PL.ηW, PL.ηX, PL.ηY, PL.ηZ, PL.ηa, PL.ηb, PL.ηc, PL.ηd, PL.ηe, PL.ηf, PL.ηg, PL.ηh, PL.ηi, PL.ηj, PL.ηk, PL.ηl, PL.ηm, PL.ηn, PL.ηo, PL.ηp, PL.ηq, PL.ηr, PL.ηs, PL.ηt, PL.ηu, PL.ηv, PL.ηw, PL.ηx, PL.ηy, PL.ηz, PL.η0, PL.η1, PL.η2, PL.η3, PL.η4, PL.η5, PL.η6, PL.η7, PL.η8, PL.η9, PL.ξA, PL.ξB, PL.ξC, PL.ξD, PL.ξE, PL.ξF, PL.ξG, PL.ξH, PL.ξI, PL.ξJ, PL.ξK, PL.ξL, PL.ξM, PL.ξN, PL.ξO, PL.ξP, PL.ξQ, PL.ξR, PL.ξS, PL.ξT, PL.ξU, PL.ξV, PL.ξW, PL.ξX, PL.ξY, PL.ξZ, PL.ξa, PL.ξb, PL.ξc, PL.ξd, PL.ξe, PL.ξf, PL.ξg, PL.ξh, PL.ξi, PL.ξj, PL.ξk, PL.ξl, PL.ξm, PL.ξn, PL.ξo, PL.ξp, PL.ξq, PL.ξr, PL.ξs, PL.ξt, PL.ξu, PL.ξv, PL.ξw, PL.ξx, PL.ξy, PL.ξz, PL.ξ0, PL.ξ1, PL.ξ2, PL.ξ3, PL.ξ4, PL.ξ5, PL.ξ6, PL.ξ7, PL.ξ8, PL.ξ9, PL.χA, PL.χB, PL.χC, PL.χD, PL.χE, PL.χF, PL.χG, PL.χH, PL.χI, PL.χJ, PL.χK, PL.χL, PL.χM, PL.χN, PL.χO, PL.χP, PL.χQ, PL.χR, PL.χS, PL.χT, PL.χU, PL.χV, PL.χW, PL.χX, PL.χY, PL.χZ, PL.χa, PL.χb, PL.χc, PL.χd, PL.χe, PL.χf, PL.χg, PL.χh, PL.χi, PL.χj, PL.χk, PL.χl, PL.χm, PL.χn, PL.χo, PL.χp, PL.χq, envP, natL, hg, eq_nn, in_nl, notIn_nl, h2, h3, decide_true, decide_false]
      · have e : addP left a part (a, b) = part ++ [b] := if_pos ⟨rfl, h2, h3⟩
        rw [e]
        simp only [List.map_append, List.map_cons, List.map_nil, List.length_append, PL.δA, PL.δB, PL.δC, PL.δD, PL.δE, PL.δF, PL.δG, PL.δH, PL.δI, PL.δJ, PL.δK, PL.δL, PL.δM, PL.δN, PL.δO, PL.δP, PL.δQ, PL.δR, PL.δS, PL.δT, PL.δU, PL.δV, PL.δW, PL.δX, PL.δY, PL.δZ, PL.δa, PL.δb, PL.δc, PL.δd, PL.δe, PL.δf, PL.δg, PL.δh, PL.δi, PL.δj, PL.δk, PL.δl, PL.δm, PL.δn, PL.δo, PL.δp, PL.δq, PL.δr, PL.δs, PL.δt, PL.δu, PL.δv, PL.δw, PL.δx, PL.δy, PL.δz, PL.δ0, PL.δ1, PL.δ2, PL.δ3, PL.δ4, PL.δ5, PL.δ6, PL.δ7, PL.δ8, PL.δ9, PL.ζA, PL.ζB, PL.ζC, PL.ζD, PL.ζE, PL.ζF, PL.ζG, PL.ζH, PL.ζI, PL.ζJ, PL.ζK, PL.ζL, PL.ζM, PL.ζN, PL.ζO, PL.ζP, PL.ζQ, PL.ζR, PL.ζS, PL.ζT, PL.ζU, PL.ζV, PL.ζW, PL.ζX, PL.ζY, PL.ζZ, PL.ζa, PL.ζb, PL.ζc, PL.ζd, PL.ζe, PL.ζf, PL.ζg, PL.ζh, PL.ζi, PL.ζj, PL.ζk, PL.ζl, PL.ζm, PL.ζn, PL.ζo, PL.ζp, PL.ζq, PL.ζr, PL.ζs, PL.ζt, PL.ζu, PL.ζv, PL.ζw, PL.ζx, PL.ζy, PL.ζz, PL.ζ0, PL.ζ1, PL.ζ2, PL.ζ3, PL.ζ4, PL.ζ5, PL.ζ6, PL.ζ7, PL.ζ8, PL.ζ9, PL.ηA, PL.ηB, PL.ηC, PL.ηD, PL.ηE, PL.ηF, PL.ηG, PL.ηH, PL.ηI, PL.ηJ, PL.ηK, PL.ηL, PL.ηM, PL.ηN, PL.ηO, PL.ηP, PL.ηQ, PL.ηR, PL.ηS, PL.ηT, PL.ηU, PL.ηV, PL.ηW, PL.ηX, PL.ηY, PL.ηZ, PL.ηa, PL.ηb, PL.ηc, PL.ηd, PL.ηe, PL.ηf, PL.ηg, PL.ηh, PL.ηi, PL.ηj, PL.ηk, PL.ηl, PL.ηm, PL.ηn, PL.ηo, PL.ηp, PL.ηq, PL.ηr, PL.ηs, PL.ηt, PL.ηu, PL.ηv, PL.ηw, PL.ηx, PL.ηy, PL.ηz, PL.η0, PL.η1, PL.η2, PL.η3, PL.η4, PL.η5, PL.η6, PL.η7, PL.η8, PL.η9, PL.ξA, PL.ξB, PL.ξC, PL.ξD, PL.ξE, PL.ξF, PL.ξG, PL.ξH, PL.ξI, PL.ξJ, PL.ξK, PL.ξL, PL.ξM, PL.ξN, PL.ξO, PL.ξP, PL.ξQ, PL.ξR, PL.ξS, PL.ξT, PL.ξU, PL.ξV, PL.ξW, PL.ξX, PL.ξY, PL.ξZ, PL.ξa, PL.ξb, PL.ξc, PL.ξd, PL.ξe, PL.ξf, PL.ξg, PL.ξh, PL.ξi, PL.ξj, PL.ξk, PL.ξl, PL.ξm, PL.ξn, PL.ξo, PL.ξp, PL.ξq, PL.ξr, PL.ξs, PL.ξt, PL.ξu, PL.ξv, PL.ξw, PL.ξx, PL.ξy, PL.ξz, PL.ξ0, PL.ξ1, PL.ξ2, PL.ξ3, PL.ξ4, PL.ξ5, PL.ξ6, PL.ξ7, PL.ξ8, PL.ξ9, PL.χA, PL.χB, PL.χC, PL.χD, PL.χE, PL.χF, PL.χG, PL.χH, PL.χI, PL.χJ, PL.χK, PL.χL, PL.χM, PL.χN, PL.χO, PL.χP, PL.χQ, PL.χR, PL.χS, PL.χT, PL.χU, PL.χV, PL.χW, PL.χX, PL.χY, PL.χZ, PL.χa, PL.χb, PL.χc, PL.χd, PL.χe, PL.χf, PL.χg, PL.χh, PL.χi, PL.χj, PL.χk, PL.χl, PL.χm, PL.χn, PL.χo, PL.χp, PL.χq, envP, natL, hg, eq_nn, in_nl, notIn_nl, h2, h3, decide_true, decide_false, hp]
    · have e : addP left a part (a, b) = part := if_neg fun c => h2 c.2.1
      rw [e]
      simp only [List.map_append, List.map_cons, List.map_nil, List.length_append, PL.δA, PL.δB, PL.δC, PL.δD, PL.δE, PL.δF, PL.δG, PL.δH, PL.δI, PL.δJ, PL.δK, PL.δL, PL.δM, PL.δN, PL.δO, PL.δP, PL.δQ, PL.δR, PL.δS, PL.δT, PL.δU, PL.δV, PL.δW, PL.δX, PL.δY, PL.δZ, PL.δa, PL.δb, PL.δc, PL.δd, PL.δe, PL.δf, PL.δg, PL.δh, PL.δi, PL.δj, PL.δk, PL.δl, PL.δm, PL.δn, PL.δo, PL.δp, PL.δq, PL.δr, PL.δs, PL.δt, PL.δu, PL.δv, PL.δw, PL.δx, PL.δy, PL.δz, PL.δ0, PL.δ1, PL.δ2, PL.δ3, PL.δ4, PL.δ5, PL.δ6, PL.δ7, PL.δ8, PL.δ9, PL.ζA, PL.ζB, PL.ζC, PL.ζD, PL.ζE, PL.ζF, PL.ζG, PL.ζH, PL.ζI, PL.ζJ, PL.ζK, PL.ζL, PL.ζM, PL.ζN, PL.ζO, PL.ζP, PL.ζQ, PL.ζR, PL.ζS, PL.ζT, PL.ζU, PL.ζV, PL.ζW, PL.ζX, PL.ζY, PL.ζZ, PL.ζa, PL.ζb, PL.ζc, PL.ζd, PL.ζe, PL.ζf, PL.ζg, PL.ζh, PL.ζi, PL.ζj, PL.ζk, PL.ζl, PL.ζm, PL.ζn, PL.ζo, PL.ζp, PL.ζq, PL.ζr, PL.ζs, PL.ζt, PL.ζu, PL.ζv, PL.ζw, PL.ζx, PL.ζy, PL.ζz, PL.ζ0, PL.ζ1, PL.ζ2, PL.ζ3, PL.ζ4, PL.ζ5, PL.ζ6, PL.ζ7, PL.ζ8, PL.ζ9, PL.ηA, PL.ηB, PL.ηC, PL.ηD, PL.ηE, PL.ηF, PL.ηG, PL.ηH, PL.ηI, PL.ηJ, PL.ηK, PL.ηL, PL.ηM, PL.ηN, PL.ηO, PL.ηP, PL.ηQ, PL.ηR, PL.ηS, PL.ηT, PL.ηU, PL.ηV, PL.ηW, PL.ηX, PL.ηY, PL.ηZ, PL.ηa, PL.ηb, PL.ηc, PL.ηd, PL.ηe, PL.ηf, PL.ηg, PL.ηh, PL.ηi, PL.ηj, PL.ηk, PL.ηl, PL.ηm, PL.ηn, PL.ηo, PL.ηp, PL.ηq, PL.ηr, PL.ηs, PL.ηt, PL.ηu, PL.ηv, PL.ηw, PL.ηx, PL.ηy, PL.ηz, PL.η0, PL.η1, PL.η2, PL.η3, PL.η4, PL.η5, PL.η6, PL.η7, PL.η8, PL.η9, PL.ξA, PL.ξB, PL.ξC, PL.ξD, PL.ξE, PL.ξF, PL.ξG, PL.ξH, PL.ξI, PL.ξJ, PL.ξK, PL.ξL, PL.ξM, PL.ξN, PL.ξO, PL.ξP, PL.ξQ, PL.ξR, PL.ξS, PL.ξT, PL.ξU, PL.ξV, PL.ξW, PL.ξX, PL.ξY, PL.ξZ, PL.ξa, PL.ξb, PL.ξc, PL.ξd, PL.ξe, PL.ξf, PL.ξg, PL.ξh, PL.ξi, PL.ξj, PL.ξk, PL.ξl, PL.ξm, PL.ξn, PL.ξo, PL.ξp, PL.ξq, PL.ξr, PL.ξs, PL.ξt, PL.ξu, PL.ξv, PL.ξw, PL.ξx, PL.ξy, PL.ξz, PL.ξ0, PL.ξ1, PL.ξ2, PL.ξ3, PL.ξ4, PL.ξ5, PL.ξ6, PL.ξ7, PL.ξ8, PL.ξ9, PL.χA, PL.χB, PL.χC, PL.χD, PL.χE, PL.χF, PL.χG, PL.χH, PL.χI, PL.χJ, PL.χK, PL.χL, PL.χM, PL.χN, PL.χO, PL.χP, PL.χQ, PL.χR, PL.χS, PL.χT, PL.χU, PL.χV, PL.χW, PL.χX, PL.χY, PL.χZ, PL.χa, PL.χb, PL.χc, PL.χd, PL.χe, PL.χf, PL.χg, PL.χh, PL.χi, PL.χj, PL.χk, PL.χl, PL.χm, PL.χn, PL.χo, PL.χp, PL.χq, envP, natL, hg, eq_nn, in_nl, notIn_nl, h2, decide_true, decide_false]
  · have e : addP left u part (a, b) = part := if_neg fun c => h1 c.1
    rw [e]
    have h1' : ¬ ((a : Nat) : Int) = ((u : Nat) : Int) := by omega
    simp only [List.map_append, List.map_cons, List.map_nil, List.length_append, PL.δA, PL.δB, PL.δC, PL.δD, PL.δE, PL.δF, PL.δG, PL.δH, PL.δI, PL.δJ, PL.δK, PL.δL, PL.δM, PL.δN, PL.δO, PL.δP, PL.δQ, PL.δR, PL.δS, PL.δT, PL.δU, PL.δV, PL.δW, PL.δX, PL.δY, PL.δZ, PL.δa, PL.δb, PL.δc, PL.δd, PL.δe, PL.δf, PL.δg, PL.δh, PL.δi, PL.δj, PL.δk, PL.δl, PL.δm, PL.δn, PL.δo, PL.δp, PL.δq, PL.δr, PL.δs, PL.δt, PL.δu, PL.δv, PL.δw, PL.δx, PL.δy, PL.δz, PL.δ0, PL.δ1, PL.δ2, PL.δ3, PL.δ4, PL.δ5, PL.δ6, PL.δ7, PL.δ8, PL.δ9, PL.ζA, PL.ζB, PL.ζC, PL.ζD, PL.ζE, PL.ζF, PL.ζG, PL.ζH, PL.ζI, PL.ζJ, PL.ζK, PL.ζL, PL.ζM, PL.ζN, PL.ζO, PL.ζP, PL.ζQ, PL.ζR, PL.ζS, PL.ζT, PL.ζU, PL.ζV, PL.ζW, PL.ζX, PL.ζY, PL.ζZ, PL.ζa, PL.ζb, PL.ζc, PL.ζd, PL.ζe, PL.ζf, PL.ζg, PL.ζh, PL.ζi, PL.ζj, PL.ζk, PL.ζl, PL.ζm, PL.ζn, PL.ζo, PL.ζp, PL.ζq, PL.ζr, PL.ζs, PL.ζt, PL.ζu, PL.ζv, PL.ζw, PL.ζx, PL.ζy, PL.ζz, PL.ζ0, PL.ζ1, PL.ζ2, PL.ζ3, PL.ζ4, PL.ζ5, PL.ζ6, PL.ζ7, PL.ζ8, PL.ζ9, PL.ηA, PL.ηB, PL.ηC, PL.ηD, PL.ηE, PL.ηF, PL.ηG, PL.ηH, PL.ηI, PL.ηJ, PL.ηK, PL.ηL, PL.ηM, PL.ηN, PL.ηO, PL.ηP, PL.ηQ, PL.ηR, PL.ηS, PL.ηT, PL.ηU, PL.ηV, PL.ηW, PL.ηX, PL.ηY, PL.ηZ, PL.ηa, PL.ηb, PL.ηc, PL.ηd, PL.ηe, PL.ηf, PL.ηg, PL.ηh, PL.ηi, PL.ηj, PL.ηk, PL.ηl, PL.ηm, PL.ηn, PL.ηo, PL.ηp, PL.ηq, PL.ηr, PL.ηs, PL.ηt, PL.ηu, PL.ηv, PL.ηw, PL.ηx, PL.ηy, PL.ηz, PL.η0, PL.η1, PL.η2, PL.η3, PL.η4, PL.η5, PL.η6, PL.η7, PL.η8, PL.η9, PL.ξA, PL.ξB, PL.ξC, PL.ξD, PL.ξE, PL.ξF, PL.ξG, PL.ξH, PL.ξI, PL.ξJ, PL.ξK, PL.ξL, PL.ξM, PL.ξN, PL.ξO, PL.ξP, PL.ξQ, PL.ξR, PL.ξS, PL.ξT, PL.ξU, PL.ξV, PL.ξW, PL.ξX, PL.ξY, PL.ξZ, PL.ξa, PL.ξb, PL.ξc, PL.ξd, PL.ξe, PL.ξf, PL.ξg, PL.ξh, PL.ξi, PL.ξj, PL.ξk, PL.ξl, PL.ξm, PL.ξn, PL.ξo, PL.ξp, PL.ξq, PL.ξr, PL.ξs, PL.ξt, PL.ξu, PL.ξv, PL.ξw, PL.ξx, PL.ξy, PL.ξz, PL.ξ0, PL.ξ1, PL.ξ2, PL.ξ3, PL.ξ4, PL.ξ5, PL.ξ6, PL.ξ7, PL.ξ8, PL.ξ9, PL.χA, PL.χB, PL.χC, PL.χD, PL.χE, PL.χF, PL.χG, PL.χH, PL.χI, PL.χJ, PL.χK, PL.χL, PL.χM, PL.χN, PL.χO, PL.χP, PL.χQ, PL.χR, PL.χS, PL.χT, PL.χU, PL.χV, PL.χW, PL.χX, PL.χY, PL.χZ, PL.χa, PL.χb, PL.χc, PL.χd, PL.χe, PL.χf, PL.χg, PL.χh, PL.χi, PL.χj, PL.χk, PL.χl, PL.χm, PL.χn, PL.χo, PL.χp, PL.χq, envP, natL, hg, eq_nn, in_nl, notIn_nl, h1, h1', decide_true, decide_false]
theorem scan_wp {pts : D} {left part : List Nat} {rs : List Road} {at_ u : Nat} {x3 x6 x7 x8 x9 x10 x11 : Option E} {Q : Fl → DL.Env → Prop} (hu : part[at_]? = some u) (hs : ∀ x ∈ part, x ∈ left) (hd : part.Nodup) (hl : left.length ≤ 1000)
    (q : ∀ x6 x7 x8 x9 x10, Q .nx (envP pts (.tuple (rs.map roadD)) left x3 (some (.own (natL (rs.foldl (addE left u) part)))) (some (.sh (.int (at_ : Nat)))) x6 x7 x8 x9 x10 x11)) :
    wG (gFor (lfs (iS (cVar 1))) (bTp 3 (bCons (bNm 6) (bCons (bNm 7) (bCons (bNm 8) bNil)))) bodyP) (envP pts (.tuple (rs.map roadD)) left x3 (some (.own (natL part))) (some (.sh (.int (at_ : Nat)))) x6 x7 x8 x9 x10 x11) Q := by
  refine wG.loop roadD rs (fun pre ρ => ∃ x6 x7 x8 x9 x10, ρ = envP pts (.tuple (rs.map roadD)) left x3 (some (.own (natL (pre.foldl (addE left u) part)))) (some (.sh (.int (at_ : Nat)))) x6 x7 x8 x9 x10 x11) (ρ1 := envP pts (.tuple (rs.map roadD)) left x3 (some (.own (natL part))) (some (.sh (.int (at_ : Nat)))) x6 x7 x8 x9 x10 x11) ?_ ⟨x6, x7, x8, x9, x10, rfl⟩ ?_ ?_
  · simp only [List.map_append, List.map_cons, List.map_nil, List.length_append, PL.δA, PL.δB, PL.δC, PL.δD, PL.δE, PL.δF, PL.δG, PL.δH, PL.δI, PL.δJ, PL.δK, PL.δL, PL.δM, PL.δN, PL.δO, PL.δP, PL.δQ, PL.δR, PL.δS, PL.δT, PL.δU, PL.δV, PL.δW, PL.δX, PL.δY, PL.δZ, PL.δa, PL.δb, PL.δc, PL.δd, PL.δe, PL.δf, PL.δg, PL.δh, PL.δi, PL.δj, PL.δk, PL.δl, PL.δm, PL.δn, PL.δo, PL.δp, PL.δq, PL.δr, PL.δs, PL.δt, PL.δu, PL.δv, PL.δw, PL.δx, PL.δy, PL.δz, PL.δ0, PL.δ1, PL.δ2, PL.δ3, PL.δ4, PL.δ5, PL.δ6, PL.δ7, PL.δ8, PL.δ9, PL.ζA, PL.ζB, PL.ζC, PL.ζD, PL.ζE, PL.ζF, PL.ζG, PL.ζH, PL.ζI, PL.ζJ, PL.ζK, PL.ζL, PL.ζM, PL.ζN, PL.ζO, PL.ζP, PL.ζQ, PL.ζR, PL.ζS, PL.ζT, PL.ζU, PL.ζV, PL.ζW, PL.ζX, PL.ζY, PL.ζZ, PL.ζa, PL.ζb, PL.ζc, PL.ζd, PL.ζe, PL.ζf, PL.ζg, PL.ζh, PL.ζi, PL.ζj, PL.ζk, PL.ζl, PL.ζm, PL.ζn, PL.ζo, PL.ζp, PL.ζq, PL.ζr, PL.ζs, PL.ζt, PL.ζu, PL.ζv, PL.ζw, PL.ζx, PL.ζy, PL.ζz, PL.ζ0, PL.ζ1, PL.ζ2, PL.ζ3, PL.ζ4, PL.ζ5, PL.ζ6, PL.ζ7, PL.ζ8, PL.ζ9, PL.ηA, PL.ηB, PL.ηC, PL.ηD, PL.ηE, PL.ηF, PL.ηG, PL.ηH, PL.ηI, PL.ηJ, PL.ηK, PL.ηL, PL.ηM, PL.ηN, PL.ηO, PL.ηP, PL.ηQ, PL.ηR, PL.ηS, PL.ηT, PL.ηU, PL.ηV, PL.ηW, PL.ηX, PL.ηY, PL.ηZ, PL.ηa, PL.ηb, PL.ηc, PL.ηd, PL.ηe, PL.ηf, PL.ηg, PL.ηh, PL.ηi, PL.ηj, PL.ηk, PL.ηl, PL.ηm, PL.ηn, PL.ηo, PL.ηp, PL.ηq, PL.ηr, PL.ηs, PL.ηt, PL.ηu, PL.ηv, PL.ηw, PL.ηx, PL.ηy, PL.ηz, PL.η0, PL.η1, PL.η2, PL.η3, PL.η4, PL.η5, PL.η6, PL.η7, PL.η8, PL.η9, PL.ξA, PL.ξB, PL.ξC, PL.ξD, PL.ξE, PL.ξF, PL.ξG, PL.ξH, PL.ξI, PL.ξJ, PL.ξK, PL.ξL, PL.ξM, PL.ξN, PL.ξO, PL.ξP, PL.ξQ, PL.ξR, PL.ξS, PL.ξT, PL.ξU, PL.ξV, PL.ξW, PL.ξX, PL.ξY, PL.ξZ, PL.ξa, PL.ξb, PL.ξc, PL.ξd, PL.ξe, PL.ξf, PL.ξg, PL.ξh, PL.ξi, PL.ξj, PL.ξk, PL.ξl, PL.ξm, PL.ξn, PL.ξo, PL.ξp, PL.ξq, PL.ξr, PL.ξs, PL.ξt, PL.ξu, PL.ξv, PL.ξw, PL.ξx, PL.ξy, PL.ξz, PL.ξ0, PL.ξ1, PL.ξ2, PL.ξ3, PL.ξ4, PL.ξ5, PL.ξ6, PL.ξ7, PL.ξ8, PL.ξ9, PL.χA, PL.χB, PL.χC, PL.χD, PL.χE, PL.χF, PL.χG, PL.χH, PL.χI, PL.χJ, PL.χK, PL.χL, PL.χM, PL.χN, PL.χO, PL.χP, PL.χQ, PL.χR, PL.χS, PL.χT, PL.χU, PL.χV, PL.χW, PL.χX, PL.χY, PL.χZ, PL.χa, PL.χb, PL.χc, PL.χd, PL.χe, PL.χf, PL.χg, PL.χh, PL.χi, PL.χj, PL.χk, PL.χl, PL.χm, PL.χn, PL.χo, PL.χp, PL.χq, envP]
  · intro pre e post ρ ex ⟨x6, x7, x8, x9, x10, er⟩
    subst er
    have sc := scan_ok left u pre part
    have key : ∀ p : List Nat, part <+: p → (∀ x ∈ p, x ∈ left) → p.Nodup → p[at_]? = some u ∧ p.length ≤ 1000 := fun p ⟨t, ht⟩ h1 h2 => by
      have hk : at_ < part.length := by
        rcases Nat.lt_or_ge at_ part.length with h | h
        · exact h
        · rw [List.getElem?_eq_none h] at hu
          cases hu
      refine ⟨by rw [← ht, List.getElem?_append_left hk]; exact hu, ?_⟩
      have := nodup_len p left h2 h1
      omega
    have hsub : ∀ x ∈ pre.foldl (addE left u) part, x ∈ left := fun x hx => by
      rcases sc.new x hx with h | ⟨_, h⟩
      · exact hs x h
      · exact h
    obtain ⟨k1, k2⟩ := key _ sc.pre hsub (sc.nd hd)
    have hsub2 : ∀ x ∈ addP left u (pre.foldl (addE left u) part) (e.1, e.2.1), x ∈ left := fun x hx => by
      rcases addP_mem hx with h | ⟨_, _, h⟩
      · exact hsub x h
      · exact h
    obtain ⟨k3, k4⟩ := key _ (sc.pre.trans addP_sub) hsub2 (addP_nodup (sc.nd hd))
    refine ⟨envP pts (.tuple (rs.map roadD)) left x3 (some (.own (natL (pre.foldl (addE left u) part)))) (some (.sh (.int (at_ : Nat)))) (some (.sh (.int (e.1 : Nat)))) (some (.sh (.int (e.2.1 : Nat)))) (some (.sh (.int e.2.2))) x9 x10 x11, rfl, ?_⟩
    refine ⟨.nx, envP pts (.tuple (rs.map roadD)) left x3 (some (.own (natL (addE left u (pre.foldl (addE left u) part) e)))) (some (.sh (.int (at_ : Nat)))) (some (.sh (.int (e.1 : Nat)))) (some (.sh (.int (e.2.1 : Nat)))) (some (.sh (.int e.2.2))) (some (.sh (.int (e.2.1 : Nat)))) (some (.sh (.int (e.1 : Nat)))) x11, ?_, ?_⟩
    · have it : lfs (iS (cTup (cCons (cTup (cCons (cVar 6) (cCons (cVar 7) cNil))) (cCons (cTup (cCons (cVar 7) (cCons (cVar 6) cNil))) cNil)))) (envP pts (.tuple (rs.map roadD)) left x3 (some (.own (natL (pre.foldl (addE left u) part)))) (some (.sh (.int (at_ : Nat)))) (some (.sh (.int (e.1 : Nat)))) (some (.sh (.int (e.2.1 : Nat)))) (some (.sh (.int e.2.2))) x9 x10 x11) = some ([.tuple [.int (e.1 : Nat), .int (e.2.1 : Nat)], .tuple [.int (e.2.1 : Nat), .int (e.1 : Nat)]], envP pts (.tuple (rs.map roadD)) left x3 (some (.own (natL (pre.foldl (addE left u) part)))) (some (.sh (.int (at_ : Nat)))) (some (.sh (.int (e.1 : Nat)))) (some (.sh (.int (e.2.1 : Nat)))) (some (.sh (.int e.2.2))) x9 x10 x11) := by
        simp only [List.map_append, List.map_cons, List.map_nil, List.length_append, PL.δA, PL.δB, PL.δC, PL.δD, PL.δE, PL.δF, PL.δG, PL.δH, PL.δI, PL.δJ, PL.δK, PL.δL, PL.δM, PL.δN, PL.δO, PL.δP, PL.δQ, PL.δR, PL.δS, PL.δT, PL.δU, PL.δV, PL.δW, PL.δX, PL.δY, PL.δZ, PL.δa, PL.δb, PL.δc, PL.δd, PL.δe, PL.δf, PL.δg, PL.δh, PL.δi, PL.δj, PL.δk, PL.δl, PL.δm, PL.δn, PL.δo, PL.δp, PL.δq, PL.δr, PL.δs, PL.δt, PL.δu, PL.δv, PL.δw, PL.δx, PL.δy, PL.δz, PL.δ0, PL.δ1, PL.δ2, PL.δ3, PL.δ4, PL.δ5, PL.δ6, PL.δ7, PL.δ8, PL.δ9, PL.ζA, PL.ζB, PL.ζC, PL.ζD, PL.ζE, PL.ζF, PL.ζG, PL.ζH, PL.ζI, PL.ζJ, PL.ζK, PL.ζL, PL.ζM, PL.ζN, PL.ζO, PL.ζP, PL.ζQ, PL.ζR, PL.ζS, PL.ζT, PL.ζU, PL.ζV, PL.ζW, PL.ζX, PL.ζY, PL.ζZ, PL.ζa, PL.ζb, PL.ζc, PL.ζd, PL.ζe, PL.ζf, PL.ζg, PL.ζh, PL.ζi, PL.ζj, PL.ζk, PL.ζl, PL.ζm, PL.ζn, PL.ζo, PL.ζp, PL.ζq, PL.ζr, PL.ζs, PL.ζt, PL.ζu, PL.ζv, PL.ζw, PL.ζx, PL.ζy, PL.ζz, PL.ζ0, PL.ζ1, PL.ζ2, PL.ζ3, PL.ζ4, PL.ζ5, PL.ζ6, PL.ζ7, PL.ζ8, PL.ζ9, PL.ηA, PL.ηB, PL.ηC, PL.ηD, PL.ηE, PL.ηF, PL.ηG, PL.ηH, PL.ηI, PL.ηJ, PL.ηK, PL.ηL, PL.ηM, PL.ηN, PL.ηO, PL.ηP, PL.ηQ, PL.ηR, PL.ηS, PL.ηT, PL.ηU, PL.ηV, PL.ηW, PL.ηX, PL.ηY, PL.ηZ, PL.ηa, PL.ηb, PL.ηc, PL.ηd, PL.ηe, PL.ηf, PL.ηg, PL.ηh, PL.ηi, PL.ηj, PL.ηk, PL.ηl, PL.ηm, PL.ηn, PL.ηo, PL.ηp, PL.ηq, PL.ηr, PL.ηs, PL.ηt, PL.ηu, PL.ηv, PL.ηw, PL.ηx, PL.ηy, PL.ηz, PL.η0, PL.η1, PL.η2, PL.η3, PL.η4, PL.η5, PL.η6, PL.η7, PL.η8, PL.η9, PL.ξA, PL.ξB, PL.ξC, PL.ξD, PL.ξE, PL.ξF, PL.ξG, PL.ξH, PL.ξI, PL.ξJ, PL.ξK, PL.ξL, PL.ξM, PL.ξN, PL.ξO, PL.ξP, PL.ξQ, PL.ξR, PL.ξS, PL.ξT, PL.ξU, PL.ξV, PL.ξW, PL.ξX, PL.ξY, PL.ξZ, PL.ξa, PL.ξb, PL.ξc, PL.ξd, PL.ξe, PL.ξf, PL.ξg, PL.ξh, PL.ξi, PL.ξj, PL.ξk, PL.ξl, PL.ξm, PL.ξn, PL.ξo, PL.ξp, PL.ξq, PL.ξr, PL.ξs, PL.ξt, PL.ξu, PL.ξv, PL.ξw, PL.ξx, PL.ξy, PL.ξz, PL.ξ0, PL.ξ1, PL.ξ2, PL.ξ3, PL.ξ4, PL.ξ5, PL.ξ6, PL.ξ7, PL.ξ8, PL.ξ9, PL.χA, PL.χB, PL.χC, PL.χD, PL.χE, PL.χF, PL.χG, PL.χH, PL.χI, PL.χJ, PL.χK, PL.χL, PL.χM, PL.χN, PL.χO, PL.χP, PL.χQ, PL.χR, PL.χS, PL.χT, PL.χU, PL.χV, PL.χW, PL.χX, PL.χY, PL.χZ, PL.χa, PL.χb, PL.χc, PL.χd, PL.χe, PL.χf, PL.χg, PL.χh, PL.χi, PL.χj, PL.χk, PL.χl, PL.χm, PL.χn, PL.χo, PL.χp, PL.χq, envP, Nat.reduceLeDiff]
      unfold bodyP gFor
      rw [it, Option.bind_some]
      dsimp only
      unfold gLoop
      have b1 : ∀ ρ : DL.Env, bTp 2 (bCons (bNm 9) (bCons (bNm 10) bNil)) (.tuple [.int (e.1 : Nat), .int (e.2.1 : Nat)]) ρ = some ((ρ.set 9 (some (.sh (.int (e.1 : Nat))))).set 10 (some (.sh (.int (e.2.1 : Nat))))) := fun _ => rfl
      have b2 : ∀ ρ : DL.Env, bTp 2 (bCons (bNm 9) (bCons (bNm 10) bNil)) (.tuple [.int (e.2.1 : Nat), .int (e.1 : Nat)]) ρ = some ((ρ.set 9 (some (.sh (.int (e.2.1 : Nat))))).set 10 (some (.sh (.int (e.1 : Nat))))) := fun _ => rfl
      rw [b1, Option.bind_some]
      have a1 := addP_ok (pts := pts) (rs := .tuple (rs.map roadD)) (left := left) (a := e.1) (b := e.2.1) (x3 := x3) (x6 := some (.sh (.int (e.1 : Nat)))) (x7 := some (.sh (.int (e.2.1 : Nat)))) (x8 := some (.sh (.int e.2.2))) (x11 := x11) k1 k2
      have a2 := addP_ok (pts := pts) (rs := .tuple (rs.map roadD)) (left := left) (a := e.2.1) (b := e.1) (x3 := x3) (x6 := some (.sh (.int (e.1 : Nat)))) (x7 := some (.sh (.int (e.2.1 : Nat)))) (x8 := some (.sh (.int e.2.2))) (x11 := x11) k3 k4
      show (Option.bind (gIf _ _ _ (envP pts (.tuple (rs.map roadD)) left x3 (some (.own (natL (pre.foldl (addE left u) part)))) (some (.sh (.int (at_ : Nat)))) (some (.sh (.int (e.1 : Nat)))) (some (.sh (.int (e.2.1 : Nat)))) (some (.sh (.int e.2.2))) (some (.sh (.int (e.1 : Nat)))) (some (.sh (.int (e.2.1 : Nat)))) x11)) _) = _
      rw [a1, Option.bind_some]
      dsimp only
      unfold gLoop
      rw [b2, Option.bind_some]
      show (Option.bind (gIf _ _ _ (envP pts (.tuple (rs.map roadD)) left x3 (some (.own (natL (addP left u (pre.foldl (addE left u) part) (e.1, e.2.1))))) (some (.sh (.int (at_ : Nat)))) (some (.sh (.int (e.1 : Nat)))) (some (.sh (.int (e.2.1 : Nat)))) (some (.sh (.int e.2.2))) (some (.sh (.int (e.2.1 : Nat)))) (some (.sh (.int (e.1 : Nat)))) x11)) _) = _
      rw [a2, Option.bind_some]
      rfl
    · have hf : (pre ++ [e]).foldl (addE left u) part = addE left u (pre.foldl (addE left u) part) e := by
        rw [List.foldl_append]
        rfl
      refine ⟨some (.sh (.int (e.1 : Nat))), some (.sh (.int (e.2.1 : Nat))), some (.sh (.int e.2.2)), some (.sh (.int (e.2.1 : Nat))), some (.sh (.int (e.1 : Nat))), ?_⟩
      rw [hf]
  · intro ρ ⟨x6, x7, x8, x9, x10, er⟩
    subst er
    exact q x6 x7 x8 x9 x10
abbrev whileIn : Gs := gWhile (lfb (bV (c2 oLt (cVar 5) (cBor (cN oLen (cCons (cVar 4) cNil))))))
  (gSeq (gFor (lfs (iS (cVar 1))) (bTp 3 (bCons (bNm 6) (bCons (bNm 7) (bCons (bNm 8) bNil)))) bodyP)
  (gAug 5 oAddI (lf (cK (.int 1))))) 400
theorem grow_wp {pts : D} {left : List Nat} {rs : List Road} {s : Nat} {x3 x6 x7 x8 x9 x10 x11 : Option E} {Q : Fl → DL.Env → Prop} (hs : s ∈ left) (hd : left.Nodup) (hl : left.length ≤ 300)
    (q : ∀ part x5 x6 x7 x8 x9 x10, part.Nodup → part.length ≤ 300 → (∀ x, x ∈ part ↔ Cn left rs s x) → Q .nx (envP pts (.tuple (rs.map roadD)) left x3 (some (.own (natL part))) x5 x6 x7 x8 x9 x10 x11)) :
    wG whileIn (envP pts (.tuple (rs.map roadD)) left x3 (some (.own (natL [s]))) (some (.sh (.int 0))) x6 x7 x8 x9 x10 x11) Q := by
  refine wG.while (fun k ρ => ∃ part at_ x6 x7 x8 x9 x10, ρ = envP pts (.tuple (rs.map roadD)) left x3 (some (.own (natL part))) (some (.sh (.int ((at_ : Nat) : Int)))) x6 x7 x8 x9 x10 x11 ∧ Grow left rs s part at_ ∧ at_ + k = left.length) ?_ 400 left.length _ (by omega) ⟨[s], 0, x6, x7, x8, x9, x10, rfl, .start hs, by omega⟩
  intro k ρ ⟨part, at_, x6, x7, x8, x9, x10, er, g, hk⟩
  subst er
  have hpl := g.len
  refine ⟨decide (((at_ : Nat) : Int) < ((part.length : Nat) : Int)), envP pts (.tuple (rs.map roadD)) left x3 (some (.own (natL part))) (some (.sh (.int ((at_ : Nat) : Int)))) x6 x7 x8 x9 x10 x11, ?_, fun h => ?_, fun h => ?_⟩
  · simp only [List.map_append, List.map_cons, List.map_nil, List.length_append, PL.δA, PL.δB, PL.δC, PL.δD, PL.δE, PL.δF, PL.δG, PL.δH, PL.δI, PL.δJ, PL.δK, PL.δL, PL.δM, PL.δN, PL.δO, PL.δP, PL.δQ, PL.δR, PL.δS, PL.δT, PL.δU, PL.δV, PL.δW, PL.δX, PL.δY, PL.δZ, PL.δa, PL.δb, PL.δc, PL.δd, PL.δe, PL.δf, PL.δg, PL.δh, PL.δi, PL.δj, PL.δk, PL.δl, PL.δm, PL.δn, PL.δo, PL.δp, PL.δq, PL.δr, PL.δs, PL.δt, PL.δu, PL.δv, PL.δw, PL.δx, PL.δy, PL.δz, PL.δ0, PL.δ1, PL.δ2, PL.δ3, PL.δ4, PL.δ5, PL.δ6, PL.δ7, PL.δ8, PL.δ9, PL.ζA, PL.ζB, PL.ζC, PL.ζD, PL.ζE, PL.ζF, PL.ζG, PL.ζH, PL.ζI, PL.ζJ, PL.ζK, PL.ζL, PL.ζM, PL.ζN, PL.ζO, PL.ζP, PL.ζQ, PL.ζR, PL.ζS, PL.ζT, PL.ζU, PL.ζV, PL.ζW, PL.ζX, PL.ζY, PL.ζZ, PL.ζa, PL.ζb, PL.ζc, PL.ζd, PL.ζe, PL.ζf, PL.ζg, PL.ζh, PL.ζi, PL.ζj, PL.ζk, PL.ζl, PL.ζm, PL.ζn, PL.ζo, PL.ζp, PL.ζq, PL.ζr, PL.ζs, PL.ζt, PL.ζu, PL.ζv, PL.ζw, PL.ζx, PL.ζy, PL.ζz, PL.ζ0, PL.ζ1, PL.ζ2, PL.ζ3, PL.ζ4, PL.ζ5, PL.ζ6, PL.ζ7, PL.ζ8, PL.ζ9, PL.ηA, PL.ηB, PL.ηC, PL.ηD, PL.ηE, PL.ηF, PL.ηG, PL.ηH, PL.ηI, PL.ηJ, PL.ηK, PL.ηL, PL.ηM, PL.ηN, PL.ηO, PL.ηP, PL.ηQ, PL.ηR, PL.ηS, PL.ηT, PL.ηU, PL.ηV, PL.ηW, PL.ηX, PL.ηY, PL.ηZ, PL.ηa, PL.ηb, PL.ηc, PL.ηd, PL.ηe, PL.ηf, PL.ηg, PL.ηh, PL.ηi, PL.ηj, PL.ηk, PL.ηl, PL.ηm, PL.ηn, PL.ηo, PL.ηp, PL.ηq, PL.ηr, PL.ηs, PL.ηt, PL.ηu, PL.ηv, PL.ηw, PL.ηx, PL.ηy, PL.ηz, PL.η0, PL.η1, PL.η2, PL.η3, PL.η4, PL.η5, PL.η6, PL.η7, PL.η8, PL.η9, PL.ξA, PL.ξB, PL.ξC, PL.ξD, PL.ξE, PL.ξF, PL.ξG, PL.ξH, PL.ξI, PL.ξJ, PL.ξK, PL.ξL, PL.ξM, PL.ξN, PL.ξO, PL.ξP, PL.ξQ, PL.ξR, PL.ξS, PL.ξT, PL.ξU, PL.ξV, PL.ξW, PL.ξX, PL.ξY, PL.ξZ, PL.ξa, PL.ξb, PL.ξc, PL.ξd, PL.ξe, PL.ξf, PL.ξg, PL.ξh, PL.ξi, PL.ξj, PL.ξk, PL.ξl, PL.ξm, PL.ξn, PL.ξo, PL.ξp, PL.ξq, PL.ξr, PL.ξs, PL.ξt, PL.ξu, PL.ξv, PL.ξw, PL.ξx, PL.ξy, PL.ξz, PL.ξ0, PL.ξ1, PL.ξ2, PL.ξ3, PL.ξ4, PL.ξ5, PL.ξ6, PL.ξ7, PL.ξ8, PL.ξ9, PL.χA, PL.χB, PL.χC, PL.χD, PL.χE, PL.χF, PL.χG, PL.χH, PL.χI, PL.χJ, PL.χK, PL.χL, PL.χM, PL.χN, PL.χO, PL.χP, PL.χQ, PL.χR, PL.χS, PL.χT, PL.χU, PL.χV, PL.χW, PL.χX, PL.χY, PL.χZ, PL.χa, PL.χb, PL.χc, PL.χd, PL.χe, PL.χf, PL.χg, PL.χh, PL.χi, PL.χj, PL.χk, PL.χl, PL.χm, PL.χn, PL.χo, PL.χp, PL.χq, envP, natL]
  · have h := of_decide_eq_false h
    exact q part _ _ _ _ _ _ g.nd (by omega) (g.done (by omega))
  · have h := of_decide_eq_true h
    have h2 : at_ < part.length := by omega
    have hu : part[at_]? = some part[at_] := List.getElem?_eq_getElem h2
    refine ⟨k - 1, by omega, wG.seq (scan_wp hu g.sub g.nd (by omega) fun y6 y7 y8 y9 y10 => ?_)⟩
    refine wG.aug (d := .int ((at_ : Nat) : Int)) (a := .int 1) (y := .int ((at_ : Nat) + 1)) rfl (ρ1 := envP pts (.tuple (rs.map roadD)) left x3 (some (.own (natL (rs.foldl (addE left part[at_]) part)))) (some (.sh (.int ((at_ : Nat) : Int)))) y6 y7 y8 y9 y10 x11) rfl rfl ?_
    exact ⟨_, at_ + 1, _, _, _, _, _, rfl, g.next hu, by omega⟩
theorem filt_nl (p left : List Nat) {pts rs : D} {x3 x5 x6 x7 x8 x9 x10 x11 : Option E} (hl : left.length ≤ 300) : lf (cLc [11] (iS (cVar 2)) (bNm 11) (bV (c2 oNotIn (cVar 11) (cVar 4))) (cVar 11)) (envP pts rs left x3 (some (.sh (natL p))) x5 x6 x7 x8 x9 x10 x11)
    = some (natL (left.filter fun x => !decide (x ∈ p)), envP pts rs left x3 (some (.sh (natL p))) x5 x6 x7 x8 x9 x10 x11) := by
  have hf : (left.filter fun x => !decide (x ∈ p)).length ≤ 1000 := Nat.le_trans (List.length_filter_le _ _) (by omega)
  simp only [List.map_append, List.map_cons, List.map_nil, List.length_append, PL.δA, PL.δB, PL.δC, PL.δD, PL.δE, PL.δF, PL.δG, PL.δH, PL.δI, PL.δJ, PL.δK, PL.δL, PL.δM, PL.δN, PL.δO, PL.δP, PL.δQ, PL.δR, PL.δS, PL.δT, PL.δU, PL.δV, PL.δW, PL.δX, PL.δY, PL.δZ, PL.δa, PL.δb, PL.δc, PL.δd, PL.δe, PL.δf, PL.δg, PL.δh, PL.δi, PL.δj, PL.δk, PL.δl, PL.δm, PL.δn, PL.δo, PL.δp, PL.δq, PL.δr, PL.δs, PL.δt, PL.δu, PL.δv, PL.δw, PL.δx, PL.δy, PL.δz, PL.δ0, PL.δ1, PL.δ2, PL.δ3, PL.δ4, PL.δ5, PL.δ6, PL.δ7, PL.δ8, PL.δ9, PL.ζA, PL.ζB, PL.ζC, PL.ζD, PL.ζE, PL.ζF, PL.ζG, PL.ζH, PL.ζI, PL.ζJ, PL.ζK, PL.ζL, PL.ζM, PL.ζN, PL.ζO, PL.ζP, PL.ζQ, PL.ζR, PL.ζS, PL.ζT, PL.ζU, PL.ζV, PL.ζW, PL.ζX, PL.ζY, PL.ζZ, PL.ζa, PL.ζb, PL.ζc, PL.ζd, PL.ζe, PL.ζf, PL.ζg, PL.ζh, PL.ζi, PL.ζj, PL.ζk, PL.ζl, PL.ζm, PL.ζn, PL.ζo, PL.ζp, PL.ζq, PL.ζr, PL.ζs, PL.ζt, PL.ζu, PL.ζv, PL.ζw, PL.ζx, PL.ζy, PL.ζz, PL.ζ0, PL.ζ1, PL.ζ2, PL.ζ3, PL.ζ4, PL.ζ5, PL.ζ6, PL.ζ7, PL.ζ8, PL.ζ9, PL.ηA, PL.ηB, PL.ηC, PL.ηD, PL.ηE, PL.ηF, PL.ηG, PL.ηH, PL.ηI, PL.ηJ, PL.ηK, PL.ηL, PL.ηM, PL.ηN, PL.ηO, PL.ηP, PL.ηQ, PL.ηR, PL.ηS, PL.ηT, PL.ηU, PL.ηV, PL.ηW, PL.ηX, PL.ηY, PL.ηZ, PL.ηa, PL.ηb, PL.ηc, PL.ηd, PL.ηe, PL.ηf, PL.ηg, PL.ηh, PL.ηi, PL.ηj, PL.ηk, PL.ηl, PL.ηm, PL.ηn, PL.ηo, PL.ηp, PL.ηq, PL.ηr, PL.ηs, PL.ηt, PL.ηu, PL.ηv, PL.ηw, PL.ηx, PL.ηy, PL.ηz, PL.η0, PL.η1, PL.η2, PL.η3, PL.η4, PL.η5, PL.η6, PL.η7, PL.η8, PL.η9, PL.ξA, PL.ξB, PL.ξC, PL.ξD, PL.ξE, PL.ξF, PL.ξG, PL.ξH, PL.ξI, PL.ξJ, PL.ξK, PL.ξL, PL.ξM, PL.ξN, PL.ξO, PL.ξP, PL.ξQ, PL.ξR, PL.ξS, PL.ξT, PL.ξU, PL.ξV, PL.ξW, PL.ξX, PL.ξY, PL.ξZ, PL.ξa, PL.ξb, PL.ξc, PL.ξd, PL.ξe, PL.ξf, PL.ξg, PL.ξh, PL.ξi, PL.ξj, PL.ξk, PL.ξl, PL.ξm, PL.ξn, PL.ξo, PL.ξp, PL.ξq, PL.ξr, PL.ξs, PL.ξt, PL.ξu, PL.ξv, PL.ξw, PL.ξx, PL.ξy, PL.ξz, PL.ξ0, PL.ξ1, PL.ξ2, PL.ξ3, PL.ξ4, PL.ξ5, PL.ξ6, PL.ξ7, PL.ξ8, PL.ξ9, PL.χA, PL.χB, PL.χC, PL.χD, PL.χE, PL.χF, PL.χG, PL.χH, PL.χI, PL.χJ, PL.χK, PL.χL, PL.χM, PL.χN, PL.χO, PL.χP, PL.χQ, PL.χR, PL.χS, PL.χT, PL.χU, PL.χV, PL.χW, PL.χX, PL.χY, PL.χZ, PL.χa, PL.χb, PL.χc, PL.χd, PL.χe, PL.χf, PL.χg, PL.χh, PL.χi, PL.χj, PL.χk, PL.χl, PL.χm, PL.χn, PL.χo, PL.χp, PL.χq, envP, natL, notIn_nl, hf]
theorem sorted_asc {p : List Nat} (h : p.Nodup) : (isort leK p).Pairwise (· < ·) := by
  have h1 := isort_sorted p
  have h2 := (isort_perm leK p).nodup_iff.mpr h
  refine (h1.and h2).imp fun {a b} ⟨h, k⟩ => ?_
  have h : decide (b < a) = false := h
  have := of_decide_eq_false h
  omega
theorem parts_in_ok (pts : List Nat) (rs : List Road) (hd : pts.Nodup) (hl : pts.length ≤ 300) : ∃ cs : List (List Nat), Parts pts rs [] cs ∧ DG.mm_parts_in [natL pts, .tuple (rs.map roadD)] = some (.list ((isort leK (cs.map PySem.W.Tup.mk)).map dD)) := by
  have w : ∃ d, wG DG.gs_parts_in (ini 12 [natL pts, .tuple (rs.map roadD)]) (isRet d) ∧ ∃ cs, Parts pts rs [] cs ∧ d = .list ((isort leK (cs.map PySem.W.Tup.mk)).map dD) := by
    have w2 : wG DG.gs_parts_in (ini 12 [natL pts, .tuple (rs.map roadD)]) (fun fl _ => ∃ cs, Parts pts rs [] cs ∧ fl = .ret (.list ((isort leK (cs.map PySem.W.Tup.mk)).map dD))) := by
      unfold DG.gs_parts_in
      refine wG.seq (wG.par2 (a := .sh (natL pts)) (b := .own (.list [])) (ρ1 := ini 12 [natL pts, .tuple (rs.map roadD)]) (ρ2 := ini 12 [natL pts, .tuple (rs.map roadD)]) rfl rfl ?_)
      refine wG.seq ?_
      refine wG.while (fun k ρ => ∃ left cs x4 x5 x6 x7 x8 x9 x10 x11, ρ = envP (natL pts) (.tuple (rs.map roadD)) left (some (.own (.list ((cs.map PySem.W.Tup.mk).map dD)))) x4 x5 x6 x7 x8 x9 x10 x11 ∧ Parts pts rs left cs ∧ left.length ≤ k ∧ left.length + cs.length ≤ 300) ?_ 400 pts.length _ (by omega) ⟨pts, [], none, none, none, none, none, none, none, none, rfl, .start pts rs hd, Nat.le_refl _, by simpa using hl⟩
      intro k ρ ⟨left, cs, x4, x5, x6, x7, x8, x9, x10, x11, er, P, hk, hc⟩
      subst er
      refine ⟨!decide (left = []), envP (natL pts) (.tuple (rs.map roadD)) left (some (.own (.list ((cs.map PySem.W.Tup.mk).map dD)))) x4 x5 x6 x7 x8 x9 x10 x11, ?_, fun h => ?_, fun h => ?_⟩
      · have hn : oNe (.list (left.map fun x => .int (x : Nat))) (.list []) = some (.bool (!decide (left = []))) := ne_d (α := List Nat) (by decide) left []
        simp only [List.map_append, List.map_cons, List.map_nil, List.length_append, PL.δA, PL.δB, PL.δC, PL.δD, PL.δE, PL.δF, PL.δG, PL.δH, PL.δI, PL.δJ, PL.δK, PL.δL, PL.δM, PL.δN, PL.δO, PL.δP, PL.δQ, PL.δR, PL.δS, PL.δT, PL.δU, PL.δV, PL.δW, PL.δX, PL.δY, PL.δZ, PL.δa, PL.δb, PL.δc, PL.δd, PL.δe, PL.δf, PL.δg, PL.δh, PL.δi, PL.δj, PL.δk, PL.δl, PL.δm, PL.δn, PL.δo, PL.δp, PL.δq, PL.δr, PL.δs, PL.δt, PL.δu, PL.δv, PL.δw, PL.δx, PL.δy, PL.δz, PL.δ0, PL.δ1, PL.δ2, PL.δ3, PL.δ4, PL.δ5, PL.δ6, PL.δ7, PL.δ8, PL.δ9, PL.ζA, PL.ζB, PL.ζC, PL.ζD, PL.ζE, PL.ζF, PL.ζG, PL.ζH, PL.ζI, PL.ζJ, PL.ζK, PL.ζL, PL.ζM, PL.ζN, PL.ζO, PL.ζP, PL.ζQ, PL.ζR, PL.ζS, PL.ζT, PL.ζU, PL.ζV, PL.ζW, PL.ζX, PL.ζY, PL.ζZ, PL.ζa, PL.ζb, PL.ζc, PL.ζd, PL.ζe, PL.ζf, PL.ζg, PL.ζh, PL.ζi, PL.ζj, PL.ζk, PL.ζl, PL.ζm, PL.ζn, PL.ζo, PL.ζp, PL.ζq, PL.ζr, PL.ζs, PL.ζt, PL.ζu, PL.ζv, PL.ζw, PL.ζx, PL.ζy, PL.ζz, PL.ζ0, PL.ζ1, PL.ζ2, PL.ζ3, PL.ζ4, PL.ζ5, PL.ζ6, PL.ζ7, PL.ζ8, PL.ζ9, PL.ηA, PL.ηB, PL.ηC, PL.ηD, PL.ηE, PL.ηF, PL.ηG, PL.ηH, PL.ηI, PL.ηJ, PL.ηK, PL.ηL, PL.ηM, PL.ηN, PL.ηO, PL.ηP, PL.ηQ, PL.ηR, PL.ηS, PL.ηT, PL.ηU, PL.ηV, PL.ηW, PL.ηX, PL.ηY, PL.ηZ, PL.ηa, PL.ηb, PL.ηc, PL.ηd, PL.ηe, PL.ηf, PL.ηg, PL.ηh, PL.ηi, PL.ηj, PL.ηk, PL.ηl, PL.ηm, PL.ηn, PL.ηo, PL.ηp, PL.ηq, PL.ηr, PL.ηs, PL.ηt, PL.ηu, PL.ηv, PL.ηw, PL.ηx, PL.ηy, PL.ηz, PL.η0, PL.η1, PL.η2, PL.η3, PL.η4, PL.η5, PL.η6, PL.η7, PL.η8, PL.η9, PL.ξA, PL.ξB, PL.ξC, PL.ξD, PL.ξE, PL.ξF, PL.ξG, PL.ξH, PL.ξI, PL.ξJ, PL.ξK, PL.ξL, PL.ξM, PL.ξN, PL.ξO, PL.ξP, PL.ξQ, PL.ξR, PL.ξS, PL.ξT, PL.ξU, PL.ξV, PL.ξW, PL.ξX, PL.ξY, PL.ξZ, PL.ξa, PL.ξb, PL.ξc, PL.ξd, PL.ξe, PL.ξf, PL.ξg, PL.ξh, PL.ξi, PL.ξj, PL.ξk, PL.ξl, PL.ξm, PL.ξn, PL.ξo, PL.ξp, PL.ξq, PL.ξr, PL.ξs, PL.ξt, PL.ξu, PL.ξv, PL.ξw, PL.ξx, PL.ξy, PL.ξz, PL.ξ0, PL.ξ1, PL.ξ2, PL.ξ3, PL.ξ4, PL.ξ5, PL.ξ6, PL.ξ7, PL.ξ8, PL.ξ9, PL.χA, PL.χB, PL.χC, PL.χD, PL.χE, PL.χF, PL.χG, PL.χH, PL.χI, PL.χJ, PL.χK, PL.χL, PL.χM, PL.χN, PL.χO, PL.χP, PL.χQ, PL.χR, PL.χS, PL.χT, PL.χU, PL.χV, PL.χW, PL.χX, PL.χY, PL.χZ, PL.χa, PL.χb, PL.χc, PL.χd, PL.χe, PL.χf, PL.χg, PL.χh, PL.χi, PL.χj, PL.χk, PL.χl, PL.χm, PL.χn, PL.χo, PL.χp, PL.χq, envP, natL, hn, Nat.reduceLeDiff]
      · have h : left = [] := by simpa using h
        subst h
        refine wG.fz (wG.ret (d := .list ((isort leK (cs.map PySem.W.Tup.mk)).map dD)) (ρ1 := envP (natL pts) (.tuple (rs.map roadD)) [] (some (.sh (.list ((cs.map PySem.W.Tup.mk).map dD)))) x4 x5 x6 x7 x8 x9 x10 x11) ?_ ⟨cs, P, rfl⟩)
        rw [show DL.fz 3 (envP (natL pts) (.tuple (rs.map roadD)) [] (some (.own (.list ((cs.map PySem.W.Tup.mk).map dD)))) x4 x5 x6 x7 x8 x9 x10 x11) = envP (natL pts) (.tuple (rs.map roadD)) [] (some (.sh (.list ((cs.map PySem.W.Tup.mk).map dD)))) x4 x5 x6 x7 x8 x9 x10 x11 from rfl]
        have hs := sorted_l (cs.map PySem.W.Tup.mk) (sortOk_tups (α := Nat) (by decide) _ fun t ht => by
          obtain ⟨c, hc, e⟩ := List.mem_map.mp ht
          subst e
          obtain ⟨s, hs, e⟩ := P.comp c hc
          exact List.ne_nil_of_mem ((e s).mpr .self))
        simp only [δE, δF, δA, δB, δe, δf, δj, δl, δk, ζB, envP, hs]
      · obtain ⟨s, lr, el⟩ : ∃ s lr, left = s :: lr := by
          cases left with
          | nil => simp at h
          | cons a b => exact ⟨a, b, rfl⟩
        have hk1 : 1 ≤ left.length := by rw [el]; simp
        have hsl : s ∈ left := by rw [el]; exact List.mem_cons_self
        refine ⟨k - 1, by omega, ?_⟩
        refine wG.seq (wG.par2 (a := .own (natL [s])) (b := .sh (.int 0)) (ρ1 := envP (natL pts) (.tuple (rs.map roadD)) left (some (.own (.list ((cs.map PySem.W.Tup.mk).map dD)))) x4 x5 x6 x7 x8 x9 x10 x11) (ρ2 := envP (natL pts) (.tuple (rs.map roadD)) left (some (.own (.list ((cs.map PySem.W.Tup.mk).map dD)))) x4 x5 x6 x7 x8 x9 x10 x11) ?_ rfl ?_)
        · have h0 : (left.map fun x => PyData.int (x : Nat))[0]? = some (.int (s : Nat)) := by rw [el]; rfl
          simp only [List.map_append, List.map_cons, List.map_nil, List.length_append, PL.δA, PL.δB, PL.δC, PL.δD, PL.δE, PL.δF, PL.δG, PL.δH, PL.δI, PL.δJ, PL.δK, PL.δL, PL.δM, PL.δN, PL.δO, PL.δP, PL.δQ, PL.δR, PL.δS, PL.δT, PL.δU, PL.δV, PL.δW, PL.δX, PL.δY, PL.δZ, PL.δa, PL.δb, PL.δc, PL.δd, PL.δe, PL.δf, PL.δg, PL.δh, PL.δi, PL.δj, PL.δk, PL.δl, PL.δm, PL.δn, PL.δo, PL.δp, PL.δq, PL.δr, PL.δs, PL.δt, PL.δu, PL.δv, PL.δw, PL.δx, PL.δy, PL.δz, PL.δ0, PL.δ1, PL.δ2, PL.δ3, PL.δ4, PL.δ5, PL.δ6, PL.δ7, PL.δ8, PL.δ9, PL.ζA, PL.ζB, PL.ζC, PL.ζD, PL.ζE, PL.ζF, PL.ζG, PL.ζH, PL.ζI, PL.ζJ, PL.ζK, PL.ζL, PL.ζM, PL.ζN, PL.ζO, PL.ζP, PL.ζQ, PL.ζR, PL.ζS, PL.ζT, PL.ζU, PL.ζV, PL.ζW, PL.ζX, PL.ζY, PL.ζZ, PL.ζa, PL.ζb, PL.ζc, PL.ζd, PL.ζe, PL.ζf, PL.ζg, PL.ζh, PL.ζi, PL.ζj, PL.ζk, PL.ζl, PL.ζm, PL.ζn, PL.ζo, PL.ζp, PL.ζq, PL.ζr, PL.ζs, PL.ζt, PL.ζu, PL.ζv, PL.ζw, PL.ζx, PL.ζy, PL.ζz, PL.ζ0, PL.ζ1, PL.ζ2, PL.ζ3, PL.ζ4, PL.ζ5, PL.ζ6, PL.ζ7, PL.ζ8, PL.ζ9, PL.ηA, PL.ηB, PL.ηC, PL.ηD, PL.ηE, PL.ηF, PL.ηG, PL.ηH, PL.ηI, PL.ηJ, PL.ηK, PL.ηL, PL.ηM, PL.ηN, PL.ηO, PL.ηP, PL.ηQ, PL.ηR, PL.ηS, PL.ηT, PL.ηU, PL.ηV, PL.ηW, PL.ηX, PL.ηY, PL.ηZ, PL.ηa, PL.ηb, PL.ηc, PL.ηd, PL.ηe, PL.ηf, PL.ηg, PL.ηh, PL.ηi, PL.ηj, PL.ηk, PL.ηl, PL.ηm, PL.ηn, PL.ηo, PL.ηp, PL.ηq, PL.ηr, PL.ηs, PL.ηt, PL.ηu, PL.ηv, PL.ηw, PL.ηx, PL.ηy, PL.ηz, PL.η0, PL.η1, PL.η2, PL.η3, PL.η4, PL.η5, PL.η6, PL.η7, PL.η8, PL.η9, PL.ξA, PL.ξB, PL.ξC, PL.ξD, PL.ξE, PL.ξF, PL.ξG, PL.ξH, PL.ξI, PL.ξJ, PL.ξK, PL.ξL, PL.ξM, PL.ξN, PL.ξO, PL.ξP, PL.ξQ, PL.ξR, PL.ξS, PL.ξT, PL.ξU, PL.ξV, PL.ξW, PL.ξX, PL.ξY, PL.ξZ, PL.ξa, PL.ξb, PL.ξc, PL.ξd, PL.ξe, PL.ξf, PL.ξg, PL.ξh, PL.ξi, PL.ξj, PL.ξk, PL.ξl, PL.ξm, PL.ξn, PL.ξo, PL.ξp, PL.ξq, PL.ξr, PL.ξs, PL.ξt, PL.ξu, PL.ξv, PL.ξw, PL.ξx, PL.ξy, PL.ξz, PL.ξ0, PL.ξ1, PL.ξ2, PL.ξ3, PL.ξ4, PL.ξ5, PL.ξ6, PL.ξ7, PL.ξ8, PL.ξ9, PL.χA, PL.χB, PL.χC, PL.χD, PL.χE, PL.χF, PL.χG, PL.χH, PL.χI, PL.χJ, PL.χK, PL.χL, PL.χM, PL.χN, PL.χO, PL.χP, PL.χQ, PL.χR, PL.χS, PL.χT, PL.χU, PL.χV, PL.χW, PL.χX, PL.χY, PL.χZ, PL.χa, PL.χb, PL.χc, PL.χd, PL.χe, PL.χf, PL.χg, PL.χh, PL.χi, PL.χj, PL.χk, PL.χl, PL.χm, PL.χn, PL.χo, PL.χp, PL.χq, envP, natL, h0, Nat.reduceLeDiff]
        refine wG.seq (grow_wp hsl P.nd (by omega) fun part y5 y6 y7 y8 y9 y10 hpd hpl hp => ?_)
        have hpn : part ≠ [] := List.ne_nil_of_mem ((hp s).mpr .self)
        refine wG.seq (wG.fz (wG.app (d := natT (isort leK part)) (es := (cs.map PySem.W.Tup.mk).map dD) (ds := (cs.map PySem.W.Tup.mk).map dD) (ρ1 := envP (natL pts) (.tuple (rs.map roadD)) left (some (.own (.list ((cs.map PySem.W.Tup.mk).map dD)))) (some (.sh (natL part))) y5 y6 y7 y8 y9 y10 x11) rfl ?_ rfl (by rw [List.length_map, List.length_map]; omega) ?_))
        · rw [show DL.fz 4 (envP (natL pts) (.tuple (rs.map roadD)) left (some (.own (.list ((cs.map PySem.W.Tup.mk).map dD)))) (some (.own (natL part))) y5 y6 y7 y8 y9 y10 x11) = envP (natL pts) (.tuple (rs.map roadD)) left (some (.own (.list ((cs.map PySem.W.Tup.mk).map dD)))) (some (.sh (natL part))) y5 y6 y7 y8 y9 y10 x11 from rfl]
          have hs := sorted_l part (sortOk_nats part)
          have hs' : oSortedA [natL part] = some (.list ((isort leK part).map dD)) := hs
          simp only [δE, δF, δA, δB, δe, δf, δj, δl, δk, ζB, envP, hs', ηE]
          rfl
        · refine wG.set (d := natL (left.filter fun x => !decide (x ∈ part))) (ρ1 := envP (natL pts) (.tuple (rs.map roadD)) left (some (.own (.list (((cs ++ [isort leK part]).map PySem.W.Tup.mk).map dD)))) (some (.sh (natL part))) y5 y6 y7 y8 y9 y10 x11) ?_ ?_
          · rw [show DL.putL 3 ((cs.map PySem.W.Tup.mk).map dD ++ [natT (isort leK part)]) (envP (natL pts) (.tuple (rs.map roadD)) left (some (.own (.list ((cs.map PySem.W.Tup.mk).map dD)))) (some (.sh (natL part))) y5 y6 y7 y8 y9 y10 x11) = envP (natL pts) (.tuple (rs.map roadD)) left (some (.own (.list (((cs ++ [isort leK part]).map PySem.W.Tup.mk).map dD)))) (some (.sh (natL part))) y5 y6 y7 y8 y9 y10 x11 from by
              rw [List.map_append, List.map_append]
              rfl]
            exact filt_nl part left (by omega)
          · refine ⟨left.filter fun x => !decide (x ∈ part), cs ++ [isort leK part], _, _, _, _, _, _, _, _, rfl, P.next hsl hp (isort_perm leK part) (sorted_asc hpd), ?_, ?_⟩
            · have h1 : (left.filter fun x => !decide (x ∈ part)).length < left.length := by
                have hs1 : s ∉ left.filter fun x => !decide (x ∈ part) := fun hm => by
                  have := (List.mem_filter.mp hm).2
                  simp [(hp s).mpr .self] at this
                rw [el]
                rw [el] at hs1
                rw [List.filter_cons] at hs1 ⊢
                split
                · next c => rw [if_pos c] at hs1; exact absurd List.mem_cons_self hs1
                · exact Nat.lt_of_le_of_lt (List.length_filter_le _ _) (by simp)
              omega
            · have h1 : (left.filter fun x => !decide (x ∈ part)).length < left.length := by
                have hs1 : s ∉ left.filter fun x => !decide (x ∈ part) := fun hm => by
                  have := (List.mem_filter.mp hm).2
                  simp [(hp s).mpr .self] at this
                rw [el]
                rw [el] at hs1
                rw [List.filter_cons] at hs1 ⊢
                split
                · next c => rw [if_pos c] at hs1; exact absurd List.mem_cons_self hs1
                · exact Nat.lt_of_le_of_lt (List.length_filter_le _ _) (by simp)
              rw [List.length_append]
              simp
              omega
    obtain ⟨fl, ρ', e, cs, P, q⟩ := w2
    subst q
    exact ⟨_, ⟨_, ρ', e, rfl⟩, cs, P, rfl⟩
  obtain ⟨d, w, cs, P, e⟩ := w
  subst e
  exact ⟨cs, P, run_ok rfl w⟩
theorem parts_web {n : Nat} {rs : List Road} (w : Web n rs) (h2 : 0 < n) (hn : n ≤ 300) : DG.mm_parts_in [natL (List.range n), .tuple (rs.map roadD)] = some (.list [natT (List.range n)]) := by
  obtain ⟨cs, P, e⟩ := parts_in_ok (List.range n) rs List.nodup_range (by simpa using hn)
  have := one_part w h2 P
  subst this
  exact e
end PL
namespace PL
open PySem PySem.Spec PyProof.Rows L2 DL
theorem is_in_ok {x a b : Int} : DG.mm_is_in [.int x, .int a, .int b] = some (.bool (decide (a ≤ x) && decide (x ≤ b))) := by
  simp (config := {contextual := true}) only [DG.mm_is_in, run_e, DG.gs_is_in, List.map_append, List.map_cons, List.map_nil, List.length_append, PL.δA, PL.δB, PL.δC, PL.δD, PL.δE, PL.δF, PL.δG, PL.δH, PL.δI, PL.δJ, PL.δK, PL.δL, PL.δM, PL.δN, PL.δO, PL.δP, PL.δQ, PL.δR, PL.δS, PL.δT, PL.δU, PL.δV, PL.δW, PL.δX, PL.δY, PL.δZ, PL.δa, PL.δb, PL.δc, PL.δd, PL.δe, PL.δf, PL.δg, PL.δh, PL.δi, PL.δj, PL.δk, PL.δl, PL.δm, PL.δn, PL.δo, PL.δp, PL.δq, PL.δr, PL.δs, PL.δt, PL.δu, PL.δv, PL.δw, PL.δx, PL.δy, PL.δz, PL.δ0, PL.δ1, PL.δ2, PL.δ3, PL.δ4, PL.δ5, PL.δ6, PL.δ7, PL.δ8, PL.δ9, PL.ζA, PL.ζB, PL.ζC, PL.ζD, PL.ζE, PL.ζF, PL.ζG, PL.ζH, PL.ζI, PL.ζJ, PL.ζK, PL.ζL, PL.ζM, PL.ζN, PL.ζO, PL.ζP, PL.ζQ, PL.ζR, PL.ζS, PL.ζT, PL.ζU, PL.ζV, PL.ζW, PL.ζX, PL.ζY, PL.ζZ, PL.ζa, PL.ζb, PL.ζc, PL.ζd, PL.ζe, PL.ζf, PL.ζg, PL.ζh, PL.ζi, PL.ζj, PL.ζk, PL.ζl, PL.ζm, PL.ζn, PL.ζo, PL.ζp, PL.ζq, PL.ζr, PL.ζs, PL.ζt, PL.ζu, PL.ζv, PL.ζw, PL.ζx, PL.ζy, PL.ζz, PL.ζ0, PL.ζ1, PL.ζ2, PL.ζ3, PL.ζ4, PL.ζ5, PL.ζ6, PL.ζ7, PL.ζ8, PL.ζ9, PL.ηA, PL.ηB, PL.ηC, PL.ηD, PL.ηE, PL.ηF, PL.ηG, PL.ηH, PL.ηI, PL.ηJ, PL.ηK, PL.ηL, PL.ηM, PL.ηN, PL.ηO, PL.ηP, PL.ηQ, PL.ηR, PL.ηS, PL.ηT, PL.ηU, PL.ηV, PL.ηW, PL.ηX, PL.ηY, PL.ηZ, PL.ηa, PL.ηb, PL.ηc, PL.ηd, PL.ηe, PL.ηf, PL.ηg, PL.ηh, PL.ηi, PL.ηj, PL.ηk, PL.ηl, PL.ηm, PL.ηn, PL.ηo, PL.ηp, PL.ηq, PL.ηr, PL.ηs, PL.ηt, PL.ηu, PL.ηv, PL.ηw, PL.ηx, PL.ηy, PL.ηz, PL.η0, PL.η1, PL.η2, PL.η3, PL.η4, PL.η5, PL.η6, PL.η7, PL.η8, PL.η9, PL.ξA, PL.ξB, PL.ξC, PL.ξD, PL.ξE, PL.ξF, PL.ξG, PL.ξH, PL.ξI, PL.ξJ, PL.ξK, PL.ξL, PL.ξM, PL.ξN, PL.ξO, PL.ξP, PL.ξQ, PL.ξR, PL.ξS, PL.ξT, PL.ξU, PL.ξV, PL.ξW, PL.ξX, PL.ξY, PL.ξZ, PL.ξa, PL.ξb, PL.ξc, PL.ξd, PL.ξe, PL.ξf, PL.ξg, PL.ξh, PL.ξi, PL.ξj, PL.ξk, PL.ξl, PL.ξm, PL.ξn, PL.ξo, PL.ξp, PL.ξq, PL.ξr, PL.ξs, PL.ξt, PL.ξu, PL.ξv, PL.ξw, PL.ξx, PL.ξy, PL.ξz, PL.ξ0, PL.ξ1, PL.ξ2, PL.ξ3, PL.ξ4, PL.ξ5, PL.ξ6, PL.ξ7, PL.ξ8, PL.ξ9, PL.χA, PL.χB, PL.χC, PL.χD, PL.χE, PL.χF, PL.χG, PL.χH, PL.χI, PL.χJ, PL.χK, PL.χL, PL.χM, PL.χN, PL.χO, PL.χP, PL.χQ, PL.χR, PL.χS, PL.χT, PL.χU, PL.χV, PL.χW, PL.χX, PL.χY, PL.χZ, PL.χa, PL.χb, PL.χc, PL.χd, PL.χe, PL.χf, PL.χg, PL.χh, PL.χi, PL.χj, PL.χk, PL.χl, PL.χm, PL.χn, PL.χo, PL.χp, PL.χq, ini, isTy]
  by_cases h : a ≤ x <;> simp [h, List.map_append, List.map_cons, List.map_nil, List.length_append, PL.δA, PL.δB, PL.δC, PL.δD, PL.δE, PL.δF, PL.δG, PL.δH, PL.δI, PL.δJ, PL.δK, PL.δL, PL.δM, PL.δN, PL.δO, PL.δP, PL.δQ, PL.δR, PL.δS, PL.δT, PL.δU, PL.δV, PL.δW, PL.δX, PL.δY, PL.δZ, PL.δa, PL.δb, PL.δc, PL.δd, PL.δe, PL.δf, PL.δg, PL.δh, PL.δi, PL.δj, PL.δk, PL.δl, PL.δm, PL.δn, PL.δo, PL.δp, PL.δq, PL.δr, PL.δs, PL.δt, PL.δu, PL.δv, PL.δw, PL.δx, PL.δy, PL.δz, PL.δ0, PL.δ1, PL.δ2, PL.δ3, PL.δ4, PL.δ5, PL.δ6, PL.δ7, PL.δ8, PL.δ9, PL.ζA, PL.ζB, PL.ζC, PL.ζD, PL.ζE, PL.ζF, PL.ζG, PL.ζH, PL.ζI, PL.ζJ, PL.ζK, PL.ζL, PL.ζM, PL.ζN, PL.ζO, PL.ζP, PL.ζQ, PL.ζR, PL.ζS, PL.ζT, PL.ζU, PL.ζV, PL.ζW, PL.ζX, PL.ζY, PL.ζZ, PL.ζa, PL.ζb, PL.ζc, PL.ζd, PL.ζe, PL.ζf, PL.ζg, PL.ζh, PL.ζi, PL.ζj, PL.ζk, PL.ζl, PL.ζm, PL.ζn, PL.ζo, PL.ζp, PL.ζq, PL.ζr, PL.ζs, PL.ζt, PL.ζu, PL.ζv, PL.ζw, PL.ζx, PL.ζy, PL.ζz, PL.ζ0, PL.ζ1, PL.ζ2, PL.ζ3, PL.ζ4, PL.ζ5, PL.ζ6, PL.ζ7, PL.ζ8, PL.ζ9, PL.ηA, PL.ηB, PL.ηC, PL.ηD, PL.ηE, PL.ηF, PL.ηG, PL.ηH, PL.ηI, PL.ηJ, PL.ηK, PL.ηL, PL.ηM, PL.ηN, PL.ηO, PL.ηP, PL.ηQ, PL.ηR, PL.ηS, PL.ηT, PL.ηU, PL.ηV, PL.ηW, PL.ηX, PL.ηY, PL.ηZ, PL.ηa, PL.ηb, PL.ηc, PL.ηd, PL.ηe, PL.ηf, PL.ηg, PL.ηh, PL.ηi, PL.ηj, PL.ηk, PL.ηl, PL.ηm, PL.ηn, PL.ηo, PL.ηp, PL.ηq, PL.ηr, PL.ηs, PL.ηt, PL.ηu, PL.ηv, PL.ηw, PL.ηx, PL.ηy, PL.ηz, PL.η0, PL.η1, PL.η2, PL.η3, PL.η4, PL.η5, PL.η6, PL.η7, PL.η8, PL.η9, PL.ξA, PL.ξB, PL.ξC, PL.ξD, PL.ξE, PL.ξF, PL.ξG, PL.ξH, PL.ξI, PL.ξJ, PL.ξK, PL.ξL, PL.ξM, PL.ξN, PL.ξO, PL.ξP, PL.ξQ, PL.ξR, PL.ξS, PL.ξT, PL.ξU, PL.ξV, PL.ξW, PL.ξX, PL.ξY, PL.ξZ, PL.ξa, PL.ξb, PL.ξc, PL.ξd, PL.ξe, PL.ξf, PL.ξg, PL.ξh, PL.ξi, PL.ξj, PL.ξk, PL.ξl, PL.ξm, PL.ξn, PL.ξo, PL.ξp, PL.ξq, PL.ξr, PL.ξs, PL.ξt, PL.ξu, PL.ξv, PL.ξw, PL.ξx, PL.ξy, PL.ξz, PL.ξ0, PL.ξ1, PL.ξ2, PL.ξ3, PL.ξ4, PL.ξ5, PL.ξ6, PL.ξ7, PL.ξ8, PL.ξ9, PL.χA, PL.χB, PL.χC, PL.χD, PL.χE, PL.χF, PL.χG, PL.χH, PL.χI, PL.χJ, PL.χK, PL.χL, PL.χM, PL.χN, PL.χO, PL.χP, PL.χQ, PL.χR, PL.χS, PL.χT, PL.χU, PL.χV, PL.χW, PL.χX, PL.χY, PL.χZ, PL.χa, PL.χb, PL.χc, PL.χd, PL.χe, PL.χf, PL.χg, PL.χh, PL.χi, PL.χj, PL.χk, PL.χl, PL.χm, PL.χn, PL.χo, PL.χp, PL.χq]
theorem is_in_t {x a b : Int} (h : a ≤ x) (k : x ≤ b) : DG.mm_is_in [.int x, .int a, .int b] = some (.bool true) := by
  rw [is_in_ok, decide_eq_true h, decide_eq_true k]
  rfl
theorem is_weights_ok {n : Nat} {w : Nat → Int} (h2 : 2 ≤ n) (h8 : n ≤ 8) (w0 : ∀ k, k < n → 0 ≤ w k) (w1 : ∀ k, k < n → w k ≤ 100) (wp : 0 < ((List.range n).map w).sum) : DG.mm_is_weights [.tuple ((List.range n).map fun k => .int (w k))] = some (.bool true) := by
  have e1 : (2 : Int) ≤ ((n : Nat) : Int) := by omega
  have e2 : ((n : Nat) : Int) ≤ 8 := by omega
  have e3 : oEq (.list (List.map (fun x : Nat => PyData.int (w x)) (List.filter (fun x => false) (List.range n)))) (.list []) = some (.bool true) := by
    rw [show List.filter (fun _ : Nat => false) (List.range n) = [] by simp]
    rfl
  have hi : ∀ k, k ∈ List.range n → DG.mm_is_in [.int (w k), .int 0, .int 100] = some (.bool true) := fun k hk => is_in_t (w0 k (List.mem_range.mp hk)) (w1 k (List.mem_range.mp hk))
  simp (config := {contextual := true, maxDischargeDepth := 7}) only [DG.mm_is_weights, run_e, DG.gs_is_weights, List.map_append, List.map_cons, List.map_nil, List.length_append, PL.δA, PL.δB, PL.δC, PL.δD, PL.δE, PL.δF, PL.δG, PL.δH, PL.δI, PL.δJ, PL.δK, PL.δL, PL.δM, PL.δN, PL.δO, PL.δP, PL.δQ, PL.δR, PL.δS, PL.δT, PL.δU, PL.δV, PL.δW, PL.δX, PL.δY, PL.δZ, PL.δa, PL.δb, PL.δc, PL.δd, PL.δe, PL.δf, PL.δg, PL.δh, PL.δi, PL.δj, PL.δk, PL.δl, PL.δm, PL.δn, PL.δo, PL.δp, PL.δq, PL.δr, PL.δs, PL.δt, PL.δu, PL.δv, PL.δw, PL.δx, PL.δy, PL.δz, PL.δ0, PL.δ1, PL.δ2, PL.δ3, PL.δ4, PL.δ5, PL.δ6, PL.δ7, PL.δ8, PL.δ9, PL.ζA, PL.ζB, PL.ζC, PL.ζD, PL.ζE, PL.ζF, PL.ζG, PL.ζH, PL.ζI, PL.ζJ, PL.ζK, PL.ζL, PL.ζM, PL.ζN, PL.ζO, PL.ζP, PL.ζQ, PL.ζR, PL.ζS, PL.ζT, PL.ζU, PL.ζV, PL.ζW, PL.ζX, PL.ζY, PL.ζZ, PL.ζa, PL.ζb, PL.ζc, PL.ζd, PL.ζe, PL.ζf, PL.ζg, PL.ζh, PL.ζi, PL.ζj, PL.ζk, PL.ζl, PL.ζm, PL.ζn, PL.ζo, PL.ζp, PL.ζq, PL.ζr, PL.ζs, PL.ζt, PL.ζu, PL.ζv, PL.ζw, PL.ζx, PL.ζy, PL.ζz, PL.ζ0, PL.ζ1, PL.ζ2, PL.ζ3, PL.ζ4, PL.ζ5, PL.ζ6, PL.ζ7, PL.ζ8, PL.ζ9, PL.ηA, PL.ηB, PL.ηC, PL.ηD, PL.ηE, PL.ηF, PL.ηG, PL.ηH, PL.ηI, PL.ηJ, PL.ηK, PL.ηL, PL.ηM, PL.ηN, PL.ηO, PL.ηP, PL.ηQ, PL.ηR, PL.ηS, PL.ηT, PL.ηU, PL.ηV, PL.ηW, PL.ηX, PL.ηY, PL.ηZ, PL.ηa, PL.ηb, PL.ηc, PL.ηd, PL.ηe, PL.ηf, PL.ηg, PL.ηh, PL.ηi, PL.ηj, PL.ηk, PL.ηl, PL.ηm, PL.ηn, PL.ηo, PL.ηp, PL.ηq, PL.ηr, PL.ηs, PL.ηt, PL.ηu, PL.ηv, PL.ηw, PL.ηx, PL.ηy, PL.ηz, PL.η0, PL.η1, PL.η2, PL.η3, PL.η4, PL.η5, PL.η6, PL.η7, PL.η8, PL.η9, PL.ξA, PL.ξB, PL.ξC, PL.ξD, PL.ξE, PL.ξF, PL.ξG, PL.ξH, PL.ξI, PL.ξJ, PL.ξK, PL.ξL, PL.ξM, PL.ξN, PL.ξO, PL.ξP, PL.ξQ, PL.ξR, PL.ξS, PL.ξT, PL.ξU, PL.ξV, PL.ξW, PL.ξX, PL.ξY, PL.ξZ, PL.ξa, PL.ξb, PL.ξc, PL.ξd, PL.ξe, PL.ξf, PL.ξg, PL.ξh, PL.ξi, PL.ξj, PL.ξk, PL.ξl, PL.ξm, PL.ξn, PL.ξo, PL.ξp, PL.ξq, PL.ξr, PL.ξs, PL.ξt, PL.ξu, PL.ξv, PL.ξw, PL.ξx, PL.ξy, PL.ξz, PL.ξ0, PL.ξ1, PL.ξ2, PL.ξ3, PL.ξ4, PL.ξ5, PL.ξ6, PL.ξ7, PL.ξ8, PL.ξ9, PL.χA, PL.χB, PL.χC, PL.χD, PL.χE, PL.χF, PL.χG, PL.χH, PL.χI, PL.χJ, PL.χK, PL.χL, PL.χM, PL.χN, PL.χO, PL.χP, PL.χQ, PL.χR, PL.χS, PL.χT, PL.χU, PL.χV, PL.χW, PL.χX, PL.χY, PL.χZ, PL.χa, PL.χb, PL.χc, PL.χd, PL.χe, PL.χf, PL.χg, PL.χh, PL.χi, PL.χj, PL.χk, PL.χl, PL.χm, PL.χn, PL.χo, PL.χp, PL.χq, ini, isTy, e1, e2, decide_true, hi, Nat.reduceLeDiff]
  have hf : (List.filter (fun _ : Nat => false) (List.range n)).length ≤ 1000 := by
    rw [show List.filter (fun _ : Nat => false) (List.range n) = [] by simp]
    exact Nat.zero_le _
  simp only [List.map_append, List.map_cons, List.map_nil, List.length_append, PL.δA, PL.δB, PL.δC, PL.δD, PL.δE, PL.δF, PL.δG, PL.δH, PL.δI, PL.δJ, PL.δK, PL.δL, PL.δM, PL.δN, PL.δO, PL.δP, PL.δQ, PL.δR, PL.δS, PL.δT, PL.δU, PL.δV, PL.δW, PL.δX, PL.δY, PL.δZ, PL.δa, PL.δb, PL.δc, PL.δd, PL.δe, PL.δf, PL.δg, PL.δh, PL.δi, PL.δj, PL.δk, PL.δl, PL.δm, PL.δn, PL.δo, PL.δp, PL.δq, PL.δr, PL.δs, PL.δt, PL.δu, PL.δv, PL.δw, PL.δx, PL.δy, PL.δz, PL.δ0, PL.δ1, PL.δ2, PL.δ3, PL.δ4, PL.δ5, PL.δ6, PL.δ7, PL.δ8, PL.δ9, PL.ζA, PL.ζB, PL.ζC, PL.ζD, PL.ζE, PL.ζF, PL.ζG, PL.ζH, PL.ζI, PL.ζJ, PL.ζK, PL.ζL, PL.ζM, PL.ζN, PL.ζO, PL.ζP, PL.ζQ, PL.ζR, PL.ζS, PL.ζT, PL.ζU, PL.ζV, PL.ζW, PL.ζX, PL.ζY, PL.ζZ, PL.ζa, PL.ζb, PL.ζc, PL.ζd, PL.ζe, PL.ζf, PL.ζg, PL.ζh, PL.ζi, PL.ζj, PL.ζk, PL.ζl, PL.ζm, PL.ζn, PL.ζo, PL.ζp, PL.ζq, PL.ζr, PL.ζs, PL.ζt, PL.ζu, PL.ζv, PL.ζw, PL.ζx, PL.ζy, PL.ζz, PL.ζ0, PL.ζ1, PL.ζ2, PL.ζ3, PL.ζ4, PL.ζ5, PL.ζ6, PL.ζ7, PL.ζ8, PL.ζ9, PL.ηA, PL.ηB, PL.ηC, PL.ηD, PL.ηE, PL.ηF, PL.ηG, PL.ηH, PL.ηI, PL.ηJ, PL.ηK, PL.ηL, PL.ηM, PL.ηN, PL.ηO, PL.ηP, PL.ηQ, PL.ηR, PL.ηS, PL.ηT, PL.ηU, PL.ηV, PL.ηW, PL.ηX, PL.ηY, PL.ηZ, PL.ηa, PL.ηb, PL.ηc, PL.ηd, PL.ηe, PL.ηf, PL.ηg, PL.ηh, PL.ηi, PL.ηj, PL.ηk, PL.ηl, PL.ηm, PL.ηn, PL.ηo, PL.ηp, PL.ηq, PL.ηr, PL.ηs, PL.ηt, PL.ηu, PL.ηv, PL.ηw, PL.ηx, PL.ηy, PL.ηz, PL.η0, PL.η1, PL.η2, PL.η3, PL.η4, PL.η5, PL.η6, PL.η7, PL.η8, PL.η9, PL.ξA, PL.ξB, PL.ξC, PL.ξD, PL.ξE, PL.ξF, PL.ξG, PL.ξH, PL.ξI, PL.ξJ, PL.ξK, PL.ξL, PL.ξM, PL.ξN, PL.ξO, PL.ξP, PL.ξQ, PL.ξR, PL.ξS, PL.ξT, PL.ξU, PL.ξV, PL.ξW, PL.ξX, PL.ξY, PL.ξZ, PL.ξa, PL.ξb, PL.ξc, PL.ξd, PL.ξe, PL.ξf, PL.ξg, PL.ξh, PL.ξi, PL.ξj, PL.ξk, PL.ξl, PL.ξm, PL.ξn, PL.ξo, PL.ξp, PL.ξq, PL.ξr, PL.ξs, PL.ξt, PL.ξu, PL.ξv, PL.ξw, PL.ξx, PL.ξy, PL.ξz, PL.ξ0, PL.ξ1, PL.ξ2, PL.ξ3, PL.ξ4, PL.ξ5, PL.ξ6, PL.ξ7, PL.ξ8, PL.ξ9, PL.χA, PL.χB, PL.χC, PL.χD, PL.χE, PL.χF, PL.χG, PL.χH, PL.χI, PL.χJ, PL.χK, PL.χL, PL.χM, PL.χN, PL.χO, PL.χP, PL.χQ, PL.χR, PL.χS, PL.χT, PL.χU, PL.χV, PL.χW, PL.χX, PL.χY, PL.χZ, PL.χa, PL.χb, PL.χc, PL.χd, PL.χe, PL.χf, PL.χg, PL.χh, PL.χi, PL.χj, PL.χk, PL.χl, PL.χm, PL.χn, PL.χo, PL.χp, PL.χq, hf, e3, wp, decide_true]
theorem is_road_ok {n : Nat} {e : Road} (h : e.1 < e.2.1) (k : e.2.1 < n) (l : 1 ≤ e.2.2) (m : e.2.2 ≤ 100) : DG.mm_is_road [roadD e, .int (n : Nat)] = some (.bool true) := by
  have e1 : DG.mm_is_in [.int (e.1 : Nat), .int 0, .int ((n : Nat) - 1)] = some (.bool true) := is_in_t (by omega) (by omega)
  have e2 : DG.mm_is_in [.int (e.2.1 : Nat), .int ((e.1 : Nat) + 1), .int ((n : Nat) - 1)] = some (.bool true) := is_in_t (by omega) (by omega)
  have e3 : DG.mm_is_in [.int e.2.2, .int 1, .int 100] = some (.bool true) := is_in_t l m
  simp only [DG.mm_is_road, run_e, DG.gs_is_road, List.map_append, List.map_cons, List.map_nil, List.length_append, PL.δA, PL.δB, PL.δC, PL.δD, PL.δE, PL.δF, PL.δG, PL.δH, PL.δI, PL.δJ, PL.δK, PL.δL, PL.δM, PL.δN, PL.δO, PL.δP, PL.δQ, PL.δR, PL.δS, PL.δT, PL.δU, PL.δV, PL.δW, PL.δX, PL.δY, PL.δZ, PL.δa, PL.δb, PL.δc, PL.δd, PL.δe, PL.δf, PL.δg, PL.δh, PL.δi, PL.δj, PL.δk, PL.δl, PL.δm, PL.δn, PL.δo, PL.δp, PL.δq, PL.δr, PL.δs, PL.δt, PL.δu, PL.δv, PL.δw, PL.δx, PL.δy, PL.δz, PL.δ0, PL.δ1, PL.δ2, PL.δ3, PL.δ4, PL.δ5, PL.δ6, PL.δ7, PL.δ8, PL.δ9, PL.ζA, PL.ζB, PL.ζC, PL.ζD, PL.ζE, PL.ζF, PL.ζG, PL.ζH, PL.ζI, PL.ζJ, PL.ζK, PL.ζL, PL.ζM, PL.ζN, PL.ζO, PL.ζP, PL.ζQ, PL.ζR, PL.ζS, PL.ζT, PL.ζU, PL.ζV, PL.ζW, PL.ζX, PL.ζY, PL.ζZ, PL.ζa, PL.ζb, PL.ζc, PL.ζd, PL.ζe, PL.ζf, PL.ζg, PL.ζh, PL.ζi, PL.ζj, PL.ζk, PL.ζl, PL.ζm, PL.ζn, PL.ζo, PL.ζp, PL.ζq, PL.ζr, PL.ζs, PL.ζt, PL.ζu, PL.ζv, PL.ζw, PL.ζx, PL.ζy, PL.ζz, PL.ζ0, PL.ζ1, PL.ζ2, PL.ζ3, PL.ζ4, PL.ζ5, PL.ζ6, PL.ζ7, PL.ζ8, PL.ζ9, PL.ηA, PL.ηB, PL.ηC, PL.ηD, PL.ηE, PL.ηF, PL.ηG, PL.ηH, PL.ηI, PL.ηJ, PL.ηK, PL.ηL, PL.ηM, PL.ηN, PL.ηO, PL.ηP, PL.ηQ, PL.ηR, PL.ηS, PL.ηT, PL.ηU, PL.ηV, PL.ηW, PL.ηX, PL.ηY, PL.ηZ, PL.ηa, PL.ηb, PL.ηc, PL.ηd, PL.ηe, PL.ηf, PL.ηg, PL.ηh, PL.ηi, PL.ηj, PL.ηk, PL.ηl, PL.ηm, PL.ηn, PL.ηo, PL.ηp, PL.ηq, PL.ηr, PL.ηs, PL.ηt, PL.ηu, PL.ηv, PL.ηw, PL.ηx, PL.ηy, PL.ηz, PL.η0, PL.η1, PL.η2, PL.η3, PL.η4, PL.η5, PL.η6, PL.η7, PL.η8, PL.η9, PL.ξA, PL.ξB, PL.ξC, PL.ξD, PL.ξE, PL.ξF, PL.ξG, PL.ξH, PL.ξI, PL.ξJ, PL.ξK, PL.ξL, PL.ξM, PL.ξN, PL.ξO, PL.ξP, PL.ξQ, PL.ξR, PL.ξS, PL.ξT, PL.ξU, PL.ξV, PL.ξW, PL.ξX, PL.ξY, PL.ξZ, PL.ξa, PL.ξb, PL.ξc, PL.ξd, PL.ξe, PL.ξf, PL.ξg, PL.ξh, PL.ξi, PL.ξj, PL.ξk, PL.ξl, PL.ξm, PL.ξn, PL.ξo, PL.ξp, PL.ξq, PL.ξr, PL.ξs, PL.ξt, PL.ξu, PL.ξv, PL.ξw, PL.ξx, PL.ξy, PL.ξz, PL.ξ0, PL.ξ1, PL.ξ2, PL.ξ3, PL.ξ4, PL.ξ5, PL.ξ6, PL.ξ7, PL.ξ8, PL.ξ9, PL.χA, PL.χB, PL.χC, PL.χD, PL.χE, PL.χF, PL.χG, PL.χH, PL.χI, PL.χJ, PL.χK, PL.χL, PL.χM, PL.χN, PL.χO, PL.χP, PL.χQ, PL.χR, PL.χS, PL.χT, PL.χU, PL.χV, PL.χW, PL.χX, PL.χY, PL.χZ, PL.χa, PL.χb, PL.χc, PL.χd, PL.χe, PL.χf, PL.χg, PL.χh, PL.χi, PL.χj, PL.χk, PL.χl, PL.χm, PL.χn, PL.χo, PL.χp, PL.χq, ini, isTy, roadD, decide_true, e1, e2, e3]
theorem in_pairs (a b : Nat) (rs : List Road) : oIn (.tuple [.int (a : Nat), .int (b : Nat)]) (.list (rs.map fun e => .tuple [.int (e.1 : Nat), .int (e.2.1 : Nat)])) = some (.bool (decide ((a, b) ∈ rs.map Pair))) := by
  have := in_l (α := Nat × Nat) (by decide) (a, b) (rs.map Pair)
  rw [List.map_map] at this
  refine this.trans (congrArg (fun x : Bool => some (PyData.bool x)) (decide_eq_decide.mpr Iff.rfl))
theorem enum_map {α : Type} (f : α → D) : ∀ (xs : List α) (k : Nat), enumD k (xs.map f) = (xs.zipIdx k).map fun p => .tuple [.int (p.2 : Nat), f p.1]
  | [], _ => rfl
  | x :: xs, k => by
    show PyData.tuple [.int (k : Nat), f x] :: enumD (k + 1) (xs.map f) = _
    rw [enum_map f xs (k + 1)]
    rfl
theorem zip_fst {α : Type} : ∀ (xs : List α) (k : Nat), (xs.zipIdx k).map (·.1) = xs
  | [], _ => rfl
  | x :: xs, k => by
    rw [List.zipIdx_cons, List.map_cons, zip_fst xs]
theorem need_web_gen {n : Nat} {w : Nat → Int} {rs : List Road} (n2 : 2 ≤ n) (n8 : n ≤ 8) (w0 : ∀ k, k < n → 0 ≤ w k) (w100 : ∀ k, k < n → w k ≤ 100) (wpos : 0 < ((List.range n).map w).sum) (z : WebZ n rs) (hp : DG.mm_parts_in [natL (List.range n), .tuple (rs.map roadD)] = some (.list [natT (List.range n)])) : DG.mm_need_web [webT n w rs] = some .none := by
  have hw := is_weights_ok n2 n8 w0 w100 wpos
  have h14 := z.few
  refine run_ok rfl ?_
  unfold DG.gs_need_web
  refine wG.seq (wG.ite (b := false) (ρ1 := [some (.sh (webT n w rs)), none, none, none]) ?_ (fun h => nomatch h) fun _ => wG.nx ?_)
  · simp only [List.map_append, List.map_cons, List.map_nil, List.length_append, PL.δA, PL.δB, PL.δC, PL.δD, PL.δE, PL.δF, PL.δG, PL.δH, PL.δI, PL.δJ, PL.δK, PL.δL, PL.δM, PL.δN, PL.δO, PL.δP, PL.δQ, PL.δR, PL.δS, PL.δT, PL.δU, PL.δV, PL.δW, PL.δX, PL.δY, PL.δZ, PL.δa, PL.δb, PL.δc, PL.δd, PL.δe, PL.δf, PL.δg, PL.δh, PL.δi, PL.δj, PL.δk, PL.δl, PL.δm, PL.δn, PL.δo, PL.δp, PL.δq, PL.δr, PL.δs, PL.δt, PL.δu, PL.δv, PL.δw, PL.δx, PL.δy, PL.δz, PL.δ0, PL.δ1, PL.δ2, PL.δ3, PL.δ4, PL.δ5, PL.δ6, PL.δ7, PL.δ8, PL.δ9, PL.ζA, PL.ζB, PL.ζC, PL.ζD, PL.ζE, PL.ζF, PL.ζG, PL.ζH, PL.ζI, PL.ζJ, PL.ζK, PL.ζL, PL.ζM, PL.ζN, PL.ζO, PL.ζP, PL.ζQ, PL.ζR, PL.ζS, PL.ζT, PL.ζU, PL.ζV, PL.ζW, PL.ζX, PL.ζY, PL.ζZ, PL.ζa, PL.ζb, PL.ζc, PL.ζd, PL.ζe, PL.ζf, PL.ζg, PL.ζh, PL.ζi, PL.ζj, PL.ζk, PL.ζl, PL.ζm, PL.ζn, PL.ζo, PL.ζp, PL.ζq, PL.ζr, PL.ζs, PL.ζt, PL.ζu, PL.ζv, PL.ζw, PL.ζx, PL.ζy, PL.ζz, PL.ζ0, PL.ζ1, PL.ζ2, PL.ζ3, PL.ζ4, PL.ζ5, PL.ζ6, PL.ζ7, PL.ζ8, PL.ζ9, PL.ηA, PL.ηB, PL.ηC, PL.ηD, PL.ηE, PL.ηF, PL.ηG, PL.ηH, PL.ηI, PL.ηJ, PL.ηK, PL.ηL, PL.ηM, PL.ηN, PL.ηO, PL.ηP, PL.ηQ, PL.ηR, PL.ηS, PL.ηT, PL.ηU, PL.ηV, PL.ηW, PL.ηX, PL.ηY, PL.ηZ, PL.ηa, PL.ηb, PL.ηc, PL.ηd, PL.ηe, PL.ηf, PL.ηg, PL.ηh, PL.ηi, PL.ηj, PL.ηk, PL.ηl, PL.ηm, PL.ηn, PL.ηo, PL.ηp, PL.ηq, PL.ηr, PL.ηs, PL.ηt, PL.ηu, PL.ηv, PL.ηw, PL.ηx, PL.ηy, PL.ηz, PL.η0, PL.η1, PL.η2, PL.η3, PL.η4, PL.η5, PL.η6, PL.η7, PL.η8, PL.η9, PL.ξA, PL.ξB, PL.ξC, PL.ξD, PL.ξE, PL.ξF, PL.ξG, PL.ξH, PL.ξI, PL.ξJ, PL.ξK, PL.ξL, PL.ξM, PL.ξN, PL.ξO, PL.ξP, PL.ξQ, PL.ξR, PL.ξS, PL.ξT, PL.ξU, PL.ξV, PL.ξW, PL.ξX, PL.ξY, PL.ξZ, PL.ξa, PL.ξb, PL.ξc, PL.ξd, PL.ξe, PL.ξf, PL.ξg, PL.ξh, PL.ξi, PL.ξj, PL.ξk, PL.ξl, PL.ξm, PL.ξn, PL.ξo, PL.ξp, PL.ξq, PL.ξr, PL.ξs, PL.ξt, PL.ξu, PL.ξv, PL.ξw, PL.ξx, PL.ξy, PL.ξz, PL.ξ0, PL.ξ1, PL.ξ2, PL.ξ3, PL.ξ4, PL.ξ5, PL.ξ6, PL.ξ7, PL.ξ8, PL.ξ9, PL.χA, PL.χB, PL.χC, PL.χD, PL.χE, PL.χF, PL.χG, PL.χH, PL.χI, PL.χJ, PL.χK, PL.χL, PL.χM, PL.χN, PL.χO, PL.χP, PL.χQ, PL.χR, PL.χS, PL.χT, PL.χU, PL.χV, PL.χW, PL.χX, PL.χY, PL.χZ, PL.χa, PL.χb, PL.χc, PL.χd, PL.χe, PL.χf, PL.χg, PL.χh, PL.χi, PL.χj, PL.χk, PL.χl, PL.χm, PL.χn, PL.χo, PL.χp, PL.χq, ini, webT, isTy, hw, decide_true]
  refine wG.seq (wG.ite (b := false) (ρ1 := [some (.sh (webT n w rs)), none, none, none]) ?_ (fun h => nomatch h) fun _ => wG.nx ?_)
  · have e1 : ¬ (14 : Int) < ((rs.length : Nat) : Int) := by omega
    simp only [List.map_append, List.map_cons, List.map_nil, List.length_append, PL.δA, PL.δB, PL.δC, PL.δD, PL.δE, PL.δF, PL.δG, PL.δH, PL.δI, PL.δJ, PL.δK, PL.δL, PL.δM, PL.δN, PL.δO, PL.δP, PL.δQ, PL.δR, PL.δS, PL.δT, PL.δU, PL.δV, PL.δW, PL.δX, PL.δY, PL.δZ, PL.δa, PL.δb, PL.δc, PL.δd, PL.δe, PL.δf, PL.δg, PL.δh, PL.δi, PL.δj, PL.δk, PL.δl, PL.δm, PL.δn, PL.δo, PL.δp, PL.δq, PL.δr, PL.δs, PL.δt, PL.δu, PL.δv, PL.δw, PL.δx, PL.δy, PL.δz, PL.δ0, PL.δ1, PL.δ2, PL.δ3, PL.δ4, PL.δ5, PL.δ6, PL.δ7, PL.δ8, PL.δ9, PL.ζA, PL.ζB, PL.ζC, PL.ζD, PL.ζE, PL.ζF, PL.ζG, PL.ζH, PL.ζI, PL.ζJ, PL.ζK, PL.ζL, PL.ζM, PL.ζN, PL.ζO, PL.ζP, PL.ζQ, PL.ζR, PL.ζS, PL.ζT, PL.ζU, PL.ζV, PL.ζW, PL.ζX, PL.ζY, PL.ζZ, PL.ζa, PL.ζb, PL.ζc, PL.ζd, PL.ζe, PL.ζf, PL.ζg, PL.ζh, PL.ζi, PL.ζj, PL.ζk, PL.ζl, PL.ζm, PL.ζn, PL.ζo, PL.ζp, PL.ζq, PL.ζr, PL.ζs, PL.ζt, PL.ζu, PL.ζv, PL.ζw, PL.ζx, PL.ζy, PL.ζz, PL.ζ0, PL.ζ1, PL.ζ2, PL.ζ3, PL.ζ4, PL.ζ5, PL.ζ6, PL.ζ7, PL.ζ8, PL.ζ9, PL.ηA, PL.ηB, PL.ηC, PL.ηD, PL.ηE, PL.ηF, PL.ηG, PL.ηH, PL.ηI, PL.ηJ, PL.ηK, PL.ηL, PL.ηM, PL.ηN, PL.ηO, PL.ηP, PL.ηQ, PL.ηR, PL.ηS, PL.ηT, PL.ηU, PL.ηV, PL.ηW, PL.ηX, PL.ηY, PL.ηZ, PL.ηa, PL.ηb, PL.ηc, PL.ηd, PL.ηe, PL.ηf, PL.ηg, PL.ηh, PL.ηi, PL.ηj, PL.ηk, PL.ηl, PL.ηm, PL.ηn, PL.ηo, PL.ηp, PL.ηq, PL.ηr, PL.ηs, PL.ηt, PL.ηu, PL.ηv, PL.ηw, PL.ηx, PL.ηy, PL.ηz, PL.η0, PL.η1, PL.η2, PL.η3, PL.η4, PL.η5, PL.η6, PL.η7, PL.η8, PL.η9, PL.ξA, PL.ξB, PL.ξC, PL.ξD, PL.ξE, PL.ξF, PL.ξG, PL.ξH, PL.ξI, PL.ξJ, PL.ξK, PL.ξL, PL.ξM, PL.ξN, PL.ξO, PL.ξP, PL.ξQ, PL.ξR, PL.ξS, PL.ξT, PL.ξU, PL.ξV, PL.ξW, PL.ξX, PL.ξY, PL.ξZ, PL.ξa, PL.ξb, PL.ξc, PL.ξd, PL.ξe, PL.ξf, PL.ξg, PL.ξh, PL.ξi, PL.ξj, PL.ξk, PL.ξl, PL.ξm, PL.ξn, PL.ξo, PL.ξp, PL.ξq, PL.ξr, PL.ξs, PL.ξt, PL.ξu, PL.ξv, PL.ξw, PL.ξx, PL.ξy, PL.ξz, PL.ξ0, PL.ξ1, PL.ξ2, PL.ξ3, PL.ξ4, PL.ξ5, PL.ξ6, PL.ξ7, PL.ξ8, PL.ξ9, PL.χA, PL.χB, PL.χC, PL.χD, PL.χE, PL.χF, PL.χG, PL.χH, PL.χI, PL.χJ, PL.χK, PL.χL, PL.χM, PL.χN, PL.χO, PL.χP, PL.χQ, PL.χR, PL.χS, PL.χT, PL.χU, PL.χV, PL.χW, PL.χX, PL.χY, PL.χZ, PL.χa, PL.χb, PL.χc, PL.χd, PL.χe, PL.χf, PL.χg, PL.χh, PL.χi, PL.χj, PL.χk, PL.χl, PL.χm, PL.χn, PL.χo, PL.χp, PL.χq, webT, isTy, e1, decide_false]
  refine wG.seq (wG.setW (d := .own (.list [])) (ρ1 := [some (.sh (webT n w rs)), none, none, none]) ?_ ?_)
  · simp only [List.map_append, List.map_cons, List.map_nil, List.length_append, PL.δA, PL.δB, PL.δC, PL.δD, PL.δE, PL.δF, PL.δG, PL.δH, PL.δI, PL.δJ, PL.δK, PL.δL, PL.δM, PL.δN, PL.δO, PL.δP, PL.δQ, PL.δR, PL.δS, PL.δT, PL.δU, PL.δV, PL.δW, PL.δX, PL.δY, PL.δZ, PL.δa, PL.δb, PL.δc, PL.δd, PL.δe, PL.δf, PL.δg, PL.δh, PL.δi, PL.δj, PL.δk, PL.δl, PL.δm, PL.δn, PL.δo, PL.δp, PL.δq, PL.δr, PL.δs, PL.δt, PL.δu, PL.δv, PL.δw, PL.δx, PL.δy, PL.δz, PL.δ0, PL.δ1, PL.δ2, PL.δ3, PL.δ4, PL.δ5, PL.δ6, PL.δ7, PL.δ8, PL.δ9, PL.ζA, PL.ζB, PL.ζC, PL.ζD, PL.ζE, PL.ζF, PL.ζG, PL.ζH, PL.ζI, PL.ζJ, PL.ζK, PL.ζL, PL.ζM, PL.ζN, PL.ζO, PL.ζP, PL.ζQ, PL.ζR, PL.ζS, PL.ζT, PL.ζU, PL.ζV, PL.ζW, PL.ζX, PL.ζY, PL.ζZ, PL.ζa, PL.ζb, PL.ζc, PL.ζd, PL.ζe, PL.ζf, PL.ζg, PL.ζh, PL.ζi, PL.ζj, PL.ζk, PL.ζl, PL.ζm, PL.ζn, PL.ζo, PL.ζp, PL.ζq, PL.ζr, PL.ζs, PL.ζt, PL.ζu, PL.ζv, PL.ζw, PL.ζx, PL.ζy, PL.ζz, PL.ζ0, PL.ζ1, PL.ζ2, PL.ζ3, PL.ζ4, PL.ζ5, PL.ζ6, PL.ζ7, PL.ζ8, PL.ζ9, PL.ηA, PL.ηB, PL.ηC, PL.ηD, PL.ηE, PL.ηF, PL.ηG, PL.ηH, PL.ηI, PL.ηJ, PL.ηK, PL.ηL, PL.ηM, PL.ηN, PL.ηO, PL.ηP, PL.ηQ, PL.ηR, PL.ηS, PL.ηT, PL.ηU, PL.ηV, PL.ηW, PL.ηX, PL.ηY, PL.ηZ, PL.ηa, PL.ηb, PL.ηc, PL.ηd, PL.ηe, PL.ηf, PL.ηg, PL.ηh, PL.ηi, PL.ηj, PL.ηk, PL.ηl, PL.ηm, PL.ηn, PL.ηo, PL.ηp, PL.ηq, PL.ηr, PL.ηs, PL.ηt, PL.ηu, PL.ηv, PL.ηw, PL.ηx, PL.ηy, PL.ηz, PL.η0, PL.η1, PL.η2, PL.η3, PL.η4, PL.η5, PL.η6, PL.η7, PL.η8, PL.η9, PL.ξA, PL.ξB, PL.ξC, PL.ξD, PL.ξE, PL.ξF, PL.ξG, PL.ξH, PL.ξI, PL.ξJ, PL.ξK, PL.ξL, PL.ξM, PL.ξN, PL.ξO, PL.ξP, PL.ξQ, PL.ξR, PL.ξS, PL.ξT, PL.ξU, PL.ξV, PL.ξW, PL.ξX, PL.ξY, PL.ξZ, PL.ξa, PL.ξb, PL.ξc, PL.ξd, PL.ξe, PL.ξf, PL.ξg, PL.ξh, PL.ξi, PL.ξj, PL.ξk, PL.ξl, PL.ξm, PL.ξn, PL.ξo, PL.ξp, PL.ξq, PL.ξr, PL.ξs, PL.ξt, PL.ξu, PL.ξv, PL.ξw, PL.ξx, PL.ξy, PL.ξz, PL.ξ0, PL.ξ1, PL.ξ2, PL.ξ3, PL.ξ4, PL.ξ5, PL.ξ6, PL.ξ7, PL.ξ8, PL.ξ9, PL.χA, PL.χB, PL.χC, PL.χD, PL.χE, PL.χF, PL.χG, PL.χH, PL.χI, PL.χJ, PL.χK, PL.χL, PL.χM, PL.χN, PL.χO, PL.χP, PL.χQ, PL.χR, PL.χS, PL.χT, PL.χU, PL.χV, PL.χW, PL.χX, PL.χY, PL.χZ, PL.χa, PL.χb, PL.χc, PL.χd, PL.χe, PL.χf, PL.χg, PL.χh, PL.χi, PL.χj, PL.χk, PL.χl, PL.χm, PL.χn, PL.χo, PL.χp, PL.χq, Nat.reduceLeDiff]
  refine wG.seq (wG.loop (fun p : Road × Nat => PyData.tuple [.int (p.2 : Nat), roadD p.1]) (rs.zipIdx 0) (fun pre ρ => ∃ x2 x3, ρ = [some (.sh (webT n w rs)), some (.own (.list (pre.map fun p => .tuple [.int (p.1.1 : Nat), .int (p.1.2.1 : Nat)]))), x2, x3]) (ρ1 := [some (.sh (webT n w rs)), some (.own (.list [])), none, none]) ?_ ⟨none, none, rfl⟩ ?_ ?_)
  · simp only [List.map_append, List.map_cons, List.map_nil, List.length_append, PL.δA, PL.δB, PL.δC, PL.δD, PL.δE, PL.δF, PL.δG, PL.δH, PL.δI, PL.δJ, PL.δK, PL.δL, PL.δM, PL.δN, PL.δO, PL.δP, PL.δQ, PL.δR, PL.δS, PL.δT, PL.δU, PL.δV, PL.δW, PL.δX, PL.δY, PL.δZ, PL.δa, PL.δb, PL.δc, PL.δd, PL.δe, PL.δf, PL.δg, PL.δh, PL.δi, PL.δj, PL.δk, PL.δl, PL.δm, PL.δn, PL.δo, PL.δp, PL.δq, PL.δr, PL.δs, PL.δt, PL.δu, PL.δv, PL.δw, PL.δx, PL.δy, PL.δz, PL.δ0, PL.δ1, PL.δ2, PL.δ3, PL.δ4, PL.δ5, PL.δ6, PL.δ7, PL.δ8, PL.δ9, PL.ζA, PL.ζB, PL.ζC, PL.ζD, PL.ζE, PL.ζF, PL.ζG, PL.ζH, PL.ζI, PL.ζJ, PL.ζK, PL.ζL, PL.ζM, PL.ζN, PL.ζO, PL.ζP, PL.ζQ, PL.ζR, PL.ζS, PL.ζT, PL.ζU, PL.ζV, PL.ζW, PL.ζX, PL.ζY, PL.ζZ, PL.ζa, PL.ζb, PL.ζc, PL.ζd, PL.ζe, PL.ζf, PL.ζg, PL.ζh, PL.ζi, PL.ζj, PL.ζk, PL.ζl, PL.ζm, PL.ζn, PL.ζo, PL.ζp, PL.ζq, PL.ζr, PL.ζs, PL.ζt, PL.ζu, PL.ζv, PL.ζw, PL.ζx, PL.ζy, PL.ζz, PL.ζ0, PL.ζ1, PL.ζ2, PL.ζ3, PL.ζ4, PL.ζ5, PL.ζ6, PL.ζ7, PL.ζ8, PL.ζ9, PL.ηA, PL.ηB, PL.ηC, PL.ηD, PL.ηE, PL.ηF, PL.ηG, PL.ηH, PL.ηI, PL.ηJ, PL.ηK, PL.ηL, PL.ηM, PL.ηN, PL.ηO, PL.ηP, PL.ηQ, PL.ηR, PL.ηS, PL.ηT, PL.ηU, PL.ηV, PL.ηW, PL.ηX, PL.ηY, PL.ηZ, PL.ηa, PL.ηb, PL.ηc, PL.ηd, PL.ηe, PL.ηf, PL.ηg, PL.ηh, PL.ηi, PL.ηj, PL.ηk, PL.ηl, PL.ηm, PL.ηn, PL.ηo, PL.ηp, PL.ηq, PL.ηr, PL.ηs, PL.ηt, PL.ηu, PL.ηv, PL.ηw, PL.ηx, PL.ηy, PL.ηz, PL.η0, PL.η1, PL.η2, PL.η3, PL.η4, PL.η5, PL.η6, PL.η7, PL.η8, PL.η9, PL.ξA, PL.ξB, PL.ξC, PL.ξD, PL.ξE, PL.ξF, PL.ξG, PL.ξH, PL.ξI, PL.ξJ, PL.ξK, PL.ξL, PL.ξM, PL.ξN, PL.ξO, PL.ξP, PL.ξQ, PL.ξR, PL.ξS, PL.ξT, PL.ξU, PL.ξV, PL.ξW, PL.ξX, PL.ξY, PL.ξZ, PL.ξa, PL.ξb, PL.ξc, PL.ξd, PL.ξe, PL.ξf, PL.ξg, PL.ξh, PL.ξi, PL.ξj, PL.ξk, PL.ξl, PL.ξm, PL.ξn, PL.ξo, PL.ξp, PL.ξq, PL.ξr, PL.ξs, PL.ξt, PL.ξu, PL.ξv, PL.ξw, PL.ξx, PL.ξy, PL.ξz, PL.ξ0, PL.ξ1, PL.ξ2, PL.ξ3, PL.ξ4, PL.ξ5, PL.ξ6, PL.ξ7, PL.ξ8, PL.ξ9, PL.χA, PL.χB, PL.χC, PL.χD, PL.χE, PL.χF, PL.χG, PL.χH, PL.χI, PL.χJ, PL.χK, PL.χL, PL.χM, PL.χN, PL.χO, PL.χP, PL.χQ, PL.χR, PL.χS, PL.χT, PL.χU, PL.χV, PL.χW, PL.χX, PL.χY, PL.χZ, PL.χa, PL.χb, PL.χc, PL.χd, PL.χe, PL.χf, PL.χg, PL.χh, PL.χi, PL.χj, PL.χk, PL.χl, PL.χm, PL.χn, PL.χo, PL.χp, PL.χq, webT, enum_map]
  · intro pre x post ρ ex ⟨x2, x3, er⟩
    subst er
    have em : rs = pre.map (·.1) ++ x.1 :: post.map (·.1) := by
      have := congrArg (List.map (·.1)) ex
      rw [zip_fst] at this
      rw [this]
      simp
    have hx : x.1 ∈ rs := by rw [em]; simp
    have hlen : pre.length ≤ 14 := by
      have := congrArg List.length em
      simp at this
      omega
    have hnot : (x.1.1, x.1.2.1) ∉ (pre.map (·.1)).map Pair := fun hm => by
      have nd := z.nd
      rw [em, List.map_append, List.map_cons] at nd
      have := (List.nodup_append.mp nd).2.2 _ hm (Pair x.1) List.mem_cons_self
      exact this rfl
    have hin := in_pairs x.1.1 x.1.2.1 (pre.map (·.1))
    rw [decide_eq_false hnot, List.map_map] at hin
    have hin : oIn (.tuple [.int (x.1.1 : Nat), .int (x.1.2.1 : Nat)]) (.list (pre.map fun p => .tuple [.int (p.1.1 : Nat), .int (p.1.2.1 : Nat)])) = some (.bool false) := hin
    have hr := is_road_ok (n := n) (z.lt _ hx).1 (z.lt _ hx).2 (z.len _ hx).1 (z.len _ hx).2
    refine ⟨[some (.sh (webT n w rs)), some (.own (.list (pre.map fun p => .tuple [.int (p.1.1 : Nat), .int (p.1.2.1 : Nat)]))), some (.sh (.int (x.2 : Nat))), some (.sh (roadD x.1))], rfl, .nx, [some (.sh (webT n w rs)), some (.own (.list ((pre ++ [x]).map fun p => .tuple [.int (p.1.1 : Nat), .int (p.1.2.1 : Nat)]))), some (.sh (.int (x.2 : Nat))), some (.sh (roadD x.1))], ?_, ⟨_, _, rfl⟩⟩
    have hr' : DG.mm_is_road [.tuple [.int (x.1.1 : Nat), .int (x.1.2.1 : Nat), .int x.1.2.2], .int (n : Nat)] = some (.bool true) := hr
    simp only [List.map_append, List.map_cons, List.map_nil, List.length_append, PL.δA, PL.δB, PL.δC, PL.δD, PL.δE, PL.δF, PL.δG, PL.δH, PL.δI, PL.δJ, PL.δK, PL.δL, PL.δM, PL.δN, PL.δO, PL.δP, PL.δQ, PL.δR, PL.δS, PL.δT, PL.δU, PL.δV, PL.δW, PL.δX, PL.δY, PL.δZ, PL.δa, PL.δb, PL.δc, PL.δd, PL.δe, PL.δf, PL.δg, PL.δh, PL.δi, PL.δj, PL.δk, PL.δl, PL.δm, PL.δn, PL.δo, PL.δp, PL.δq, PL.δr, PL.δs, PL.δt, PL.δu, PL.δv, PL.δw, PL.δx, PL.δy, PL.δz, PL.δ0, PL.δ1, PL.δ2, PL.δ3, PL.δ4, PL.δ5, PL.δ6, PL.δ7, PL.δ8, PL.δ9, PL.ζA, PL.ζB, PL.ζC, PL.ζD, PL.ζE, PL.ζF, PL.ζG, PL.ζH, PL.ζI, PL.ζJ, PL.ζK, PL.ζL, PL.ζM, PL.ζN, PL.ζO, PL.ζP, PL.ζQ, PL.ζR, PL.ζS, PL.ζT, PL.ζU, PL.ζV, PL.ζW, PL.ζX, PL.ζY, PL.ζZ, PL.ζa, PL.ζb, PL.ζc, PL.ζd, PL.ζe, PL.ζf, PL.ζg, PL.ζh, PL.ζi, PL.ζj, PL.ζk, PL.ζl, PL.ζm, PL.ζn, PL.ζo, PL.ζp, PL.ζq, PL.ζr, PL.ζs, PL.ζt, PL.ζu, PL.ζv, PL.ζw, PL.ζx, PL.ζy, PL.ζz, PL.ζ0, PL.ζ1, PL.ζ2, PL.ζ3, PL.ζ4, PL.ζ5, PL.ζ6, PL.ζ7, PL.ζ8, PL.ζ9, PL.ηA, PL.ηB, PL.ηC, PL.ηD, PL.ηE, PL.ηF, PL.ηG, PL.ηH, PL.ηI, PL.ηJ, PL.ηK, PL.ηL, PL.ηM, PL.ηN, PL.ηO, PL.ηP, PL.ηQ, PL.ηR, PL.ηS, PL.ηT, PL.ηU, PL.ηV, PL.ηW, PL.ηX, PL.ηY, PL.ηZ, PL.ηa, PL.ηb, PL.ηc, PL.ηd, PL.ηe, PL.ηf, PL.ηg, PL.ηh, PL.ηi, PL.ηj, PL.ηk, PL.ηl, PL.ηm, PL.ηn, PL.ηo, PL.ηp, PL.ηq, PL.ηr, PL.ηs, PL.ηt, PL.ηu, PL.ηv, PL.ηw, PL.ηx, PL.ηy, PL.ηz, PL.η0, PL.η1, PL.η2, PL.η3, PL.η4, PL.η5, PL.η6, PL.η7, PL.η8, PL.η9, PL.ξA, PL.ξB, PL.ξC, PL.ξD, PL.ξE, PL.ξF, PL.ξG, PL.ξH, PL.ξI, PL.ξJ, PL.ξK, PL.ξL, PL.ξM, PL.ξN, PL.ξO, PL.ξP, PL.ξQ, PL.ξR, PL.ξS, PL.ξT, PL.ξU, PL.ξV, PL.ξW, PL.ξX, PL.ξY, PL.ξZ, PL.ξa, PL.ξb, PL.ξc, PL.ξd, PL.ξe, PL.ξf, PL.ξg, PL.ξh, PL.ξi, PL.ξj, PL.ξk, PL.ξl, PL.ξm, PL.ξn, PL.ξo, PL.ξp, PL.ξq, PL.ξr, PL.ξs, PL.ξt, PL.ξu, PL.ξv, PL.ξw, PL.ξx, PL.ξy, PL.ξz, PL.ξ0, PL.ξ1, PL.ξ2, PL.ξ3, PL.ξ4, PL.ξ5, PL.ξ6, PL.ξ7, PL.ξ8, PL.ξ9, PL.χA, PL.χB, PL.χC, PL.χD, PL.χE, PL.χF, PL.χG, PL.χH, PL.χI, PL.χJ, PL.χK, PL.χL, PL.χM, PL.χN, PL.χO, PL.χP, PL.χQ, PL.χR, PL.χS, PL.χT, PL.χU, PL.χV, PL.χW, PL.χX, PL.χY, PL.χZ, PL.χa, PL.χb, PL.χc, PL.χd, PL.χe, PL.χf, PL.χg, PL.χh, PL.χi, PL.χj, PL.χk, PL.χl, PL.χm, PL.χn, PL.χo, PL.χp, PL.χq, webT, roadD, hr', hin, show pre.length ≤ 1000 by omega]
  · intro ρ ⟨x2, x3, er⟩
    subst er
    have hn := n8
    have hp : DG.mm_parts_in [.list ((List.range n).map fun x => .int (x : Nat)), .tuple (rs.map roadD)] = some (.list [.tuple ((List.range n).map fun x => .int (x : Nat))]) := hp
    refine wG.ite (b := false) (ρ1 := [some (.sh (webT n w rs)), some (.own (.list ((rs.zipIdx 0).map fun p => .tuple [.int (p.1.1 : Nat), .int (p.1.2.1 : Nat)]))), x2, x3]) ?_ (fun h => nomatch h) fun _ => wG.nx rfl
    simp only [List.map_append, List.map_cons, List.map_nil, List.length_append, PL.δA, PL.δB, PL.δC, PL.δD, PL.δE, PL.δF, PL.δG, PL.δH, PL.δI, PL.δJ, PL.δK, PL.δL, PL.δM, PL.δN, PL.δO, PL.δP, PL.δQ, PL.δR, PL.δS, PL.δT, PL.δU, PL.δV, PL.δW, PL.δX, PL.δY, PL.δZ, PL.δa, PL.δb, PL.δc, PL.δd, PL.δe, PL.δf, PL.δg, PL.δh, PL.δi, PL.δj, PL.δk, PL.δl, PL.δm, PL.δn, PL.δo, PL.δp, PL.δq, PL.δr, PL.δs, PL.δt, PL.δu, PL.δv, PL.δw, PL.δx, PL.δy, PL.δz, PL.δ0, PL.δ1, PL.δ2, PL.δ3, PL.δ4, PL.δ5, PL.δ6, PL.δ7, PL.δ8, PL.δ9, PL.ζA, PL.ζB, PL.ζC, PL.ζD, PL.ζE, PL.ζF, PL.ζG, PL.ζH, PL.ζI, PL.ζJ, PL.ζK, PL.ζL, PL.ζM, PL.ζN, PL.ζO, PL.ζP, PL.ζQ, PL.ζR, PL.ζS, PL.ζT, PL.ζU, PL.ζV, PL.ζW, PL.ζX, PL.ζY, PL.ζZ, PL.ζa, PL.ζb, PL.ζc, PL.ζd, PL.ζe, PL.ζf, PL.ζg, PL.ζh, PL.ζi, PL.ζj, PL.ζk, PL.ζl, PL.ζm, PL.ζn, PL.ζo, PL.ζp, PL.ζq, PL.ζr, PL.ζs, PL.ζt, PL.ζu, PL.ζv, PL.ζw, PL.ζx, PL.ζy, PL.ζz, PL.ζ0, PL.ζ1, PL.ζ2, PL.ζ3, PL.ζ4, PL.ζ5, PL.ζ6, PL.ζ7, PL.ζ8, PL.ζ9, PL.ηA, PL.ηB, PL.ηC, PL.ηD, PL.ηE, PL.ηF, PL.ηG, PL.ηH, PL.ηI, PL.ηJ, PL.ηK, PL.ηL, PL.ηM, PL.ηN, PL.ηO, PL.ηP, PL.ηQ, PL.ηR, PL.ηS, PL.ηT, PL.ηU, PL.ηV, PL.ηW, PL.ηX, PL.ηY, PL.ηZ, PL.ηa, PL.ηb, PL.ηc, PL.ηd, PL.ηe, PL.ηf, PL.ηg, PL.ηh, PL.ηi, PL.ηj, PL.ηk, PL.ηl, PL.ηm, PL.ηn, PL.ηo, PL.ηp, PL.ηq, PL.ηr, PL.ηs, PL.ηt, PL.ηu, PL.ηv, PL.ηw, PL.ηx, PL.ηy, PL.ηz, PL.η0, PL.η1, PL.η2, PL.η3, PL.η4, PL.η5, PL.η6, PL.η7, PL.η8, PL.η9, PL.ξA, PL.ξB, PL.ξC, PL.ξD, PL.ξE, PL.ξF, PL.ξG, PL.ξH, PL.ξI, PL.ξJ, PL.ξK, PL.ξL, PL.ξM, PL.ξN, PL.ξO, PL.ξP, PL.ξQ, PL.ξR, PL.ξS, PL.ξT, PL.ξU, PL.ξV, PL.ξW, PL.ξX, PL.ξY, PL.ξZ, PL.ξa, PL.ξb, PL.ξc, PL.ξd, PL.ξe, PL.ξf, PL.ξg, PL.ξh, PL.ξi, PL.ξj, PL.ξk, PL.ξl, PL.ξm, PL.ξn, PL.ξo, PL.ξp, PL.ξq, PL.ξr, PL.ξs, PL.ξt, PL.ξu, PL.ξv, PL.ξw, PL.ξx, PL.ξy, PL.ξz, PL.ξ0, PL.ξ1, PL.ξ2, PL.ξ3, PL.ξ4, PL.ξ5, PL.ξ6, PL.ξ7, PL.ξ8, PL.ξ9, PL.χA, PL.χB, PL.χC, PL.χD, PL.χE, PL.χF, PL.χG, PL.χH, PL.χI, PL.χJ, PL.χK, PL.χL, PL.χM, PL.χN, PL.χO, PL.χP, PL.χQ, PL.χR, PL.χS, PL.χT, PL.χU, PL.χV, PL.χW, PL.χX, PL.χY, PL.χZ, PL.χa, PL.χb, PL.χc, PL.χd, PL.χe, PL.χf, PL.χg, PL.χh, PL.χi, PL.χj, PL.χk, PL.χl, PL.χm, PL.χn, PL.χo, PL.χp, PL.χq, webT, hp, show n ≤ 1000 by omega, Int.lt_irrefl, decide_false]
theorem need_web_ok {n : Nat} {w : Nat → Int} {rs : List Road} (h : WebOk n w rs) : DG.mm_need_web [webT n w rs] = some .none := need_web_gen h.n2 h.n8 h.w0 h.w100 h.wpos h.web.zer (parts_web h.web (by have := h.n2; omega) (by have := h.n8; omega))
end PL
namespace PL
open PySem PySem.Spec PyProof.Rows L2 DL
def matT (n : Nat) (m : Mat) : D := .list ((List.range n).map fun i => .list ((List.range n).map fun j => .int (m i j)))
theorem webT_eq (n : Nat) (w : Nat → Int) (rs : List Road) : webT n w rs = webD ((List.range n).map w) rs := by
  unfold webT webD
  rw [List.map_map]
  rfl
theorem table_ok {n : Nat} {w : Nat → Int} {rs : List Road} (h : WebOk n w rs) : DG.mm_table_of [webT n w rs] = some (matT n (dist n rs)) := by
  have hl : ((List.range n).map w).length = n := by simp
  have := h.n8
  rw [webT_eq, table_dist (by rw [hl]; exact h.web) (by rw [hl]; omega), hl]
  rfl
theorem rows_ok {n : Nat} {w : Nat → Int} {rs : List Road} (h : WebOk n w rs) : DG.mm__law_rows [webT n w rs] = some (matT n (dist n rs)) := by
  have hl : ((List.range n).map w).length = n := by simp
  have := h.n8
  rw [webT_eq, rows_same (by rw [hl]; exact h.web) (by rw [hl]; omega), hl]
  rfl
/-- distances are small -/
theorem dist_small {n : Nat} {w : Nat → Int} {rs : List Road} (h : WebOk n w rs) {i j : Nat} (hi : i < n) (hj : j < n) : 0 ≤ dist n rs i j ∧ dist n rs i j ≤ 1400 := by
  have h1 := dist_le h.web hi hj
  have h2 := total_le fun e he => (h.web.len e he).2
  have h3 := h.web.few
  have := (dist_zero h.web).nn i j
  omega
end PL
namespace PL
open PySem PySem.Spec PyProof.Rows L2 DL
theorem near_in_ok {n : Nat} {m : Mat} {hs : List Nat} (hn : n ≤ 1000) (h : ∀ x ∈ hs, x < n) (h0 : hs ≠ []) (hl : hs.length ≤ 1000) :
    DG.mm_near_in [matT n m, natT hs] = some (.list ((List.range n).map fun i => .int (nearM m hs i))) := by
  simp (config := {contextual := true, maxDischargeDepth := 7}) only [DG.mm_near_in, run_e, DG.gs_near_in, List.map_append, List.map_cons, List.map_nil, List.length_append, PL.δA, PL.δB, PL.δC, PL.δD, PL.δE, PL.δF, PL.δG, PL.δH, PL.δI, PL.δJ, PL.δK, PL.δL, PL.δM, PL.δN, PL.δO, PL.δP, PL.δQ, PL.δR, PL.δS, PL.δT, PL.δU, PL.δV, PL.δW, PL.δX, PL.δY, PL.δZ, PL.δa, PL.δb, PL.δc, PL.δd, PL.δe, PL.δf, PL.δg, PL.δh, PL.δi, PL.δj, PL.δk, PL.δl, PL.δm, PL.δn, PL.δo, PL.δp, PL.δq, PL.δr, PL.δs, PL.δt, PL.δu, PL.δv, PL.δw, PL.δx, PL.δy, PL.δz, PL.δ0, PL.δ1, PL.δ2, PL.δ3, PL.δ4, PL.δ5, PL.δ6, PL.δ7, PL.δ8, PL.δ9, PL.ζA, PL.ζB, PL.ζC, PL.ζD, PL.ζE, PL.ζF, PL.ζG, PL.ζH, PL.ζI, PL.ζJ, PL.ζK, PL.ζL, PL.ζM, PL.ζN, PL.ζO, PL.ζP, PL.ζQ, PL.ζR, PL.ζS, PL.ζT, PL.ζU, PL.ζV, PL.ζW, PL.ζX, PL.ζY, PL.ζZ, PL.ζa, PL.ζb, PL.ζc, PL.ζd, PL.ζe, PL.ζf, PL.ζg, PL.ζh, PL.ζi, PL.ζj, PL.ζk, PL.ζl, PL.ζm, PL.ζn, PL.ζo, PL.ζp, PL.ζq, PL.ζr, PL.ζs, PL.ζt, PL.ζu, PL.ζv, PL.ζw, PL.ζx, PL.ζy, PL.ζz, PL.ζ0, PL.ζ1, PL.ζ2, PL.ζ3, PL.ζ4, PL.ζ5, PL.ζ6, PL.ζ7, PL.ζ8, PL.ζ9, PL.ηA, PL.ηB, PL.ηC, PL.ηD, PL.ηE, PL.ηF, PL.ηG, PL.ηH, PL.ηI, PL.ηJ, PL.ηK, PL.ηL, PL.ηM, PL.ηN, PL.ηO, PL.ηP, PL.ηQ, PL.ηR, PL.ηS, PL.ηT, PL.ηU, PL.ηV, PL.ηW, PL.ηX, PL.ηY, PL.ηZ, PL.ηa, PL.ηb, PL.ηc, PL.ηd, PL.ηe, PL.ηf, PL.ηg, PL.ηh, PL.ηi, PL.ηj, PL.ηk, PL.ηl, PL.ηm, PL.ηn, PL.ηo, PL.ηp, PL.ηq, PL.ηr, PL.ηs, PL.ηt, PL.ηu, PL.ηv, PL.ηw, PL.ηx, PL.ηy, PL.ηz, PL.η0, PL.η1, PL.η2, PL.η3, PL.η4, PL.η5, PL.η6, PL.η7, PL.η8, PL.η9, PL.ξA, PL.ξB, PL.ξC, PL.ξD, PL.ξE, PL.ξF, PL.ξG, PL.ξH, PL.ξI, PL.ξJ, PL.ξK, PL.ξL, PL.ξM, PL.ξN, PL.ξO, PL.ξP, PL.ξQ, PL.ξR, PL.ξS, PL.ξT, PL.ξU, PL.ξV, PL.ξW, PL.ξX, PL.ξY, PL.ξZ, PL.ξa, PL.ξb, PL.ξc, PL.ξd, PL.ξe, PL.ξf, PL.ξg, PL.ξh, PL.ξi, PL.ξj, PL.ξk, PL.ξl, PL.ξm, PL.ξn, PL.ξo, PL.ξp, PL.ξq, PL.ξr, PL.ξs, PL.ξt, PL.ξu, PL.ξv, PL.ξw, PL.ξx, PL.ξy, PL.ξz, PL.ξ0, PL.ξ1, PL.ξ2, PL.ξ3, PL.ξ4, PL.ξ5, PL.ξ6, PL.ξ7, PL.ξ8, PL.ξ9, PL.χA, PL.χB, PL.χC, PL.χD, PL.χE, PL.χF, PL.χG, PL.χH, PL.χI, PL.χJ, PL.χK, PL.χL, PL.χM, PL.χN, PL.χO, PL.χP, PL.χQ, PL.χR, PL.χS, PL.χT, PL.χU, PL.χV, PL.χW, PL.χX, PL.χY, PL.χZ, PL.χa, PL.χb, PL.χc, PL.χd, PL.χe, PL.χf, PL.χg, PL.χh, PL.χi, PL.χj, PL.χk, PL.χl, PL.χm, PL.χn, PL.χo, PL.χp, PL.χq, ini, matT, natT, nearM, h, hn, hl, h0, ne_eq, not_false_eq_true]
theorem sum_in_ok {n : Nat} {m : Mat} {w : Nat → Int} {hs : List Nat} (hn : n ≤ 1000) (h : ∀ x ∈ hs, x < n) (h0 : hs ≠ []) (hl : hs.length ≤ 1000) (hw : ∀ k, k < n → b64 (w k) = true) :
    DG.mm_sum_in [.tuple ((List.range n).map fun k => .int (w k)), matT n m, natT hs] = some (.int (sumM n w m hs)) := by
  simp (config := {contextual := true, maxDischargeDepth := 7}) only [DG.mm_sum_in, run_e, DG.gs_sum_in, List.map_append, List.map_cons, List.map_nil, List.length_append, PL.δA, PL.δB, PL.δC, PL.δD, PL.δE, PL.δF, PL.δG, PL.δH, PL.δI, PL.δJ, PL.δK, PL.δL, PL.δM, PL.δN, PL.δO, PL.δP, PL.δQ, PL.δR, PL.δS, PL.δT, PL.δU, PL.δV, PL.δW, PL.δX, PL.δY, PL.δZ, PL.δa, PL.δb, PL.δc, PL.δd, PL.δe, PL.δf, PL.δg, PL.δh, PL.δi, PL.δj, PL.δk, PL.δl, PL.δm, PL.δn, PL.δo, PL.δp, PL.δq, PL.δr, PL.δs, PL.δt, PL.δu, PL.δv, PL.δw, PL.δx, PL.δy, PL.δz, PL.δ0, PL.δ1, PL.δ2, PL.δ3, PL.δ4, PL.δ5, PL.δ6, PL.δ7, PL.δ8, PL.δ9, PL.ζA, PL.ζB, PL.ζC, PL.ζD, PL.ζE, PL.ζF, PL.ζG, PL.ζH, PL.ζI, PL.ζJ, PL.ζK, PL.ζL, PL.ζM, PL.ζN, PL.ζO, PL.ζP, PL.ζQ, PL.ζR, PL.ζS, PL.ζT, PL.ζU, PL.ζV, PL.ζW, PL.ζX, PL.ζY, PL.ζZ, PL.ζa, PL.ζb, PL.ζc, PL.ζd, PL.ζe, PL.ζf, PL.ζg, PL.ζh, PL.ζi, PL.ζj, PL.ζk, PL.ζl, PL.ζm, PL.ζn, PL.ζo, PL.ζp, PL.ζq, PL.ζr, PL.ζs, PL.ζt, PL.ζu, PL.ζv, PL.ζw, PL.ζx, PL.ζy, PL.ζz, PL.ζ0, PL.ζ1, PL.ζ2, PL.ζ3, PL.ζ4, PL.ζ5, PL.ζ6, PL.ζ7, PL.ζ8, PL.ζ9, PL.ηA, PL.ηB, PL.ηC, PL.ηD, PL.ηE, PL.ηF, PL.ηG, PL.ηH, PL.ηI, PL.ηJ, PL.ηK, PL.ηL, PL.ηM, PL.ηN, PL.ηO, PL.ηP, PL.ηQ, PL.ηR, PL.ηS, PL.ηT, PL.ηU, PL.ηV, PL.ηW, PL.ηX, PL.ηY, PL.ηZ, PL.ηa, PL.ηb, PL.ηc, PL.ηd, PL.ηe, PL.ηf, PL.ηg, PL.ηh, PL.ηi, PL.ηj, PL.ηk, PL.ηl, PL.ηm, PL.ηn, PL.ηo, PL.ηp, PL.ηq, PL.ηr, PL.ηs, PL.ηt, PL.ηu, PL.ηv, PL.ηw, PL.ηx, PL.ηy, PL.ηz, PL.η0, PL.η1, PL.η2, PL.η3, PL.η4, PL.η5, PL.η6, PL.η7, PL.η8, PL.η9, PL.ξA, PL.ξB, PL.ξC, PL.ξD, PL.ξE, PL.ξF, PL.ξG, PL.ξH, PL.ξI, PL.ξJ, PL.ξK, PL.ξL, PL.ξM, PL.ξN, PL.ξO, PL.ξP, PL.ξQ, PL.ξR, PL.ξS, PL.ξT, PL.ξU, PL.ξV, PL.ξW, PL.ξX, PL.ξY, PL.ξZ, PL.ξa, PL.ξb, PL.ξc, PL.ξd, PL.ξe, PL.ξf, PL.ξg, PL.ξh, PL.ξi, PL.ξj, PL.ξk, PL.ξl, PL.ξm, PL.ξn, PL.ξo, PL.ξp, PL.ξq, PL.ξr, PL.ξs, PL.ξt, PL.ξu, PL.ξv, PL.ξw, PL.ξx, PL.ξy, PL.ξz, PL.ξ0, PL.ξ1, PL.ξ2, PL.ξ3, PL.ξ4, PL.ξ5, PL.ξ6, PL.ξ7, PL.ξ8, PL.ξ9, PL.χA, PL.χB, PL.χC, PL.χD, PL.χE, PL.χF, PL.χG, PL.χH, PL.χI, PL.χJ, PL.χK, PL.χL, PL.χM, PL.χN, PL.χO, PL.χP, PL.χQ, PL.χR, PL.χS, PL.χT, PL.χU, PL.χV, PL.χW, PL.χX, PL.χY, PL.χZ, PL.χa, PL.χb, PL.χc, PL.χd, PL.χe, PL.χf, PL.χg, PL.χh, PL.χi, PL.χj, PL.χk, PL.χl, PL.χm, PL.χn, PL.χo, PL.χp, PL.χq, ini, near_in_ok hn h h0 hl, hn, sumM, mul_i, hw, true_or]
end PL
namespace PL
open PySem PySem.Spec PyProof.Rows L2 DL
end PL
namespace PL
open PySem PySem.Spec PyProof.Rows L2 DL
/-- data that the law's own look at structure goes through -/
inductive Good : Nat → D → Prop
  | int {k : Nat} (i : Int) : Good k (.int i)
  | non {k : Nat} : Good k .none
  | bl {k : Nat} (b : Bool) : Good k (.bool b)
  | tup {k : Nat} {ds : List D} : (∀ d ∈ ds, Good k d) → ds.length ≤ 1000 → Good (k + 1) (.tuple ds)
  | lst {k : Nat} {ds : List D} : (∀ d ∈ ds, Good k d) → ds.length ≤ 1000 → Good (k + 1) (.list ds)
theorem alike_seq {mr : List D → Option D} {ds : List D} (hl : ds.length ≤ 1000) (h : ∀ d ∈ ds, mr [d, d] = some (.bool true)) : ∀ t : Bool, DL.run 3 2 (DG.gs__law_alike mr) [if t then .tuple ds else .list ds, if t then .tuple ds else .list ds] = some (.bool true) := by
  have hg : ∀ k, k < ds.length → ds[k]? = some (ds.getD k .none) := fun k hk => by
    rw [List.getD_eq_getElem?_getD, List.getElem?_eq_getElem hk]
    rfl
  have hm : ∀ k, k < ds.length → mr [ds.getD k .none, ds.getD k .none] = some (.bool true) := fun k hk => by
    refine h _ ?_
    rw [List.getD_eq_getElem?_getD, List.getElem?_eq_getElem hk]
    exact List.getElem_mem hk
  have he : oEq (.list (List.map (fun x : Nat => PyData.int (x : Nat)) (List.filter (fun x => false) (List.range ds.length)))) (.list []) = some (.bool true) := by
    rw [show List.filter (fun _ : Nat => false) (List.range ds.length) = [] by simp]
    rfl
  have hf : (List.filter (fun _ : Nat => false) (List.range ds.length)).length ≤ 1000 := by
    rw [show List.filter (fun _ : Nat => false) (List.range ds.length) = [] by simp]
    exact Nat.zero_le _
  have e1 : oNe (.bool false) (.bool false) = some (.bool false) := rfl
  have e2 : oNe (.bool true) (.bool true) = some (.bool false) := rfl
  intro t
  cases t with
  | true => simp (config := {contextual := true, maxDischargeDepth := 7}) only [run_e, DG.gs__law_alike, List.map_append, List.map_cons, List.map_nil, List.length_append, PL.δA, PL.δB, PL.δC, PL.δD, PL.δE, PL.δF, PL.δG, PL.δH, PL.δI, PL.δJ, PL.δK, PL.δL, PL.δM, PL.δN, PL.δO, PL.δP, PL.δQ, PL.δR, PL.δS, PL.δT, PL.δU, PL.δV, PL.δW, PL.δX, PL.δY, PL.δZ, PL.δa, PL.δb, PL.δc, PL.δd, PL.δe, PL.δf, PL.δg, PL.δh, PL.δi, PL.δj, PL.δk, PL.δl, PL.δm, PL.δn, PL.δo, PL.δp, PL.δq, PL.δr, PL.δs, PL.δt, PL.δu, PL.δv, PL.δw, PL.δx, PL.δy, PL.δz, PL.δ0, PL.δ1, PL.δ2, PL.δ3, PL.δ4, PL.δ5, PL.δ6, PL.δ7, PL.δ8, PL.δ9, PL.ζA, PL.ζB, PL.ζC, PL.ζD, PL.ζE, PL.ζF, PL.ζG, PL.ζH, PL.ζI, PL.ζJ, PL.ζK, PL.ζL, PL.ζM, PL.ζN, PL.ζO, PL.ζP, PL.ζQ, PL.ζR, PL.ζS, PL.ζT, PL.ζU, PL.ζV, PL.ζW, PL.ζX, PL.ζY, PL.ζZ, PL.ζa, PL.ζb, PL.ζc, PL.ζd, PL.ζe, PL.ζf, PL.ζg, PL.ζh, PL.ζi, PL.ζj, PL.ζk, PL.ζl, PL.ζm, PL.ζn, PL.ζo, PL.ζp, PL.ζq, PL.ζr, PL.ζs, PL.ζt, PL.ζu, PL.ζv, PL.ζw, PL.ζx, PL.ζy, PL.ζz, PL.ζ0, PL.ζ1, PL.ζ2, PL.ζ3, PL.ζ4, PL.ζ5, PL.ζ6, PL.ζ7, PL.ζ8, PL.ζ9, PL.ηA, PL.ηB, PL.ηC, PL.ηD, PL.ηE, PL.ηF, PL.ηG, PL.ηH, PL.ηI, PL.ηJ, PL.ηK, PL.ηL, PL.ηM, PL.ηN, PL.ηO, PL.ηP, PL.ηQ, PL.ηR, PL.ηS, PL.ηT, PL.ηU, PL.ηV, PL.ηW, PL.ηX, PL.ηY, PL.ηZ, PL.ηa, PL.ηb, PL.ηc, PL.ηd, PL.ηe, PL.ηf, PL.ηg, PL.ηh, PL.ηi, PL.ηj, PL.ηk, PL.ηl, PL.ηm, PL.ηn, PL.ηo, PL.ηp, PL.ηq, PL.ηr, PL.ηs, PL.ηt, PL.ηu, PL.ηv, PL.ηw, PL.ηx, PL.ηy, PL.ηz, PL.η0, PL.η1, PL.η2, PL.η3, PL.η4, PL.η5, PL.η6, PL.η7, PL.η8, PL.η9, PL.ξA, PL.ξB, PL.ξC, PL.ξD, PL.ξE, PL.ξF, PL.ξG, PL.ξH, PL.ξI, PL.ξJ, PL.ξK, PL.ξL, PL.ξM, PL.ξN, PL.ξO, PL.ξP, PL.ξQ, PL.ξR, PL.ξS, PL.ξT, PL.ξU, PL.ξV, PL.ξW, PL.ξX, PL.ξY, PL.ξZ, PL.ξa, PL.ξb, PL.ξc, PL.ξd, PL.ξe, PL.ξf, PL.ξg, PL.ξh, PL.ξi, PL.ξj, PL.ξk, PL.ξl, PL.ξm, PL.ξn, PL.ξo, PL.ξp, PL.ξq, PL.ξr, PL.ξs, PL.ξt, PL.ξu, PL.ξv, PL.ξw, PL.ξx, PL.ξy, PL.ξz, PL.ξ0, PL.ξ1, PL.ξ2, PL.ξ3, PL.ξ4, PL.ξ5, PL.ξ6, PL.ξ7, PL.ξ8, PL.ξ9, PL.χA, PL.χB, PL.χC, PL.χD, PL.χE, PL.χF, PL.χG, PL.χH, PL.χI, PL.χJ, PL.χK, PL.χL, PL.χM, PL.χN, PL.χO, PL.χP, PL.χQ, PL.χR, PL.χS, PL.χT, PL.χU, PL.χV, PL.χW, PL.χX, PL.χY, PL.χZ, PL.χa, PL.χb, PL.χc, PL.χd, PL.χe, PL.χf, PL.χg, PL.χh, PL.χi, PL.χj, PL.χk, PL.χl, PL.χm, PL.χn, PL.χo, PL.χp, PL.χq, ini, isTy, Bool.or_false, Bool.or_true, Bool.or_self, hl, hg, hm, hf, he, e1, if_true, Bool.false_eq_true, if_false, decide_true, Bool.not_true, Nat.zero_le]
  | false => simp (config := {contextual := true, maxDischargeDepth := 7}) only [run_e, DG.gs__law_alike, List.map_append, List.map_cons, List.map_nil, List.length_append, PL.δA, PL.δB, PL.δC, PL.δD, PL.δE, PL.δF, PL.δG, PL.δH, PL.δI, PL.δJ, PL.δK, PL.δL, PL.δM, PL.δN, PL.δO, PL.δP, PL.δQ, PL.δR, PL.δS, PL.δT, PL.δU, PL.δV, PL.δW, PL.δX, PL.δY, PL.δZ, PL.δa, PL.δb, PL.δc, PL.δd, PL.δe, PL.δf, PL.δg, PL.δh, PL.δi, PL.δj, PL.δk, PL.δl, PL.δm, PL.δn, PL.δo, PL.δp, PL.δq, PL.δr, PL.δs, PL.δt, PL.δu, PL.δv, PL.δw, PL.δx, PL.δy, PL.δz, PL.δ0, PL.δ1, PL.δ2, PL.δ3, PL.δ4, PL.δ5, PL.δ6, PL.δ7, PL.δ8, PL.δ9, PL.ζA, PL.ζB, PL.ζC, PL.ζD, PL.ζE, PL.ζF, PL.ζG, PL.ζH, PL.ζI, PL.ζJ, PL.ζK, PL.ζL, PL.ζM, PL.ζN, PL.ζO, PL.ζP, PL.ζQ, PL.ζR, PL.ζS, PL.ζT, PL.ζU, PL.ζV, PL.ζW, PL.ζX, PL.ζY, PL.ζZ, PL.ζa, PL.ζb, PL.ζc, PL.ζd, PL.ζe, PL.ζf, PL.ζg, PL.ζh, PL.ζi, PL.ζj, PL.ζk, PL.ζl, PL.ζm, PL.ζn, PL.ζo, PL.ζp, PL.ζq, PL.ζr, PL.ζs, PL.ζt, PL.ζu, PL.ζv, PL.ζw, PL.ζx, PL.ζy, PL.ζz, PL.ζ0, PL.ζ1, PL.ζ2, PL.ζ3, PL.ζ4, PL.ζ5, PL.ζ6, PL.ζ7, PL.ζ8, PL.ζ9, PL.ηA, PL.ηB, PL.ηC, PL.ηD, PL.ηE, PL.ηF, PL.ηG, PL.ηH, PL.ηI, PL.ηJ, PL.ηK, PL.ηL, PL.ηM, PL.ηN, PL.ηO, PL.ηP, PL.ηQ, PL.ηR, PL.ηS, PL.ηT, PL.ηU, PL.ηV, PL.ηW, PL.ηX, PL.ηY, PL.ηZ, PL.ηa, PL.ηb, PL.ηc, PL.ηd, PL.ηe, PL.ηf, PL.ηg, PL.ηh, PL.ηi, PL.ηj, PL.ηk, PL.ηl, PL.ηm, PL.ηn, PL.ηo, PL.ηp, PL.ηq, PL.ηr, PL.ηs, PL.ηt, PL.ηu, PL.ηv, PL.ηw, PL.ηx, PL.ηy, PL.ηz, PL.η0, PL.η1, PL.η2, PL.η3, PL.η4, PL.η5, PL.η6, PL.η7, PL.η8, PL.η9, PL.ξA, PL.ξB, PL.ξC, PL.ξD, PL.ξE, PL.ξF, PL.ξG, PL.ξH, PL.ξI, PL.ξJ, PL.ξK, PL.ξL, PL.ξM, PL.ξN, PL.ξO, PL.ξP, PL.ξQ, PL.ξR, PL.ξS, PL.ξT, PL.ξU, PL.ξV, PL.ξW, PL.ξX, PL.ξY, PL.ξZ, PL.ξa, PL.ξb, PL.ξc, PL.ξd, PL.ξe, PL.ξf, PL.ξg, PL.ξh, PL.ξi, PL.ξj, PL.ξk, PL.ξl, PL.ξm, PL.ξn, PL.ξo, PL.ξp, PL.ξq, PL.ξr, PL.ξs, PL.ξt, PL.ξu, PL.ξv, PL.ξw, PL.ξx, PL.ξy, PL.ξz, PL.ξ0, PL.ξ1, PL.ξ2, PL.ξ3, PL.ξ4, PL.ξ5, PL.ξ6, PL.ξ7, PL.ξ8, PL.ξ9, PL.χA, PL.χB, PL.χC, PL.χD, PL.χE, PL.χF, PL.χG, PL.χH, PL.χI, PL.χJ, PL.χK, PL.χL, PL.χM, PL.χN, PL.χO, PL.χP, PL.χQ, PL.χR, PL.χS, PL.χT, PL.χU, PL.χV, PL.χW, PL.χX, PL.χY, PL.χZ, PL.χa, PL.χb, PL.χc, PL.χd, PL.χe, PL.χf, PL.χg, PL.χh, PL.χi, PL.χj, PL.χk, PL.χl, PL.χm, PL.χn, PL.χo, PL.χp, PL.χq, ini, isTy, Bool.or_false, Bool.or_true, Bool.or_self, hl, hg, hm, hf, he, e2, if_true, Bool.false_eq_true, if_false, decide_true, Bool.not_true, Nat.zero_le]
theorem alike_ok : ∀ {k : Nat} {d : D}, Good k d → ∀ n, k < n → DG.mm__law_alike n [d, d] = some (.bool true)
  | _, _, _, 0, h => absurd h (Nat.not_lt_zero _)
  | _, _, .int i, n + 1, _ => by
    have e1 : oNe (.bool false) (.bool false) = some (.bool false) := rfl
    have e2 : oEq (.bool false) (.bool false) = some (.bool true) := rfl
    have e3 : oIs (.int i) .none = some (.bool false) := rfl
    simp only [DG.mm__law_alike, run_e, DG.gs__law_alike, List.map_append, List.map_cons, List.map_nil, List.length_append, PL.δA, PL.δB, PL.δC, PL.δD, PL.δE, PL.δF, PL.δG, PL.δH, PL.δI, PL.δJ, PL.δK, PL.δL, PL.δM, PL.δN, PL.δO, PL.δP, PL.δQ, PL.δR, PL.δS, PL.δT, PL.δU, PL.δV, PL.δW, PL.δX, PL.δY, PL.δZ, PL.δa, PL.δb, PL.δc, PL.δd, PL.δe, PL.δf, PL.δg, PL.δh, PL.δi, PL.δj, PL.δk, PL.δl, PL.δm, PL.δn, PL.δo, PL.δp, PL.δq, PL.δr, PL.δs, PL.δt, PL.δu, PL.δv, PL.δw, PL.δx, PL.δy, PL.δz, PL.δ0, PL.δ1, PL.δ2, PL.δ3, PL.δ4, PL.δ5, PL.δ6, PL.δ7, PL.δ8, PL.δ9, PL.ζA, PL.ζB, PL.ζC, PL.ζD, PL.ζE, PL.ζF, PL.ζG, PL.ζH, PL.ζI, PL.ζJ, PL.ζK, PL.ζL, PL.ζM, PL.ζN, PL.ζO, PL.ζP, PL.ζQ, PL.ζR, PL.ζS, PL.ζT, PL.ζU, PL.ζV, PL.ζW, PL.ζX, PL.ζY, PL.ζZ, PL.ζa, PL.ζb, PL.ζc, PL.ζd, PL.ζe, PL.ζf, PL.ζg, PL.ζh, PL.ζi, PL.ζj, PL.ζk, PL.ζl, PL.ζm, PL.ζn, PL.ζo, PL.ζp, PL.ζq, PL.ζr, PL.ζs, PL.ζt, PL.ζu, PL.ζv, PL.ζw, PL.ζx, PL.ζy, PL.ζz, PL.ζ0, PL.ζ1, PL.ζ2, PL.ζ3, PL.ζ4, PL.ζ5, PL.ζ6, PL.ζ7, PL.ζ8, PL.ζ9, PL.ηA, PL.ηB, PL.ηC, PL.ηD, PL.ηE, PL.ηF, PL.ηG, PL.ηH, PL.ηI, PL.ηJ, PL.ηK, PL.ηL, PL.ηM, PL.ηN, PL.ηO, PL.ηP, PL.ηQ, PL.ηR, PL.ηS, PL.ηT, PL.ηU, PL.ηV, PL.ηW, PL.ηX, PL.ηY, PL.ηZ, PL.ηa, PL.ηb, PL.ηc, PL.ηd, PL.ηe, PL.ηf, PL.ηg, PL.ηh, PL.ηi, PL.ηj, PL.ηk, PL.ηl, PL.ηm, PL.ηn, PL.ηo, PL.ηp, PL.ηq, PL.ηr, PL.ηs, PL.ηt, PL.ηu, PL.ηv, PL.ηw, PL.ηx, PL.ηy, PL.ηz, PL.η0, PL.η1, PL.η2, PL.η3, PL.η4, PL.η5, PL.η6, PL.η7, PL.η8, PL.η9, PL.ξA, PL.ξB, PL.ξC, PL.ξD, PL.ξE, PL.ξF, PL.ξG, PL.ξH, PL.ξI, PL.ξJ, PL.ξK, PL.ξL, PL.ξM, PL.ξN, PL.ξO, PL.ξP, PL.ξQ, PL.ξR, PL.ξS, PL.ξT, PL.ξU, PL.ξV, PL.ξW, PL.ξX, PL.ξY, PL.ξZ, PL.ξa, PL.ξb, PL.ξc, PL.ξd, PL.ξe, PL.ξf, PL.ξg, PL.ξh, PL.ξi, PL.ξj, PL.ξk, PL.ξl, PL.ξm, PL.ξn, PL.ξo, PL.ξp, PL.ξq, PL.ξr, PL.ξs, PL.ξt, PL.ξu, PL.ξv, PL.ξw, PL.ξx, PL.ξy, PL.ξz, PL.ξ0, PL.ξ1, PL.ξ2, PL.ξ3, PL.ξ4, PL.ξ5, PL.ξ6, PL.ξ7, PL.ξ8, PL.ξ9, PL.χA, PL.χB, PL.χC, PL.χD, PL.χE, PL.χF, PL.χG, PL.χH, PL.χI, PL.χJ, PL.χK, PL.χL, PL.χM, PL.χN, PL.χO, PL.χP, PL.χQ, PL.χR, PL.χS, PL.χT, PL.χU, PL.χV, PL.χW, PL.χX, PL.χY, PL.χZ, PL.χa, PL.χb, PL.χc, PL.χd, PL.χe, PL.χf, PL.χg, PL.χh, PL.χi, PL.χj, PL.χk, PL.χl, PL.χm, PL.χn, PL.χo, PL.χp, PL.χq, ini, isTy, Bool.or_self, e2, e3, decide_true]
  | _, _, .non, n + 1, _ => by
    have e2 : oEq (.bool false) (.bool false) = some (.bool true) := rfl
    have e3 : oIs .none .none = some (.bool true) := rfl
    have e4 : oEq .none .none = some (.bool true) := rfl
    simp only [DG.mm__law_alike, run_e, DG.gs__law_alike, List.map_append, List.map_cons, List.map_nil, List.length_append, PL.δA, PL.δB, PL.δC, PL.δD, PL.δE, PL.δF, PL.δG, PL.δH, PL.δI, PL.δJ, PL.δK, PL.δL, PL.δM, PL.δN, PL.δO, PL.δP, PL.δQ, PL.δR, PL.δS, PL.δT, PL.δU, PL.δV, PL.δW, PL.δX, PL.δY, PL.δZ, PL.δa, PL.δb, PL.δc, PL.δd, PL.δe, PL.δf, PL.δg, PL.δh, PL.δi, PL.δj, PL.δk, PL.δl, PL.δm, PL.δn, PL.δo, PL.δp, PL.δq, PL.δr, PL.δs, PL.δt, PL.δu, PL.δv, PL.δw, PL.δx, PL.δy, PL.δz, PL.δ0, PL.δ1, PL.δ2, PL.δ3, PL.δ4, PL.δ5, PL.δ6, PL.δ7, PL.δ8, PL.δ9, PL.ζA, PL.ζB, PL.ζC, PL.ζD, PL.ζE, PL.ζF, PL.ζG, PL.ζH, PL.ζI, PL.ζJ, PL.ζK, PL.ζL, PL.ζM, PL.ζN, PL.ζO, PL.ζP, PL.ζQ, PL.ζR, PL.ζS, PL.ζT, PL.ζU, PL.ζV, PL.ζW, PL.ζX, PL.ζY, PL.ζZ, PL.ζa, PL.ζb, PL.ζc, PL.ζd, PL.ζe, PL.ζf, PL.ζg, PL.ζh, PL.ζi, PL.ζj, PL.ζk, PL.ζl, PL.ζm, PL.ζn, PL.ζo, PL.ζp, PL.ζq, PL.ζr, PL.ζs, PL.ζt, PL.ζu, PL.ζv, PL.ζw, PL.ζx, PL.ζy, PL.ζz, PL.ζ0, PL.ζ1, PL.ζ2, PL.ζ3, PL.ζ4, PL.ζ5, PL.ζ6, PL.ζ7, PL.ζ8, PL.ζ9, PL.ηA, PL.ηB, PL.ηC, PL.ηD, PL.ηE, PL.ηF, PL.ηG, PL.ηH, PL.ηI, PL.ηJ, PL.ηK, PL.ηL, PL.ηM, PL.ηN, PL.ηO, PL.ηP, PL.ηQ, PL.ηR, PL.ηS, PL.ηT, PL.ηU, PL.ηV, PL.ηW, PL.ηX, PL.ηY, PL.ηZ, PL.ηa, PL.ηb, PL.ηc, PL.ηd, PL.ηe, PL.ηf, PL.ηg, PL.ηh, PL.ηi, PL.ηj, PL.ηk, PL.ηl, PL.ηm, PL.ηn, PL.ηo, PL.ηp, PL.ηq, PL.ηr, PL.ηs, PL.ηt, PL.ηu, PL.ηv, PL.ηw, PL.ηx, PL.ηy, PL.ηz, PL.η0, PL.η1, PL.η2, PL.η3, PL.η4, PL.η5, PL.η6, PL.η7, PL.η8, PL.η9, PL.ξA, PL.ξB, PL.ξC, PL.ξD, PL.ξE, PL.ξF, PL.ξG, PL.ξH, PL.ξI, PL.ξJ, PL.ξK, PL.ξL, PL.ξM, PL.ξN, PL.ξO, PL.ξP, PL.ξQ, PL.ξR, PL.ξS, PL.ξT, PL.ξU, PL.ξV, PL.ξW, PL.ξX, PL.ξY, PL.ξZ, PL.ξa, PL.ξb, PL.ξc, PL.ξd, PL.ξe, PL.ξf, PL.ξg, PL.ξh, PL.ξi, PL.ξj, PL.ξk, PL.ξl, PL.ξm, PL.ξn, PL.ξo, PL.ξp, PL.ξq, PL.ξr, PL.ξs, PL.ξt, PL.ξu, PL.ξv, PL.ξw, PL.ξx, PL.ξy, PL.ξz, PL.ξ0, PL.ξ1, PL.ξ2, PL.ξ3, PL.ξ4, PL.ξ5, PL.ξ6, PL.ξ7, PL.ξ8, PL.ξ9, PL.χA, PL.χB, PL.χC, PL.χD, PL.χE, PL.χF, PL.χG, PL.χH, PL.χI, PL.χJ, PL.χK, PL.χL, PL.χM, PL.χN, PL.χO, PL.χP, PL.χQ, PL.χR, PL.χS, PL.χT, PL.χU, PL.χV, PL.χW, PL.χX, PL.χY, PL.χZ, PL.χa, PL.χb, PL.χc, PL.χd, PL.χe, PL.χf, PL.χg, PL.χh, PL.χi, PL.χj, PL.χk, PL.χl, PL.χm, PL.χn, PL.χo, PL.χp, PL.χq, ini, isTy, Bool.or_self, e2, e3, e4, decide_true]
  | _, _, .bl b, n + 1, _ => by
    have e2 : oEq (.bool true) (.bool true) = some (.bool true) := rfl
    have e3 : oIs (.bool b) .none = some (.bool false) := rfl
    have e4 : oEq (.bool b) (.bool b) = some (.bool true) := by cases b <;> rfl
    simp only [DG.mm__law_alike, run_e, DG.gs__law_alike, List.map_append, List.map_cons, List.map_nil, List.length_append, PL.δA, PL.δB, PL.δC, PL.δD, PL.δE, PL.δF, PL.δG, PL.δH, PL.δI, PL.δJ, PL.δK, PL.δL, PL.δM, PL.δN, PL.δO, PL.δP, PL.δQ, PL.δR, PL.δS, PL.δT, PL.δU, PL.δV, PL.δW, PL.δX, PL.δY, PL.δZ, PL.δa, PL.δb, PL.δc, PL.δd, PL.δe, PL.δf, PL.δg, PL.δh, PL.δi, PL.δj, PL.δk, PL.δl, PL.δm, PL.δn, PL.δo, PL.δp, PL.δq, PL.δr, PL.δs, PL.δt, PL.δu, PL.δv, PL.δw, PL.δx, PL.δy, PL.δz, PL.δ0, PL.δ1, PL.δ2, PL.δ3, PL.δ4, PL.δ5, PL.δ6, PL.δ7, PL.δ8, PL.δ9, PL.ζA, PL.ζB, PL.ζC, PL.ζD, PL.ζE, PL.ζF, PL.ζG, PL.ζH, PL.ζI, PL.ζJ, PL.ζK, PL.ζL, PL.ζM, PL.ζN, PL.ζO, PL.ζP, PL.ζQ, PL.ζR, PL.ζS, PL.ζT, PL.ζU, PL.ζV, PL.ζW, PL.ζX, PL.ζY, PL.ζZ, PL.ζa, PL.ζb, PL.ζc, PL.ζd, PL.ζe, PL.ζf, PL.ζg, PL.ζh, PL.ζi, PL.ζj, PL.ζk, PL.ζl, PL.ζm, PL.ζn, PL.ζo, PL.ζp, PL.ζq, PL.ζr, PL.ζs, PL.ζt, PL.ζu, PL.ζv, PL.ζw, PL.ζx, PL.ζy, PL.ζz, PL.ζ0, PL.ζ1, PL.ζ2, PL.ζ3, PL.ζ4, PL.ζ5, PL.ζ6, PL.ζ7, PL.ζ8, PL.ζ9, PL.ηA, PL.ηB, PL.ηC, PL.ηD, PL.ηE, PL.ηF, PL.ηG, PL.ηH, PL.ηI, PL.ηJ, PL.ηK, PL.ηL, PL.ηM, PL.ηN, PL.ηO, PL.ηP, PL.ηQ, PL.ηR, PL.ηS, PL.ηT, PL.ηU, PL.ηV, PL.ηW, PL.ηX, PL.ηY, PL.ηZ, PL.ηa, PL.ηb, PL.ηc, PL.ηd, PL.ηe, PL.ηf, PL.ηg, PL.ηh, PL.ηi, PL.ηj, PL.ηk, PL.ηl, PL.ηm, PL.ηn, PL.ηo, PL.ηp, PL.ηq, PL.ηr, PL.ηs, PL.ηt, PL.ηu, PL.ηv, PL.ηw, PL.ηx, PL.ηy, PL.ηz, PL.η0, PL.η1, PL.η2, PL.η3, PL.η4, PL.η5, PL.η6, PL.η7, PL.η8, PL.η9, PL.ξA, PL.ξB, PL.ξC, PL.ξD, PL.ξE, PL.ξF, PL.ξG, PL.ξH, PL.ξI, PL.ξJ, PL.ξK, PL.ξL, PL.ξM, PL.ξN, PL.ξO, PL.ξP, PL.ξQ, PL.ξR, PL.ξS, PL.ξT, PL.ξU, PL.ξV, PL.ξW, PL.ξX, PL.ξY, PL.ξZ, PL.ξa, PL.ξb, PL.ξc, PL.ξd, PL.ξe, PL.ξf, PL.ξg, PL.ξh, PL.ξi, PL.ξj, PL.ξk, PL.ξl, PL.ξm, PL.ξn, PL.ξo, PL.ξp, PL.ξq, PL.ξr, PL.ξs, PL.ξt, PL.ξu, PL.ξv, PL.ξw, PL.ξx, PL.ξy, PL.ξz, PL.ξ0, PL.ξ1, PL.ξ2, PL.ξ3, PL.ξ4, PL.ξ5, PL.ξ6, PL.ξ7, PL.ξ8, PL.ξ9, PL.χA, PL.χB, PL.χC, PL.χD, PL.χE, PL.χF, PL.χG, PL.χH, PL.χI, PL.χJ, PL.χK, PL.χL, PL.χM, PL.χN, PL.χO, PL.χP, PL.χQ, PL.χR, PL.χS, PL.χT, PL.χU, PL.χV, PL.χW, PL.χX, PL.χY, PL.χZ, PL.χa, PL.χb, PL.χc, PL.χd, PL.χe, PL.χf, PL.χg, PL.χh, PL.χi, PL.χj, PL.χk, PL.χl, PL.χm, PL.χn, PL.χo, PL.χp, PL.χq, ini, isTy, Bool.or_self, e2, e3, e4, decide_true]
  | k + 1, _, .tup h hl, n + 1, hn => alike_seq hl (fun d hd => alike_ok (h d hd) n (by omega)) true
  | k + 1, _, .lst h hl, n + 1, hn => alike_seq hl (fun d hd => alike_ok (h d hd) n (by omega)) false
theorem Good.natT {xs : List Nat} (h : xs.length ≤ 1000) : Good 1 (natT xs) := .tup (fun d hd => by
  obtain ⟨x, _, e⟩ := List.mem_map.mp hd
  subst e
  exact .int _) (by rw [List.length_map]; exact h)
theorem Good.ints {α : Type} {f : α → Int} {xs : List α} (h : xs.length ≤ 1000) : Good 1 (.tuple (xs.map fun x => .int (f x))) := .tup (fun d hd => by
  obtain ⟨x, _, e⟩ := List.mem_map.mp hd
  subst e
  exact .int _) (by rw [List.length_map]; exact h)
theorem Good.up {k : Nat} {d : D} (h : Good k d) : Good (k + 1) d := by
  induction h with
  | int i => exact .int i
  | non => exact .non
  | bl b => exact .bl b
  | tup _ hl ih => exact .tup ih hl
  | lst _ hl ih => exact .lst ih hl
theorem Good.t2 {k : Nat} {a b : D} (h1 : Good k a) (h2 : Good k b) : Good (k + 1) (.tuple [a, b]) := .tup (fun d hd => by
  simp at hd
  rcases hd with q | q
  · rw [q]; exact h1
  · rw [q]; exact h2) (by simp)
end PL
namespace PL
open PySem PySem.Spec PyProof.Rows L2 DL
theorem χr (n : Nat) (w : Nat → Int) (rs : List Road) : oIx (webT n w rs) (.int 0) = some (.tuple ((List.range n).map fun k => .int (w k))) := (rfl)
theorem χs (n : Nat) (w : Nat → Int) (rs : List Road) : oIx (webT n w rs) (.int 1) = some (.tuple (rs.map roadD)) := (rfl)
theorem χt (xs : List Nat) : oLen [natT xs] = some (.int (xs.length : Nat)) := by
  show some (PyData.int ((xs.map fun x => PyData.int (x : Nat)).length : Nat)) = _
  rw [List.length_map]
theorem χu (xs : List Nat) : seqOf (natT xs) = some (xs.map fun x => .int (x : Nat)) := (rfl)
theorem χv (n : Nat) (m : Mat) : seqOf (matT n m) = some ((List.range n).map fun i => .list ((List.range n).map fun j => .int (m i j))) := (rfl)
theorem χw {n i : Nat} (m : Mat) (h : i < n) : oIx (matT n m) (.int (i : Nat)) = some (.list ((List.range n).map fun j => .int (m i j))) := by
  show oIx (.list _) _ = _
  rw [ηL, δM, δN h]
  rfl
theorem w_b64 {n : Nat} {w : Nat → Int} {rs : List Road} (h : WebOk n w rs) : ∀ k, k < n → b64 (w k) = true := fun k hk => b64_of (by have := h.w0 k hk; omega) (by have := h.w100 k hk; omega)
end PL
namespace PL
open PySem PySem.Spec PyProof.Rows L2 DL
end PL
namespace PL
open PySem PySem.Spec PyProof.Rows L2 DL
end PL
namespace PL
open PySem PySem.Spec PyProof.Rows L2 DL
theorem max_near {n : Nat} {m : Mat} {hs : List Nat} (hn : 1 ≤ n) : oMax [.list ((List.range n).map fun i => .int (nearM m hs i))] = some (.int (reachM n m hs)) := ηb _ _ (by
  intro e
  have := congrArg List.length e
  simp at this
  omega)
end PL
namespace PL
open PySem PySem.Spec PyProof.Rows L2 DL
end PL
namespace PL
open PySem PySem.Spec PyProof.Rows L2 DL
end PL
namespace PL
open PySem PySem.Spec PyProof.Rows L2 DL
end PL
namespace PL
open PySem PySem.Spec PyProof.Rows L2 DL
theorem filt_len {n : Nat} (p : Nat → Bool) (hn : n ≤ 1000) : ((List.range n).filter p).length ≤ 1000 := Nat.le_trans (List.length_filter_le _ _) (by rw [List.length_range]; exact hn)
theorem need_point_ok {n a : Nat} {w : Nat → Int} {rs : List Road} (ha : a < n) : DG.mm_need_point [webT n w rs, .int (a : Nat)] = some .none := by
  have h := is_in_t (x := ((a : Nat) : Int)) (a := 0) (b := ((n : Nat) : Int) - 1) (by omega) (by omega)
  simp only [DG.mm_need_point, run_e, DG.gs_need_point, List.map_append,List.map_cons,List.map_nil,List.length_append,δA,δB,δC,δD,δE,δF,δG,δH,δI,δJ,δK,δL,δM,δN,δO,δP,δQ,δR,δS,δT,δU,δV,δW,δX,δY,δZ,δa,δb,δc,δd,δe,δf,δg,δh,δi,δj,δk,δl,δm,δn,δo,δp,δq,δr,δs,δt,δu,δv,δw,δx,δy,δz,δ0,δ1,δ2,δ3,δ4,δ5,δ6,δ7,δ8,δ9,ζA,ζB,ζC,ζD,ζE,ζF,ζG,ζH,ζI,ζJ,ζK,ζL,ζM,ζN,ζO,ζP,ζQ,ζR,ζS,ζT,ζU,ζV,ζW,ζX,ζY,ζZ,ζa,ζb,ζc,ζd,ζe,ζf,ζg,ζh,ζi,ζj,ζk,ζl,ζm,ζn,ζo,ζp,ζq,ζr,ζs,ζt,ζu,ζv,ζw,ζx,ζy,ζz,ζ0,ζ1,ζ2,ζ3,ζ4,ζ5,ζ6,ζ7,ζ8,ζ9,ηA,ηB,ηC,ηD,ηE,ηF,ηG,ηH,ηI,ηJ,ηK,ηL,ηM,ηN,ηO,ηP,ηQ,ηR,ηS,ηT,ηU,ηV,ηW,ηX,ηY,ηZ,ηa,ηb,ηc,ηd,ηe,ηf,ηg,ηh,ηi,ηj,ηk,ηl,ηm,ηn,ηo,ηp,ηq,ηr,ηs,ηt,ηu,ηv,ηw,ηx,ηy,ηz,η0,η1,η2,η3,η4,η5,η6,η7,η8,η9,ξA,ξB,ξC,ξD,ξE,ξF,ξG,ξH,ξI,ξJ,ξK,ξL,ξM,ξN,ξO,ξP,ξQ,ξR,ξS,ξT,ξU,ξV,ξW,ξX,ξY,ξZ,ξa,ξb,ξc,ξd,ξe,ξf,ξg,ξh,ξi,ξj,ξk,ξl,ξm,ξn,ξo,ξp,ξq,ξr,ξs,ξt,ξu,ξv,ξw,ξx,ξy,ξz,ξ0,ξ1,ξ2,ξ3,ξ4,ξ5,ξ6,ξ7,ξ8,ξ9,χA,χB,χC,χD,χE,χF,χG,χH,χI,χJ,χK,χL,χM,χN,χO,χP,χQ,χR,χS,χT,χU,χV,χW,χX,χY,χZ,χa,χb,χc,χd,χe,χf,χg,χh,χi,χj,χk,χl,χm,χn,χo,χp,χq,χr,χs,χt,χu,χv,χw, ini, h]
end PL
namespace PL
open PySem PySem.Spec PyProof.Rows L2 DL
theorem tab_len (n : Nat) (m : Mat) : oLen [matT n m] = some (.int (n : Nat)) := by
  show some (PyData.int ((((List.range n).map fun i => PyData.list ((List.range n).map fun j => .int (m i j))).length : Nat) : Int)) = _
  rw [List.length_map, List.length_range]
end PL
namespace PL
open PySem PySem.Spec PyProof.Rows L2 DL
end PL
namespace PL
open PySem PySem.Spec PyProof.Rows L2 DL
end PL
namespace PL
open PySem PySem.Spec PyProof.Rows L2 DL
end PL
namespace PL
open PySem PySem.Spec PyProof.Rows L2 DL
end PL
namespace PL
open PySem PySem.Spec PyProof.Rows L2 DL
end PL
namespace PL
open PySem PySem.Spec PyProof.Rows L2 DL
end PL
namespace PL
open PySem PySem.Spec PyProof.Rows L2 DL
end PL
namespace PL
open PySem PySem.Spec PyProof.Rows L2 DL
end PL
namespace PL
open PySem PySem.Spec PyProof.Rows L2 DL
end PL
namespace PL
open PySem PySem.Spec PyProof.Rows L2 DL
end PL
namespace PL
open PySem PySem.Spec PyProof.Rows L2 DL
end PL
namespace PL
open PySem PySem.Spec PyProof.Rows L2 DL
end PL
namespace PL
open PySem PySem.Spec PyProof.Rows L2 DL
end PL
namespace PL
open PySem PySem.Spec PyProof.Rows L2 DL
end PL
namespace PL
open PySem PySem.Spec PyProof.Rows L2 DL
end PL
namespace PL
open PySem PySem.Spec PyProof.Rows L2 DL
end PL
namespace PL
open PySem PySem.Spec PyProof.Rows L2 DL
def nbD (q : Nat × Int) : D := .tuple [.int (q.1 : Nat), .int q.2]
section
variable {n : Nat} {w : Nat → Int} {rs : List Road}
theorem nbrs_snoc (rs : List Road) (e : Road) (u : Nat) : nbrs (rs ++ [e]) u = nbrs rs u ++ ((if e.1 = u then [(e.2.1, e.2.2)] else []) ++ (if e.2.1 = u then [(e.1, e.2.2)] else [])) := by
  unfold nbrs
  rw [List.flatMap_append]
  simp
theorem nbrs_len (u : Nat) : ∀ rs : List Road, (nbrs rs u).length ≤ 2 * rs.length
  | [] => Nat.le_refl _
  | e :: rs => by
    have ih := nbrs_len u rs
    have : nbrs (e :: rs) u = ((if e.1 = u then [(e.2.1, e.2.2)] else []) ++ (if e.2.1 = u then [(e.1, e.2.2)] else [])) ++ nbrs rs u := rfl
    rw [this, List.length_append, List.length_append, List.length_cons]
    split <;> split <;> simp <;> omega
theorem steps_from_ok (h : WebOk n w rs) (u : Nat) : DG.mm_steps_from [webT n w rs, .int (u : Nat)] = some (.list ((isort leK (nbrs rs u)).map nbD)) := by
  have hf := h.web.few
  have hs : oSortedA [.list ((nbrs rs u).map nbD)] = some (.list ((isort leK (nbrs rs u)).map nbD)) := sorted_l (nbrs rs u) (sortOk_prod (by decide) _)
  refine run_ok rfl ?_
  unfold DG.gs_steps_from
  refine PL.wG.nxt (by simp (config := {contextual := true, maxDischargeDepth := 7}) only [List.map_append,List.map_cons,List.map_nil,List.length_append,δA,δB,δC,δD,δE,δF,δG,δH,δI,δJ,δK,δL,δM,δN,δO,δP,δQ,δR,δS,δT,δU,δV,δW,δX,δY,δZ,δa,δb,δc,δd,δe,δf,δg,δh,δi,δj,δk,δl,δm,δn,δo,δp,δq,δr,δs,δt,δu,δv,δw,δx,δy,δz,δ0,δ1,δ2,δ3,δ4,δ5,δ6,δ7,δ8,δ9,ζA,ζB,ζC,ζD,ζE,ζF,ζG,ζH,ζI,ζJ,ζK,ζL,ζM,ζN,ζO,ζP,ζQ,ζR,ζS,ζT,ζU,ζV,ζW,ζX,ζY,ζZ,ζa,ζb,ζc,ζd,ζe,ζf,ζg,ζh,ζi,ζj,ζk,ζl,ζm,ζn,ζo,ζp,ζq,ζr,ζs,ζt,ζu,ζv,ζw,ζx,ζy,ζz,ζ0,ζ1,ζ2,ζ3,ζ4,ζ5,ζ6,ζ7,ζ8,ζ9,ηA,ηB,ηC,ηD,ηE,ηF,ηG,ηH,ηI,ηJ,ηK,ηL,ηM,ηN,ηO,ηP,ηQ,ηR,ηS,ηT,ηU,ηV,ηW,ηX,ηY,ηZ,ηa,ηb,ηc,ηd,ηe,ηf,ηg,ηh,ηi,ηj,ηk,ηl,ηm,ηn,ηo,ηp,ηq,ηr,ηs,ηt,ηu,ηv,ηw,ηx,ηy,ηz,η0,η1,η2,η3,η4,η5,η6,η7,η8,η9,ξA,ξB,ξC,ξD,ξE,ξF,ξG,ξH,ξI,ξJ,ξK,ξL,ξM,ξN,ξO,ξP,ξQ,ξR,ξS,ξT,ξU,ξV,ξW,ξX,ξY,ξZ,ξa,ξb,ξc,ξd,ξe,ξf,ξg,ξh,ξi,ξj,ξk,ξl,ξm,ξn,ξo,ξp,ξq,ξr,ξs,ξt,ξu,ξv,ξw,ξx,ξy,ξz,ξ0,ξ1,ξ2,ξ3,ξ4,ξ5,ξ6,ξ7,ξ8,ξ9,χA,χB,χC,χD,χE,χF,χG,χH,χI,χJ,χK,χL,χM,χN,χO,χP,χQ,χR,χS,χT,χU,χV,χW,χX,χY,χZ,χa,χb,χc,χd,χe,χf,χg,χh,χi,χj,χk,χl,χm,χn,χo,χp,χq,χr,χs,χt,χu,χv,χw, Nat.reduceLeDiff, Nat.reduceSub, ite_self, ini, Nat.zero_le] <;> rfl) ?_
  refine PL.wG.seq (PL.wG.loopS roadD rs (fun ρ0 pre ρ => ∃ x3 x4 x5, ρ = (((ρ0.set 2 (some (.own (.list ((nbrs pre u).map nbD))))).set 3 x3).set 4 x4).set 5 x5) (by simp (config := {contextual := true, maxDischargeDepth := 7}) only [List.map_append,List.map_cons,List.map_nil,List.length_append,δA,δB,δC,δD,δE,δF,δG,δH,δI,δJ,δK,δL,δM,δN,δO,δP,δQ,δR,δS,δT,δU,δV,δW,δX,δY,δZ,δa,δb,δc,δd,δe,δf,δg,δh,δi,δj,δk,δl,δm,δn,δo,δp,δq,δr,δs,δt,δu,δv,δw,δx,δy,δz,δ0,δ1,δ2,δ3,δ4,δ5,δ6,δ7,δ8,δ9,ζA,ζB,ζC,ζD,ζE,ζF,ζG,ζH,ζI,ζJ,ζK,ζL,ζM,ζN,ζO,ζP,ζQ,ζR,ζS,ζT,ζU,ζV,ζW,ζX,ζY,ζZ,ζa,ζb,ζc,ζd,ζe,ζf,ζg,ζh,ζi,ζj,ζk,ζl,ζm,ζn,ζo,ζp,ζq,ζr,ζs,ζt,ζu,ζv,ζw,ζx,ζy,ζz,ζ0,ζ1,ζ2,ζ3,ζ4,ζ5,ζ6,ζ7,ζ8,ζ9,ηA,ηB,ηC,ηD,ηE,ηF,ηG,ηH,ηI,ηJ,ηK,ηL,ηM,ηN,ηO,ηP,ηQ,ηR,ηS,ηT,ηU,ηV,ηW,ηX,ηY,ηZ,ηa,ηb,ηc,ηd,ηe,ηf,ηg,ηh,ηi,ηj,ηk,ηl,ηm,ηn,ηo,ηp,ηq,ηr,ηs,ηt,ηu,ηv,ηw,ηx,ηy,ηz,η0,η1,η2,η3,η4,η5,η6,η7,η8,η9,ξA,ξB,ξC,ξD,ξE,ξF,ξG,ξH,ξI,ξJ,ξK,ξL,ξM,ξN,ξO,ξP,ξQ,ξR,ξS,ξT,ξU,ξV,ξW,ξX,ξY,ξZ,ξa,ξb,ξc,ξd,ξe,ξf,ξg,ξh,ξi,ξj,ξk,ξl,ξm,ξn,ξo,ξp,ξq,ξr,ξs,ξt,ξu,ξv,ξw,ξx,ξy,ξz,ξ0,ξ1,ξ2,ξ3,ξ4,ξ5,ξ6,ξ7,ξ8,ξ9,χA,χB,χC,χD,χE,χF,χG,χH,χI,χJ,χK,χL,χM,χN,χO,χP,χQ,χR,χS,χT,χU,χV,χW,χX,χY,χZ,χa,χb,χc,χd,χe,χf,χg,χh,χi,χj,χk,χl,χm,χn,χo,χp,χq,χr,χs,χt,χu,χv,χw, Nat.reduceLeDiff, Nat.reduceSub, ite_self] <;> rfl) ?_ ?_ ?_)
  · exact ⟨none, none, none, rfl⟩
  · intro pre e post ρ ex ⟨x3, x4, x5, er⟩
    subst er
    have hl := nbrs_len u pre
    have lx := congrArg List.length ex
    simp at lx
    have hlt := h.web.lt e (mem_at ex)
    have hlen : (nbrs pre u).length ≤ 1000 := by omega
    by_cases c1 : e.1 = u
    · have c2 : ¬ e.2.1 = u := by omega
      have d1 : decide (((e.1 : Nat) : Int) = ((u : Nat) : Int)) = true := decide_eq_true (by omega)
      have d2 : decide (((e.2.1 : Nat) : Int) = ((u : Nat) : Int)) = false := decide_eq_false (by omega)
      have ee : (nbrs (pre ++ [e]) u).map nbD = (nbrs pre u).map nbD ++ [.tuple [.int (e.2.1 : Nat), .int e.2.2]] := by
        rw [nbrs_snoc, if_pos c1, if_neg c2, List.append_nil, List.map_append]
        rfl
      refine ⟨_, by simp (config := {contextual := true, maxDischargeDepth := 7}) only [List.map_append,List.map_cons,List.map_nil,List.length_append,δA,δB,δC,δD,δE,δF,δG,δH,δI,δJ,δK,δL,δM,δN,δO,δP,δQ,δR,δS,δT,δU,δV,δW,δX,δY,δZ,δa,δb,δc,δd,δe,δf,δg,δh,δi,δj,δk,δl,δm,δn,δo,δp,δq,δr,δs,δt,δu,δv,δw,δx,δy,δz,δ0,δ1,δ2,δ3,δ4,δ5,δ6,δ7,δ8,δ9,ζA,ζB,ζC,ζD,ζE,ζF,ζG,ζH,ζI,ζJ,ζK,ζL,ζM,ζN,ζO,ζP,ζQ,ζR,ζS,ζT,ζU,ζV,ζW,ζX,ζY,ζZ,ζa,ζb,ζc,ζd,ζe,ζf,ζg,ζh,ζi,ζj,ζk,ζl,ζm,ζn,ζo,ζp,ζq,ζr,ζs,ζt,ζu,ζv,ζw,ζx,ζy,ζz,ζ0,ζ1,ζ2,ζ3,ζ4,ζ5,ζ6,ζ7,ζ8,ζ9,ηA,ηB,ηC,ηD,ηE,ηF,ηG,ηH,ηI,ηJ,ηK,ηL,ηM,ηN,ηO,ηP,ηQ,ηR,ηS,ηT,ηU,ηV,ηW,ηX,ηY,ηZ,ηa,ηb,ηc,ηd,ηe,ηf,ηg,ηh,ηi,ηj,ηk,ηl,ηm,ηn,ηo,ηp,ηq,ηr,ηs,ηt,ηu,ηv,ηw,ηx,ηy,ηz,η0,η1,η2,η3,η4,η5,η6,η7,η8,η9,ξA,ξB,ξC,ξD,ξE,ξF,ξG,ξH,ξI,ξJ,ξK,ξL,ξM,ξN,ξO,ξP,ξQ,ξR,ξS,ξT,ξU,ξV,ξW,ξX,ξY,ξZ,ξa,ξb,ξc,ξd,ξe,ξf,ξg,ξh,ξi,ξj,ξk,ξl,ξm,ξn,ξo,ξp,ξq,ξr,ξs,ξt,ξu,ξv,ξw,ξx,ξy,ξz,ξ0,ξ1,ξ2,ξ3,ξ4,ξ5,ξ6,ξ7,ξ8,ξ9,χA,χB,χC,χD,χE,χF,χG,χH,χI,χJ,χK,χL,χM,χN,χO,χP,χQ,χR,χS,χT,χU,χV,χW,χX,χY,χZ,χa,χb,χc,χd,χe,χf,χg,χh,χi,χj,χk,χl,χm,χn,χo,χp,χq,χr,χs,χt,χu,χv,χw, Nat.reduceLeDiff, Nat.reduceSub, ite_self, roadD, d1, d2, hlen] <;> rfl, PL.wG.fin (by simp (config := {contextual := true, maxDischargeDepth := 7}) only [List.map_append,List.map_cons,List.map_nil,List.length_append,δA,δB,δC,δD,δE,δF,δG,δH,δI,δJ,δK,δL,δM,δN,δO,δP,δQ,δR,δS,δT,δU,δV,δW,δX,δY,δZ,δa,δb,δc,δd,δe,δf,δg,δh,δi,δj,δk,δl,δm,δn,δo,δp,δq,δr,δs,δt,δu,δv,δw,δx,δy,δz,δ0,δ1,δ2,δ3,δ4,δ5,δ6,δ7,δ8,δ9,ζA,ζB,ζC,ζD,ζE,ζF,ζG,ζH,ζI,ζJ,ζK,ζL,ζM,ζN,ζO,ζP,ζQ,ζR,ζS,ζT,ζU,ζV,ζW,ζX,ζY,ζZ,ζa,ζb,ζc,ζd,ζe,ζf,ζg,ζh,ζi,ζj,ζk,ζl,ζm,ζn,ζo,ζp,ζq,ζr,ζs,ζt,ζu,ζv,ζw,ζx,ζy,ζz,ζ0,ζ1,ζ2,ζ3,ζ4,ζ5,ζ6,ζ7,ζ8,ζ9,ηA,ηB,ηC,ηD,ηE,ηF,ηG,ηH,ηI,ηJ,ηK,ηL,ηM,ηN,ηO,ηP,ηQ,ηR,ηS,ηT,ηU,ηV,ηW,ηX,ηY,ηZ,ηa,ηb,ηc,ηd,ηe,ηf,ηg,ηh,ηi,ηj,ηk,ηl,ηm,ηn,ηo,ηp,ηq,ηr,ηs,ηt,ηu,ηv,ηw,ηx,ηy,ηz,η0,η1,η2,η3,η4,η5,η6,η7,η8,η9,ξA,ξB,ξC,ξD,ξE,ξF,ξG,ξH,ξI,ξJ,ξK,ξL,ξM,ξN,ξO,ξP,ξQ,ξR,ξS,ξT,ξU,ξV,ξW,ξX,ξY,ξZ,ξa,ξb,ξc,ξd,ξe,ξf,ξg,ξh,ξi,ξj,ξk,ξl,ξm,ξn,ξo,ξp,ξq,ξr,ξs,ξt,ξu,ξv,ξw,ξx,ξy,ξz,ξ0,ξ1,ξ2,ξ3,ξ4,ξ5,ξ6,ξ7,ξ8,ξ9,χA,χB,χC,χD,χE,χF,χG,χH,χI,χJ,χK,χL,χM,χN,χO,χP,χQ,χR,χS,χT,χU,χV,χW,χX,χY,χZ,χa,χb,χc,χd,χe,χf,χg,χh,χi,χj,χk,χl,χm,χn,χo,χp,χq,χr,χs,χt,χu,χv,χw, Nat.reduceLeDiff, Nat.reduceSub, ite_self, roadD, d1, d2, hlen] <;> rfl) ?_⟩
      exact ⟨_, _, _, (by simp only [List.map_append,List.map_cons,List.map_nil,List.length_append,δA,δB,δC,δD,δE,δF,δG,δH,δI,δJ,δK,δL,δM,δN,δO,δP,δQ,δR,δS,δT,δU,δV,δW,δX,δY,δZ,δa,δb,δc,δd,δe,δf,δg,δh,δi,δj,δk,δl,δm,δn,δo,δp,δq,δr,δs,δt,δu,δv,δw,δx,δy,δz,δ0,δ1,δ2,δ3,δ4,δ5,δ6,δ7,δ8,δ9,ζA,ζB,ζC,ζD,ζE,ζF,ζG,ζH,ζI,ζJ,ζK,ζL,ζM,ζN,ζO,ζP,ζQ,ζR,ζS,ζT,ζU,ζV,ζW,ζX,ζY,ζZ,ζa,ζb,ζc,ζd,ζe,ζf,ζg,ζh,ζi,ζj,ζk,ζl,ζm,ζn,ζo,ζp,ζq,ζr,ζs,ζt,ζu,ζv,ζw,ζx,ζy,ζz,ζ0,ζ1,ζ2,ζ3,ζ4,ζ5,ζ6,ζ7,ζ8,ζ9,ηA,ηB,ηC,ηD,ηE,ηF,ηG,ηH,ηI,ηJ,ηK,ηL,ηM,ηN,ηO,ηP,ηQ,ηR,ηS,ηT,ηU,ηV,ηW,ηX,ηY,ηZ,ηa,ηb,ηc,ηd,ηe,ηf,ηg,ηh,ηi,ηj,ηk,ηl,ηm,ηn,ηo,ηp,ηq,ηr,ηs,ηt,ηu,ηv,ηw,ηx,ηy,ηz,η0,η1,η2,η3,η4,η5,η6,η7,η8,η9,ξA,ξB,ξC,ξD,ξE,ξF,ξG,ξH,ξI,ξJ,ξK,ξL,ξM,ξN,ξO,ξP,ξQ,ξR,ξS,ξT,ξU,ξV,ξW,ξX,ξY,ξZ,ξa,ξb,ξc,ξd,ξe,ξf,ξg,ξh,ξi,ξj,ξk,ξl,ξm,ξn,ξo,ξp,ξq,ξr,ξs,ξt,ξu,ξv,ξw,ξx,ξy,ξz,ξ0,ξ1,ξ2,ξ3,ξ4,ξ5,ξ6,ξ7,ξ8,ξ9,χA,χB,χC,χD,χE,χF,χG,χH,χI,χJ,χK,χL,χM,χN,χO,χP,χQ,χR,χS,χT,χU,χV,χW,χX,χY,χZ,χa,χb,χc,χd,χe,χf,χg,χh,χi,χj,χk,χl,χm,χn,χo,χp,χq,χr,χs,χt,χu,χv,χw, ee] <;> rfl)⟩
    · by_cases c2 : e.2.1 = u
      · have d1 : decide (((e.1 : Nat) : Int) = ((u : Nat) : Int)) = false := decide_eq_false (by omega)
        have d2 : decide (((e.2.1 : Nat) : Int) = ((u : Nat) : Int)) = true := decide_eq_true (by omega)
        have ee : (nbrs (pre ++ [e]) u).map nbD = (nbrs pre u).map nbD ++ [.tuple [.int (e.1 : Nat), .int e.2.2]] := by
          rw [nbrs_snoc, if_neg c1, if_pos c2, List.nil_append, List.map_append]
          rfl
        refine ⟨_, by simp (config := {contextual := true, maxDischargeDepth := 7}) only [List.map_append,List.map_cons,List.map_nil,List.length_append,δA,δB,δC,δD,δE,δF,δG,δH,δI,δJ,δK,δL,δM,δN,δO,δP,δQ,δR,δS,δT,δU,δV,δW,δX,δY,δZ,δa,δb,δc,δd,δe,δf,δg,δh,δi,δj,δk,δl,δm,δn,δo,δp,δq,δr,δs,δt,δu,δv,δw,δx,δy,δz,δ0,δ1,δ2,δ3,δ4,δ5,δ6,δ7,δ8,δ9,ζA,ζB,ζC,ζD,ζE,ζF,ζG,ζH,ζI,ζJ,ζK,ζL,ζM,ζN,ζO,ζP,ζQ,ζR,ζS,ζT,ζU,ζV,ζW,ζX,ζY,ζZ,ζa,ζb,ζc,ζd,ζe,ζf,ζg,ζh,ζi,ζj,ζk,ζl,ζm,ζn,ζo,ζp,ζq,ζr,ζs,ζt,ζu,ζv,ζw,ζx,ζy,ζz,ζ0,ζ1,ζ2,ζ3,ζ4,ζ5,ζ6,ζ7,ζ8,ζ9,ηA,ηB,ηC,ηD,ηE,ηF,ηG,ηH,ηI,ηJ,ηK,ηL,ηM,ηN,ηO,ηP,ηQ,ηR,ηS,ηT,ηU,ηV,ηW,ηX,ηY,ηZ,ηa,ηb,ηc,ηd,ηe,ηf,ηg,ηh,ηi,ηj,ηk,ηl,ηm,ηn,ηo,ηp,ηq,ηr,ηs,ηt,ηu,ηv,ηw,ηx,ηy,ηz,η0,η1,η2,η3,η4,η5,η6,η7,η8,η9,ξA,ξB,ξC,ξD,ξE,ξF,ξG,ξH,ξI,ξJ,ξK,ξL,ξM,ξN,ξO,ξP,ξQ,ξR,ξS,ξT,ξU,ξV,ξW,ξX,ξY,ξZ,ξa,ξb,ξc,ξd,ξe,ξf,ξg,ξh,ξi,ξj,ξk,ξl,ξm,ξn,ξo,ξp,ξq,ξr,ξs,ξt,ξu,ξv,ξw,ξx,ξy,ξz,ξ0,ξ1,ξ2,ξ3,ξ4,ξ5,ξ6,ξ7,ξ8,ξ9,χA,χB,χC,χD,χE,χF,χG,χH,χI,χJ,χK,χL,χM,χN,χO,χP,χQ,χR,χS,χT,χU,χV,χW,χX,χY,χZ,χa,χb,χc,χd,χe,χf,χg,χh,χi,χj,χk,χl,χm,χn,χo,χp,χq,χr,χs,χt,χu,χv,χw, Nat.reduceLeDiff, Nat.reduceSub, ite_self, roadD, d1, d2, hlen] <;> rfl, PL.wG.fin (by simp (config := {contextual := true, maxDischargeDepth := 7}) only [List.map_append,List.map_cons,List.map_nil,List.length_append,δA,δB,δC,δD,δE,δF,δG,δH,δI,δJ,δK,δL,δM,δN,δO,δP,δQ,δR,δS,δT,δU,δV,δW,δX,δY,δZ,δa,δb,δc,δd,δe,δf,δg,δh,δi,δj,δk,δl,δm,δn,δo,δp,δq,δr,δs,δt,δu,δv,δw,δx,δy,δz,δ0,δ1,δ2,δ3,δ4,δ5,δ6,δ7,δ8,δ9,ζA,ζB,ζC,ζD,ζE,ζF,ζG,ζH,ζI,ζJ,ζK,ζL,ζM,ζN,ζO,ζP,ζQ,ζR,ζS,ζT,ζU,ζV,ζW,ζX,ζY,ζZ,ζa,ζb,ζc,ζd,ζe,ζf,ζg,ζh,ζi,ζj,ζk,ζl,ζm,ζn,ζo,ζp,ζq,ζr,ζs,ζt,ζu,ζv,ζw,ζx,ζy,ζz,ζ0,ζ1,ζ2,ζ3,ζ4,ζ5,ζ6,ζ7,ζ8,ζ9,ηA,ηB,ηC,ηD,ηE,ηF,ηG,ηH,ηI,ηJ,ηK,ηL,ηM,ηN,ηO,ηP,ηQ,ηR,ηS,ηT,ηU,ηV,ηW,ηX,ηY,ηZ,ηa,ηb,ηc,ηd,ηe,ηf,ηg,ηh,ηi,ηj,ηk,ηl,ηm,ηn,ηo,ηp,ηq,ηr,ηs,ηt,ηu,ηv,ηw,ηx,ηy,ηz,η0,η1,η2,η3,η4,η5,η6,η7,η8,η9,ξA,ξB,ξC,ξD,ξE,ξF,ξG,ξH,ξI,ξJ,ξK,ξL,ξM,ξN,ξO,ξP,ξQ,ξR,ξS,ξT,ξU,ξV,ξW,ξX,ξY,ξZ,ξa,ξb,ξc,ξd,ξe,ξf,ξg,ξh,ξi,ξj,ξk,ξl,ξm,ξn,ξo,ξp,ξq,ξr,ξs,ξt,ξu,ξv,ξw,ξx,ξy,ξz,ξ0,ξ1,ξ2,ξ3,ξ4,ξ5,ξ6,ξ7,ξ8,ξ9,χA,χB,χC,χD,χE,χF,χG,χH,χI,χJ,χK,χL,χM,χN,χO,χP,χQ,χR,χS,χT,χU,χV,χW,χX,χY,χZ,χa,χb,χc,χd,χe,χf,χg,χh,χi,χj,χk,χl,χm,χn,χo,χp,χq,χr,χs,χt,χu,χv,χw, Nat.reduceLeDiff, Nat.reduceSub, ite_self, roadD, d1, d2, hlen] <;> rfl) ?_⟩
        exact ⟨_, _, _, (by simp only [List.map_append,List.map_cons,List.map_nil,List.length_append,δA,δB,δC,δD,δE,δF,δG,δH,δI,δJ,δK,δL,δM,δN,δO,δP,δQ,δR,δS,δT,δU,δV,δW,δX,δY,δZ,δa,δb,δc,δd,δe,δf,δg,δh,δi,δj,δk,δl,δm,δn,δo,δp,δq,δr,δs,δt,δu,δv,δw,δx,δy,δz,δ0,δ1,δ2,δ3,δ4,δ5,δ6,δ7,δ8,δ9,ζA,ζB,ζC,ζD,ζE,ζF,ζG,ζH,ζI,ζJ,ζK,ζL,ζM,ζN,ζO,ζP,ζQ,ζR,ζS,ζT,ζU,ζV,ζW,ζX,ζY,ζZ,ζa,ζb,ζc,ζd,ζe,ζf,ζg,ζh,ζi,ζj,ζk,ζl,ζm,ζn,ζo,ζp,ζq,ζr,ζs,ζt,ζu,ζv,ζw,ζx,ζy,ζz,ζ0,ζ1,ζ2,ζ3,ζ4,ζ5,ζ6,ζ7,ζ8,ζ9,ηA,ηB,ηC,ηD,ηE,ηF,ηG,ηH,ηI,ηJ,ηK,ηL,ηM,ηN,ηO,ηP,ηQ,ηR,ηS,ηT,ηU,ηV,ηW,ηX,ηY,ηZ,ηa,ηb,ηc,ηd,ηe,ηf,ηg,ηh,ηi,ηj,ηk,ηl,ηm,ηn,ηo,ηp,ηq,ηr,ηs,ηt,ηu,ηv,ηw,ηx,ηy,ηz,η0,η1,η2,η3,η4,η5,η6,η7,η8,η9,ξA,ξB,ξC,ξD,ξE,ξF,ξG,ξH,ξI,ξJ,ξK,ξL,ξM,ξN,ξO,ξP,ξQ,ξR,ξS,ξT,ξU,ξV,ξW,ξX,ξY,ξZ,ξa,ξb,ξc,ξd,ξe,ξf,ξg,ξh,ξi,ξj,ξk,ξl,ξm,ξn,ξo,ξp,ξq,ξr,ξs,ξt,ξu,ξv,ξw,ξx,ξy,ξz,ξ0,ξ1,ξ2,ξ3,ξ4,ξ5,ξ6,ξ7,ξ8,ξ9,χA,χB,χC,χD,χE,χF,χG,χH,χI,χJ,χK,χL,χM,χN,χO,χP,χQ,χR,χS,χT,χU,χV,χW,χX,χY,χZ,χa,χb,χc,χd,χe,χf,χg,χh,χi,χj,χk,χl,χm,χn,χo,χp,χq,χr,χs,χt,χu,χv,χw, ee] <;> rfl)⟩
      · have d1 : decide (((e.1 : Nat) : Int) = ((u : Nat) : Int)) = false := decide_eq_false (by omega)
        have d2 : decide (((e.2.1 : Nat) : Int) = ((u : Nat) : Int)) = false := decide_eq_false (by omega)
        have ee : nbrs (pre ++ [e]) u = nbrs pre u := by
          rw [nbrs_snoc, if_neg c1, if_neg c2, List.append_nil, List.append_nil]
        refine ⟨_, by simp (config := {contextual := true, maxDischargeDepth := 7}) only [List.map_append,List.map_cons,List.map_nil,List.length_append,δA,δB,δC,δD,δE,δF,δG,δH,δI,δJ,δK,δL,δM,δN,δO,δP,δQ,δR,δS,δT,δU,δV,δW,δX,δY,δZ,δa,δb,δc,δd,δe,δf,δg,δh,δi,δj,δk,δl,δm,δn,δo,δp,δq,δr,δs,δt,δu,δv,δw,δx,δy,δz,δ0,δ1,δ2,δ3,δ4,δ5,δ6,δ7,δ8,δ9,ζA,ζB,ζC,ζD,ζE,ζF,ζG,ζH,ζI,ζJ,ζK,ζL,ζM,ζN,ζO,ζP,ζQ,ζR,ζS,ζT,ζU,ζV,ζW,ζX,ζY,ζZ,ζa,ζb,ζc,ζd,ζe,ζf,ζg,ζh,ζi,ζj,ζk,ζl,ζm,ζn,ζo,ζp,ζq,ζr,ζs,ζt,ζu,ζv,ζw,ζx,ζy,ζz,ζ0,ζ1,ζ2,ζ3,ζ4,ζ5,ζ6,ζ7,ζ8,ζ9,ηA,ηB,ηC,ηD,ηE,ηF,ηG,ηH,ηI,ηJ,ηK,ηL,ηM,ηN,ηO,ηP,ηQ,ηR,ηS,ηT,ηU,ηV,ηW,ηX,ηY,ηZ,ηa,ηb,ηc,ηd,ηe,ηf,ηg,ηh,ηi,ηj,ηk,ηl,ηm,ηn,ηo,ηp,ηq,ηr,ηs,ηt,ηu,ηv,ηw,ηx,ηy,ηz,η0,η1,η2,η3,η4,η5,η6,η7,η8,η9,ξA,ξB,ξC,ξD,ξE,ξF,ξG,ξH,ξI,ξJ,ξK,ξL,ξM,ξN,ξO,ξP,ξQ,ξR,ξS,ξT,ξU,ξV,ξW,ξX,ξY,ξZ,ξa,ξb,ξc,ξd,ξe,ξf,ξg,ξh,ξi,ξj,ξk,ξl,ξm,ξn,ξo,ξp,ξq,ξr,ξs,ξt,ξu,ξv,ξw,ξx,ξy,ξz,ξ0,ξ1,ξ2,ξ3,ξ4,ξ5,ξ6,ξ7,ξ8,ξ9,χA,χB,χC,χD,χE,χF,χG,χH,χI,χJ,χK,χL,χM,χN,χO,χP,χQ,χR,χS,χT,χU,χV,χW,χX,χY,χZ,χa,χb,χc,χd,χe,χf,χg,χh,χi,χj,χk,χl,χm,χn,χo,χp,χq,χr,χs,χt,χu,χv,χw, Nat.reduceLeDiff, Nat.reduceSub, ite_self, roadD, d1, d2, hlen] <;> rfl, PL.wG.fin (by simp (config := {contextual := true, maxDischargeDepth := 7}) only [List.map_append,List.map_cons,List.map_nil,List.length_append,δA,δB,δC,δD,δE,δF,δG,δH,δI,δJ,δK,δL,δM,δN,δO,δP,δQ,δR,δS,δT,δU,δV,δW,δX,δY,δZ,δa,δb,δc,δd,δe,δf,δg,δh,δi,δj,δk,δl,δm,δn,δo,δp,δq,δr,δs,δt,δu,δv,δw,δx,δy,δz,δ0,δ1,δ2,δ3,δ4,δ5,δ6,δ7,δ8,δ9,ζA,ζB,ζC,ζD,ζE,ζF,ζG,ζH,ζI,ζJ,ζK,ζL,ζM,ζN,ζO,ζP,ζQ,ζR,ζS,ζT,ζU,ζV,ζW,ζX,ζY,ζZ,ζa,ζb,ζc,ζd,ζe,ζf,ζg,ζh,ζi,ζj,ζk,ζl,ζm,ζn,ζo,ζp,ζq,ζr,ζs,ζt,ζu,ζv,ζw,ζx,ζy,ζz,ζ0,ζ1,ζ2,ζ3,ζ4,ζ5,ζ6,ζ7,ζ8,ζ9,ηA,ηB,ηC,ηD,ηE,ηF,ηG,ηH,ηI,ηJ,ηK,ηL,ηM,ηN,ηO,ηP,ηQ,ηR,ηS,ηT,ηU,ηV,ηW,ηX,ηY,ηZ,ηa,ηb,ηc,ηd,ηe,ηf,ηg,ηh,ηi,ηj,ηk,ηl,ηm,ηn,ηo,ηp,ηq,ηr,ηs,ηt,ηu,ηv,ηw,ηx,ηy,ηz,η0,η1,η2,η3,η4,η5,η6,η7,η8,η9,ξA,ξB,ξC,ξD,ξE,ξF,ξG,ξH,ξI,ξJ,ξK,ξL,ξM,ξN,ξO,ξP,ξQ,ξR,ξS,ξT,ξU,ξV,ξW,ξX,ξY,ξZ,ξa,ξb,ξc,ξd,ξe,ξf,ξg,ξh,ξi,ξj,ξk,ξl,ξm,ξn,ξo,ξp,ξq,ξr,ξs,ξt,ξu,ξv,ξw,ξx,ξy,ξz,ξ0,ξ1,ξ2,ξ3,ξ4,ξ5,ξ6,ξ7,ξ8,ξ9,χA,χB,χC,χD,χE,χF,χG,χH,χI,χJ,χK,χL,χM,χN,χO,χP,χQ,χR,χS,χT,χU,χV,χW,χX,χY,χZ,χa,χb,χc,χd,χe,χf,χg,χh,χi,χj,χk,χl,χm,χn,χo,χp,χq,χr,χs,χt,χu,χv,χw, Nat.reduceLeDiff, Nat.reduceSub, ite_self, roadD, d1, d2, hlen] <;> rfl) ?_⟩
        exact ⟨_, _, _, (by simp only [List.map_append,List.map_cons,List.map_nil,List.length_append,δA,δB,δC,δD,δE,δF,δG,δH,δI,δJ,δK,δL,δM,δN,δO,δP,δQ,δR,δS,δT,δU,δV,δW,δX,δY,δZ,δa,δb,δc,δd,δe,δf,δg,δh,δi,δj,δk,δl,δm,δn,δo,δp,δq,δr,δs,δt,δu,δv,δw,δx,δy,δz,δ0,δ1,δ2,δ3,δ4,δ5,δ6,δ7,δ8,δ9,ζA,ζB,ζC,ζD,ζE,ζF,ζG,ζH,ζI,ζJ,ζK,ζL,ζM,ζN,ζO,ζP,ζQ,ζR,ζS,ζT,ζU,ζV,ζW,ζX,ζY,ζZ,ζa,ζb,ζc,ζd,ζe,ζf,ζg,ζh,ζi,ζj,ζk,ζl,ζm,ζn,ζo,ζp,ζq,ζr,ζs,ζt,ζu,ζv,ζw,ζx,ζy,ζz,ζ0,ζ1,ζ2,ζ3,ζ4,ζ5,ζ6,ζ7,ζ8,ζ9,ηA,ηB,ηC,ηD,ηE,ηF,ηG,ηH,ηI,ηJ,ηK,ηL,ηM,ηN,ηO,ηP,ηQ,ηR,ηS,ηT,ηU,ηV,ηW,ηX,ηY,ηZ,ηa,ηb,ηc,ηd,ηe,ηf,ηg,ηh,ηi,ηj,ηk,ηl,ηm,ηn,ηo,ηp,ηq,ηr,ηs,ηt,ηu,ηv,ηw,ηx,ηy,ηz,η0,η1,η2,η3,η4,η5,η6,η7,η8,η9,ξA,ξB,ξC,ξD,ξE,ξF,ξG,ξH,ξI,ξJ,ξK,ξL,ξM,ξN,ξO,ξP,ξQ,ξR,ξS,ξT,ξU,ξV,ξW,ξX,ξY,ξZ,ξa,ξb,ξc,ξd,ξe,ξf,ξg,ξh,ξi,ξj,ξk,ξl,ξm,ξn,ξo,ξp,ξq,ξr,ξs,ξt,ξu,ξv,ξw,ξx,ξy,ξz,ξ0,ξ1,ξ2,ξ3,ξ4,ξ5,ξ6,ξ7,ξ8,ξ9,χA,χB,χC,χD,χE,χF,χG,χH,χI,χJ,χK,χL,χM,χN,χO,χP,χQ,χR,χS,χT,χU,χV,χW,χX,χY,χZ,χa,χb,χc,χd,χe,χf,χg,χh,χi,χj,χk,χl,χm,χn,χo,χp,χq,χr,χs,χt,χu,χv,χw, ee] <;> rfl)⟩
  · intro ρ ⟨x3, x4, x5, er⟩
    subst er
    exact PL.wG.fin (by simp (config := {contextual := true, maxDischargeDepth := 7}) only [List.map_append,List.map_cons,List.map_nil,List.length_append,δA,δB,δC,δD,δE,δF,δG,δH,δI,δJ,δK,δL,δM,δN,δO,δP,δQ,δR,δS,δT,δU,δV,δW,δX,δY,δZ,δa,δb,δc,δd,δe,δf,δg,δh,δi,δj,δk,δl,δm,δn,δo,δp,δq,δr,δs,δt,δu,δv,δw,δx,δy,δz,δ0,δ1,δ2,δ3,δ4,δ5,δ6,δ7,δ8,δ9,ζA,ζB,ζC,ζD,ζE,ζF,ζG,ζH,ζI,ζJ,ζK,ζL,ζM,ζN,ζO,ζP,ζQ,ζR,ζS,ζT,ζU,ζV,ζW,ζX,ζY,ζZ,ζa,ζb,ζc,ζd,ζe,ζf,ζg,ζh,ζi,ζj,ζk,ζl,ζm,ζn,ζo,ζp,ζq,ζr,ζs,ζt,ζu,ζv,ζw,ζx,ζy,ζz,ζ0,ζ1,ζ2,ζ3,ζ4,ζ5,ζ6,ζ7,ζ8,ζ9,ηA,ηB,ηC,ηD,ηE,ηF,ηG,ηH,ηI,ηJ,ηK,ηL,ηM,ηN,ηO,ηP,ηQ,ηR,ηS,ηT,ηU,ηV,ηW,ηX,ηY,ηZ,ηa,ηb,ηc,ηd,ηe,ηf,ηg,ηh,ηi,ηj,ηk,ηl,ηm,ηn,ηo,ηp,ηq,ηr,ηs,ηt,ηu,ηv,ηw,ηx,ηy,ηz,η0,η1,η2,η3,η4,η5,η6,η7,η8,η9,ξA,ξB,ξC,ξD,ξE,ξF,ξG,ξH,ξI,ξJ,ξK,ξL,ξM,ξN,ξO,ξP,ξQ,ξR,ξS,ξT,ξU,ξV,ξW,ξX,ξY,ξZ,ξa,ξb,ξc,ξd,ξe,ξf,ξg,ξh,ξi,ξj,ξk,ξl,ξm,ξn,ξo,ξp,ξq,ξr,ξs,ξt,ξu,ξv,ξw,ξx,ξy,ξz,ξ0,ξ1,ξ2,ξ3,ξ4,ξ5,ξ6,ξ7,ξ8,ξ9,χA,χB,χC,χD,χE,χF,χG,χH,χI,χJ,χK,χL,χM,χN,χO,χP,χQ,χR,χS,χT,χU,χV,χW,χX,χY,χZ,χa,χb,χc,χd,χe,χf,χg,χh,χi,χj,χk,χl,χm,χn,χo,χp,χq,χr,χs,χt,χu,χv,χw, Nat.reduceLeDiff, Nat.reduceSub, ite_self, hs] <;> rfl) (by exact rfl)
theorem way_in_ok (h : WebOk n w rs) {a b : Nat} (ha : a < n) (hb : b < n) : DG.mm_way_in [webT n w rs, matT n (dist n rs), .int (a : Nat), .int (b : Nat)] = some (natT (wayP n rs a b)) := by
  have hn8 := h.n8
  refine run_ok rfl ?_
  unfold DG.gs_way_in
  refine PL.wG.nxt (by simp (config := {contextual := true, maxDischargeDepth := 7}) only [List.map_append,List.map_cons,List.map_nil,List.length_append,δA,δB,δC,δD,δE,δF,δG,δH,δI,δJ,δK,δL,δM,δN,δO,δP,δQ,δR,δS,δT,δU,δV,δW,δX,δY,δZ,δa,δb,δc,δd,δe,δf,δg,δh,δi,δj,δk,δl,δm,δn,δo,δp,δq,δr,δs,δt,δu,δv,δw,δx,δy,δz,δ0,δ1,δ2,δ3,δ4,δ5,δ6,δ7,δ8,δ9,ζA,ζB,ζC,ζD,ζE,ζF,ζG,ζH,ζI,ζJ,ζK,ζL,ζM,ζN,ζO,ζP,ζQ,ζR,ζS,ζT,ζU,ζV,ζW,ζX,ζY,ζZ,ζa,ζb,ζc,ζd,ζe,ζf,ζg,ζh,ζi,ζj,ζk,ζl,ζm,ζn,ζo,ζp,ζq,ζr,ζs,ζt,ζu,ζv,ζw,ζx,ζy,ζz,ζ0,ζ1,ζ2,ζ3,ζ4,ζ5,ζ6,ζ7,ζ8,ζ9,ηA,ηB,ηC,ηD,ηE,ηF,ηG,ηH,ηI,ηJ,ηK,ηL,ηM,ηN,ηO,ηP,ηQ,ηR,ηS,ηT,ηU,ηV,ηW,ηX,ηY,ηZ,ηa,ηb,ηc,ηd,ηe,ηf,ηg,ηh,ηi,ηj,ηk,ηl,ηm,ηn,ηo,ηp,ηq,ηr,ηs,ηt,ηu,ηv,ηw,ηx,ηy,ηz,η0,η1,η2,η3,η4,η5,η6,η7,η8,η9,ξA,ξB,ξC,ξD,ξE,ξF,ξG,ξH,ξI,ξJ,ξK,ξL,ξM,ξN,ξO,ξP,ξQ,ξR,ξS,ξT,ξU,ξV,ξW,ξX,ξY,ξZ,ξa,ξb,ξc,ξd,ξe,ξf,ξg,ξh,ξi,ξj,ξk,ξl,ξm,ξn,ξo,ξp,ξq,ξr,ξs,ξt,ξu,ξv,ξw,ξx,ξy,ξz,ξ0,ξ1,ξ2,ξ3,ξ4,ξ5,ξ6,ξ7,ξ8,ξ9,χA,χB,χC,χD,χE,χF,χG,χH,χI,χJ,χK,χL,χM,χN,χO,χP,χQ,χR,χS,χT,χU,χV,χW,χX,χY,χZ,χa,χb,χc,χd,χe,χf,χg,χh,χi,χj,χk,χl,χm,χn,χo,χp,χq,χr,χs,χt,χu,χv,χw, Nat.reduceLeDiff, Nat.reduceSub, ite_self, ini] <;> rfl) ?_
  refine wG.seq (wG.whileS (fun ρ0 k ρ => ∃ x5 x6 pre u, ρ = ((ρ0.set 4 (some (.own (.list ((pre.map fun x => .int (x : Nat)) ++ [.int (u : Nat)]))))).set 5 x5).set 6 x6 ∧ u < n ∧ rk n rs b u ≤ k ∧ pre ++ wayP n rs u b = wayP n rs a b) 400 n (by omega) ⟨none, none, [], a, rfl, ha, rk_le b a, rfl⟩ ?_)
  intro k ρ ⟨x5, x6, pre, u, er, hu, hk, hw⟩
  subst er
  have hlast := fun (ds : List D) (d : D) => ixK_last ds d
  by_cases q : u = b
  · have d1 : decide (((u : Nat) : Int) = ((b : Nat) : Int)) = true := decide_eq_true (by omega)
    refine ⟨false, _, by simp only [List.map_append,List.map_cons,List.map_nil,List.length_append,δA,δB,δC,δD,δE,δF,δG,δH,δI,δJ,δK,δL,δM,δN,δO,δP,δQ,δR,δS,δT,δU,δV,δW,δX,δY,δZ,δa,δb,δc,δd,δe,δf,δg,δh,δi,δj,δk,δl,δm,δn,δo,δp,δq,δr,δs,δt,δu,δv,δw,δx,δy,δz,δ0,δ1,δ2,δ3,δ4,δ5,δ6,δ7,δ8,δ9,ζA,ζB,ζC,ζD,ζE,ζF,ζG,ζH,ζI,ζJ,ζK,ζL,ζM,ζN,ζO,ζP,ζQ,ζR,ζS,ζT,ζU,ζV,ζW,ζX,ζY,ζZ,ζa,ζb,ζc,ζd,ζe,ζf,ζg,ζh,ζi,ζj,ζk,ζl,ζm,ζn,ζo,ζp,ζq,ζr,ζs,ζt,ζu,ζv,ζw,ζx,ζy,ζz,ζ0,ζ1,ζ2,ζ3,ζ4,ζ5,ζ6,ζ7,ζ8,ζ9,ηA,ηB,ηC,ηD,ηE,ηF,ηG,ηH,ηI,ηJ,ηK,ηL,ηM,ηN,ηO,ηP,ηQ,ηR,ηS,ηT,ηU,ηV,ηW,ηX,ηY,ηZ,ηa,ηb,ηc,ηd,ηe,ηf,ηg,ηh,ηi,ηj,ηk,ηl,ηm,ηn,ηo,ηp,ηq,ηr,ηs,ηt,ηu,ηv,ηw,ηx,ηy,ηz,η0,η1,η2,η3,η4,η5,η6,η7,η8,η9,ξA,ξB,ξC,ξD,ξE,ξF,ξG,ξH,ξI,ξJ,ξK,ξL,ξM,ξN,ξO,ξP,ξQ,ξR,ξS,ξT,ξU,ξV,ξW,ξX,ξY,ξZ,ξa,ξb,ξc,ξd,ξe,ξf,ξg,ξh,ξi,ξj,ξk,ξl,ξm,ξn,ξo,ξp,ξq,ξr,ξs,ξt,ξu,ξv,ξw,ξx,ξy,ξz,ξ0,ξ1,ξ2,ξ3,ξ4,ξ5,ξ6,ξ7,ξ8,ξ9,χA,χB,χC,χD,χE,χF,χG,χH,χI,χJ,χK,χL,χM,χN,χO,χP,χQ,χR,χS,χT,χU,χV,χW,χX,χY,χZ,χa,χb,χc,χd,χe,χf,χg,χh,χi,χj,χk,χl,χm,χn,χo,χp,χq,χr,χs,χt,χu,χv,χw, hlast, d1, PyData.int] <;> rfl, fun _ => ?_, (fun h => nomatch h)⟩
    have e : (pre.map fun x => PyData.int ((x : Nat) : Int)) ++ [.int (u : Nat)] = (wayP n rs a b).map fun x => .int ((x : Nat) : Int) := by
      rw [← hw, q, wayP_end, List.map_append]
      rfl
    exact PL.wG.fin (by simp (config := {contextual := true, maxDischargeDepth := 7}) only [List.map_append,List.map_cons,List.map_nil,List.length_append,δA,δB,δC,δD,δE,δF,δG,δH,δI,δJ,δK,δL,δM,δN,δO,δP,δQ,δR,δS,δT,δU,δV,δW,δX,δY,δZ,δa,δb,δc,δd,δe,δf,δg,δh,δi,δj,δk,δl,δm,δn,δo,δp,δq,δr,δs,δt,δu,δv,δw,δx,δy,δz,δ0,δ1,δ2,δ3,δ4,δ5,δ6,δ7,δ8,δ9,ζA,ζB,ζC,ζD,ζE,ζF,ζG,ζH,ζI,ζJ,ζK,ζL,ζM,ζN,ζO,ζP,ζQ,ζR,ζS,ζT,ζU,ζV,ζW,ζX,ζY,ζZ,ζa,ζb,ζc,ζd,ζe,ζf,ζg,ζh,ζi,ζj,ζk,ζl,ζm,ζn,ζo,ζp,ζq,ζr,ζs,ζt,ζu,ζv,ζw,ζx,ζy,ζz,ζ0,ζ1,ζ2,ζ3,ζ4,ζ5,ζ6,ζ7,ζ8,ζ9,ηA,ηB,ηC,ηD,ηE,ηF,ηG,ηH,ηI,ηJ,ηK,ηL,ηM,ηN,ηO,ηP,ηQ,ηR,ηS,ηT,ηU,ηV,ηW,ηX,ηY,ηZ,ηa,ηb,ηc,ηd,ηe,ηf,ηg,ηh,ηi,ηj,ηk,ηl,ηm,ηn,ηo,ηp,ηq,ηr,ηs,ηt,ηu,ηv,ηw,ηx,ηy,ηz,η0,η1,η2,η3,η4,η5,η6,η7,η8,η9,ξA,ξB,ξC,ξD,ξE,ξF,ξG,ξH,ξI,ξJ,ξK,ξL,ξM,ξN,ξO,ξP,ξQ,ξR,ξS,ξT,ξU,ξV,ξW,ξX,ξY,ξZ,ξa,ξb,ξc,ξd,ξe,ξf,ξg,ξh,ξi,ξj,ξk,ξl,ξm,ξn,ξo,ξp,ξq,ξr,ξs,ξt,ξu,ξv,ξw,ξx,ξy,ξz,ξ0,ξ1,ξ2,ξ3,ξ4,ξ5,ξ6,ξ7,ξ8,ξ9,χA,χB,χC,χD,χE,χF,χG,χH,χI,χJ,χK,χL,χM,χN,χO,χP,χQ,χR,χS,χT,χU,χV,χW,χX,χY,χZ,χa,χb,χc,χd,χe,χf,χg,χh,χi,χj,χk,χl,χm,χn,χo,χp,χq,χr,χs,χt,χu,χv,χw, Nat.reduceLeDiff, Nat.reduceSub, ite_self, e, natT] <;> rfl) (by exact rfl)
  · have d1 : decide (((u : Nat) : Int) = ((b : Nat) : Int)) = false := decide_eq_false (by omega)
    have hr := rk_nxt h.web hu hb q
    obtain ⟨v1, ⟨l, v2, v3, v4⟩, v5⟩ := nxt_spec h.web hu hb q
    refine ⟨true, _, by simp only [List.map_append,List.map_cons,List.map_nil,List.length_append,δA,δB,δC,δD,δE,δF,δG,δH,δI,δJ,δK,δL,δM,δN,δO,δP,δQ,δR,δS,δT,δU,δV,δW,δX,δY,δZ,δa,δb,δc,δd,δe,δf,δg,δh,δi,δj,δk,δl,δm,δn,δo,δp,δq,δr,δs,δt,δu,δv,δw,δx,δy,δz,δ0,δ1,δ2,δ3,δ4,δ5,δ6,δ7,δ8,δ9,ζA,ζB,ζC,ζD,ζE,ζF,ζG,ζH,ζI,ζJ,ζK,ζL,ζM,ζN,ζO,ζP,ζQ,ζR,ζS,ζT,ζU,ζV,ζW,ζX,ζY,ζZ,ζa,ζb,ζc,ζd,ζe,ζf,ζg,ζh,ζi,ζj,ζk,ζl,ζm,ζn,ζo,ζp,ζq,ζr,ζs,ζt,ζu,ζv,ζw,ζx,ζy,ζz,ζ0,ζ1,ζ2,ζ3,ζ4,ζ5,ζ6,ζ7,ζ8,ζ9,ηA,ηB,ηC,ηD,ηE,ηF,ηG,ηH,ηI,ηJ,ηK,ηL,ηM,ηN,ηO,ηP,ηQ,ηR,ηS,ηT,ηU,ηV,ηW,ηX,ηY,ηZ,ηa,ηb,ηc,ηd,ηe,ηf,ηg,ηh,ηi,ηj,ηk,ηl,ηm,ηn,ηo,ηp,ηq,ηr,ηs,ηt,ηu,ηv,ηw,ηx,ηy,ηz,η0,η1,η2,η3,η4,η5,η6,η7,η8,η9,ξA,ξB,ξC,ξD,ξE,ξF,ξG,ξH,ξI,ξJ,ξK,ξL,ξM,ξN,ξO,ξP,ξQ,ξR,ξS,ξT,ξU,ξV,ξW,ξX,ξY,ξZ,ξa,ξb,ξc,ξd,ξe,ξf,ξg,ξh,ξi,ξj,ξk,ξl,ξm,ξn,ξo,ξp,ξq,ξr,ξs,ξt,ξu,ξv,ξw,ξx,ξy,ξz,ξ0,ξ1,ξ2,ξ3,ξ4,ξ5,ξ6,ξ7,ξ8,ξ9,χA,χB,χC,χD,χE,χF,χG,χH,χI,χJ,χK,χL,χM,χN,χO,χP,χQ,χR,χS,χT,χU,χV,χW,χX,χY,χZ,χa,χb,χc,χd,χe,χf,χg,χh,χi,χj,χk,χl,χm,χn,χo,χp,χq,χr,χs,χt,χu,χv,χw, hlast, d1] <;> rfl, (fun h => nomatch h), fun _ => ⟨k - 1, by omega, ?_⟩⟩
    have e1 := steps_from_ok h u
    have hm : ∀ q : Nat × Int, q ∈ isort leK (nbrs rs u) → q.1 < n := fun q hq => (edge_lt h.web (mem_nbrs.mp ((isort_perm leK _).mem_iff.mp hq))).2.1
    obtain ⟨y, f1, f2, f3, f4⟩ := sorted_first (p := fun q : Nat × Int => decide (q.2 + dist n rs q.1 b = dist n rs u b)) (mem_nbrs.mpr v2) (decide_eq_true v4)
    have ey : y.1 = nxt n rs u b := by
      have g1 := v5 y.1 y.2 (mem_nbrs.mp f2) (of_decide_eq_true f3)
      have g2 := f4 _ (mem_nbrs.mpr v2) (decide_eq_true v4)
      have g3 : ¬ nxt n rs u b < y.1 := fun hlt => by
        have : ltK ((nxt n rs u b, l) : Nat × Int) y = true := by
          show (if nxt n rs u b = y.1 then _ else decide (nxt n rs u b < y.1)) = true
          rw [if_neg (by omega)]
          exact decide_eq_true hlt
        rw [this] at g2
        cases g2
      omega
    have hll : ((isort leK (nbrs rs u)).filter fun q : Nat × Int => decide (q.2 + dist n rs q.1 b = dist n rs u b)).length ≤ 1000 := by
      have g1 := List.length_filter_le (fun q : Nat × Int => decide (q.2 + dist n rs q.1 b = dist n rs u b)) (isort leK (nbrs rs u))
      have g2 := (isort_perm leK (nbrs rs u)).length_eq
      have g3 := nbrs_len u rs
      have g4 := h.web.few
      omega
    have hpl : pre.length ≤ 8 := by
      have g1 := congrArg List.length hw
      have g2 := nodup_len (wayP n rs a b) (List.range n) (wayP_nodup h.web ha hb) fun x hx => List.mem_range.mpr (wayP_mem h.web ha hb x hx).1
      rw [List.length_append] at g1
      rw [List.length_range] at g2
      omega
    have hpl2 : pre.length + (0 + 1) ≤ 1000 := by omega
    refine PL.wG.nxt (by simp (config := {contextual := true, maxDischargeDepth := 7}) only [List.map_append,List.map_cons,List.map_nil,List.length_append,δA,δB,δC,δD,δE,δF,δG,δH,δI,δJ,δK,δL,δM,δN,δO,δP,δQ,δR,δS,δT,δU,δV,δW,δX,δY,δZ,δa,δb,δc,δd,δe,δf,δg,δh,δi,δj,δk,δl,δm,δn,δo,δp,δq,δr,δs,δt,δu,δv,δw,δx,δy,δz,δ0,δ1,δ2,δ3,δ4,δ5,δ6,δ7,δ8,δ9,ζA,ζB,ζC,ζD,ζE,ζF,ζG,ζH,ζI,ζJ,ζK,ζL,ζM,ζN,ζO,ζP,ζQ,ζR,ζS,ζT,ζU,ζV,ζW,ζX,ζY,ζZ,ζa,ζb,ζc,ζd,ζe,ζf,ζg,ζh,ζi,ζj,ζk,ζl,ζm,ζn,ζo,ζp,ζq,ζr,ζs,ζt,ζu,ζv,ζw,ζx,ζy,ζz,ζ0,ζ1,ζ2,ζ3,ζ4,ζ5,ζ6,ζ7,ζ8,ζ9,ηA,ηB,ηC,ηD,ηE,ηF,ηG,ηH,ηI,ηJ,ηK,ηL,ηM,ηN,ηO,ηP,ηQ,ηR,ηS,ηT,ηU,ηV,ηW,ηX,ηY,ηZ,ηa,ηb,ηc,ηd,ηe,ηf,ηg,ηh,ηi,ηj,ηk,ηl,ηm,ηn,ηo,ηp,ηq,ηr,ηs,ηt,ηu,ηv,ηw,ηx,ηy,ηz,η0,η1,η2,η3,η4,η5,η6,η7,η8,η9,ξA,ξB,ξC,ξD,ξE,ξF,ξG,ξH,ξI,ξJ,ξK,ξL,ξM,ξN,ξO,ξP,ξQ,ξR,ξS,ξT,ξU,ξV,ξW,ξX,ξY,ξZ,ξa,ξb,ξc,ξd,ξe,ξf,ξg,ξh,ξi,ξj,ξk,ξl,ξm,ξn,ξo,ξp,ξq,ξr,ξs,ξt,ξu,ξv,ξw,ξx,ξy,ξz,ξ0,ξ1,ξ2,ξ3,ξ4,ξ5,ξ6,ξ7,ξ8,ξ9,χA,χB,χC,χD,χE,χF,χG,χH,χI,χJ,χK,χL,χM,χN,χO,χP,χQ,χR,χS,χT,χU,χV,χW,χX,χY,χZ,χa,χb,χc,χd,χe,χf,χg,χh,χi,χj,χk,χl,χm,χn,χo,χp,χq,χr,χs,χt,χu,χv,χw, Nat.reduceLeDiff, Nat.reduceSub, ite_self, hlast] <;> rfl) ?_
    refine PL.wG.nxt (by simp (config := {contextual := true, maxDischargeDepth := 7}) only [List.map_append,List.map_cons,List.map_nil,List.length_append,δA,δB,δC,δD,δE,δF,δG,δH,δI,δJ,δK,δL,δM,δN,δO,δP,δQ,δR,δS,δT,δU,δV,δW,δX,δY,δZ,δa,δb,δc,δd,δe,δf,δg,δh,δi,δj,δk,δl,δm,δn,δo,δp,δq,δr,δs,δt,δu,δv,δw,δx,δy,δz,δ0,δ1,δ2,δ3,δ4,δ5,δ6,δ7,δ8,δ9,ζA,ζB,ζC,ζD,ζE,ζF,ζG,ζH,ζI,ζJ,ζK,ζL,ζM,ζN,ζO,ζP,ζQ,ζR,ζS,ζT,ζU,ζV,ζW,ζX,ζY,ζZ,ζa,ζb,ζc,ζd,ζe,ζf,ζg,ζh,ζi,ζj,ζk,ζl,ζm,ζn,ζo,ζp,ζq,ζr,ζs,ζt,ζu,ζv,ζw,ζx,ζy,ζz,ζ0,ζ1,ζ2,ζ3,ζ4,ζ5,ζ6,ζ7,ζ8,ζ9,ηA,ηB,ηC,ηD,ηE,ηF,ηG,ηH,ηI,ηJ,ηK,ηL,ηM,ηN,ηO,ηP,ηQ,ηR,ηS,ηT,ηU,ηV,ηW,ηX,ηY,ηZ,ηa,ηb,ηc,ηd,ηe,ηf,ηg,ηh,ηi,ηj,ηk,ηl,ηm,ηn,ηo,ηp,ηq,ηr,ηs,ηt,ηu,ηv,ηw,ηx,ηy,ηz,η0,η1,η2,η3,η4,η5,η6,η7,η8,η9,ξA,ξB,ξC,ξD,ξE,ξF,ξG,ξH,ξI,ξJ,ξK,ξL,ξM,ξN,ξO,ξP,ξQ,ξR,ξS,ξT,ξU,ξV,ξW,ξX,ξY,ξZ,ξa,ξb,ξc,ξd,ξe,ξf,ξg,ξh,ξi,ξj,ξk,ξl,ξm,ξn,ξo,ξp,ξq,ξr,ξs,ξt,ξu,ξv,ξw,ξx,ξy,ξz,ξ0,ξ1,ξ2,ξ3,ξ4,ξ5,ξ6,ξ7,ξ8,ξ9,χA,χB,χC,χD,χE,χF,χG,χH,χI,χJ,χK,χL,χM,χN,χO,χP,χQ,χR,χS,χT,χU,χV,χW,χX,χY,χZ,χa,χb,χc,χd,χe,χf,χg,χh,χi,χj,χk,χl,χm,χn,χo,χp,χq,χr,χs,χt,χu,χv,χw, Nat.reduceLeDiff, Nat.reduceSub, ite_self, e1, nbD, hm, hb, hu, hll] <;> rfl) ?_
    refine PL.wG.fin (by simp (config := {contextual := true, maxDischargeDepth := 7}) only [List.map_append,List.map_cons,List.map_nil,List.length_append,δA,δB,δC,δD,δE,δF,δG,δH,δI,δJ,δK,δL,δM,δN,δO,δP,δQ,δR,δS,δT,δU,δV,δW,δX,δY,δZ,δa,δb,δc,δd,δe,δf,δg,δh,δi,δj,δk,δl,δm,δn,δo,δp,δq,δr,δs,δt,δu,δv,δw,δx,δy,δz,δ0,δ1,δ2,δ3,δ4,δ5,δ6,δ7,δ8,δ9,ζA,ζB,ζC,ζD,ζE,ζF,ζG,ζH,ζI,ζJ,ζK,ζL,ζM,ζN,ζO,ζP,ζQ,ζR,ζS,ζT,ζU,ζV,ζW,ζX,ζY,ζZ,ζa,ζb,ζc,ζd,ζe,ζf,ζg,ζh,ζi,ζj,ζk,ζl,ζm,ζn,ζo,ζp,ζq,ζr,ζs,ζt,ζu,ζv,ζw,ζx,ζy,ζz,ζ0,ζ1,ζ2,ζ3,ζ4,ζ5,ζ6,ζ7,ζ8,ζ9,ηA,ηB,ηC,ηD,ηE,ηF,ηG,ηH,ηI,ηJ,ηK,ηL,ηM,ηN,ηO,ηP,ηQ,ηR,ηS,ηT,ηU,ηV,ηW,ηX,ηY,ηZ,ηa,ηb,ηc,ηd,ηe,ηf,ηg,ηh,ηi,ηj,ηk,ηl,ηm,ηn,ηo,ηp,ηq,ηr,ηs,ηt,ηu,ηv,ηw,ηx,ηy,ηz,η0,η1,η2,η3,η4,η5,η6,η7,η8,η9,ξA,ξB,ξC,ξD,ξE,ξF,ξG,ξH,ξI,ξJ,ξK,ξL,ξM,ξN,ξO,ξP,ξQ,ξR,ξS,ξT,ξU,ξV,ξW,ξX,ξY,ξZ,ξa,ξb,ξc,ξd,ξe,ξf,ξg,ξh,ξi,ξj,ξk,ξl,ξm,ξn,ξo,ξp,ξq,ξr,ξs,ξt,ξu,ξv,ξw,ξx,ξy,ξz,ξ0,ξ1,ξ2,ξ3,ξ4,ξ5,ξ6,ξ7,ξ8,ξ9,χA,χB,χC,χD,χE,χF,χG,χH,χI,χJ,χK,χL,χM,χN,χO,χP,χQ,χR,χS,χT,χU,χV,χW,χX,χY,χZ,χa,χb,χc,χd,χe,χf,χg,χh,χi,χj,χk,χl,χm,χn,χo,χp,χq,χr,χs,χt,χu,χv,χw, Nat.reduceLeDiff, Nat.reduceSub, ite_self, f1, hpl2] <;> rfl) ?_
    exact ⟨_, _, pre ++ [u], nxt n rs u b, (by simp only [List.map_append,List.map_cons,List.map_nil,List.length_append,δA,δB,δC,δD,δE,δF,δG,δH,δI,δJ,δK,δL,δM,δN,δO,δP,δQ,δR,δS,δT,δU,δV,δW,δX,δY,δZ,δa,δb,δc,δd,δe,δf,δg,δh,δi,δj,δk,δl,δm,δn,δo,δp,δq,δr,δs,δt,δu,δv,δw,δx,δy,δz,δ0,δ1,δ2,δ3,δ4,δ5,δ6,δ7,δ8,δ9,ζA,ζB,ζC,ζD,ζE,ζF,ζG,ζH,ζI,ζJ,ζK,ζL,ζM,ζN,ζO,ζP,ζQ,ζR,ζS,ζT,ζU,ζV,ζW,ζX,ζY,ζZ,ζa,ζb,ζc,ζd,ζe,ζf,ζg,ζh,ζi,ζj,ζk,ζl,ζm,ζn,ζo,ζp,ζq,ζr,ζs,ζt,ζu,ζv,ζw,ζx,ζy,ζz,ζ0,ζ1,ζ2,ζ3,ζ4,ζ5,ζ6,ζ7,ζ8,ζ9,ηA,ηB,ηC,ηD,ηE,ηF,ηG,ηH,ηI,ηJ,ηK,ηL,ηM,ηN,ηO,ηP,ηQ,ηR,ηS,ηT,ηU,ηV,ηW,ηX,ηY,ηZ,ηa,ηb,ηc,ηd,ηe,ηf,ηg,ηh,ηi,ηj,ηk,ηl,ηm,ηn,ηo,ηp,ηq,ηr,ηs,ηt,ηu,ηv,ηw,ηx,ηy,ηz,η0,η1,η2,η3,η4,η5,η6,η7,η8,η9,ξA,ξB,ξC,ξD,ξE,ξF,ξG,ξH,ξI,ξJ,ξK,ξL,ξM,ξN,ξO,ξP,ξQ,ξR,ξS,ξT,ξU,ξV,ξW,ξX,ξY,ξZ,ξa,ξb,ξc,ξd,ξe,ξf,ξg,ξh,ξi,ξj,ξk,ξl,ξm,ξn,ξo,ξp,ξq,ξr,ξs,ξt,ξu,ξv,ξw,ξx,ξy,ξz,ξ0,ξ1,ξ2,ξ3,ξ4,ξ5,ξ6,ξ7,ξ8,ξ9,χA,χB,χC,χD,χE,χF,χG,χH,χI,χJ,χK,χL,χM,χN,χO,χP,χQ,χR,χS,χT,χU,χV,χW,χX,χY,χZ,χa,χb,χc,χd,χe,χf,χg,χh,χi,χj,χk,χl,χm,χn,χo,χp,χq,χr,χs,χt,χu,χv,χw, ← ey] <;> rfl), v1, by omega, by rw [List.append_assoc, ← hw, wayP_step h.web hu hb q]; rfl⟩
end
end PL
namespace PL
open PySem PySem.Spec PyProof.Rows L2 DL
section
variable {n : Nat} {w : Nat → Int} {rs : List Road}
/-- a longest pair, the least one -/
structure LongOk (n : Nat) (m : Mat) (p q : Nat) : Prop where
  lt : p < q
  ltn : q < n
  le : ∀ i j, i < j → j < n → m i j ≤ m p q
  least : ∀ i j, i < j → j < n → m i j = m p q → p < i ∨ (p = i ∧ q ≤ j)
theorem LongOk.all (w : Web n rs) {p q : Nat} (h : LongOk n (dist n rs) p q) : ∀ i j, i < n → j < n → dist n rs i j ≤ dist n rs p q := fun i j hi hj => by
  have h1 := dist_sym w i j
  have h2 := (dist_zero w).diag i
  have h3 := (dist_zero w).nn p q
  rcases Nat.lt_trichotomy i j with c | c | c
  · exact h.le i j c hj
  · rw [← c, h2]
    exact h3
  · have := h.le j i c hi
    omega
theorem need_tree_ok (h : WebOk n w rs) (ht : rs.length + 1 = n) : DG.mm_need_tree [webT n w rs] = some .none := by
  have e1 := need_web_ok h
  have c : decide (((rs.length : Nat) : Int) = ((n : Nat) : Int) - 1) = true := decide_eq_true (by omega)
  simp (config := {contextual := true, maxDischargeDepth := 7}) only [List.map_append,List.map_cons,List.map_nil,List.length_append,δA,δB,δC,δD,δE,δF,δG,δH,δI,δJ,δK,δL,δM,δN,δO,δP,δQ,δR,δS,δT,δU,δV,δW,δX,δY,δZ,δa,δb,δc,δd,δe,δf,δg,δh,δi,δj,δk,δl,δm,δn,δo,δp,δq,δr,δs,δt,δu,δv,δw,δx,δy,δz,δ0,δ1,δ2,δ3,δ4,δ5,δ6,δ7,δ8,δ9,ζA,ζB,ζC,ζD,ζE,ζF,ζG,ζH,ζI,ζJ,ζK,ζL,ζM,ζN,ζO,ζP,ζQ,ζR,ζS,ζT,ζU,ζV,ζW,ζX,ζY,ζZ,ζa,ζb,ζc,ζd,ζe,ζf,ζg,ζh,ζi,ζj,ζk,ζl,ζm,ζn,ζo,ζp,ζq,ζr,ζs,ζt,ζu,ζv,ζw,ζx,ζy,ζz,ζ0,ζ1,ζ2,ζ3,ζ4,ζ5,ζ6,ζ7,ζ8,ζ9,ηA,ηB,ηC,ηD,ηE,ηF,ηG,ηH,ηI,ηJ,ηK,ηL,ηM,ηN,ηO,ηP,ηQ,ηR,ηS,ηT,ηU,ηV,ηW,ηX,ηY,ηZ,ηa,ηb,ηc,ηd,ηe,ηf,ηg,ηh,ηi,ηj,ηk,ηl,ηm,ηn,ηo,ηp,ηq,ηr,ηs,ηt,ηu,ηv,ηw,ηx,ηy,ηz,η0,η1,η2,η3,η4,η5,η6,η7,η8,η9,ξA,ξB,ξC,ξD,ξE,ξF,ξG,ξH,ξI,ξJ,ξK,ξL,ξM,ξN,ξO,ξP,ξQ,ξR,ξS,ξT,ξU,ξV,ξW,ξX,ξY,ξZ,ξa,ξb,ξc,ξd,ξe,ξf,ξg,ξh,ξi,ξj,ξk,ξl,ξm,ξn,ξo,ξp,ξq,ξr,ξs,ξt,ξu,ξv,ξw,ξx,ξy,ξz,ξ0,ξ1,ξ2,ξ3,ξ4,ξ5,ξ6,ξ7,ξ8,ξ9,χA,χB,χC,χD,χE,χF,χG,χH,χI,χJ,χK,χL,χM,χN,χO,χP,χQ,χR,χS,χT,χU,χV,χW,χX,χY,χZ,χa,χb,χc,χd,χe,χf,χg,χh,χi,χj,χk,χl,χm,χn,χo,χp,χq,χr,χs,χt,χu,χv,χw, Nat.reduceLeDiff, Nat.reduceSub, ite_self, DG.mm_need_tree, run_e, DG.gs_need_tree, ini, e1, c]
theorem web_many (w : Web n rs) : n ≤ rs.length + 1 := by
  have := nodup_len ((List.range (n - 1)).map (· + 1)) (rs.map fun e => e.2.1) (by
    rw [List.nodup_iff_pairwise_ne, List.pairwise_map]
    exact (List.nodup_iff_pairwise_ne.mp List.nodup_range).imp fun h => by omega) (fun x hx => by
    obtain ⟨a, ha, e⟩ := List.mem_map.mp hx
    have := List.mem_range.mp ha
    obtain ⟨r, hr, q⟩ := w.tree x (by omega) (by omega)
    exact List.mem_map.mpr ⟨r, hr, q⟩)
  rw [List.length_map, List.length_map, List.length_range] at this
  omega
theorem tree_ok {ns : List Int} {ds : List D} (h : RowS ns ds) {most : Nat} (hm2 : 2 ≤ most) (hm : most ≤ 8) : ∃ (n : Nat) (w : Nat → Int) (rs : List Road) (ds' : List D), DG.mm__law_tree ds [.int (most : Nat)] = some (webT n w rs, ds') ∧ WebOk n w rs ∧ n ≤ most ∧ rs.length + 1 = n ∧ RowS ns ds' := by
  obtain ⟨n, w, rs, ds', e, h1, h2, h3, h4⟩ := web_ok h (most := most) (extra := 0) hm2 hm (by decide)
  have e : DG.mm__law_web ds [.int (most : Nat), .int 0] = some (webT n w rs, ds') := e
  have := web_many h1.web
  have := h1.n2
  refine ⟨n, w, rs, ds', ?_, h1, h2, by omega, h4⟩
  simp (config := {contextual := true, maxDischargeDepth := 7}) only [List.map_append,List.map_cons,List.map_nil,List.length_append,δA,δB,δC,δD,δE,δF,δG,δH,δI,δJ,δK,δL,δM,δN,δO,δP,δQ,δR,δS,δT,δU,δV,δW,δX,δY,δZ,δa,δb,δc,δd,δe,δf,δg,δh,δi,δj,δk,δl,δm,δn,δo,δp,δq,δr,δs,δt,δu,δv,δw,δx,δy,δz,δ0,δ1,δ2,δ3,δ4,δ5,δ6,δ7,δ8,δ9,ζA,ζB,ζC,ζD,ζE,ζF,ζG,ζH,ζI,ζJ,ζK,ζL,ζM,ζN,ζO,ζP,ζQ,ζR,ζS,ζT,ζU,ζV,ζW,ζX,ζY,ζZ,ζa,ζb,ζc,ζd,ζe,ζf,ζg,ζh,ζi,ζj,ζk,ζl,ζm,ζn,ζo,ζp,ζq,ζr,ζs,ζt,ζu,ζv,ζw,ζx,ζy,ζz,ζ0,ζ1,ζ2,ζ3,ζ4,ζ5,ζ6,ζ7,ζ8,ζ9,ηA,ηB,ηC,ηD,ηE,ηF,ηG,ηH,ηI,ηJ,ηK,ηL,ηM,ηN,ηO,ηP,ηQ,ηR,ηS,ηT,ηU,ηV,ηW,ηX,ηY,ηZ,ηa,ηb,ηc,ηd,ηe,ηf,ηg,ηh,ηi,ηj,ηk,ηl,ηm,ηn,ηo,ηp,ηq,ηr,ηs,ηt,ηu,ηv,ηw,ηx,ηy,ηz,η0,η1,η2,η3,η4,η5,η6,η7,η8,η9,ξA,ξB,ξC,ξD,ξE,ξF,ξG,ξH,ξI,ξJ,ξK,ξL,ξM,ξN,ξO,ξP,ξQ,ξR,ξS,ξT,ξU,ξV,ξW,ξX,ξY,ξZ,ξa,ξb,ξc,ξd,ξe,ξf,ξg,ξh,ξi,ξj,ξk,ξl,ξm,ξn,ξo,ξp,ξq,ξr,ξs,ξt,ξu,ξv,ξw,ξx,ξy,ξz,ξ0,ξ1,ξ2,ξ3,ξ4,ξ5,ξ6,ξ7,ξ8,ξ9,χA,χB,χC,χD,χE,χF,χG,χH,χI,χJ,χK,χL,χM,χN,χO,χP,χQ,χR,χS,χT,χU,χV,χW,χX,χY,χZ,χa,χb,χc,χd,χe,χf,χg,χh,χi,χj,χk,χl,χm,χn,χo,χp,χq,χr,χs,χt,χu,χv,χw, Nat.reduceLeDiff, Nat.reduceSub, ite_self, DG.mm__law_tree, runR_e, DG.gs__law_tree, ini, e]
end
end PL
namespace PL
open PySem PySem.Spec PyProof.Rows L2 DL
def endsL (n : Nat) : List (Nat × Nat) := (List.range n).flatMap fun a => (List.range (n - a)).map fun i => (a, i + a)
theorem mem_ends {n a b : Nat} : (a, b) ∈ endsL n ↔ a ≤ b ∧ b < n := by
  unfold endsL
  rw [List.mem_flatMap]
  constructor
  · rintro ⟨x, hx, h⟩
    obtain ⟨i, hi, e⟩ := List.mem_map.mp h
    have := List.mem_range.mp hx
    have := List.mem_range.mp hi
    simp only [Prod.mk.injEq] at e
    omega
  · rintro ⟨h1, h2⟩
    refine ⟨a, List.mem_range.mpr (by omega), List.mem_map.mpr ⟨b - a, List.mem_range.mpr (by omega), ?_⟩⟩
    rw [show b - a + a = b by omega]
theorem ends_len {n : Nat} (h8 : n ≤ 8) : (endsL n).length ≤ 64 := by
  have key : ∀ (f : Nat → List (Nat × Nat)) (l : List Nat), (∀ a ∈ l, (f a).length ≤ 8) → (l.flatMap f).length ≤ 8 * l.length := by
    intro f l
    induction l with
    | nil => exact fun _ => Nat.le_refl _
    | cons a l ih =>
      intro h
      have := h a List.mem_cons_self
      have := ih fun b hb => h b (List.mem_cons_of_mem _ hb)
      rw [List.flatMap_cons, List.length_append, List.length_cons]
      omega
  have := key (fun a => (List.range (n - a)).map fun i => (a, i + a)) (List.range n) fun a _ => by rw [List.length_map, List.length_range]; omega
  rw [List.length_range] at this
  unfold endsL
  omega
def bestE (n : Nat) (f : Nat → Nat → Int) : Int × Nat × Nat := minK ((endsL n).map fun q => (f q.1 q.2, q))
def zD (z : Int × Nat × Nat) : D := .tuple [.int z.1, .tuple [.int (z.2.1 : Nat), .int (z.2.2 : Nat)]]
theorem ends_ne {n : Nat} (hn : 1 ≤ n) : endsL n ≠ [] := List.ne_nil_of_mem (mem_ends.mpr ⟨Nat.le_refl 0, hn⟩)
theorem min_ends {n : Nat} (hn : 1 ≤ n) (f : Nat → Nat → Int) : oMin [.list ((endsL n).map fun q => .tuple [.int (f q.1 q.2), .tuple [.int (q.1 : Nat), .int (q.2 : Nat)]])] = some (zD (bestE n f)) := by
  have := min_d (by decide) ((endsL n).map fun q => (f q.1 q.2, q)) (by simpa using ends_ne hn)
  rw [List.map_map] at this
  exact this
theorem bestE_mem {n : Nat} (hn : 1 ≤ n) (f : Nat → Nat → Int) : ∃ a b, a ≤ b ∧ b < n ∧ bestE n f = (f a b, a, b) := by
  obtain ⟨q, hq, e⟩ := List.mem_map.mp (minK_mem (xs := (endsL n).map fun q => (f q.1 q.2, q)) (by simpa using ends_ne hn))
  have := mem_ends.mp (show (q.1, q.2) ∈ endsL n from hq)
  exact ⟨q.1, q.2, this.1, this.2, e.symm⟩
theorem lt_z {a b : Int × Nat × Nat} : ltK a b = (if a.1 = b.1 then (if a.2.1 = b.2.1 then decide (a.2.2 < b.2.2) else decide (a.2.1 < b.2.1)) else decide (a.1 < b.1)) := rfl
theorem bestE_le {n : Nat} (f : Nat → Nat → Int) {a b : Nat} (h1 : a ≤ b) (h2 : b < n) : (bestE n f).1 ≤ f a b := by
  have := minK_le (List.mem_map.mpr ⟨(a, b), mem_ends.mpr ⟨h1, h2⟩, rfl⟩ : (f a b, a, b) ∈ (endsL n).map fun q => (f q.1 q.2, q))
  rw [lt_z] at this
  unfold bestE
  split at this
  · next h => rw [← h]; exact Int.le_refl _
  · rw [decide_eq_false_iff_not] at this
    dsimp only at this
    omega
section
variable {n : Nat} {w : Nat → Int} {rs : List Road}
theorem all_ends_ok (h8 : n ≤ 8) : DG.mm_all_ends [webT n w rs] = some (.list ((endsL n).map fun q => .tuple [.int (q.1 : Nat), .int (q.2 : Nat)])) := by
  have hn : n ≤ 1000 := by omega
  have hflat : ((List.range n).flatMap fun a => (List.range (n - a)).map fun i => PyData.tuple [.int (a : Nat), .int ((i + a : Nat) : Int)]) = (endsL n).map fun q => .tuple [.int (q.1 : Nat), .int (q.2 : Nat)] := by
    unfold endsL
    rw [List.map_flatMap]
    congr 1
    funext a
    rw [List.map_map]
    rfl
  have hll : (endsL n).length ≤ 1000 := by have := ends_len h8; omega
  have hrg : ∀ a : Nat, a < n → rg2 [.int (a : Nat), .int (n : Nat)] = some ((List.range (n - a)).map fun i => PyData.int ((i + a : Nat) : Int)) := fun a ha => rg2_n (by omega) (by omega)
  simp (config := {contextual := true, maxDischargeDepth := 7}) only [List.map_append,List.map_cons,List.map_nil,List.length_append,δA,δB,δC,δD,δE,δF,δG,δH,δI,δJ,δK,δL,δM,δN,δO,δP,δQ,δR,δS,δT,δU,δV,δW,δX,δY,δZ,δa,δb,δc,δd,δe,δf,δg,δh,δi,δj,δk,δl,δm,δn,δo,δp,δq,δr,δs,δt,δu,δv,δw,δx,δy,δz,δ0,δ1,δ2,δ3,δ4,δ5,δ6,δ7,δ8,δ9,ζA,ζB,ζC,ζD,ζE,ζF,ζG,ζH,ζI,ζJ,ζK,ζL,ζM,ζN,ζO,ζP,ζQ,ζR,ζS,ζT,ζU,ζV,ζW,ζX,ζY,ζZ,ζa,ζb,ζc,ζd,ζe,ζf,ζg,ζh,ζi,ζj,ζk,ζl,ζm,ζn,ζo,ζp,ζq,ζr,ζs,ζt,ζu,ζv,ζw,ζx,ζy,ζz,ζ0,ζ1,ζ2,ζ3,ζ4,ζ5,ζ6,ζ7,ζ8,ζ9,ηA,ηB,ηC,ηD,ηE,ηF,ηG,ηH,ηI,ηJ,ηK,ηL,ηM,ηN,ηO,ηP,ηQ,ηR,ηS,ηT,ηU,ηV,ηW,ηX,ηY,ηZ,ηa,ηb,ηc,ηd,ηe,ηf,ηg,ηh,ηi,ηj,ηk,ηl,ηm,ηn,ηo,ηp,ηq,ηr,ηs,ηt,ηu,ηv,ηw,ηx,ηy,ηz,η0,η1,η2,η3,η4,η5,η6,η7,η8,η9,ξA,ξB,ξC,ξD,ξE,ξF,ξG,ξH,ξI,ξJ,ξK,ξL,ξM,ξN,ξO,ξP,ξQ,ξR,ξS,ξT,ξU,ξV,ξW,ξX,ξY,ξZ,ξa,ξb,ξc,ξd,ξe,ξf,ξg,ξh,ξi,ξj,ξk,ξl,ξm,ξn,ξo,ξp,ξq,ξr,ξs,ξt,ξu,ξv,ξw,ξx,ξy,ξz,ξ0,ξ1,ξ2,ξ3,ξ4,ξ5,ξ6,ξ7,ξ8,ξ9,χA,χB,χC,χD,χE,χF,χG,χH,χI,χJ,χK,χL,χM,χN,χO,χP,χQ,χR,χS,χT,χU,χV,χW,χX,χY,χZ,χa,χb,χc,χd,χe,χf,χg,χh,χi,χj,χk,χl,χm,χn,χo,χp,χq,χr,χs,χt,χu,χv,χw, Nat.reduceLeDiff, Nat.reduceSub, ite_self, DG.mm_all_ends, run_e, DG.gs_all_ends, ini, hn, hrg, hll, hflat]
def waySum (n : Nat) (w : Nat → Int) (rs : List Road) (a b : Nat) : Int := sumM n w (dist n rs) (wayP n rs a b)
def wayReach (n : Nat) (rs : List Road) (a b : Nat) : Int := reachM n (dist n rs) (wayP n rs a b)
theorem way_len (h : WebOk n w rs) {a b : Nat} (ha : a < n) (hb : b < n) : (wayP n rs a b).length ≤ n := by
  have := nodup_len (wayP n rs a b) (List.range n) (wayP_nodup h.web ha hb) fun x hx => List.mem_range.mpr (wayP_mem h.web ha hb x hx).1
  rwa [List.length_range] at this
theorem way_ne (a b : Nat) : wayP n rs a b ≠ [] := by
  obtain ⟨t, e⟩ := wayP_cons (n := n) (rs := rs) a b
  rw [e]
  exact fun q => nomatch q
theorem sum_on_ok (h : WebOk n w rs) {a b : Nat} (ha : a < n) (hb : b < n) : DG.mm_sum_on [webT n w rs, matT n (dist n rs), .int (a : Nat), .int (b : Nat)] = some (.int (waySum n w rs a b)) := by
  have h8 := h.n8
  have hl := way_len h ha hb
  have e1 := way_in_ok h ha hb
  have e2 := sum_in_ok (m := dist n rs) (w := w) (hs := wayP n rs a b) (show n ≤ 1000 by omega) (fun x hx => (wayP_mem h.web ha hb x hx).1) (way_ne a b) (by omega) (w_b64 h)
  have e2 : DG.mm_sum_in [.tuple ((List.range n).map fun k => .int (w k)), matT n (dist n rs), natT (wayP n rs a b)] = some (.int (waySum n w rs a b)) := e2
  simp (config := {contextual := true, maxDischargeDepth := 7}) only [List.map_append,List.map_cons,List.map_nil,List.length_append,δA,δB,δC,δD,δE,δF,δG,δH,δI,δJ,δK,δL,δM,δN,δO,δP,δQ,δR,δS,δT,δU,δV,δW,δX,δY,δZ,δa,δb,δc,δd,δe,δf,δg,δh,δi,δj,δk,δl,δm,δn,δo,δp,δq,δr,δs,δt,δu,δv,δw,δx,δy,δz,δ0,δ1,δ2,δ3,δ4,δ5,δ6,δ7,δ8,δ9,ζA,ζB,ζC,ζD,ζE,ζF,ζG,ζH,ζI,ζJ,ζK,ζL,ζM,ζN,ζO,ζP,ζQ,ζR,ζS,ζT,ζU,ζV,ζW,ζX,ζY,ζZ,ζa,ζb,ζc,ζd,ζe,ζf,ζg,ζh,ζi,ζj,ζk,ζl,ζm,ζn,ζo,ζp,ζq,ζr,ζs,ζt,ζu,ζv,ζw,ζx,ζy,ζz,ζ0,ζ1,ζ2,ζ3,ζ4,ζ5,ζ6,ζ7,ζ8,ζ9,ηA,ηB,ηC,ηD,ηE,ηF,ηG,ηH,ηI,ηJ,ηK,ηL,ηM,ηN,ηO,ηP,ηQ,ηR,ηS,ηT,ηU,ηV,ηW,ηX,ηY,ηZ,ηa,ηb,ηc,ηd,ηe,ηf,ηg,ηh,ηi,ηj,ηk,ηl,ηm,ηn,ηo,ηp,ηq,ηr,ηs,ηt,ηu,ηv,ηw,ηx,ηy,ηz,η0,η1,η2,η3,η4,η5,η6,η7,η8,η9,ξA,ξB,ξC,ξD,ξE,ξF,ξG,ξH,ξI,ξJ,ξK,ξL,ξM,ξN,ξO,ξP,ξQ,ξR,ξS,ξT,ξU,ξV,ξW,ξX,ξY,ξZ,ξa,ξb,ξc,ξd,ξe,ξf,ξg,ξh,ξi,ξj,ξk,ξl,ξm,ξn,ξo,ξp,ξq,ξr,ξs,ξt,ξu,ξv,ξw,ξx,ξy,ξz,ξ0,ξ1,ξ2,ξ3,ξ4,ξ5,ξ6,ξ7,ξ8,ξ9,χA,χB,χC,χD,χE,χF,χG,χH,χI,χJ,χK,χL,χM,χN,χO,χP,χQ,χR,χS,χT,χU,χV,χW,χX,χY,χZ,χa,χb,χc,χd,χe,χf,χg,χh,χi,χj,χk,χl,χm,χn,χo,χp,χq,χr,χs,χt,χu,χv,χw, Nat.reduceLeDiff, Nat.reduceSub, ite_self, DG.mm_sum_on, run_e, DG.gs_sum_on, ini, e1, e2]
theorem reach_on_ok (h : WebOk n w rs) {a b : Nat} (ha : a < n) (hb : b < n) : DG.mm_reach_on [webT n w rs, matT n (dist n rs), .int (a : Nat), .int (b : Nat)] = some (.int (wayReach n rs a b)) := by
  have h8 := h.n8
  have h2 := h.n2
  have hl := way_len h ha hb
  have e1 := way_in_ok h ha hb
  have e2 := near_in_ok (m := dist n rs) (hs := wayP n rs a b) (show n ≤ 1000 by omega) (fun x hx => (wayP_mem h.web ha hb x hx).1) (way_ne a b) (by omega)
  have e3 := max_near (n := n) (m := dist n rs) (hs := wayP n rs a b) (by omega)
  have e3 : oMax [.list ((List.range n).map fun i => .int (nearM (dist n rs) (wayP n rs a b) i))] = some (.int (wayReach n rs a b)) := e3
  simp (config := {contextual := true, maxDischargeDepth := 7}) only [List.map_append,List.map_cons,List.map_nil,List.length_append,δA,δB,δC,δD,δE,δF,δG,δH,δI,δJ,δK,δL,δM,δN,δO,δP,δQ,δR,δS,δT,δU,δV,δW,δX,δY,δZ,δa,δb,δc,δd,δe,δf,δg,δh,δi,δj,δk,δl,δm,δn,δo,δp,δq,δr,δs,δt,δu,δv,δw,δx,δy,δz,δ0,δ1,δ2,δ3,δ4,δ5,δ6,δ7,δ8,δ9,ζA,ζB,ζC,ζD,ζE,ζF,ζG,ζH,ζI,ζJ,ζK,ζL,ζM,ζN,ζO,ζP,ζQ,ζR,ζS,ζT,ζU,ζV,ζW,ζX,ζY,ζZ,ζa,ζb,ζc,ζd,ζe,ζf,ζg,ζh,ζi,ζj,ζk,ζl,ζm,ζn,ζo,ζp,ζq,ζr,ζs,ζt,ζu,ζv,ζw,ζx,ζy,ζz,ζ0,ζ1,ζ2,ζ3,ζ4,ζ5,ζ6,ζ7,ζ8,ζ9,ηA,ηB,ηC,ηD,ηE,ηF,ηG,ηH,ηI,ηJ,ηK,ηL,ηM,ηN,ηO,ηP,ηQ,ηR,ηS,ηT,ηU,ηV,ηW,ηX,ηY,ηZ,ηa,ηb,ηc,ηd,ηe,ηf,ηg,ηh,ηi,ηj,ηk,ηl,ηm,ηn,ηo,ηp,ηq,ηr,ηs,ηt,ηu,ηv,ηw,ηx,ηy,ηz,η0,η1,η2,η3,η4,η5,η6,η7,η8,η9,ξA,ξB,ξC,ξD,ξE,ξF,ξG,ξH,ξI,ξJ,ξK,ξL,ξM,ξN,ξO,ξP,ξQ,ξR,ξS,ξT,ξU,ξV,ξW,ξX,ξY,ξZ,ξa,ξb,ξc,ξd,ξe,ξf,ξg,ξh,ξi,ξj,ξk,ξl,ξm,ξn,ξo,ξp,ξq,ξr,ξs,ξt,ξu,ξv,ξw,ξx,ξy,ξz,ξ0,ξ1,ξ2,ξ3,ξ4,ξ5,ξ6,ξ7,ξ8,ξ9,χA,χB,χC,χD,χE,χF,χG,χH,χI,χJ,χK,χL,χM,χN,χO,χP,χQ,χR,χS,χT,χU,χV,χW,χX,χY,χZ,χa,χb,χc,χd,χe,χf,χg,χh,χi,χj,χk,χl,χm,χn,χo,χp,χq,χr,χs,χt,χu,χv,χw, Nat.reduceLeDiff, Nat.reduceSub, ite_self, DG.mm_reach_on, run_e, DG.gs_reach_on, ini, e1, e2, e3]
theorem need_ends_ok (h : WebOk n w rs) (ht : rs.length + 1 = n) {a b : Nat} (ha : a < n) (hb : b < n) : DG.mm_need_ends [webT n w rs, .int (a : Nat), .int (b : Nat)] = some .none := by
  have e1 := need_tree_ok h ht
  have e2 := fun {a : Nat} (ha : a < n) => need_point_ok (w := w) (rs := rs) ha
  simp (config := {contextual := true, maxDischargeDepth := 7}) only [List.map_append,List.map_cons,List.map_nil,List.length_append,δA,δB,δC,δD,δE,δF,δG,δH,δI,δJ,δK,δL,δM,δN,δO,δP,δQ,δR,δS,δT,δU,δV,δW,δX,δY,δZ,δa,δb,δc,δd,δe,δf,δg,δh,δi,δj,δk,δl,δm,δn,δo,δp,δq,δr,δs,δt,δu,δv,δw,δx,δy,δz,δ0,δ1,δ2,δ3,δ4,δ5,δ6,δ7,δ8,δ9,ζA,ζB,ζC,ζD,ζE,ζF,ζG,ζH,ζI,ζJ,ζK,ζL,ζM,ζN,ζO,ζP,ζQ,ζR,ζS,ζT,ζU,ζV,ζW,ζX,ζY,ζZ,ζa,ζb,ζc,ζd,ζe,ζf,ζg,ζh,ζi,ζj,ζk,ζl,ζm,ζn,ζo,ζp,ζq,ζr,ζs,ζt,ζu,ζv,ζw,ζx,ζy,ζz,ζ0,ζ1,ζ2,ζ3,ζ4,ζ5,ζ6,ζ7,ζ8,ζ9,ηA,ηB,ηC,ηD,ηE,ηF,ηG,ηH,ηI,ηJ,ηK,ηL,ηM,ηN,ηO,ηP,ηQ,ηR,ηS,ηT,ηU,ηV,ηW,ηX,ηY,ηZ,ηa,ηb,ηc,ηd,ηe,ηf,ηg,ηh,ηi,ηj,ηk,ηl,ηm,ηn,ηo,ηp,ηq,ηr,ηs,ηt,ηu,ηv,ηw,ηx,ηy,ηz,η0,η1,η2,η3,η4,η5,η6,η7,η8,η9,ξA,ξB,ξC,ξD,ξE,ξF,ξG,ξH,ξI,ξJ,ξK,ξL,ξM,ξN,ξO,ξP,ξQ,ξR,ξS,ξT,ξU,ξV,ξW,ξX,ξY,ξZ,ξa,ξb,ξc,ξd,ξe,ξf,ξg,ξh,ξi,ξj,ξk,ξl,ξm,ξn,ξo,ξp,ξq,ξr,ξs,ξt,ξu,ξv,ξw,ξx,ξy,ξz,ξ0,ξ1,ξ2,ξ3,ξ4,ξ5,ξ6,ξ7,ξ8,ξ9,χA,χB,χC,χD,χE,χF,χG,χH,χI,χJ,χK,χL,χM,χN,χO,χP,χQ,χR,χS,χT,χU,χV,χW,χX,χY,χZ,χa,χb,χc,χd,χe,χf,χg,χh,χi,χj,χk,χl,χm,χn,χo,χp,χq,χr,χs,χt,χu,χv,χw, Nat.reduceLeDiff, Nat.reduceSub, ite_self, DG.mm_need_ends, run_e, DG.gs_need_ends, ini, e1, e2, ha, hb]
theorem way_sum_ok (h : WebOk n w rs) (ht : rs.length + 1 = n) {a b : Nat} (ha : a < n) (hb : b < n) : DG.mm_way_sum [webT n w rs, .int (a : Nat), .int (b : Nat)] = some (.int (waySum n w rs a b)) := by
  have e1 := need_ends_ok h ht ha hb
  have e2 := table_ok h
  have e3 := sum_on_ok h ha hb
  simp (config := {contextual := true, maxDischargeDepth := 7}) only [List.map_append,List.map_cons,List.map_nil,List.length_append,δA,δB,δC,δD,δE,δF,δG,δH,δI,δJ,δK,δL,δM,δN,δO,δP,δQ,δR,δS,δT,δU,δV,δW,δX,δY,δZ,δa,δb,δc,δd,δe,δf,δg,δh,δi,δj,δk,δl,δm,δn,δo,δp,δq,δr,δs,δt,δu,δv,δw,δx,δy,δz,δ0,δ1,δ2,δ3,δ4,δ5,δ6,δ7,δ8,δ9,ζA,ζB,ζC,ζD,ζE,ζF,ζG,ζH,ζI,ζJ,ζK,ζL,ζM,ζN,ζO,ζP,ζQ,ζR,ζS,ζT,ζU,ζV,ζW,ζX,ζY,ζZ,ζa,ζb,ζc,ζd,ζe,ζf,ζg,ζh,ζi,ζj,ζk,ζl,ζm,ζn,ζo,ζp,ζq,ζr,ζs,ζt,ζu,ζv,ζw,ζx,ζy,ζz,ζ0,ζ1,ζ2,ζ3,ζ4,ζ5,ζ6,ζ7,ζ8,ζ9,ηA,ηB,ηC,ηD,ηE,ηF,ηG,ηH,ηI,ηJ,ηK,ηL,ηM,ηN,ηO,ηP,ηQ,ηR,ηS,ηT,ηU,ηV,ηW,ηX,ηY,ηZ,ηa,ηb,ηc,ηd,ηe,ηf,ηg,ηh,ηi,ηj,ηk,ηl,ηm,ηn,ηo,ηp,ηq,ηr,ηs,ηt,ηu,ηv,ηw,ηx,ηy,ηz,η0,η1,η2,η3,η4,η5,η6,η7,η8,η9,ξA,ξB,ξC,ξD,ξE,ξF,ξG,ξH,ξI,ξJ,ξK,ξL,ξM,ξN,ξO,ξP,ξQ,ξR,ξS,ξT,ξU,ξV,ξW,ξX,ξY,ξZ,ξa,ξb,ξc,ξd,ξe,ξf,ξg,ξh,ξi,ξj,ξk,ξl,ξm,ξn,ξo,ξp,ξq,ξr,ξs,ξt,ξu,ξv,ξw,ξx,ξy,ξz,ξ0,ξ1,ξ2,ξ3,ξ4,ξ5,ξ6,ξ7,ξ8,ξ9,χA,χB,χC,χD,χE,χF,χG,χH,χI,χJ,χK,χL,χM,χN,χO,χP,χQ,χR,χS,χT,χU,χV,χW,χX,χY,χZ,χa,χb,χc,χd,χe,χf,χg,χh,χi,χj,χk,χl,χm,χn,χo,χp,χq,χr,χs,χt,χu,χv,χw, Nat.reduceLeDiff, Nat.reduceSub, ite_self, DG.mm_way_sum, run_e, DG.gs_way_sum, ini, e1, e2, e3]
theorem way_reach_ok (h : WebOk n w rs) (ht : rs.length + 1 = n) {a b : Nat} (ha : a < n) (hb : b < n) : DG.mm_way_reach [webT n w rs, .int (a : Nat), .int (b : Nat)] = some (.int (wayReach n rs a b)) := by
  have e1 := need_ends_ok h ht ha hb
  have e2 := table_ok h
  have e3 := reach_on_ok h ha hb
  simp (config := {contextual := true, maxDischargeDepth := 7}) only [List.map_append,List.map_cons,List.map_nil,List.length_append,δA,δB,δC,δD,δE,δF,δG,δH,δI,δJ,δK,δL,δM,δN,δO,δP,δQ,δR,δS,δT,δU,δV,δW,δX,δY,δZ,δa,δb,δc,δd,δe,δf,δg,δh,δi,δj,δk,δl,δm,δn,δo,δp,δq,δr,δs,δt,δu,δv,δw,δx,δy,δz,δ0,δ1,δ2,δ3,δ4,δ5,δ6,δ7,δ8,δ9,ζA,ζB,ζC,ζD,ζE,ζF,ζG,ζH,ζI,ζJ,ζK,ζL,ζM,ζN,ζO,ζP,ζQ,ζR,ζS,ζT,ζU,ζV,ζW,ζX,ζY,ζZ,ζa,ζb,ζc,ζd,ζe,ζf,ζg,ζh,ζi,ζj,ζk,ζl,ζm,ζn,ζo,ζp,ζq,ζr,ζs,ζt,ζu,ζv,ζw,ζx,ζy,ζz,ζ0,ζ1,ζ2,ζ3,ζ4,ζ5,ζ6,ζ7,ζ8,ζ9,ηA,ηB,ηC,ηD,ηE,ηF,ηG,ηH,ηI,ηJ,ηK,ηL,ηM,ηN,ηO,ηP,ηQ,ηR,ηS,ηT,ηU,ηV,ηW,ηX,ηY,ηZ,ηa,ηb,ηc,ηd,ηe,ηf,ηg,ηh,ηi,ηj,ηk,ηl,ηm,ηn,ηo,ηp,ηq,ηr,ηs,ηt,ηu,ηv,ηw,ηx,ηy,ηz,η0,η1,η2,η3,η4,η5,η6,η7,η8,η9,ξA,ξB,ξC,ξD,ξE,ξF,ξG,ξH,ξI,ξJ,ξK,ξL,ξM,ξN,ξO,ξP,ξQ,ξR,ξS,ξT,ξU,ξV,ξW,ξX,ξY,ξZ,ξa,ξb,ξc,ξd,ξe,ξf,ξg,ξh,ξi,ξj,ξk,ξl,ξm,ξn,ξo,ξp,ξq,ξr,ξs,ξt,ξu,ξv,ξw,ξx,ξy,ξz,ξ0,ξ1,ξ2,ξ3,ξ4,ξ5,ξ6,ξ7,ξ8,ξ9,χA,χB,χC,χD,χE,χF,χG,χH,χI,χJ,χK,χL,χM,χN,χO,χP,χQ,χR,χS,χT,χU,χV,χW,χX,χY,χZ,χa,χb,χc,χd,χe,χf,χg,χh,χi,χj,χk,χl,χm,χn,χo,χp,χq,χr,χs,χt,χu,χv,χw, Nat.reduceLeDiff, Nat.reduceSub, ite_self, DG.mm_way_reach, run_e, DG.gs_way_reach, ini, e1, e2, e3]
theorem core_ok (h : WebOk n w rs) (ht : rs.length + 1 = n) : DG.mm_core [webT n w rs] = some (zD (bestE n (waySum n w rs))) := by
  have h8 := h.n8
  have h2 := h.n2
  have e1 := need_tree_ok h ht
  have e2 := table_ok h
  have e3 := all_ends_ok (w := w) (rs := rs) h8
  have e4 : ∀ q : Nat × Nat, q ∈ endsL n → DG.mm_sum_on [webT n w rs, matT n (dist n rs), .int (q.1 : Nat), .int (q.2 : Nat)] = some (.int (waySum n w rs q.1 q.2)) := fun q hq => by
    have := mem_ends.mp (show (q.1, q.2) ∈ endsL n from hq)
    exact sum_on_ok h (by omega) this.2
  have e5 := min_ends (n := n) (by omega) (waySum n w rs)
  have hll : (endsL n).length ≤ 1000 := by have := ends_len h8; omega
  simp (config := {contextual := true, maxDischargeDepth := 7}) only [List.map_append,List.map_cons,List.map_nil,List.length_append,δA,δB,δC,δD,δE,δF,δG,δH,δI,δJ,δK,δL,δM,δN,δO,δP,δQ,δR,δS,δT,δU,δV,δW,δX,δY,δZ,δa,δb,δc,δd,δe,δf,δg,δh,δi,δj,δk,δl,δm,δn,δo,δp,δq,δr,δs,δt,δu,δv,δw,δx,δy,δz,δ0,δ1,δ2,δ3,δ4,δ5,δ6,δ7,δ8,δ9,ζA,ζB,ζC,ζD,ζE,ζF,ζG,ζH,ζI,ζJ,ζK,ζL,ζM,ζN,ζO,ζP,ζQ,ζR,ζS,ζT,ζU,ζV,ζW,ζX,ζY,ζZ,ζa,ζb,ζc,ζd,ζe,ζf,ζg,ζh,ζi,ζj,ζk,ζl,ζm,ζn,ζo,ζp,ζq,ζr,ζs,ζt,ζu,ζv,ζw,ζx,ζy,ζz,ζ0,ζ1,ζ2,ζ3,ζ4,ζ5,ζ6,ζ7,ζ8,ζ9,ηA,ηB,ηC,ηD,ηE,ηF,ηG,ηH,ηI,ηJ,ηK,ηL,ηM,ηN,ηO,ηP,ηQ,ηR,ηS,ηT,ηU,ηV,ηW,ηX,ηY,ηZ,ηa,ηb,ηc,ηd,ηe,ηf,ηg,ηh,ηi,ηj,ηk,ηl,ηm,ηn,ηo,ηp,ηq,ηr,ηs,ηt,ηu,ηv,ηw,ηx,ηy,ηz,η0,η1,η2,η3,η4,η5,η6,η7,η8,η9,ξA,ξB,ξC,ξD,ξE,ξF,ξG,ξH,ξI,ξJ,ξK,ξL,ξM,ξN,ξO,ξP,ξQ,ξR,ξS,ξT,ξU,ξV,ξW,ξX,ξY,ξZ,ξa,ξb,ξc,ξd,ξe,ξf,ξg,ξh,ξi,ξj,ξk,ξl,ξm,ξn,ξo,ξp,ξq,ξr,ξs,ξt,ξu,ξv,ξw,ξx,ξy,ξz,ξ0,ξ1,ξ2,ξ3,ξ4,ξ5,ξ6,ξ7,ξ8,ξ9,χA,χB,χC,χD,χE,χF,χG,χH,χI,χJ,χK,χL,χM,χN,χO,χP,χQ,χR,χS,χT,χU,χV,χW,χX,χY,χZ,χa,χb,χc,χd,χe,χf,χg,χh,χi,χj,χk,χl,χm,χn,χo,χp,χq,χr,χs,χt,χu,χv,χw, Nat.reduceLeDiff, Nat.reduceSub, ite_self, DG.mm_core, run_e, DG.gs_core, ini, e1, e2, e3, e4, e5, hll]
/-- the law's own ways on trees -/
def onWayL (n : Nat) (m : Mat) (a b : Nat) : List Nat := (List.range n).filter fun k => decide (m a k + m k b = m a b)
theorem on_way_same (h : WebOk n w rs) (ht : rs.length + 1 ≤ n) {a b : Nat} (ha : a < n) (hb : b < n) : ∀ x, x ∈ onWayL n (dist n rs) a b ↔ x ∈ wayP n rs a b := fun x => by
  unfold onWayL
  rw [List.mem_filter, List.mem_range, decide_eq_true_eq]
  exact ⟨fun ⟨h1, h2⟩ => (wayP_tree h.web ht ha hb x h1).mpr h2, fun hx => wayP_mem h.web ha hb x hx⟩
theorem law_on_way_ok (hn : n ≤ 1000) {m : Mat} {a b : Nat} (ha : a < n) (hb : b < n) : DG.mm__law_on_way [matT n m, .int (a : Nat), .int (b : Nat)] = some (natL (onWayL n m a b)) := by
  have hl := filt_len (n := n) (fun k => decide (m a k + m k b = m a b)) hn
  simp (config := {contextual := true, maxDischargeDepth := 7}) only [List.map_append,List.map_cons,List.map_nil,List.length_append,δA,δB,δC,δD,δE,δF,δG,δH,δI,δJ,δK,δL,δM,δN,δO,δP,δQ,δR,δS,δT,δU,δV,δW,δX,δY,δZ,δa,δb,δc,δd,δe,δf,δg,δh,δi,δj,δk,δl,δm,δn,δo,δp,δq,δr,δs,δt,δu,δv,δw,δx,δy,δz,δ0,δ1,δ2,δ3,δ4,δ5,δ6,δ7,δ8,δ9,ζA,ζB,ζC,ζD,ζE,ζF,ζG,ζH,ζI,ζJ,ζK,ζL,ζM,ζN,ζO,ζP,ζQ,ζR,ζS,ζT,ζU,ζV,ζW,ζX,ζY,ζZ,ζa,ζb,ζc,ζd,ζe,ζf,ζg,ζh,ζi,ζj,ζk,ζl,ζm,ζn,ζo,ζp,ζq,ζr,ζs,ζt,ζu,ζv,ζw,ζx,ζy,ζz,ζ0,ζ1,ζ2,ζ3,ζ4,ζ5,ζ6,ζ7,ζ8,ζ9,ηA,ηB,ηC,ηD,ηE,ηF,ηG,ηH,ηI,ηJ,ηK,ηL,ηM,ηN,ηO,ηP,ηQ,ηR,ηS,ηT,ηU,ηV,ηW,ηX,ηY,ηZ,ηa,ηb,ηc,ηd,ηe,ηf,ηg,ηh,ηi,ηj,ηk,ηl,ηm,ηn,ηo,ηp,ηq,ηr,ηs,ηt,ηu,ηv,ηw,ηx,ηy,ηz,η0,η1,η2,η3,η4,η5,η6,η7,η8,η9,ξA,ξB,ξC,ξD,ξE,ξF,ξG,ξH,ξI,ξJ,ξK,ξL,ξM,ξN,ξO,ξP,ξQ,ξR,ξS,ξT,ξU,ξV,ξW,ξX,ξY,ξZ,ξa,ξb,ξc,ξd,ξe,ξf,ξg,ξh,ξi,ξj,ξk,ξl,ξm,ξn,ξo,ξp,ξq,ξr,ξs,ξt,ξu,ξv,ξw,ξx,ξy,ξz,ξ0,ξ1,ξ2,ξ3,ξ4,ξ5,ξ6,ξ7,ξ8,ξ9,χA,χB,χC,χD,χE,χF,χG,χH,χI,χJ,χK,χL,χM,χN,χO,χP,χQ,χR,χS,χT,χU,χV,χW,χX,χY,χZ,χa,χb,χc,χd,χe,χf,χg,χh,χi,χj,χk,χl,χm,χn,χo,χp,χq,χr,χs,χt,χu,χv,χw, Nat.reduceLeDiff, Nat.reduceSub, ite_self, DG.mm__law_on_way, run_e, DG.gs__law_on_way, ini, tab_len, hn, ha, hb, hl, natL, onWayL]
theorem law_near_l {m : Mat} {hs : List Nat} (hn : n ≤ 1000) (h : ∀ x ∈ hs, x < n) (h0 : hs ≠ []) (hl : hs.length ≤ 1000) : DG.mm__law_near [matT n m, natL hs] = some (.list ((List.range n).map fun i => .int (nearM m hs i))) := by
  simp (config := {contextual := true, maxDischargeDepth := 7}) only [List.map_append,List.map_cons,List.map_nil,List.length_append,δA,δB,δC,δD,δE,δF,δG,δH,δI,δJ,δK,δL,δM,δN,δO,δP,δQ,δR,δS,δT,δU,δV,δW,δX,δY,δZ,δa,δb,δc,δd,δe,δf,δg,δh,δi,δj,δk,δl,δm,δn,δo,δp,δq,δr,δs,δt,δu,δv,δw,δx,δy,δz,δ0,δ1,δ2,δ3,δ4,δ5,δ6,δ7,δ8,δ9,ζA,ζB,ζC,ζD,ζE,ζF,ζG,ζH,ζI,ζJ,ζK,ζL,ζM,ζN,ζO,ζP,ζQ,ζR,ζS,ζT,ζU,ζV,ζW,ζX,ζY,ζZ,ζa,ζb,ζc,ζd,ζe,ζf,ζg,ζh,ζi,ζj,ζk,ζl,ζm,ζn,ζo,ζp,ζq,ζr,ζs,ζt,ζu,ζv,ζw,ζx,ζy,ζz,ζ0,ζ1,ζ2,ζ3,ζ4,ζ5,ζ6,ζ7,ζ8,ζ9,ηA,ηB,ηC,ηD,ηE,ηF,ηG,ηH,ηI,ηJ,ηK,ηL,ηM,ηN,ηO,ηP,ηQ,ηR,ηS,ηT,ηU,ηV,ηW,ηX,ηY,ηZ,ηa,ηb,ηc,ηd,ηe,ηf,ηg,ηh,ηi,ηj,ηk,ηl,ηm,ηn,ηo,ηp,ηq,ηr,ηs,ηt,ηu,ηv,ηw,ηx,ηy,ηz,η0,η1,η2,η3,η4,η5,η6,η7,η8,η9,ξA,ξB,ξC,ξD,ξE,ξF,ξG,ξH,ξI,ξJ,ξK,ξL,ξM,ξN,ξO,ξP,ξQ,ξR,ξS,ξT,ξU,ξV,ξW,ξX,ξY,ξZ,ξa,ξb,ξc,ξd,ξe,ξf,ξg,ξh,ξi,ξj,ξk,ξl,ξm,ξn,ξo,ξp,ξq,ξr,ξs,ξt,ξu,ξv,ξw,ξx,ξy,ξz,ξ0,ξ1,ξ2,ξ3,ξ4,ξ5,ξ6,ξ7,ξ8,ξ9,χA,χB,χC,χD,χE,χF,χG,χH,χI,χJ,χK,χL,χM,χN,χO,χP,χQ,χR,χS,χT,χU,χV,χW,χX,χY,χZ,χa,χb,χc,χd,χe,χf,χg,χh,χi,χj,χk,χl,χm,χn,χo,χp,χq,χr,χs,χt,χu,χv,χw, Nat.reduceLeDiff, Nat.reduceSub, ite_self, DG.mm__law_near, run_e, DG.gs__law_near, ini, matT, natL, nearM, h, hn, hl, h0, ne_eq, not_false_eq_true]
end
end PL
namespace PL
open PySem PySem.Spec PyProof.Rows L2 DL
end PL
namespace PL
open PySem PySem.Spec PyProof.Rows L2 DL
end PL
namespace PL
open PySem PySem.Spec PyProof.Rows L2 DL
end PL
namespace PL
open PySem PySem.Spec PyProof.Rows L2 DL
section
variable {n : Nat} {S : Nat → List Nat}
def coupL (A : List Nat) (m : Nat) : List (Nat × Nat) := (List.range m).flatMap fun j => (List.range j).map fun i => (A.getD i 0, A.getD j 0)
theorem coup_len (A : List Nat) : ∀ m, m ≤ 8 → (coupL A m).length ≤ 8 * m
  | 0, _ => Nat.le_refl _
  | m + 1, h => by
    have ih := coup_len A m (by omega)
    unfold coupL at *
    rw [List.range_succ, List.flatMap_append, List.flatMap_singleton, List.length_append, List.length_map, List.length_range]
    omega
open Classical in
end
end PL
namespace PL
open PySem PySem.Spec PyProof.Rows L2 DL
end PL
namespace PL
open PySem PySem.Spec PyProof.Rows L2 DL
end PL
namespace PL
open PySem PySem.Spec PyProof.Rows L2 DL
end PL
namespace PL
open PySem PySem.Spec PyProof.Rows L2 DL
end PL
namespace PL
open PySem PySem.Spec PyProof.Rows L2 DL
end PL
namespace PL
open PySem PySem.Spec PyProof.Rows L2 DL
end PL
namespace PL
open PySem PySem.Spec PyProof.Rows L2 DL
end PL
namespace PL
open PySem PySem.Spec PyProof.Rows L2 DL
end PL
namespace PL
open PySem PySem.Spec PyProof.Rows L2 DL
end PL
namespace PL
open PySem PySem.Spec PyProof.Rows L2 DL
end PL
namespace PL
open PySem PySem.Spec PyProof.Rows L2 DL
end PL
namespace PL
open PySem PySem.Spec PyProof.Rows L2 DL
end PL
namespace PL
open PySem PySem.Spec PyProof.Rows L2 DL
end PL
namespace PL
open PySem PySem.Spec PyProof.Rows L2 DL
end PL
namespace PL
open PySem PySem.Spec PyProof.Rows L2 DL
end PL
namespace PL
open PySem PySem.Spec PyProof.Rows L2 DL
section
variable {n : Nat} {w : Nat → Int} {rs : List Road}
structure Step (n : Nat) (rs : List Road) (a x : Nat) (l : Int) (side : Nat → Prop) : Prop where
  lt : x < n
  edge : Edge rs a x l
  l1 : 1 ≤ l
  near : ∀ k, k < n → side k → dist n rs x k = dist n rs a k + l
  far : ∀ k, k < n → ¬ side k → dist n rs a k = dist n rs x k + l
  cross : ∀ y k, y < n → k < n → side y → ¬ side k → dist n rs y k = dist n rs a y + l + dist n rs x k
  here : side a
  there : ¬ side x
theorem step_to (h : Web n rs) (ht : rs.length + 1 ≤ n) {a t : Nat} (ha : a < n) (hn : t < n) (ne : a ≠ t) : ∃ x l side, Step n rs a x l side ∧ ¬ side t ∧ l + dist n rs x t = dist n rs a t := by
  obtain ⟨v1, ⟨l, v2, v3, v4⟩, _⟩ := nxt_spec h ha hn ne
  obtain ⟨side, s1, s2, s3, s4, s5⟩ := tree_sides h ht v2
  refine ⟨_, l, side, ⟨v1, v2, v3, s1, s2, s3, s4, s5⟩, fun c => ?_, v4⟩
  have := s1 t hn c
  omega
end
end PL
namespace PL
open PySem PySem.Spec PyProof.Rows L2 DL
end PL
namespace PL
open PySem PySem.Spec PyProof.Rows L2 DL
def nbL (rs : List Road) (u : Nat) : List (Nat × Int) := ((rs.filter fun e => decide (e.1 = u)).map fun e => (e.2.1, e.2.2)) ++ ((rs.filter fun e => decide (e.2.1 = u)).map fun e => (e.1, e.2.2))
theorem mem_nbL {rs : List Road} {u x : Nat} {l : Int} : (x, l) ∈ nbL rs u ↔ Edge rs u x l := by
  unfold nbL Edge
  rw [List.mem_append, List.mem_map, List.mem_map]
  constructor
  · rintro (⟨⟨a, b, c⟩, h, e⟩ | ⟨⟨a, b, c⟩, h, e⟩)
    · obtain ⟨h1, h2⟩ := List.mem_filter.mp h
      simp only [Prod.mk.injEq] at e
      have h2 : a = u := of_decide_eq_true h2
      exact .inl (by rw [← h2, ← e.1, ← e.2]; exact h1)
    · obtain ⟨h1, h2⟩ := List.mem_filter.mp h
      simp only [Prod.mk.injEq] at e
      have h2 : b = u := of_decide_eq_true h2
      exact .inr (by rw [← h2, ← e.1, ← e.2]; exact h1)
  · rintro (h | h)
    · exact .inl ⟨_, List.mem_filter.mpr ⟨h, decide_eq_true rfl⟩, rfl⟩
    · exact .inr ⟨_, List.mem_filter.mpr ⟨h, decide_eq_true rfl⟩, rfl⟩
section
variable {n : Nat} {w : Nat → Int} {rs : List Road}
theorem nbL_nodup (h : Web n rs) (u : Nat) : ((nbL rs u).map (·.1)).Nodup := by
  have key : ∀ (l : List Road), (l.map Pair).Nodup → (((l.filter fun e => decide (e.1 = u)).map fun e => (e.2.1, e.2.2)).map fun q : Nat × Int => q.1).Nodup ∧ (((l.filter fun e => decide (e.2.1 = u)).map fun e => (e.1, e.2.2)).map fun q : Nat × Int => q.1).Nodup := by
    intro l
    induction l with
    | nil => exact fun _ => ⟨List.nodup_nil, List.nodup_nil⟩
    | cons f l ih =>
      intro nd
      rw [List.map_cons, List.nodup_cons] at nd
      obtain ⟨i1, i2⟩ := ih nd.2
      rw [List.map_map] at i1 i2
      constructor
      · by_cases c : f.1 = u
        · rw [List.filter_cons, if_pos (decide_eq_true c), List.map_map, List.map_cons, List.nodup_cons]
          refine ⟨fun hm => nd.1 ?_, i1⟩
          obtain ⟨g, hg, e⟩ := List.mem_map.mp hm
          obtain ⟨g1, g2⟩ := List.mem_filter.mp hg
          have g2 : g.1 = u := of_decide_eq_true g2
          have e : g.2.1 = f.2.1 := e
          exact List.mem_map.mpr ⟨g, g1, by unfold Pair; rw [g2, e, c]⟩
        · rw [List.filter_cons, if_neg (by rw [decide_eq_false c]; exact Bool.false_ne_true), List.map_map]
          exact i1
      · by_cases c : f.2.1 = u
        · rw [List.filter_cons, if_pos (decide_eq_true c), List.map_map, List.map_cons, List.nodup_cons]
          refine ⟨fun hm => nd.1 ?_, i2⟩
          obtain ⟨g, hg, e⟩ := List.mem_map.mp hm
          obtain ⟨g1, g2⟩ := List.mem_filter.mp hg
          have g2 : g.2.1 = u := of_decide_eq_true g2
          have e : g.1 = f.1 := e
          exact List.mem_map.mpr ⟨g, g1, by unfold Pair; rw [g2, e, c]⟩
        · rw [List.filter_cons, if_neg (by rw [decide_eq_false c]; exact Bool.false_ne_true), List.map_map]
          exact i2
  obtain ⟨k1, k2⟩ := key rs h.nd
  unfold nbL
  rw [List.map_append]
  refine List.nodup_append.mpr ⟨k1, k2, fun x hx y hy e => ?_⟩
  obtain ⟨q1, hq1, e1⟩ := List.mem_map.mp hx
  obtain ⟨q2, hq2, e2⟩ := List.mem_map.mp hy
  obtain ⟨f1, hf1, g1⟩ := List.mem_map.mp hq1
  obtain ⟨f2, hf2, g2⟩ := List.mem_map.mp hq2
  obtain ⟨a1, b1⟩ := List.mem_filter.mp hf1
  obtain ⟨a2, b2⟩ := List.mem_filter.mp hf2
  have b1 : f1.1 = u := of_decide_eq_true b1
  have b2 : f2.2.1 = u := of_decide_eq_true b2
  have l1 := h.lt f1 a1
  have l2 := h.lt f2 a2
  rw [← g1] at e1
  rw [← g2] at e2
  dsimp only at e1 e2
  omega
theorem law_steps_ok (h : WebOk n w rs) (u : Nat) : DG.mm__law_steps [webT n w rs, .int (u : Nat)] = some (.list ((nbL rs u).map nbD)) := by
  have hf := h.web.few
  have l1 : ∀ p : Road → Bool, (rs.filter p).length ≤ 1000 := fun p => Nat.le_trans (List.length_filter_le _ _) (by omega)
  have d1 : ∀ e : Road, decide (((e.1 : Nat) : Int) = ((u : Nat) : Int)) = decide (e.1 = u) := fun e => decide_eq_decide.mpr (by omega)
  have d2 : ∀ e : Road, decide (((e.2.1 : Nat) : Int) = ((u : Nat) : Int)) = decide (e.2.1 = u) := fun e => decide_eq_decide.mpr (by omega)
  have hc := cat_l ((rs.filter fun e => decide (e.1 = u)).map fun e => PyData.tuple [.int (e.2.1 : Nat), .int e.2.2]) ((rs.filter fun e => decide (e.2.1 = u)).map fun e => PyData.tuple [.int (e.1 : Nat), .int e.2.2]) (by
    have := List.length_filter_le (fun e : Road => decide (e.1 = u)) rs
    have := List.length_filter_le (fun e : Road => decide (e.2.1 = u)) rs
    rw [List.length_map, List.length_map]
    omega)
  have ee : (nbL rs u).map nbD = ((rs.filter fun e => decide (e.1 = u)).map fun e => PyData.tuple [.int (e.2.1 : Nat), .int e.2.2]) ++ ((rs.filter fun e => decide (e.2.1 = u)).map fun e => PyData.tuple [.int (e.1 : Nat), .int e.2.2]) := by
    unfold nbL
    rw [List.map_append, List.map_map, List.map_map]
    rfl
  rw [ee]
  simp (config := {contextual := true, maxDischargeDepth := 7}) only [List.map_append,List.map_cons,List.map_nil,List.length_append,δA,δB,δC,δD,δE,δF,δG,δH,δI,δJ,δK,δL,δM,δN,δO,δP,δQ,δR,δS,δT,δU,δV,δW,δX,δY,δZ,δa,δb,δc,δd,δe,δf,δg,δh,δi,δj,δk,δl,δm,δn,δo,δp,δq,δr,δs,δt,δu,δv,δw,δx,δy,δz,δ0,δ1,δ2,δ3,δ4,δ5,δ6,δ7,δ8,δ9,ζA,ζB,ζC,ζD,ζE,ζF,ζG,ζH,ζI,ζJ,ζK,ζL,ζM,ζN,ζO,ζP,ζQ,ζR,ζS,ζT,ζU,ζV,ζW,ζX,ζY,ζZ,ζa,ζb,ζc,ζd,ζe,ζf,ζg,ζh,ζi,ζj,ζk,ζl,ζm,ζn,ζo,ζp,ζq,ζr,ζs,ζt,ζu,ζv,ζw,ζx,ζy,ζz,ζ0,ζ1,ζ2,ζ3,ζ4,ζ5,ζ6,ζ7,ζ8,ζ9,ηA,ηB,ηC,ηD,ηE,ηF,ηG,ηH,ηI,ηJ,ηK,ηL,ηM,ηN,ηO,ηP,ηQ,ηR,ηS,ηT,ηU,ηV,ηW,ηX,ηY,ηZ,ηa,ηb,ηc,ηd,ηe,ηf,ηg,ηh,ηi,ηj,ηk,ηl,ηm,ηn,ηo,ηp,ηq,ηr,ηs,ηt,ηu,ηv,ηw,ηx,ηy,ηz,η0,η1,η2,η3,η4,η5,η6,η7,η8,η9,ξA,ξB,ξC,ξD,ξE,ξF,ξG,ξH,ξI,ξJ,ξK,ξL,ξM,ξN,ξO,ξP,ξQ,ξR,ξS,ξT,ξU,ξV,ξW,ξX,ξY,ξZ,ξa,ξb,ξc,ξd,ξe,ξf,ξg,ξh,ξi,ξj,ξk,ξl,ξm,ξn,ξo,ξp,ξq,ξr,ξs,ξt,ξu,ξv,ξw,ξx,ξy,ξz,ξ0,ξ1,ξ2,ξ3,ξ4,ξ5,ξ6,ξ7,ξ8,ξ9,χA,χB,χC,χD,χE,χF,χG,χH,χI,χJ,χK,χL,χM,χN,χO,χP,χQ,χR,χS,χT,χU,χV,χW,χX,χY,χZ,χa,χb,χc,χd,χe,χf,χg,χh,χi,χj,χk,χl,χm,χn,χo,χp,χq,χr,χs,χt,χu,χv,χw, Nat.reduceLeDiff, Nat.reduceSub, ite_self, DG.mm__law_steps, run_e, DG.gs__law_steps, ini, roadD, d1, d2, l1, hc]
end
end PL
namespace PL
open PySem PySem.Spec PyProof.Rows L2 DL
end PL
namespace PL
open PySem PySem.Spec PyProof.Rows L2 DL
end PL
namespace PL
open PySem PySem.Spec PyProof.Rows L2 DL
end PL
namespace PL
open PySem PySem.Spec PyProof.Rows L2 DL
end PL
namespace PL
open PySem PySem.Spec PyProof.Rows L2 DL
end PL
namespace PL
open PySem PySem.Spec PyProof.Rows L2 DL
section
variable {n : Nat} {w : Nat → Int} {rs : List Road}
def prsL (P : List Nat) : List (Nat × Nat) := P.flatMap fun a => (P.filter fun b => decide (a < b)).map fun b => (a, b)
theorem mem_prs {P : List Nat} {q : Nat × Nat} : q ∈ prsL P ↔ q.1 ∈ P ∧ q.2 ∈ P ∧ q.1 < q.2 := by
  unfold prsL
  rw [List.mem_flatMap]
  constructor
  · rintro ⟨a, ha, hq⟩
    obtain ⟨b, hb, e⟩ := List.mem_map.mp hq
    obtain ⟨b1, b2⟩ := List.mem_filter.mp hb
    rw [← e]
    exact ⟨ha, b1, of_decide_eq_true b2⟩
  · rintro ⟨h1, h2, h3⟩
    exact ⟨q.1, h1, List.mem_map.mpr ⟨q.2, List.mem_filter.mpr ⟨h2, decide_eq_true h3⟩, rfl⟩⟩
end
end PL
namespace PL
open PySem PySem.Spec PyProof.Rows L2 DL
end PL
namespace PL
open PySem PySem.Spec PyProof.Rows L2 DL
end PL
namespace PL
open PySem PySem.Spec PyProof.Rows L2 DL
end PL
namespace PL
open PySem PySem.Spec PyProof.Rows L2 DL
end PL
namespace PL
open PySem PySem.Spec PyProof.Rows L2 DL
end PL
namespace PL
open PySem PySem.Spec PyProof.Rows L2 DL
end PL
namespace PL
open PySem PySem.Spec PyProof.Rows L2 DL
end PL
namespace PL
open PySem PySem.Spec PyProof.Rows L2 DL
section
variable {n : Nat} {w : Nat → Int} {rs : List Road}
def plR (w : Nat → Int) (m : Mat) (a b : Nat) : Rat := if w a + w b = 0 then 0 else Rat.divInt (w a * w b * m a b) (w a + w b)
abbrev HpS := Rat × Option (Nat × Nat)
def stepHp (w : Nat → Int) (m : Mat) (s : HpS) (q : Nat × Nat) : HpS := if 0 < w q.1 ∧ 0 < w q.2 ∧ s.1 < plR w m q.1 q.2 then (plR w m q.1 q.2, some q) else s
/-- what the fold holds -/
structure HpI (n : Nat) (w : Nat → Int) (m : Mat) (s : HpS) : Prop where
  none : s.2 = Option.none → s.1 = 0
  some : ∀ q, s.2 = Option.some q → s.1 = plR w m q.1 q.2 ∧ q.1 < q.2 ∧ q.2 < n ∧ 0 < w q.1 ∧ 0 < w q.2
theorem HpI.step {m : Mat} {s : HpS} (I : HpI n w m s) {q : Nat × Nat} (h1 : q.1 < q.2) (h2 : q.2 < n) : HpI n w m (stepHp w m s q) := by
  unfold stepHp
  by_cases c : 0 < w q.1 ∧ 0 < w q.2 ∧ s.1 < plR w m q.1 q.2
  · rw [if_pos c]
    exact ⟨fun e => (nomatch e), fun p e => by rw [← Option.some.inj e]; exact ⟨rfl, h1, h2, c.1, c.2.1⟩⟩
  · rw [if_neg c]
    exact I
end
end PL
namespace PL
open PySem PySem.Spec PyProof.Rows L2 DL
end PL
namespace PL
open PySem PySem.Spec PyProof.Rows L2 DL
end PL
namespace PL
open PySem PySem.Spec PyProof.Rows L2 DL
end PL
namespace PL
open PySem PySem.Spec PyProof.Rows L2 DL
section
variable {n : Nat} {p w : Nat → Int} {t : List Nat}
/-- ascending tuples, equal ones allowed -/
def nd (t : List Nat) : Bool := decide (t.Pairwise (· ≤ ·))
end
end PL
namespace PL
open PySem PySem.Spec PyProof.Rows L2 DL
end PL
namespace PL
open PySem PySem.Spec PyProof.Rows L2 DL
section
variable {n : Nat} {p w : Nat → Int}
def cutF (n : Nat) (p : Nat → Int) (a b : Nat) : Nat := ((List.range n).find? fun k => decide (p a + p b < 2 * p k)).getD 0
def gH (hs : List Nat) (i : Nat) : Nat := hs.getD i 0
def edge (n : Nat) (p : Nat → Int) (hs : List Nat) (i : Nat) : Nat := if i = 0 then 0 else if i < hs.length then cutF n p (gH hs (i - 1)) (gH hs i) else n
end
end PL
namespace PL
open PySem PySem.Spec PyProof.Rows L2 DL
end PL
namespace PL
open PySem PySem.Spec PyProof.Rows L2 DL
end PL
namespace PL
open PySem PySem.Spec PyProof.Rows L2 DL
end PL
namespace PL
open PySem PySem.Spec PyProof.Rows L2 DL
end PL
namespace PL
open PySem PySem.Spec PyProof.Rows L2 DL
end PL
namespace PL
open PySem PySem.Spec PyProof.Rows L2 DL
end PL
namespace PL
open PySem PySem.Spec PyProof.Rows L2 DL
end PL
namespace PL
open PySem PySem.Spec PyProof.Rows L2 DL
section
variable {n : Nat} {w : Nat → Int} {rs : List Road}
theorem asc_iff {t : List Nat} : Asc n t ↔ t = ssetN t ∧ ∀ x ∈ t, x < n := by
  constructor
  · intro h
    exact ⟨(ssetN_self h.1).symm, h.2⟩
  · intro h
    exact ⟨by rw [h.1]; exact ssetN_asc _, h.2⟩
instance ascDec (n : Nat) (t : List Nat) : Decidable (Asc n t) := decidable_of_iff _ asc_iff.symm
end
end PL
namespace PL
open PySem PySem.Spec PyProof.Rows L2 DL
end PL
namespace PL
open PySem PySem.Spec PyProof.Rows L2 DL
section
variable {n : Nat} {w : Nat → Int} {rs : List Road}
theorem lenwT : oLen [.tuple ((List.range n).map fun k => PyData.int (w k))] = some (.int (n : Nat)) := by
  show some (PyData.int ((((List.range n).map fun k => PyData.int (w k)).length : Nat) : Int)) = _
  rw [List.length_map, List.length_range]
end
end PL
namespace PL
open PySem PySem.Spec PyProof.Rows L2 DL
end PL
namespace PL
open PySem PySem.Spec PyProof.Rows L2 DL
end PL
namespace PL
open PySem PySem.Spec PyProof.Rows L2 DL
end PL
namespace PL
open PySem PySem.Spec PyProof.Rows L2 DL
end PL
namespace PL
open PySem PySem.Spec PyProof.Rows L2 DL
section
variable {n : Nat} {w : Nat → Int} {rs : List Road}
inductive FwC (n : Nat) (rs : List Road) (b : Nat) : Nat → List Nat → Prop
  | nil : FwC n rs b b [b]
  | step {u v : Nat} {l : Int} {p : List Nat} : Edge rs u v l → l + dist n rs v b = dist n rs u b → FwC n rs b v p → FwC n rs b u (u :: p)
theorem FwC.lt (W : WebZ n rs) {b u : Nat} (hb : b < n) {p : List Nat} (h : FwC n rs b u p) : ∀ x ∈ p, x < n ∧ dist n rs x b ≤ dist n rs u b := by
  induction h with
  | nil => exact fun x hx => by rw [List.mem_singleton.mp hx]; exact ⟨hb, Int.le_refl _⟩
  | @step u v l p a d _ ih =>
    have e := dist_edge0 W a
    intro x hx
    rcases List.mem_cons.mp hx with q | q
    · rw [q]
      exact ⟨e.1, Int.le_refl _⟩
    · have := ih x q
      exact ⟨this.1, by omega⟩
theorem FwC.nd (W : WebZ n rs) {b u : Nat} (hb : b < n) {p : List Nat} (h : FwC n rs b u p) : p.Nodup := by
  induction h with
  | nil => simp
  | @step u v l p a d t ih =>
    have e := dist_edge0 W a
    refine List.nodup_cons.mpr ⟨fun hm => ?_, ih⟩
    have := (t.lt W hb u hm).2
    omega
end
end PL
namespace PL
open PySem PySem.Spec PyProof.Rows L2 DL
section
variable {n : Nat} {w : Nat → Int} {rs : List Road}
def sideR (n : Nat) (rs : List Road) (e : Road) (k : Nat) : Prop := dist n rs k e.2.1 = dist n rs k e.1 + e.2.2
instance (e : Road) (k : Nat) : Decidable (sideR n rs e k) := inferInstanceAs (Decidable (dist n rs k e.2.1 = dist n rs k e.1 + e.2.2))
end
end PL
namespace PL
open PySem PySem.Spec PyProof.Rows L2 DL
end PL
namespace PL
open PySem PySem.Spec PyProof.Rows L2 DL
end PL
namespace PL
open PySem PySem.Spec PyProof.Rows L2 DL
end PL
namespace PL
open PySem PySem.Spec PyProof.Rows L2 DL
end PL
namespace PL
open PySem PySem.Spec PyProof.Rows L2 DL
section
variable {n : Nat} {w : Nat → Int} {rs : List Road}
theorem len_nL35 (xs : List Nat) : oLen [natL xs] = some (.int (xs.length : Nat)) := by
  show some (PyData.int ((((xs.map fun x => PyData.int ((x : Nat) : Int)).length : Nat) : Int))) = _
  rw [List.length_map]
theorem two_sides (h : WebOk n w rs) (ht : rs.length + 1 ≤ n) {a x y : Nat} {l m : Int} {sx sy : Nat → Prop} (X : Step n rs a x l sx) (Y : Step n rs a y m sy) (ha : a < n) (ne : x ≠ y) {k : Nat} (hk : k < n) (ny : ¬ sy k) : sx k := Classical.byContradiction fun nx => by
  have dz := dist_zero h.web
  have yx : sx y := Classical.byContradiction fun c => by
    have f := X.far y Y.lt c
    have d := edge_dist h.web Y.edge
    obtain ⟨sd, t1, t2, t3, t4, t5⟩ := tree_sides h.web ht Y.edge
    have e1 : dist n rs a y = m := by
      have := t2 y Y.lt t5
      rw [dz.diag] at this
      omega
    have e2 : dist n rs a x = l := by
      have := X.far x X.lt X.there
      rw [dz.diag] at this
      omega
    have p := dist_pos h.web X.lt Y.lt ne
    have s : dist n rs x y = dist n rs y x := dist_sym h.web _ _
    have l1 := X.l1
    by_cases q : sd x
    · have := t1 x X.lt q
      omega
    · have := t2 x X.lt q
      omega
  have c := X.cross y k Y.lt hk yx nx
  have f := Y.far k hk ny
  have g := X.far k hk nx
  have d := Y.far y Y.lt Y.there
  rw [dz.diag] at d
  have s : dist n rs y a = dist n rs a y := dist_sym h.web _ _
  have l1 := Y.l1
  omega
theorem step_edge (h : WebOk n w rs) (ht : rs.length + 1 ≤ n) {a x : Nat} {l : Int} (he : Edge rs a x l) : ∃ side, Step n rs a x l side := by
  obtain ⟨side, s1, s2, s3, s4, s5⟩ := tree_sides h.web ht he
  obtain ⟨_, hx, l1, _, _⟩ := edge_lt h.web he
  exact ⟨side, hx, he, l1, s1, s2, s3, s4, s5⟩
theorem mem_coup {A : List Nat} (hA : A.Pairwise (· < ·)) {q : Nat × Nat} : q ∈ coupL A A.length ↔ q ∈ prsL A := by
  have hg : ∀ i, i < A.length → A.getD i 0 ∈ A := fun i hi => by
    rw [List.getD_eq_getElem?_getD, List.getElem?_eq_getElem hi]
    exact List.getElem_mem hi
  rw [mem_prs]
  unfold coupL
  constructor
  · intro hq
    obtain ⟨j, hj, h2⟩ := List.mem_flatMap.mp hq
    obtain ⟨i, hi, e⟩ := List.mem_map.mp h2
    have hj := List.mem_range.mp hj
    have hi := List.mem_range.mp hi
    rw [← e]
    refine ⟨hg i (by omega), hg j hj, ?_⟩
    have := List.pairwise_iff_getElem.mp hA i j (by omega) hj hi
    dsimp only
    rw [List.getD_eq_getElem?_getD, List.getD_eq_getElem?_getD, List.getElem?_eq_getElem (show i < A.length by omega), List.getElem?_eq_getElem hj]
    exact this
  · rintro ⟨h1, h2, h3⟩
    obtain ⟨i, hi, ei⟩ := List.getElem_of_mem h1
    obtain ⟨j, hj, ej⟩ := List.getElem_of_mem h2
    have hij : i < j := by
      rcases Nat.lt_trichotomy i j with c | c | c
      · exact c
      · subst c
        omega
      · have := List.pairwise_iff_getElem.mp hA j i hj hi c
        omega
    refine List.mem_flatMap.mpr ⟨j, List.mem_range.mpr hj, List.mem_map.mpr ⟨i, List.mem_range.mpr hij, ?_⟩⟩
    rw [List.getD_eq_getElem?_getD, List.getD_eq_getElem?_getD, List.getElem?_eq_getElem hi, List.getElem?_eq_getElem hj, ei, ej]
    rfl
theorem couples_l {A : List Nat} (hl : A.length ≤ 8) : DG.mm__law_couples [natL A] = some (.list ((coupL A A.length).map fun q => .tuple [.int (q.1 : Nat), .int (q.2 : Nat)])) := by
  refine run_ok rfl ?_
  unfold DG.gs__law_couples
  refine PL.wG.nxt (by simp (config := {contextual := true, maxDischargeDepth := 7}) only [List.map_append,List.map_cons,List.map_nil,List.length_append,δA,δB,δC,δD,δE,δF,δG,δH,δI,δJ,δK,δL,δM,δN,δO,δP,δQ,δR,δS,δT,δU,δV,δW,δX,δY,δZ,δa,δb,δc,δd,δe,δf,δg,δh,δi,δj,δk,δl,δm,δn,δo,δp,δq,δr,δs,δt,δu,δv,δw,δx,δy,δz,δ0,δ1,δ2,δ3,δ4,δ5,δ6,δ7,δ8,δ9,ζA,ζB,ζC,ζD,ζE,ζF,ζG,ζH,ζI,ζJ,ζK,ζL,ζM,ζN,ζO,ζP,ζQ,ζR,ζS,ζT,ζU,ζV,ζW,ζX,ζY,ζZ,ζa,ζb,ζc,ζd,ζe,ζf,ζg,ζh,ζi,ζj,ζk,ζl,ζm,ζn,ζo,ζp,ζq,ζr,ζs,ζt,ζu,ζv,ζw,ζx,ζy,ζz,ζ0,ζ1,ζ2,ζ3,ζ4,ζ5,ζ6,ζ7,ζ8,ζ9,ηA,ηB,ηC,ηD,ηE,ηF,ηG,ηH,ηI,ηJ,ηK,ηL,ηM,ηN,ηO,ηP,ηQ,ηR,ηS,ηT,ηU,ηV,ηW,ηX,ηY,ηZ,ηa,ηb,ηc,ηd,ηe,ηf,ηg,ηh,ηi,ηj,ηk,ηl,ηm,ηn,ηo,ηp,ηq,ηr,ηs,ηt,ηu,ηv,ηw,ηx,ηy,ηz,η0,η1,η2,η3,η4,η5,η6,η7,η8,η9,ξA,ξB,ξC,ξD,ξE,ξF,ξG,ξH,ξI,ξJ,ξK,ξL,ξM,ξN,ξO,ξP,ξQ,ξR,ξS,ξT,ξU,ξV,ξW,ξX,ξY,ξZ,ξa,ξb,ξc,ξd,ξe,ξf,ξg,ξh,ξi,ξj,ξk,ξl,ξm,ξn,ξo,ξp,ξq,ξr,ξs,ξt,ξu,ξv,ξw,ξx,ξy,ξz,ξ0,ξ1,ξ2,ξ3,ξ4,ξ5,ξ6,ξ7,ξ8,ξ9,χA,χB,χC,χD,χE,χF,χG,χH,χI,χJ,χK,χL,χM,χN,χO,χP,χQ,χR,χS,χT,χU,χV,χW,χX,χY,χZ,χa,χb,χc,χd,χe,χf,χg,χh,χi,χj,χk,χl,χm,χn,χo,χp,χq,χr,χs,χt,χu,χv,χw, Nat.reduceLeDiff, Nat.reduceSub, ite_self, ini, Nat.zero_le] <;> rfl) ?_
  refine PL.wG.seq (PL.wG.loopS (fun x : Nat => PyData.int (x : Nat)) (List.range A.length) (fun ρ0 pre ρ => ∃ x2, ρ = (ρ0.set 1 (some (.sh (.list ((coupL A pre.length).map fun q => .tuple [.int (q.1 : Nat), .int (q.2 : Nat)]))))).set 2 x2) (by simp (config := {contextual := true, maxDischargeDepth := 7}) only [List.map_append,List.map_cons,List.map_nil,List.length_append,δA,δB,δC,δD,δE,δF,δG,δH,δI,δJ,δK,δL,δM,δN,δO,δP,δQ,δR,δS,δT,δU,δV,δW,δX,δY,δZ,δa,δb,δc,δd,δe,δf,δg,δh,δi,δj,δk,δl,δm,δn,δo,δp,δq,δr,δs,δt,δu,δv,δw,δx,δy,δz,δ0,δ1,δ2,δ3,δ4,δ5,δ6,δ7,δ8,δ9,ζA,ζB,ζC,ζD,ζE,ζF,ζG,ζH,ζI,ζJ,ζK,ζL,ζM,ζN,ζO,ζP,ζQ,ζR,ζS,ζT,ζU,ζV,ζW,ζX,ζY,ζZ,ζa,ζb,ζc,ζd,ζe,ζf,ζg,ζh,ζi,ζj,ζk,ζl,ζm,ζn,ζo,ζp,ζq,ζr,ζs,ζt,ζu,ζv,ζw,ζx,ζy,ζz,ζ0,ζ1,ζ2,ζ3,ζ4,ζ5,ζ6,ζ7,ζ8,ζ9,ηA,ηB,ηC,ηD,ηE,ηF,ηG,ηH,ηI,ηJ,ηK,ηL,ηM,ηN,ηO,ηP,ηQ,ηR,ηS,ηT,ηU,ηV,ηW,ηX,ηY,ηZ,ηa,ηb,ηc,ηd,ηe,ηf,ηg,ηh,ηi,ηj,ηk,ηl,ηm,ηn,ηo,ηp,ηq,ηr,ηs,ηt,ηu,ηv,ηw,ηx,ηy,ηz,η0,η1,η2,η3,η4,η5,η6,η7,η8,η9,ξA,ξB,ξC,ξD,ξE,ξF,ξG,ξH,ξI,ξJ,ξK,ξL,ξM,ξN,ξO,ξP,ξQ,ξR,ξS,ξT,ξU,ξV,ξW,ξX,ξY,ξZ,ξa,ξb,ξc,ξd,ξe,ξf,ξg,ξh,ξi,ξj,ξk,ξl,ξm,ξn,ξo,ξp,ξq,ξr,ξs,ξt,ξu,ξv,ξw,ξx,ξy,ξz,ξ0,ξ1,ξ2,ξ3,ξ4,ξ5,ξ6,ξ7,ξ8,ξ9,χA,χB,χC,χD,χE,χF,χG,χH,χI,χJ,χK,χL,χM,χN,χO,χP,χQ,χR,χS,χT,χU,χV,χW,χX,χY,χZ,χa,χb,χc,χd,χe,χf,χg,χh,χi,χj,χk,χl,χm,χn,χo,χp,χq,χr,χs,χt,χu,χv,χw, Nat.reduceLeDiff, Nat.reduceSub, ite_self, len_nL35, show A.length ≤ 1000 by omega] <;> rfl) ?_ ?_ ?_)
  · exact ⟨none, rfl⟩
  · intro pre j post ρ ex ⟨x2, er⟩
    subst er
    obtain ⟨ej, hj, _⟩ := rng_at ex
    have hl2 := coup_len A pre.length (by omega)
    have hix : ∀ i, i < A.length → oIx (natL A) (.int (i : Nat)) = some (.int ((A.getD i 0 : Nat) : Int)) := fun i hi => by
      show atI (A.map fun x => PyData.int ((x : Nat) : Int)) (i : Nat) = _
      rw [atI_n, List.getElem?_map, List.getD_eq_getElem?_getD, List.getElem?_eq_getElem hi]
      rfl
    have hij : ∀ i, i < j → oIx (natL A) (.int (i : Nat)) = some (.int ((A.getD i 0 : Nat) : Int)) := fun i hi => hix i (by omega)
    have hc := cat_l ((coupL A pre.length).map fun q => PyData.tuple [.int (q.1 : Nat), .int (q.2 : Nat)]) ((List.range j).map fun i => .tuple [.int ((A.getD i 0 : Nat) : Int), .int ((A.getD j 0 : Nat) : Int)]) (by rw [List.length_map, List.length_map, List.length_range]; omega)
    have ee : (coupL A (pre ++ [j]).length).map (fun q => PyData.tuple [.int (q.1 : Nat), .int (q.2 : Nat)]) = ((coupL A pre.length).map fun q => PyData.tuple [.int (q.1 : Nat), .int (q.2 : Nat)]) ++ ((List.range j).map fun i => .tuple [.int ((A.getD i 0 : Nat) : Int), .int ((A.getD j 0 : Nat) : Int)]) := by
      rw [List.length_append, List.length_singleton, ← ej]
      unfold coupL
      rw [List.range_succ, List.flatMap_append, List.flatMap_singleton, List.map_append, List.map_map]
      rfl
    refine ⟨_, by simp (config := {contextual := true, maxDischargeDepth := 7}) only [List.map_append,List.map_cons,List.map_nil,List.length_append,δA,δB,δC,δD,δE,δF,δG,δH,δI,δJ,δK,δL,δM,δN,δO,δP,δQ,δR,δS,δT,δU,δV,δW,δX,δY,δZ,δa,δb,δc,δd,δe,δf,δg,δh,δi,δj,δk,δl,δm,δn,δo,δp,δq,δr,δs,δt,δu,δv,δw,δx,δy,δz,δ0,δ1,δ2,δ3,δ4,δ5,δ6,δ7,δ8,δ9,ζA,ζB,ζC,ζD,ζE,ζF,ζG,ζH,ζI,ζJ,ζK,ζL,ζM,ζN,ζO,ζP,ζQ,ζR,ζS,ζT,ζU,ζV,ζW,ζX,ζY,ζZ,ζa,ζb,ζc,ζd,ζe,ζf,ζg,ζh,ζi,ζj,ζk,ζl,ζm,ζn,ζo,ζp,ζq,ζr,ζs,ζt,ζu,ζv,ζw,ζx,ζy,ζz,ζ0,ζ1,ζ2,ζ3,ζ4,ζ5,ζ6,ζ7,ζ8,ζ9,ηA,ηB,ηC,ηD,ηE,ηF,ηG,ηH,ηI,ηJ,ηK,ηL,ηM,ηN,ηO,ηP,ηQ,ηR,ηS,ηT,ηU,ηV,ηW,ηX,ηY,ηZ,ηa,ηb,ηc,ηd,ηe,ηf,ηg,ηh,ηi,ηj,ηk,ηl,ηm,ηn,ηo,ηp,ηq,ηr,ηs,ηt,ηu,ηv,ηw,ηx,ηy,ηz,η0,η1,η2,η3,η4,η5,η6,η7,η8,η9,ξA,ξB,ξC,ξD,ξE,ξF,ξG,ξH,ξI,ξJ,ξK,ξL,ξM,ξN,ξO,ξP,ξQ,ξR,ξS,ξT,ξU,ξV,ξW,ξX,ξY,ξZ,ξa,ξb,ξc,ξd,ξe,ξf,ξg,ξh,ξi,ξj,ξk,ξl,ξm,ξn,ξo,ξp,ξq,ξr,ξs,ξt,ξu,ξv,ξw,ξx,ξy,ξz,ξ0,ξ1,ξ2,ξ3,ξ4,ξ5,ξ6,ξ7,ξ8,ξ9,χA,χB,χC,χD,χE,χF,χG,χH,χI,χJ,χK,χL,χM,χN,χO,χP,χQ,χR,χS,χT,χU,χV,χW,χX,χY,χZ,χa,χb,χc,χd,χe,χf,χg,χh,χi,χj,χk,χl,χm,χn,χo,χp,χq,χr,χs,χt,χu,χv,χw, Nat.reduceLeDiff, Nat.reduceSub, ite_self, hix j hj, hij, hc, show j ≤ 1000 by omega] <;> rfl, PL.wG.fin (by simp (config := {contextual := true, maxDischargeDepth := 7}) only [List.map_append,List.map_cons,List.map_nil,List.length_append,δA,δB,δC,δD,δE,δF,δG,δH,δI,δJ,δK,δL,δM,δN,δO,δP,δQ,δR,δS,δT,δU,δV,δW,δX,δY,δZ,δa,δb,δc,δd,δe,δf,δg,δh,δi,δj,δk,δl,δm,δn,δo,δp,δq,δr,δs,δt,δu,δv,δw,δx,δy,δz,δ0,δ1,δ2,δ3,δ4,δ5,δ6,δ7,δ8,δ9,ζA,ζB,ζC,ζD,ζE,ζF,ζG,ζH,ζI,ζJ,ζK,ζL,ζM,ζN,ζO,ζP,ζQ,ζR,ζS,ζT,ζU,ζV,ζW,ζX,ζY,ζZ,ζa,ζb,ζc,ζd,ζe,ζf,ζg,ζh,ζi,ζj,ζk,ζl,ζm,ζn,ζo,ζp,ζq,ζr,ζs,ζt,ζu,ζv,ζw,ζx,ζy,ζz,ζ0,ζ1,ζ2,ζ3,ζ4,ζ5,ζ6,ζ7,ζ8,ζ9,ηA,ηB,ηC,ηD,ηE,ηF,ηG,ηH,ηI,ηJ,ηK,ηL,ηM,ηN,ηO,ηP,ηQ,ηR,ηS,ηT,ηU,ηV,ηW,ηX,ηY,ηZ,ηa,ηb,ηc,ηd,ηe,ηf,ηg,ηh,ηi,ηj,ηk,ηl,ηm,ηn,ηo,ηp,ηq,ηr,ηs,ηt,ηu,ηv,ηw,ηx,ηy,ηz,η0,η1,η2,η3,η4,η5,η6,η7,η8,η9,ξA,ξB,ξC,ξD,ξE,ξF,ξG,ξH,ξI,ξJ,ξK,ξL,ξM,ξN,ξO,ξP,ξQ,ξR,ξS,ξT,ξU,ξV,ξW,ξX,ξY,ξZ,ξa,ξb,ξc,ξd,ξe,ξf,ξg,ξh,ξi,ξj,ξk,ξl,ξm,ξn,ξo,ξp,ξq,ξr,ξs,ξt,ξu,ξv,ξw,ξx,ξy,ξz,ξ0,ξ1,ξ2,ξ3,ξ4,ξ5,ξ6,ξ7,ξ8,ξ9,χA,χB,χC,χD,χE,χF,χG,χH,χI,χJ,χK,χL,χM,χN,χO,χP,χQ,χR,χS,χT,χU,χV,χW,χX,χY,χZ,χa,χb,χc,χd,χe,χf,χg,χh,χi,χj,χk,χl,χm,χn,χo,χp,χq,χr,χs,χt,χu,χv,χw, Nat.reduceLeDiff, Nat.reduceSub, ite_self, hix j hj, hij, hc, show j ≤ 1000 by omega] <;> rfl) ?_⟩
    rw [ee]
    exact ⟨_, rfl⟩
  · intro ρ ⟨x2, er⟩
    subst er
    rw [List.length_range]
    exact PL.wG.fin (by simp (config := {contextual := true, maxDischargeDepth := 7}) only [List.map_append,List.map_cons,List.map_nil,List.length_append,δA,δB,δC,δD,δE,δF,δG,δH,δI,δJ,δK,δL,δM,δN,δO,δP,δQ,δR,δS,δT,δU,δV,δW,δX,δY,δZ,δa,δb,δc,δd,δe,δf,δg,δh,δi,δj,δk,δl,δm,δn,δo,δp,δq,δr,δs,δt,δu,δv,δw,δx,δy,δz,δ0,δ1,δ2,δ3,δ4,δ5,δ6,δ7,δ8,δ9,ζA,ζB,ζC,ζD,ζE,ζF,ζG,ζH,ζI,ζJ,ζK,ζL,ζM,ζN,ζO,ζP,ζQ,ζR,ζS,ζT,ζU,ζV,ζW,ζX,ζY,ζZ,ζa,ζb,ζc,ζd,ζe,ζf,ζg,ζh,ζi,ζj,ζk,ζl,ζm,ζn,ζo,ζp,ζq,ζr,ζs,ζt,ζu,ζv,ζw,ζx,ζy,ζz,ζ0,ζ1,ζ2,ζ3,ζ4,ζ5,ζ6,ζ7,ζ8,ζ9,ηA,ηB,ηC,ηD,ηE,ηF,ηG,ηH,ηI,ηJ,ηK,ηL,ηM,ηN,ηO,ηP,ηQ,ηR,ηS,ηT,ηU,ηV,ηW,ηX,ηY,ηZ,ηa,ηb,ηc,ηd,ηe,ηf,ηg,ηh,ηi,ηj,ηk,ηl,ηm,ηn,ηo,ηp,ηq,ηr,ηs,ηt,ηu,ηv,ηw,ηx,ηy,ηz,η0,η1,η2,η3,η4,η5,η6,η7,η8,η9,ξA,ξB,ξC,ξD,ξE,ξF,ξG,ξH,ξI,ξJ,ξK,ξL,ξM,ξN,ξO,ξP,ξQ,ξR,ξS,ξT,ξU,ξV,ξW,ξX,ξY,ξZ,ξa,ξb,ξc,ξd,ξe,ξf,ξg,ξh,ξi,ξj,ξk,ξl,ξm,ξn,ξo,ξp,ξq,ξr,ξs,ξt,ξu,ξv,ξw,ξx,ξy,ξz,ξ0,ξ1,ξ2,ξ3,ξ4,ξ5,ξ6,ξ7,ξ8,ξ9,χA,χB,χC,χD,χE,χF,χG,χH,χI,χJ,χK,χL,χM,χN,χO,χP,χQ,χR,χS,χT,χU,χV,χW,χX,χY,χZ,χa,χb,χc,χd,χe,χf,χg,χh,χi,χj,χk,χl,χm,χn,χo,χp,χq,χr,χs,χt,χu,χv,χw, Nat.reduceLeDiff, Nat.reduceSub, ite_self] <;> rfl) (by exact rfl)
theorem way_sym (h : WebOk n w rs) (ht : rs.length + 1 ≤ n) {a b : Nat} (ha : a < n) (hb : b < n) : waySum n w rs b a = waySum n w rs a b := sumM_same fun x => by
  by_cases c : x < n
  · rw [wayP_tree h.web ht hb ha x c, wayP_tree h.web ht ha hb x c, dist_sym h.web b x, dist_sym h.web x a, dist_sym h.web b a, Int.add_comm]
  · exact ⟨fun q => absurd (wayP_mem h.web hb ha x q).1 c, fun q => absurd (wayP_mem h.web ha hb x q).1 c⟩
/-- a point that is no leaf, or the only one of its way: the way goes on -/
theorem way_grows (h : WebOk n w rs) (ht : rs.length + 1 ≤ n) {x y : Nat} (hx : x < n) (hy : y < n) (nl : (nbL rs x).length ≠ 1 ∨ x = y) : ∃ v l, v < n ∧ 1 ≤ l ∧ Edge rs x v l ∧ dist n rs v y = dist n rs x y + l := by
  have n2 := h.n2
  have nd := nbL_nodup h.web x
  have ne0 : nbL rs x ≠ [] := by
    obtain ⟨t, tn, at_⟩ : ∃ t, t < n ∧ x ≠ t := by
      by_cases c : x = 0
      · exact ⟨1, by omega, by omega⟩
      · exact ⟨0, by omega, c⟩
    obtain ⟨v, l, side, S, _⟩ := step_to h.web ht hx tn at_
    exact List.ne_nil_of_mem (mem_nbL.mpr S.edge)
  match hq : nbL rs x with
  | [] => exact absurd hq ne0
  | p :: t =>
    have pe : Edge rs x p.1 p.2 := mem_nbL.mp (by rw [hq]; exact List.mem_cons_self)
    obtain ⟨sp, P⟩ := step_edge h ht pe
    by_cases c : sp y
    · exact ⟨p.1, p.2, P.lt, P.l1, pe, P.near y hy c⟩
    · have xy : x ≠ y := fun e => c (e ▸ P.here)
      match t, hq with
      | [], hq =>
        rcases nl with r | r
        · rw [hq] at r
          exact absurd rfl r
        · exact absurd r xy
      | q :: t, hq =>
        have qe : Edge rs x q.1 q.2 := mem_nbL.mp (by rw [hq]; exact List.mem_cons_of_mem _ List.mem_cons_self)
        obtain ⟨sq, Q⟩ := step_edge h ht qe
        have pq : q.1 ≠ p.1 := fun e => by
          rw [hq, List.map_cons, List.map_cons] at nd
          exact (List.nodup_cons.mp nd).1 (by rw [← e]; exact List.mem_cons_self)
        have := two_sides h ht Q P hx pq hy c
        exact ⟨q.1, q.2, Q.lt, Q.l1, qe, Q.near y hy this⟩
theorem way_more (h : WebOk n w rs) (ht : rs.length + 1 ≤ n) {a b v : Nat} {l : Int} (ha : a < n) (hb : b < n) (hv : v < n) (e : Edge rs a v l) (d : dist n rs v b = dist n rs a b + l) : waySum n w rs v b ≤ waySum n w rs a b := by
  refine sLe _ _ _ fun k hk => Int.mul_le_mul_of_nonneg_left ?_ (h.w0 k (List.mem_range.mp hk))
  have hk := List.mem_range.mp hk
  have n1 := near_way h.web ht hv hb hk
  have n2 := near_way h.web ht ha hb hk
  have t := dist_tri h.web ha k v
  have f := edge_dist h.web e
  omega
/-- no way is better than the best one between two leaves -/
theorem leaf_pair (h : WebOk n w rs) (ht : rs.length + 1 ≤ n) : ∀ (N a b : Nat), a < n → b < n → 1400 - dist n rs a b < (N : Nat) → ∃ x y, x < n ∧ y < n ∧ x ≠ y ∧ (nbL rs x).length = 1 ∧ (nbL rs y).length = 1 ∧ waySum n w rs x y ≤ waySum n w rs a b
  | 0, a, b, ha, hb, q => by
    have := dist_small h ha hb
    omega
  | N + 1, a, b, ha, hb, q => by
    by_cases c1 : (nbL rs a).length ≠ 1 ∨ a = b
    · obtain ⟨v, l, v1, v2, v3, v4⟩ := way_grows h ht ha hb c1
      obtain ⟨x, y, x1, x2, x3, x4, x5, x6⟩ := leaf_pair h ht N v b v1 hb (by omega)
      exact ⟨x, y, x1, x2, x3, x4, x5, Int.le_trans x6 (way_more h ht ha hb v1 v3 v4)⟩
    · have c1 : (nbL rs a).length = 1 ∧ a ≠ b := ⟨Classical.byContradiction fun z => c1 (.inl z), fun z => c1 (.inr z)⟩
      by_cases c2 : (nbL rs b).length ≠ 1
      · obtain ⟨v, l, v1, v2, v3, v4⟩ := way_grows h ht hb ha (.inl c2)
        have e1 := dist_sym h.web v a
        have e2 := dist_sym h.web b a
        obtain ⟨x, y, x1, x2, x3, x4, x5, x6⟩ := leaf_pair h ht N a v ha v1 (by omega)
        refine ⟨x, y, x1, x2, x3, x4, x5, Int.le_trans x6 ?_⟩
        rw [← way_sym h ht ha v1, ← way_sym h ht ha hb]
        exact way_more h ht hb ha v1 v3 v4
      · exact ⟨a, b, ha, hb, c1.2, c1.1, Classical.byContradiction c2, Int.le_refl _⟩
theorem bestE_eq (hn : 1 ≤ n) (f : Nat → Nat → Int) : (bestE n f).1 = minL ((endsL n).map fun q => f q.1 q.2) := by
  obtain ⟨a, b, h1, h2, e⟩ := bestE_mem hn f
  refine (minL_eq ?_ fun y hy => ?_).symm
  · rw [e]
    exact List.mem_map.mpr ⟨(a, b), mem_ends.mpr ⟨h1, h2⟩, rfl⟩
  · obtain ⟨q, hq, e2⟩ := List.mem_map.mp hy
    have := mem_ends.mp (show (q.1, q.2) ∈ endsL n from hq)
    rw [← e2]
    exact bestE_le f this.1 this.2
theorem bestE_at (hn : 1 ≤ n) (f : Nat → Nat → Int) : minK ((endsL n).filter fun q => decide (f q.1 q.2 = (bestE n f).1)) = (bestE n f).2 ∧ (bestE n f).2 ∈ (endsL n).filter fun q => decide (f q.1 q.2 = (bestE n f).1) := by
  obtain ⟨a, b, h1, h2, e⟩ := bestE_mem hn f
  have m : (bestE n f).2 ∈ (endsL n).filter fun q => decide (f q.1 q.2 = (bestE n f).1) := by
    rw [e]
    exact List.mem_filter.mpr ⟨mem_ends.mpr ⟨h1, h2⟩, decide_eq_true rfl⟩
  refine ⟨minK_eq m fun y hy => ?_, m⟩
  obtain ⟨y1, y2⟩ := List.mem_filter.mp hy
  have y2 := of_decide_eq_true y2
  have := minK_le (List.mem_map.mpr ⟨y, y1, rfl⟩ : (f y.1 y.2, y) ∈ (endsL n).map fun q => (f q.1 q.2, q))
  have this : ltK (f y.1 y.2, y) (bestE n f) = false := this
  rw [ltK_pair] at this
  rw [if_pos y2] at this
  exact this
end
end PL
namespace DG
open PySem PySem.Spec PyProof.Rows L2 DL PL
def entL (f : Nat → Nat → Int) (q : Nat × Nat) : List Key × D := (kyL [q.1, q.2], .int (f q.1 q.2))
def preE (n : Nat) (pre : List Nat) : List (Nat × Nat) := pre.flatMap fun a => (List.range (n - a)).map fun i => (a, i + a)
set_option maxHeartbeats 4000000 in
theorem law_true (ns : List Int) (hl : ns.length ≤ 63) : mm_law [.list (ns.map .int)] = some (.bool true) := by
  have hR : RowS ns [.list (ns.map .int), .int 0, .int 6335, .int 0] := ⟨⟨0, 6335, 0⟩, rfl, Int.le_refl _⟩
  obtain ⟨n, w, rs, ds1, e1, h, hn8, ht, hR1⟩ := tree_ok hR (most := 8) (by decide) (by decide)
  have e1 : mm__law_tree [.list (ns.map .int), .int 0, .int 6335, .int 0] [.int 8] = some (webT n w rs, ds1) := e1
  have hn2 := h.n2
  have hn1 : 1 ≤ n := by omega
  have hw := h.web
  have hn : n ≤ 1000 := by omega
  have ht' : rs.length + 1 ≤ n := by omega
  have lw : oLen [.tuple ((List.range n).map fun k => PyData.int (w k))] = some (.int (n : Nat)) := lenwT
  have e2 := rows_ok h
  have st := fun k => law_steps_ok h k
  have lq : ∀ k : Nat, oEq (.int (((nbL rs k).length : Nat) : Int)) (.int 1) = some (.bool (decide ((nbL rs k).length = 1))) := fun k => by
    rw [ζ8]
    exact congrArg (fun b : Bool => some (PyData.bool b)) (decide_eq_decide.mpr (by omega))
  obtain ⟨EN, eEN⟩ : ∃ EN, EN = (List.range n).filter fun k => decide ((nbL rs k).length = 1) := ⟨_, rfl⟩
  have enl := filt_len (n := n) (fun k => decide ((nbL rs k).length = 1)) hn
  have mEN : ∀ x, x ∈ EN ↔ x < n ∧ (nbL rs x).length = 1 := fun x => by
    rw [eEN, List.mem_filter, List.mem_range, decide_eq_true_eq]
  have aEN : Asc n EN := by
    rw [eEN]
    refine ⟨List.Pairwise.filter _ List.pairwise_lt_range, fun x hx => List.mem_range.mp (List.mem_filter.mp hx).1⟩
  obtain ⟨ws, ews⟩ : ∃ ws, ws = waySum n w rs := ⟨_, rfl⟩
  obtain ⟨W0, eW0⟩ : ∃ W0, W0 = (bestE n ws).1 := ⟨_, rfl⟩
  have onm : ∀ a b, a < n → b < n → ∀ x, x ∈ onWayL n (dist n rs) a b ↔ x ∈ wayP n rs a b := fun a b ha hb => on_way_same h ht' ha hb
  have nearV : ∀ a b, a < n → b < n → mm__law_near [matT n (dist n rs), natL (onWayL n (dist n rs) a b)] = some (.list ((List.range n).map fun i => .int (nearM (dist n rs) (onWayL n (dist n rs) a b) i))) := fun a b ha hb => by
    refine law_near_l hn (fun x hx => List.mem_range.mp (List.mem_filter.mp hx).1) (fun e => ?_) (filt_len _ hn)
    have := (onm a b ha hb a).mpr (by
      obtain ⟨t, q⟩ := wayP_cons (n := n) (rs := rs) a b
      rw [q]
      exact List.mem_cons_self)
    rw [e] at this
    cases this
  have sumV : ∀ a b, a < n → b < n → ((List.range n).map fun k => w k * nearM (dist n rs) (onWayL n (dist n rs) a b) k).sum = ws a b := fun a b ha hb => by
    rw [ews]
    exact sumM_same (onm a b ha hb)
  have wb := w_b64 h
  have mulV : ∀ k (x : Int), k < n → oMul (.int (w k)) (.int x) = some (.int (w k * x)) := fun k x hk => mul_i (.inl (wb k hk))
  have ixW : ∀ k, k < n → oIx (.tuple ((List.range n).map fun k => PyData.int (w k))) (.int (k : Nat)) = some (.int (w k)) := fun k hk => by
    show atI ((List.range n).map fun k => PyData.int (w k)) (k : Nat) = _
    rw [atI_n, List.getElem?_map, List.getElem?_range hk]
    rfl
  have ixN : ∀ (f : Nat → Int) k, k < n → oIx (.list ((List.range n).map fun i => PyData.int (f i))) (.int (k : Nat)) = some (.int (f k)) := fun f k hk => by
    show atI ((List.range n).map fun k => PyData.int (f k)) (k : Nat) = _
    rw [atI_n, List.getElem?_map, List.getElem?_range hk]
    rfl
  have hrg : ∀ a : Nat, a < n → rg2 [.int (a : Nat), .int (n : Nat)] = some ((List.range (n - a)).map fun i => PyData.int ((i + a : Nat) : Int)) := fun a ha => rg2_n (by omega) (by omega)
  have tk : ∀ a b : Nat, tkeyOf (.tuple [.int (a : Nat), .int (b : Nat)]) = some (kyL [a, b]) := fun a b => keysOf_nn [a, b]
  have keyI : ∀ {a b c d : Nat}, kyL [a, b] = kyL [c, d] → a = c ∧ b = d := fun {a b c d} e => by
    have := kyL_inj e
    simp at this
    exact this
  refine run_ok rfl ?_
  unfold gs_law
  refine PL.wG.nxt (by simp (config := {contextual := true, maxDischargeDepth := 7}) only [List.map_append,List.map_cons,List.map_nil,List.length_append,δA,δB,δC,δD,δE,δF,δG,δH,δI,δJ,δK,δL,δM,δN,δO,δP,δQ,δR,δS,δT,δU,δV,δW,δX,δY,δZ,δa,δb,δc,δd,δe,δf,δg,δh,δi,δj,δk,δl,δm,δn,δo,δp,δq,δr,δs,δt,δu,δv,δw,δx,δy,δz,δ0,δ1,δ2,δ3,δ4,δ5,δ6,δ7,δ8,δ9,ζA,ζB,ζC,ζD,ζE,ζF,ζG,ζH,ζI,ζJ,ζK,ζL,ζM,ζN,ζO,ζP,ζQ,ζR,ζS,ζT,ζU,ζV,ζW,ζX,ζY,ζZ,ζa,ζb,ζc,ζd,ζe,ζf,ζg,ζh,ζi,ζj,ζk,ζl,ζm,ζn,ζo,ζp,ζq,ζr,ζs,ζt,ζu,ζv,ζw,ζx,ζy,ζz,ζ0,ζ1,ζ2,ζ3,ζ4,ζ5,ζ6,ζ7,ζ8,ζ9,ηA,ηB,ηC,ηD,ηE,ηF,ηG,ηH,ηI,ηJ,ηK,ηL,ηM,ηN,ηO,ηP,ηQ,ηR,ηS,ηT,ηU,ηV,ηW,ηX,ηY,ηZ,ηa,ηb,ηc,ηd,ηe,ηf,ηg,ηh,ηi,ηj,ηk,ηl,ηm,ηn,ηo,ηp,ηq,ηr,ηs,ηt,ηu,ηv,ηw,ηx,ηy,ηz,η0,η1,η2,η3,η4,η5,η6,η7,η8,η9,ξA,ξB,ξC,ξD,ξE,ξF,ξG,ξH,ξI,ξJ,ξK,ξL,ξM,ξN,ξO,ξP,ξQ,ξR,ξS,ξT,ξU,ξV,ξW,ξX,ξY,ξZ,ξa,ξb,ξc,ξd,ξe,ξf,ξg,ξh,ξi,ξj,ξk,ξl,ξm,ξn,ξo,ξp,ξq,ξr,ξs,ξt,ξu,ξv,ξw,ξx,ξy,ξz,ξ0,ξ1,ξ2,ξ3,ξ4,ξ5,ξ6,ξ7,ξ8,ξ9,χA,χB,χC,χD,χE,χF,χG,χH,χI,χJ,χK,χL,χM,χN,χO,χP,χQ,χR,χS,χT,χU,χV,χW,χX,χY,χZ,χa,χb,χc,χd,χe,χf,χg,χh,χi,χj,χk,χl,χm,χn,χo,χp,χq,χr,χs,χt,χu,χv,χw, Nat.reduceLeDiff, Nat.reduceSub, ite_self, ini] <;> rfl) ?_
  refine PL.wG.nxt (by simp (config := {contextual := true, maxDischargeDepth := 7}) only [List.map_append,List.map_cons,List.map_nil,List.length_append,δA,δB,δC,δD,δE,δF,δG,δH,δI,δJ,δK,δL,δM,δN,δO,δP,δQ,δR,δS,δT,δU,δV,δW,δX,δY,δZ,δa,δb,δc,δd,δe,δf,δg,δh,δi,δj,δk,δl,δm,δn,δo,δp,δq,δr,δs,δt,δu,δv,δw,δx,δy,δz,δ0,δ1,δ2,δ3,δ4,δ5,δ6,δ7,δ8,δ9,ζA,ζB,ζC,ζD,ζE,ζF,ζG,ζH,ζI,ζJ,ζK,ζL,ζM,ζN,ζO,ζP,ζQ,ζR,ζS,ζT,ζU,ζV,ζW,ζX,ζY,ζZ,ζa,ζb,ζc,ζd,ζe,ζf,ζg,ζh,ζi,ζj,ζk,ζl,ζm,ζn,ζo,ζp,ζq,ζr,ζs,ζt,ζu,ζv,ζw,ζx,ζy,ζz,ζ0,ζ1,ζ2,ζ3,ζ4,ζ5,ζ6,ζ7,ζ8,ζ9,ηA,ηB,ηC,ηD,ηE,ηF,ηG,ηH,ηI,ηJ,ηK,ηL,ηM,ηN,ηO,ηP,ηQ,ηR,ηS,ηT,ηU,ηV,ηW,ηX,ηY,ηZ,ηa,ηb,ηc,ηd,ηe,ηf,ηg,ηh,ηi,ηj,ηk,ηl,ηm,ηn,ηo,ηp,ηq,ηr,ηs,ηt,ηu,ηv,ηw,ηx,ηy,ηz,η0,η1,η2,η3,η4,η5,η6,η7,η8,η9,ξA,ξB,ξC,ξD,ξE,ξF,ξG,ξH,ξI,ξJ,ξK,ξL,ξM,ξN,ξO,ξP,ξQ,ξR,ξS,ξT,ξU,ξV,ξW,ξX,ξY,ξZ,ξa,ξb,ξc,ξd,ξe,ξf,ξg,ξh,ξi,ξj,ξk,ξl,ξm,ξn,ξo,ξp,ξq,ξr,ξs,ξt,ξu,ξv,ξw,ξx,ξy,ξz,ξ0,ξ1,ξ2,ξ3,ξ4,ξ5,ξ6,ξ7,ξ8,ξ9,χA,χB,χC,χD,χE,χF,χG,χH,χI,χJ,χK,χL,χM,χN,χO,χP,χQ,χR,χS,χT,χU,χV,χW,χX,χY,χZ,χa,χb,χc,χd,χe,χf,χg,χh,χi,χj,χk,χl,χm,χn,χo,χp,χq,χr,χs,χt,χu,χv,χw, Nat.reduceLeDiff, Nat.reduceSub, ite_self, e1] <;> rfl) ?_
  refine PL.wG.nxt (by simp (config := {contextual := true, maxDischargeDepth := 7}) only [List.map_append,List.map_cons,List.map_nil,List.length_append,δA,δB,δC,δD,δE,δF,δG,δH,δI,δJ,δK,δL,δM,δN,δO,δP,δQ,δR,δS,δT,δU,δV,δW,δX,δY,δZ,δa,δb,δc,δd,δe,δf,δg,δh,δi,δj,δk,δl,δm,δn,δo,δp,δq,δr,δs,δt,δu,δv,δw,δx,δy,δz,δ0,δ1,δ2,δ3,δ4,δ5,δ6,δ7,δ8,δ9,ζA,ζB,ζC,ζD,ζE,ζF,ζG,ζH,ζI,ζJ,ζK,ζL,ζM,ζN,ζO,ζP,ζQ,ζR,ζS,ζT,ζU,ζV,ζW,ζX,ζY,ζZ,ζa,ζb,ζc,ζd,ζe,ζf,ζg,ζh,ζi,ζj,ζk,ζl,ζm,ζn,ζo,ζp,ζq,ζr,ζs,ζt,ζu,ζv,ζw,ζx,ζy,ζz,ζ0,ζ1,ζ2,ζ3,ζ4,ζ5,ζ6,ζ7,ζ8,ζ9,ηA,ηB,ηC,ηD,ηE,ηF,ηG,ηH,ηI,ηJ,ηK,ηL,ηM,ηN,ηO,ηP,ηQ,ηR,ηS,ηT,ηU,ηV,ηW,ηX,ηY,ηZ,ηa,ηb,ηc,ηd,ηe,ηf,ηg,ηh,ηi,ηj,ηk,ηl,ηm,ηn,ηo,ηp,ηq,ηr,ηs,ηt,ηu,ηv,ηw,ηx,ηy,ηz,η0,η1,η2,η3,η4,η5,η6,η7,η8,η9,ξA,ξB,ξC,ξD,ξE,ξF,ξG,ξH,ξI,ξJ,ξK,ξL,ξM,ξN,ξO,ξP,ξQ,ξR,ξS,ξT,ξU,ξV,ξW,ξX,ξY,ξZ,ξa,ξb,ξc,ξd,ξe,ξf,ξg,ξh,ξi,ξj,ξk,ξl,ξm,ξn,ξo,ξp,ξq,ξr,ξs,ξt,ξu,ξv,ξw,ξx,ξy,ξz,ξ0,ξ1,ξ2,ξ3,ξ4,ξ5,ξ6,ξ7,ξ8,ξ9,χA,χB,χC,χD,χE,χF,χG,χH,χI,χJ,χK,χL,χM,χN,χO,χP,χQ,χR,χS,χT,χU,χV,χW,χX,χY,χZ,χa,χb,χc,χd,χe,χf,χg,χh,χi,χj,χk,χl,χm,χn,χo,χp,χq,χr,χs,χt,χu,χv,χw, Nat.reduceLeDiff, Nat.reduceSub, ite_self, e2, χr, lw] <;> rfl) ?_
  refine PL.wG.nxt (by simp (config := {contextual := true, maxDischargeDepth := 7}) only [List.map_append,List.map_cons,List.map_nil,List.length_append,δA,δB,δC,δD,δE,δF,δG,δH,δI,δJ,δK,δL,δM,δN,δO,δP,δQ,δR,δS,δT,δU,δV,δW,δX,δY,δZ,δa,δb,δc,δd,δe,δf,δg,δh,δi,δj,δk,δl,δm,δn,δo,δp,δq,δr,δs,δt,δu,δv,δw,δx,δy,δz,δ0,δ1,δ2,δ3,δ4,δ5,δ6,δ7,δ8,δ9,ζA,ζB,ζC,ζD,ζE,ζF,ζG,ζH,ζI,ζJ,ζK,ζL,ζM,ζN,ζO,ζP,ζQ,ζR,ζS,ζT,ζU,ζV,ζW,ζX,ζY,ζZ,ζa,ζb,ζc,ζd,ζe,ζf,ζg,ζh,ζi,ζj,ζk,ζl,ζm,ζn,ζo,ζp,ζq,ζr,ζs,ζt,ζu,ζv,ζw,ζx,ζy,ζz,ζ0,ζ1,ζ2,ζ3,ζ4,ζ5,ζ6,ζ7,ζ8,ζ9,ηA,ηB,ηC,ηD,ηE,ηF,ηG,ηH,ηI,ηJ,ηK,ηL,ηM,ηN,ηO,ηP,ηQ,ηR,ηS,ηT,ηU,ηV,ηW,ηX,ηY,ηZ,ηa,ηb,ηc,ηd,ηe,ηf,ηg,ηh,ηi,ηj,ηk,ηl,ηm,ηn,ηo,ηp,ηq,ηr,ηs,ηt,ηu,ηv,ηw,ηx,ηy,ηz,η0,η1,η2,η3,η4,η5,η6,η7,η8,η9,ξA,ξB,ξC,ξD,ξE,ξF,ξG,ξH,ξI,ξJ,ξK,ξL,ξM,ξN,ξO,ξP,ξQ,ξR,ξS,ξT,ξU,ξV,ξW,ξX,ξY,ξZ,ξa,ξb,ξc,ξd,ξe,ξf,ξg,ξh,ξi,ξj,ξk,ξl,ξm,ξn,ξo,ξp,ξq,ξr,ξs,ξt,ξu,ξv,ξw,ξx,ξy,ξz,ξ0,ξ1,ξ2,ξ3,ξ4,ξ5,ξ6,ξ7,ξ8,ξ9,χA,χB,χC,χD,χE,χF,χG,χH,χI,χJ,χK,χL,χM,χN,χO,χP,χQ,χR,χS,χT,χU,χV,χW,χX,χY,χZ,χa,χb,χc,χd,χe,χf,χg,χh,χi,χj,χk,χl,χm,χn,χo,χp,χq,χr,χs,χt,χu,χv,χw, Nat.reduceLeDiff, Nat.reduceSub, ite_self, hn, st, List.length_map, lq, enl] <;> rfl) ?_
  rw [← eEN]
  refine PL.wG.seq (PL.wG.loopS (fun x : Nat => PyData.int (x : Nat)) (List.range n) (fun ρ0 pre ρ => ∃ (K : List (List Key × D)) (x7 x8 x9 : Option E), ρ = ((((ρ0.set 5 (some (.dt false K))).set 7 x7).set 8 x8).set 9 x9) ∧ K = (preE n pre).map (entL ws)) (by simp (config := {contextual := true, maxDischargeDepth := 7}) only [List.map_append,List.map_cons,List.map_nil,List.length_append,δA,δB,δC,δD,δE,δF,δG,δH,δI,δJ,δK,δL,δM,δN,δO,δP,δQ,δR,δS,δT,δU,δV,δW,δX,δY,δZ,δa,δb,δc,δd,δe,δf,δg,δh,δi,δj,δk,δl,δm,δn,δo,δp,δq,δr,δs,δt,δu,δv,δw,δx,δy,δz,δ0,δ1,δ2,δ3,δ4,δ5,δ6,δ7,δ8,δ9,ζA,ζB,ζC,ζD,ζE,ζF,ζG,ζH,ζI,ζJ,ζK,ζL,ζM,ζN,ζO,ζP,ζQ,ζR,ζS,ζT,ζU,ζV,ζW,ζX,ζY,ζZ,ζa,ζb,ζc,ζd,ζe,ζf,ζg,ζh,ζi,ζj,ζk,ζl,ζm,ζn,ζo,ζp,ζq,ζr,ζs,ζt,ζu,ζv,ζw,ζx,ζy,ζz,ζ0,ζ1,ζ2,ζ3,ζ4,ζ5,ζ6,ζ7,ζ8,ζ9,ηA,ηB,ηC,ηD,ηE,ηF,ηG,ηH,ηI,ηJ,ηK,ηL,ηM,ηN,ηO,ηP,ηQ,ηR,ηS,ηT,ηU,ηV,ηW,ηX,ηY,ηZ,ηa,ηb,ηc,ηd,ηe,ηf,ηg,ηh,ηi,ηj,ηk,ηl,ηm,ηn,ηo,ηp,ηq,ηr,ηs,ηt,ηu,ηv,ηw,ηx,ηy,ηz,η0,η1,η2,η3,η4,η5,η6,η7,η8,η9,ξA,ξB,ξC,ξD,ξE,ξF,ξG,ξH,ξI,ξJ,ξK,ξL,ξM,ξN,ξO,ξP,ξQ,ξR,ξS,ξT,ξU,ξV,ξW,ξX,ξY,ξZ,ξa,ξb,ξc,ξd,ξe,ξf,ξg,ξh,ξi,ξj,ξk,ξl,ξm,ξn,ξo,ξp,ξq,ξr,ξs,ξt,ξu,ξv,ξw,ξx,ξy,ξz,ξ0,ξ1,ξ2,ξ3,ξ4,ξ5,ξ6,ξ7,ξ8,ξ9,χA,χB,χC,χD,χE,χF,χG,χH,χI,χJ,χK,χL,χM,χN,χO,χP,χQ,χR,χS,χT,χU,χV,χW,χX,χY,χZ,χa,χb,χc,χd,χe,χf,χg,χh,χi,χj,χk,χl,χm,χn,χo,χp,χq,χr,χs,χt,χu,χv,χw, Nat.reduceLeDiff, Nat.reduceSub, ite_self, hn] <;> rfl) ?_ ?_ ?_)
  · exact ⟨[], _, _, _, (by first | rfl | (simp only [List.map_append,List.map_cons,List.map_nil,List.length_append,δA,δB,δC,δD,δE,δF,δG,δH,δI,δJ,δK,δL,δM,δN,δO,δP,δQ,δR,δS,δT,δU,δV,δW,δX,δY,δZ,δa,δb,δc,δd,δe,δf,δg,δh,δi,δj,δk,δl,δm,δn,δo,δp,δq,δr,δs,δt,δu,δv,δw,δx,δy,δz,δ0,δ1,δ2,δ3,δ4,δ5,δ6,δ7,δ8,δ9,ζA,ζB,ζC,ζD,ζE,ζF,ζG,ζH,ζI,ζJ,ζK,ζL,ζM,ζN,ζO,ζP,ζQ,ζR,ζS,ζT,ζU,ζV,ζW,ζX,ζY,ζZ,ζa,ζb,ζc,ζd,ζe,ζf,ζg,ζh,ζi,ζj,ζk,ζl,ζm,ζn,ζo,ζp,ζq,ζr,ζs,ζt,ζu,ζv,ζw,ζx,ζy,ζz,ζ0,ζ1,ζ2,ζ3,ζ4,ζ5,ζ6,ζ7,ζ8,ζ9,ηA,ηB,ηC,ηD,ηE,ηF,ηG,ηH,ηI,ηJ,ηK,ηL,ηM,ηN,ηO,ηP,ηQ,ηR,ηS,ηT,ηU,ηV,ηW,ηX,ηY,ηZ,ηa,ηb,ηc,ηd,ηe,ηf,ηg,ηh,ηi,ηj,ηk,ηl,ηm,ηn,ηo,ηp,ηq,ηr,ηs,ηt,ηu,ηv,ηw,ηx,ηy,ηz,η0,η1,η2,η3,η4,η5,η6,η7,η8,η9,ξA,ξB,ξC,ξD,ξE,ξF,ξG,ξH,ξI,ξJ,ξK,ξL,ξM,ξN,ξO,ξP,ξQ,ξR,ξS,ξT,ξU,ξV,ξW,ξX,ξY,ξZ,ξa,ξb,ξc,ξd,ξe,ξf,ξg,ξh,ξi,ξj,ξk,ξl,ξm,ξn,ξo,ξp,ξq,ξr,ξs,ξt,ξu,ξv,ξw,ξx,ξy,ξz,ξ0,ξ1,ξ2,ξ3,ξ4,ξ5,ξ6,ξ7,ξ8,ξ9,χA,χB,χC,χD,χE,χF,χG,χH,χI,χJ,χK,χL,χM,χN,χO,χP,χQ,χR,χS,χT,χU,χV,χW,χX,χY,χZ,χa,χb,χc,χd,χe,χf,χg,χh,χi,χj,χk,χl,χm,χn,χo,χp,χq,χr,χs,χt,χu,χv,χw] <;> rfl)), rfl⟩
  · intro pre a post ρ ex ⟨K, x7, x8, x9, er, eK⟩
    subst er
    obtain ⟨q1, ha, q3⟩ := rng_at ex
    refine ⟨_, by simp (config := {contextual := true, maxDischargeDepth := 7}) only [List.map_append,List.map_cons,List.map_nil,List.length_append,δA,δB,δC,δD,δE,δF,δG,δH,δI,δJ,δK,δL,δM,δN,δO,δP,δQ,δR,δS,δT,δU,δV,δW,δX,δY,δZ,δa,δb,δc,δd,δe,δf,δg,δh,δi,δj,δk,δl,δm,δn,δo,δp,δq,δr,δs,δt,δu,δv,δw,δx,δy,δz,δ0,δ1,δ2,δ3,δ4,δ5,δ6,δ7,δ8,δ9,ζA,ζB,ζC,ζD,ζE,ζF,ζG,ζH,ζI,ζJ,ζK,ζL,ζM,ζN,ζO,ζP,ζQ,ζR,ζS,ζT,ζU,ζV,ζW,ζX,ζY,ζZ,ζa,ζb,ζc,ζd,ζe,ζf,ζg,ζh,ζi,ζj,ζk,ζl,ζm,ζn,ζo,ζp,ζq,ζr,ζs,ζt,ζu,ζv,ζw,ζx,ζy,ζz,ζ0,ζ1,ζ2,ζ3,ζ4,ζ5,ζ6,ζ7,ζ8,ζ9,ηA,ηB,ηC,ηD,ηE,ηF,ηG,ηH,ηI,ηJ,ηK,ηL,ηM,ηN,ηO,ηP,ηQ,ηR,ηS,ηT,ηU,ηV,ηW,ηX,ηY,ηZ,ηa,ηb,ηc,ηd,ηe,ηf,ηg,ηh,ηi,ηj,ηk,ηl,ηm,ηn,ηo,ηp,ηq,ηr,ηs,ηt,ηu,ηv,ηw,ηx,ηy,ηz,η0,η1,η2,η3,η4,η5,η6,η7,η8,η9,ξA,ξB,ξC,ξD,ξE,ξF,ξG,ξH,ξI,ξJ,ξK,ξL,ξM,ξN,ξO,ξP,ξQ,ξR,ξS,ξT,ξU,ξV,ξW,ξX,ξY,ξZ,ξa,ξb,ξc,ξd,ξe,ξf,ξg,ξh,ξi,ξj,ξk,ξl,ξm,ξn,ξo,ξp,ξq,ξr,ξs,ξt,ξu,ξv,ξw,ξx,ξy,ξz,ξ0,ξ1,ξ2,ξ3,ξ4,ξ5,ξ6,ξ7,ξ8,ξ9,χA,χB,χC,χD,χE,χF,χG,χH,χI,χJ,χK,χL,χM,χN,χO,χP,χQ,χR,χS,χT,χU,χV,χW,χX,χY,χZ,χa,χb,χc,χd,χe,χf,χg,χh,χi,χj,χk,χl,χm,χn,χo,χp,χq,χr,χs,χt,χu,χv,χw, Nat.reduceLeDiff, Nat.reduceSub, ite_self] <;> rfl, ?_⟩
    refine PL.wG.loopS (fun i : Nat => PyData.int ((i + a : Nat) : Int)) (List.range (n - a)) (fun ρ0 pre2 ρ => ∃ (K : List (List Key × D)) (x8 x9 : Option E), ρ = (((ρ0.set 5 (some (.dt false K))).set 8 x8).set 9 x9) ∧ K = (preE n pre ++ pre2.map fun i => (a, i + a)).map (entL ws)) (by simp (config := {contextual := true, maxDischargeDepth := 7}) only [List.map_append,List.map_cons,List.map_nil,List.length_append,δA,δB,δC,δD,δE,δF,δG,δH,δI,δJ,δK,δL,δM,δN,δO,δP,δQ,δR,δS,δT,δU,δV,δW,δX,δY,δZ,δa,δb,δc,δd,δe,δf,δg,δh,δi,δj,δk,δl,δm,δn,δo,δp,δq,δr,δs,δt,δu,δv,δw,δx,δy,δz,δ0,δ1,δ2,δ3,δ4,δ5,δ6,δ7,δ8,δ9,ζA,ζB,ζC,ζD,ζE,ζF,ζG,ζH,ζI,ζJ,ζK,ζL,ζM,ζN,ζO,ζP,ζQ,ζR,ζS,ζT,ζU,ζV,ζW,ζX,ζY,ζZ,ζa,ζb,ζc,ζd,ζe,ζf,ζg,ζh,ζi,ζj,ζk,ζl,ζm,ζn,ζo,ζp,ζq,ζr,ζs,ζt,ζu,ζv,ζw,ζx,ζy,ζz,ζ0,ζ1,ζ2,ζ3,ζ4,ζ5,ζ6,ζ7,ζ8,ζ9,ηA,ηB,ηC,ηD,ηE,ηF,ηG,ηH,ηI,ηJ,ηK,ηL,ηM,ηN,ηO,ηP,ηQ,ηR,ηS,ηT,ηU,ηV,ηW,ηX,ηY,ηZ,ηa,ηb,ηc,ηd,ηe,ηf,ηg,ηh,ηi,ηj,ηk,ηl,ηm,ηn,ηo,ηp,ηq,ηr,ηs,ηt,ηu,ηv,ηw,ηx,ηy,ηz,η0,η1,η2,η3,η4,η5,η6,η7,η8,η9,ξA,ξB,ξC,ξD,ξE,ξF,ξG,ξH,ξI,ξJ,ξK,ξL,ξM,ξN,ξO,ξP,ξQ,ξR,ξS,ξT,ξU,ξV,ξW,ξX,ξY,ξZ,ξa,ξb,ξc,ξd,ξe,ξf,ξg,ξh,ξi,ξj,ξk,ξl,ξm,ξn,ξo,ξp,ξq,ξr,ξs,ξt,ξu,ξv,ξw,ξx,ξy,ξz,ξ0,ξ1,ξ2,ξ3,ξ4,ξ5,ξ6,ξ7,ξ8,ξ9,χA,χB,χC,χD,χE,χF,χG,χH,χI,χJ,χK,χL,χM,χN,χO,χP,χQ,χR,χS,χT,χU,χV,χW,χX,χY,χZ,χa,χb,χc,χd,χe,χf,χg,χh,χi,χj,χk,χl,χm,χn,χo,χp,χq,χr,χs,χt,χu,χv,χw, Nat.reduceLeDiff, Nat.reduceSub, ite_self, hrg, ha] <;> rfl) ?_ ?_ ?_
    · exact ⟨K, _, _, (by first | rfl | (simp only [List.map_append,List.map_cons,List.map_nil,List.length_append,δA,δB,δC,δD,δE,δF,δG,δH,δI,δJ,δK,δL,δM,δN,δO,δP,δQ,δR,δS,δT,δU,δV,δW,δX,δY,δZ,δa,δb,δc,δd,δe,δf,δg,δh,δi,δj,δk,δl,δm,δn,δo,δp,δq,δr,δs,δt,δu,δv,δw,δx,δy,δz,δ0,δ1,δ2,δ3,δ4,δ5,δ6,δ7,δ8,δ9,ζA,ζB,ζC,ζD,ζE,ζF,ζG,ζH,ζI,ζJ,ζK,ζL,ζM,ζN,ζO,ζP,ζQ,ζR,ζS,ζT,ζU,ζV,ζW,ζX,ζY,ζZ,ζa,ζb,ζc,ζd,ζe,ζf,ζg,ζh,ζi,ζj,ζk,ζl,ζm,ζn,ζo,ζp,ζq,ζr,ζs,ζt,ζu,ζv,ζw,ζx,ζy,ζz,ζ0,ζ1,ζ2,ζ3,ζ4,ζ5,ζ6,ζ7,ζ8,ζ9,ηA,ηB,ηC,ηD,ηE,ηF,ηG,ηH,ηI,ηJ,ηK,ηL,ηM,ηN,ηO,ηP,ηQ,ηR,ηS,ηT,ηU,ηV,ηW,ηX,ηY,ηZ,ηa,ηb,ηc,ηd,ηe,ηf,ηg,ηh,ηi,ηj,ηk,ηl,ηm,ηn,ηo,ηp,ηq,ηr,ηs,ηt,ηu,ηv,ηw,ηx,ηy,ηz,η0,η1,η2,η3,η4,η5,η6,η7,η8,η9,ξA,ξB,ξC,ξD,ξE,ξF,ξG,ξH,ξI,ξJ,ξK,ξL,ξM,ξN,ξO,ξP,ξQ,ξR,ξS,ξT,ξU,ξV,ξW,ξX,ξY,ξZ,ξa,ξb,ξc,ξd,ξe,ξf,ξg,ξh,ξi,ξj,ξk,ξl,ξm,ξn,ξo,ξp,ξq,ξr,ξs,ξt,ξu,ξv,ξw,ξx,ξy,ξz,ξ0,ξ1,ξ2,ξ3,ξ4,ξ5,ξ6,ξ7,ξ8,ξ9,χA,χB,χC,χD,χE,χF,χG,χH,χI,χJ,χK,χL,χM,χN,χO,χP,χQ,χR,χS,χT,χU,χV,χW,χX,χY,χZ,χa,χb,χc,χd,χe,χf,χg,χh,χi,χj,χk,χl,χm,χn,χo,χp,χq,χr,χs,χt,χu,χv,χw] <;> rfl)), by rw [List.map_nil, List.append_nil]; exact eK⟩
    · intro pre2 i post2 ρ ex2 ⟨K2, y8, y9, er, eK2⟩
      subst er
      obtain ⟨r1, ri, r3⟩ := rng_at ex2
      have hb : i + a < n := by omega
      have ow := law_on_way_ok (n := n) hn (m := dist n rs) ha hb
      have nv := nearV a (i + a) ha hb
      have sv := sumV a (i + a) ha hb
      have nk : ∀ p ∈ K2, p.1 ≠ kyL [a, i + a] := fun p hp e => by
        rw [eK2] at hp
        obtain ⟨q, hq, e'⟩ := List.mem_map.mp hp
        rw [← e'] at e
        have e : kyL [q.1, q.2] = kyL [a, i + a] := e
        obtain ⟨s1, s2⟩ := keyI e
        rcases List.mem_append.mp hq with u | u
        · unfold preE at u
          obtain ⟨a', ha', u2⟩ := List.mem_flatMap.mp u
          obtain ⟨i', _, u3⟩ := List.mem_map.mp u2
          rw [q3] at ha'
          have := List.mem_range.mp ha'
          have : a' = q.1 := congrArg Prod.fst u3
          omega
        · obtain ⟨i', hi', u3⟩ := List.mem_map.mp u
          rw [r3] at hi'
          have := List.mem_range.mp hi'
          have : i' + a = q.2 := congrArg Prod.snd u3
          omega
      have dp := dput_new (d := PyData.int (ws a (i + a))) nk
      have kl : K2.length ≤ 1000 := by
        rw [eK2, List.length_map, List.length_append, List.length_map, r3, List.length_range]
        have key : (preE n pre).length ≤ pre.length * 8 := by
          unfold preE
          generalize pre = l
          induction l with
          | nil => simp
          | cons x l ih =>
            rw [List.flatMap_cons, List.length_append, List.length_map, List.length_range, List.length_cons]
            omega
        have : pre.length = a := q1.symm
        omega
      have tki := tk a (i + a)
      refine ⟨_, by simp (config := {contextual := true, maxDischargeDepth := 7}) only [List.map_append,List.map_cons,List.map_nil,List.length_append,δA,δB,δC,δD,δE,δF,δG,δH,δI,δJ,δK,δL,δM,δN,δO,δP,δQ,δR,δS,δT,δU,δV,δW,δX,δY,δZ,δa,δb,δc,δd,δe,δf,δg,δh,δi,δj,δk,δl,δm,δn,δo,δp,δq,δr,δs,δt,δu,δv,δw,δx,δy,δz,δ0,δ1,δ2,δ3,δ4,δ5,δ6,δ7,δ8,δ9,ζA,ζB,ζC,ζD,ζE,ζF,ζG,ζH,ζI,ζJ,ζK,ζL,ζM,ζN,ζO,ζP,ζQ,ζR,ζS,ζT,ζU,ζV,ζW,ζX,ζY,ζZ,ζa,ζb,ζc,ζd,ζe,ζf,ζg,ζh,ζi,ζj,ζk,ζl,ζm,ζn,ζo,ζp,ζq,ζr,ζs,ζt,ζu,ζv,ζw,ζx,ζy,ζz,ζ0,ζ1,ζ2,ζ3,ζ4,ζ5,ζ6,ζ7,ζ8,ζ9,ηA,ηB,ηC,ηD,ηE,ηF,ηG,ηH,ηI,ηJ,ηK,ηL,ηM,ηN,ηO,ηP,ηQ,ηR,ηS,ηT,ηU,ηV,ηW,ηX,ηY,ηZ,ηa,ηb,ηc,ηd,ηe,ηf,ηg,ηh,ηi,ηj,ηk,ηl,ηm,ηn,ηo,ηp,ηq,ηr,ηs,ηt,ηu,ηv,ηw,ηx,ηy,ηz,η0,η1,η2,η3,η4,η5,η6,η7,η8,η9,ξA,ξB,ξC,ξD,ξE,ξF,ξG,ξH,ξI,ξJ,ξK,ξL,ξM,ξN,ξO,ξP,ξQ,ξR,ξS,ξT,ξU,ξV,ξW,ξX,ξY,ξZ,ξa,ξb,ξc,ξd,ξe,ξf,ξg,ξh,ξi,ξj,ξk,ξl,ξm,ξn,ξo,ξp,ξq,ξr,ξs,ξt,ξu,ξv,ξw,ξx,ξy,ξz,ξ0,ξ1,ξ2,ξ3,ξ4,ξ5,ξ6,ξ7,ξ8,ξ9,χA,χB,χC,χD,χE,χF,χG,χH,χI,χJ,χK,χL,χM,χN,χO,χP,χQ,χR,χS,χT,χU,χV,χW,χX,χY,χZ,χa,χb,χc,χd,χe,χf,χg,χh,χi,χj,χk,χl,χm,χn,χo,χp,χq,χr,χs,χt,χu,χv,χw, Nat.reduceLeDiff, Nat.reduceSub, ite_self, ow, nv, hn, χr, ixW, ixN, mulV, sv, tki, kl, dp] <;> rfl, PL.wG.fin (by simp (config := {contextual := true, maxDischargeDepth := 7}) only [List.map_append,List.map_cons,List.map_nil,List.length_append,δA,δB,δC,δD,δE,δF,δG,δH,δI,δJ,δK,δL,δM,δN,δO,δP,δQ,δR,δS,δT,δU,δV,δW,δX,δY,δZ,δa,δb,δc,δd,δe,δf,δg,δh,δi,δj,δk,δl,δm,δn,δo,δp,δq,δr,δs,δt,δu,δv,δw,δx,δy,δz,δ0,δ1,δ2,δ3,δ4,δ5,δ6,δ7,δ8,δ9,ζA,ζB,ζC,ζD,ζE,ζF,ζG,ζH,ζI,ζJ,ζK,ζL,ζM,ζN,ζO,ζP,ζQ,ζR,ζS,ζT,ζU,ζV,ζW,ζX,ζY,ζZ,ζa,ζb,ζc,ζd,ζe,ζf,ζg,ζh,ζi,ζj,ζk,ζl,ζm,ζn,ζo,ζp,ζq,ζr,ζs,ζt,ζu,ζv,ζw,ζx,ζy,ζz,ζ0,ζ1,ζ2,ζ3,ζ4,ζ5,ζ6,ζ7,ζ8,ζ9,ηA,ηB,ηC,ηD,ηE,ηF,ηG,ηH,ηI,ηJ,ηK,ηL,ηM,ηN,ηO,ηP,ηQ,ηR,ηS,ηT,ηU,ηV,ηW,ηX,ηY,ηZ,ηa,ηb,ηc,ηd,ηe,ηf,ηg,ηh,ηi,ηj,ηk,ηl,ηm,ηn,ηo,ηp,ηq,ηr,ηs,ηt,ηu,ηv,ηw,ηx,ηy,ηz,η0,η1,η2,η3,η4,η5,η6,η7,η8,η9,ξA,ξB,ξC,ξD,ξE,ξF,ξG,ξH,ξI,ξJ,ξK,ξL,ξM,ξN,ξO,ξP,ξQ,ξR,ξS,ξT,ξU,ξV,ξW,ξX,ξY,ξZ,ξa,ξb,ξc,ξd,ξe,ξf,ξg,ξh,ξi,ξj,ξk,ξl,ξm,ξn,ξo,ξp,ξq,ξr,ξs,ξt,ξu,ξv,ξw,ξx,ξy,ξz,ξ0,ξ1,ξ2,ξ3,ξ4,ξ5,ξ6,ξ7,ξ8,ξ9,χA,χB,χC,χD,χE,χF,χG,χH,χI,χJ,χK,χL,χM,χN,χO,χP,χQ,χR,χS,χT,χU,χV,χW,χX,χY,χZ,χa,χb,χc,χd,χe,χf,χg,χh,χi,χj,χk,χl,χm,χn,χo,χp,χq,χr,χs,χt,χu,χv,χw, Nat.reduceLeDiff, Nat.reduceSub, ite_self, ow, nv, hn, χr, ixW, ixN, mulV, sv, tki, kl, dp] <;> rfl) ?_⟩
      refine ⟨K2 ++ [(kyL [a, i + a], PyData.int (ws a (i + a)))], _, _, (by first | rfl | (simp only [List.map_append,List.map_cons,List.map_nil,List.length_append,δA,δB,δC,δD,δE,δF,δG,δH,δI,δJ,δK,δL,δM,δN,δO,δP,δQ,δR,δS,δT,δU,δV,δW,δX,δY,δZ,δa,δb,δc,δd,δe,δf,δg,δh,δi,δj,δk,δl,δm,δn,δo,δp,δq,δr,δs,δt,δu,δv,δw,δx,δy,δz,δ0,δ1,δ2,δ3,δ4,δ5,δ6,δ7,δ8,δ9,ζA,ζB,ζC,ζD,ζE,ζF,ζG,ζH,ζI,ζJ,ζK,ζL,ζM,ζN,ζO,ζP,ζQ,ζR,ζS,ζT,ζU,ζV,ζW,ζX,ζY,ζZ,ζa,ζb,ζc,ζd,ζe,ζf,ζg,ζh,ζi,ζj,ζk,ζl,ζm,ζn,ζo,ζp,ζq,ζr,ζs,ζt,ζu,ζv,ζw,ζx,ζy,ζz,ζ0,ζ1,ζ2,ζ3,ζ4,ζ5,ζ6,ζ7,ζ8,ζ9,ηA,ηB,ηC,ηD,ηE,ηF,ηG,ηH,ηI,ηJ,ηK,ηL,ηM,ηN,ηO,ηP,ηQ,ηR,ηS,ηT,ηU,ηV,ηW,ηX,ηY,ηZ,ηa,ηb,ηc,ηd,ηe,ηf,ηg,ηh,ηi,ηj,ηk,ηl,ηm,ηn,ηo,ηp,ηq,ηr,ηs,ηt,ηu,ηv,ηw,ηx,ηy,ηz,η0,η1,η2,η3,η4,η5,η6,η7,η8,η9,ξA,ξB,ξC,ξD,ξE,ξF,ξG,ξH,ξI,ξJ,ξK,ξL,ξM,ξN,ξO,ξP,ξQ,ξR,ξS,ξT,ξU,ξV,ξW,ξX,ξY,ξZ,ξa,ξb,ξc,ξd,ξe,ξf,ξg,ξh,ξi,ξj,ξk,ξl,ξm,ξn,ξo,ξp,ξq,ξr,ξs,ξt,ξu,ξv,ξw,ξx,ξy,ξz,ξ0,ξ1,ξ2,ξ3,ξ4,ξ5,ξ6,ξ7,ξ8,ξ9,χA,χB,χC,χD,χE,χF,χG,χH,χI,χJ,χK,χL,χM,χN,χO,χP,χQ,χR,χS,χT,χU,χV,χW,χX,χY,χZ,χa,χb,χc,χd,χe,χf,χg,χh,χi,χj,χk,χl,χm,χn,χo,χp,χq,χr,χs,χt,χu,χv,χw] <;> rfl)), ?_⟩
      rw [List.map_append (l₁ := pre2), ← List.append_assoc, List.map_append (l₂ := List.map _ [i]), ← eK2]
      rfl
    · intro ρ ⟨K2, y8, y9, er, eK2⟩
      subst er
      refine ⟨K2, _, _, _, (by first | rfl | (simp only [List.map_append,List.map_cons,List.map_nil,List.length_append,δA,δB,δC,δD,δE,δF,δG,δH,δI,δJ,δK,δL,δM,δN,δO,δP,δQ,δR,δS,δT,δU,δV,δW,δX,δY,δZ,δa,δb,δc,δd,δe,δf,δg,δh,δi,δj,δk,δl,δm,δn,δo,δp,δq,δr,δs,δt,δu,δv,δw,δx,δy,δz,δ0,δ1,δ2,δ3,δ4,δ5,δ6,δ7,δ8,δ9,ζA,ζB,ζC,ζD,ζE,ζF,ζG,ζH,ζI,ζJ,ζK,ζL,ζM,ζN,ζO,ζP,ζQ,ζR,ζS,ζT,ζU,ζV,ζW,ζX,ζY,ζZ,ζa,ζb,ζc,ζd,ζe,ζf,ζg,ζh,ζi,ζj,ζk,ζl,ζm,ζn,ζo,ζp,ζq,ζr,ζs,ζt,ζu,ζv,ζw,ζx,ζy,ζz,ζ0,ζ1,ζ2,ζ3,ζ4,ζ5,ζ6,ζ7,ζ8,ζ9,ηA,ηB,ηC,ηD,ηE,ηF,ηG,ηH,ηI,ηJ,ηK,ηL,ηM,ηN,ηO,ηP,ηQ,ηR,ηS,ηT,ηU,ηV,ηW,ηX,ηY,ηZ,ηa,ηb,ηc,ηd,ηe,ηf,ηg,ηh,ηi,ηj,ηk,ηl,ηm,ηn,ηo,ηp,ηq,ηr,ηs,ηt,ηu,ηv,ηw,ηx,ηy,ηz,η0,η1,η2,η3,η4,η5,η6,η7,η8,η9,ξA,ξB,ξC,ξD,ξE,ξF,ξG,ξH,ξI,ξJ,ξK,ξL,ξM,ξN,ξO,ξP,ξQ,ξR,ξS,ξT,ξU,ξV,ξW,ξX,ξY,ξZ,ξa,ξb,ξc,ξd,ξe,ξf,ξg,ξh,ξi,ξj,ξk,ξl,ξm,ξn,ξo,ξp,ξq,ξr,ξs,ξt,ξu,ξv,ξw,ξx,ξy,ξz,ξ0,ξ1,ξ2,ξ3,ξ4,ξ5,ξ6,ξ7,ξ8,ξ9,χA,χB,χC,χD,χE,χF,χG,χH,χI,χJ,χK,χL,χM,χN,χO,χP,χQ,χR,χS,χT,χU,χV,χW,χX,χY,χZ,χa,χb,χc,χd,χe,χf,χg,χh,χi,χj,χk,χl,χm,χn,χo,χp,χq,χr,χs,χt,χu,χv,χw] <;> rfl)), ?_⟩
      have : preE n (pre ++ [a]) = preE n pre ++ (List.range (n - a)).map fun i => (a, i + a) := by
        unfold preE
        rw [List.flatMap_append, List.flatMap_cons, List.flatMap_nil, List.append_nil]
      rw [this]
      exact eK2
  · intro ρ ⟨K, x7, x8, x9, er, eK⟩
    subst er
    have eK : K = (endsL n).map (entL ws) := eK
    have dv : ∀ q : Nat × Nat, q ∈ endsL n → dval K (kyL [q.1, q.2]) = some (.int (ws q.1 q.2)) := fun q hq => by
      rw [eK]
      exact dval_map (fun q : Nat × Nat => kyL [q.1, q.2]) (fun q => PyData.int (ws q.1 q.2)) (endsL n) q hq fun y _ e => by
        obtain ⟨s1, s2⟩ := keyI e
        exact Prod.ext s1 s2
    have dv2 : ∀ a b : Nat, a ≤ b → b < n → dval K (kyL [a, b]) = some (.int (ws a b)) := fun a b h1 h2 => dv (a, b) (mem_ends.mpr ⟨h1, h2⟩)
    obtain ⟨a, ds3, e3, ha, hR3⟩ := takenI hR1 (m := ((n : Nat) : Int)) (by omega) (by omega)
    obtain ⟨b, ds4, e4, hb, hR4⟩ := takenI hR3 (m := ((n : Nat) : Int)) (by omega) (by omega)
    have ha : a < n := by omega
    have hb : b < n := by omega
    have ow := law_on_way_ok (n := n) hn (m := dist n rs) ha hb
    have nv := nearV a b ha hb
    have w1 := way_sum_ok h ht ha hb
    have w2 := way_reach_ok h ht ha hb
    have mnc : min ((a : Nat) : Int) ((b : Nat) : Int) = ((min a b : Nat) : Int) := by omega
    have mxc : max ((a : Nat) : Int) ((b : Nat) : Int) = ((max a b : Nat) : Int) := by omega
    have wsy : ∀ x y, x < n → y < n → ws y x = ws x y := fun x y hx hy => by
      rw [ews]
      exact way_sym h ht' hx hy
    have dab : dval K (kyL [min a b, max a b]) = some (.int (waySum n w rs a b)) := by
      rw [dv2 _ _ (by omega) (by omega)]
      rcases Nat.le_total a b with q | q
      · rw [Nat.min_eq_left q, Nat.max_eq_right q, ews]
      · rw [Nat.min_eq_right q, Nat.max_eq_left q, wsy a b ha hb, ews]
    have mx : oMax [.list ((List.range n).map fun i => .int (nearM (dist n rs) (onWayL n (dist n rs) a b) i))] = some (.int (wayReach n rs a b)) := by
      have := max_near (n := n) (m := dist n rs) (hs := onWayL n (dist n rs) a b) hn1
      rw [reachM_same (onm a b ha hb)] at this
      exact this
    have al1 : mm__law_alike 6 [.list [.int (waySum n w rs a b), .int (wayReach n rs a b)], .list [.int (waySum n w rs a b), .int (wayReach n rs a b)]] = some (.bool true) := alike_ok (k := 1) (.lst (fun d hd => by
      simp at hd
      rcases hd with q | q
      · rw [q]; exact .int _
      · rw [q]; exact .int _) (by simp)) 6 (by decide)
    -- the least
    have VE : K.map (·.2) = (endsL n).map fun q => PyData.int (ws q.1 q.2) := by
      rw [eK, List.map_map]
      rfl
    have mnV : oMin [.list ((endsL n).map fun q => PyData.int (ws q.1 q.2))] = some (.int W0) := by
      have := ηa (fun q : Nat × Nat => ws q.1 q.2) (endsL n) (ends_ne hn1)
      rw [← bestE_eq hn1 ws, ← eW0] at this
      exact this
    have KE : K.map (fun p => PyData.tuple (p.1.map kD)) = (endsL n).map fun q => .tuple [.int (q.1 : Nat), .int (q.2 : Nat)] := by
      rw [eK, List.map_map]
      rfl
    obtain ⟨m1, m2⟩ := bestE_at hn1 ws
    rw [← eW0] at m1 m2
    have tkq : ∀ q : Nat × Nat, tkeyOf (.tuple [.int (q.1 : Nat), .int (q.2 : Nat)]) = some (kyL [q.1, q.2]) := fun q => tk q.1 q.2
    have fl : ((endsL n).filter fun q => decide (ws q.1 q.2 = W0)).length ≤ 1000 := Nat.le_trans (List.length_filter_le _ _) (by have := ends_len (n := n) hn8; omega)
    have mnP : oMin [.list (((endsL n).filter fun q => decide (ws q.1 q.2 = W0)).map fun q => .tuple [.int (q.1 : Nat), .int (q.2 : Nat)])] = some (.tuple [.int ((bestE n ws).2.1 : Nat), .int ((bestE n ws).2.2 : Nat)]) := by
      have := min_d (α := Nat × Nat) (by decide) ((endsL n).filter fun q => decide (ws q.1 q.2 = W0)) (List.ne_nil_of_mem m2)
      rw [m1] at this
      exact this
    have nd : ∀ L : List (Nat × Nat), noDic (.list (L.map fun q => PyData.tuple [.int (q.1 : Nat), .int (q.2 : Nat)])) = true := fun L => by
      show noDics (L.map fun q => PyData.tuple [.int (q.1 : Nat), .int (q.2 : Nat)]) = true
      induction L with
      | nil => rfl
      | cons X L ih => exact ih
    have kc := core_ok h ht
    rw [← ews] at kc
    have kc : mm_core [webT n w rs] = some (.tuple [.int W0, .tuple [.int ((bestE n ws).2.1 : Nat), .int ((bestE n ws).2.2 : Nat)]]) := by rw [eW0]; exact kc
    have al2 : mm__law_alike 6 [.tuple [.int W0, .tuple [.int ((bestE n ws).2.1 : Nat), .int ((bestE n ws).2.2 : Nat)]], .tuple [.int W0, .tuple [.int ((bestE n ws).2.1 : Nat), .int ((bestE n ws).2.2 : Nat)]]] = some (.bool true) := alike_ok (k := 2) (Good.t2 (.int _) (Good.natT (xs := [(bestE n ws).2.1, (bestE n ws).2.2]) (by simp))) 6 (by decide)
    refine PL.wG.nxt (by simp (config := {contextual := true, maxDischargeDepth := 7}) only [List.map_append,List.map_cons,List.map_nil,List.length_append,δA,δB,δC,δD,δE,δF,δG,δH,δI,δJ,δK,δL,δM,δN,δO,δP,δQ,δR,δS,δT,δU,δV,δW,δX,δY,δZ,δa,δb,δc,δd,δe,δf,δg,δh,δi,δj,δk,δl,δm,δn,δo,δp,δq,δr,δs,δt,δu,δv,δw,δx,δy,δz,δ0,δ1,δ2,δ3,δ4,δ5,δ6,δ7,δ8,δ9,ζA,ζB,ζC,ζD,ζE,ζF,ζG,ζH,ζI,ζJ,ζK,ζL,ζM,ζN,ζO,ζP,ζQ,ζR,ζS,ζT,ζU,ζV,ζW,ζX,ζY,ζZ,ζa,ζb,ζc,ζd,ζe,ζf,ζg,ζh,ζi,ζj,ζk,ζl,ζm,ζn,ζo,ζp,ζq,ζr,ζs,ζt,ζu,ζv,ζw,ζx,ζy,ζz,ζ0,ζ1,ζ2,ζ3,ζ4,ζ5,ζ6,ζ7,ζ8,ζ9,ηA,ηB,ηC,ηD,ηE,ηF,ηG,ηH,ηI,ηJ,ηK,ηL,ηM,ηN,ηO,ηP,ηQ,ηR,ηS,ηT,ηU,ηV,ηW,ηX,ηY,ηZ,ηa,ηb,ηc,ηd,ηe,ηf,ηg,ηh,ηi,ηj,ηk,ηl,ηm,ηn,ηo,ηp,ηq,ηr,ηs,ηt,ηu,ηv,ηw,ηx,ηy,ηz,η0,η1,η2,η3,η4,η5,η6,η7,η8,η9,ξA,ξB,ξC,ξD,ξE,ξF,ξG,ξH,ξI,ξJ,ξK,ξL,ξM,ξN,ξO,ξP,ξQ,ξR,ξS,ξT,ξU,ξV,ξW,ξX,ξY,ξZ,ξa,ξb,ξc,ξd,ξe,ξf,ξg,ξh,ξi,ξj,ξk,ξl,ξm,ξn,ξo,ξp,ξq,ξr,ξs,ξt,ξu,ξv,ξw,ξx,ξy,ξz,ξ0,ξ1,ξ2,ξ3,ξ4,ξ5,ξ6,ξ7,ξ8,ξ9,χA,χB,χC,χD,χE,χF,χG,χH,χI,χJ,χK,χL,χM,χN,χO,χP,χQ,χR,χS,χT,χU,χV,χW,χX,χY,χZ,χa,χb,χc,χd,χe,χf,χg,χh,χi,χj,χk,χl,χm,χn,χo,χp,χq,χr,χs,χt,χu,χv,χw, Nat.reduceLeDiff, Nat.reduceSub, ite_self, e3, e4] <;> rfl) ?_
    refine PL.wG.nxt (by simp (config := {contextual := true, maxDischargeDepth := 7}) only [List.map_append,List.map_cons,List.map_nil,List.length_append,δA,δB,δC,δD,δE,δF,δG,δH,δI,δJ,δK,δL,δM,δN,δO,δP,δQ,δR,δS,δT,δU,δV,δW,δX,δY,δZ,δa,δb,δc,δd,δe,δf,δg,δh,δi,δj,δk,δl,δm,δn,δo,δp,δq,δr,δs,δt,δu,δv,δw,δx,δy,δz,δ0,δ1,δ2,δ3,δ4,δ5,δ6,δ7,δ8,δ9,ζA,ζB,ζC,ζD,ζE,ζF,ζG,ζH,ζI,ζJ,ζK,ζL,ζM,ζN,ζO,ζP,ζQ,ζR,ζS,ζT,ζU,ζV,ζW,ζX,ζY,ζZ,ζa,ζb,ζc,ζd,ζe,ζf,ζg,ζh,ζi,ζj,ζk,ζl,ζm,ζn,ζo,ζp,ζq,ζr,ζs,ζt,ζu,ζv,ζw,ζx,ζy,ζz,ζ0,ζ1,ζ2,ζ3,ζ4,ζ5,ζ6,ζ7,ζ8,ζ9,ηA,ηB,ηC,ηD,ηE,ηF,ηG,ηH,ηI,ηJ,ηK,ηL,ηM,ηN,ηO,ηP,ηQ,ηR,ηS,ηT,ηU,ηV,ηW,ηX,ηY,ηZ,ηa,ηb,ηc,ηd,ηe,ηf,ηg,ηh,ηi,ηj,ηk,ηl,ηm,ηn,ηo,ηp,ηq,ηr,ηs,ηt,ηu,ηv,ηw,ηx,ηy,ηz,η0,η1,η2,η3,η4,η5,η6,η7,η8,η9,ξA,ξB,ξC,ξD,ξE,ξF,ξG,ξH,ξI,ξJ,ξK,ξL,ξM,ξN,ξO,ξP,ξQ,ξR,ξS,ξT,ξU,ξV,ξW,ξX,ξY,ξZ,ξa,ξb,ξc,ξd,ξe,ξf,ξg,ξh,ξi,ξj,ξk,ξl,ξm,ξn,ξo,ξp,ξq,ξr,ξs,ξt,ξu,ξv,ξw,ξx,ξy,ξz,ξ0,ξ1,ξ2,ξ3,ξ4,ξ5,ξ6,ξ7,ξ8,ξ9,χA,χB,χC,χD,χE,χF,χG,χH,χI,χJ,χK,χL,χM,χN,χO,χP,χQ,χR,χS,χT,χU,χV,χW,χX,χY,χZ,χa,χb,χc,χd,χe,χf,χg,χh,χi,χj,χk,χl,χm,χn,χo,χp,χq,χr,χs,χt,χu,χv,χw, Nat.reduceLeDiff, Nat.reduceSub, ite_self, ow, nv] <;> rfl) ?_
    refine PL.wG.nxt (by simp (config := {contextual := true, maxDischargeDepth := 7}) only [List.map_append,List.map_cons,List.map_nil,List.length_append,δA,δB,δC,δD,δE,δF,δG,δH,δI,δJ,δK,δL,δM,δN,δO,δP,δQ,δR,δS,δT,δU,δV,δW,δX,δY,δZ,δa,δb,δc,δd,δe,δf,δg,δh,δi,δj,δk,δl,δm,δn,δo,δp,δq,δr,δs,δt,δu,δv,δw,δx,δy,δz,δ0,δ1,δ2,δ3,δ4,δ5,δ6,δ7,δ8,δ9,ζA,ζB,ζC,ζD,ζE,ζF,ζG,ζH,ζI,ζJ,ζK,ζL,ζM,ζN,ζO,ζP,ζQ,ζR,ζS,ζT,ζU,ζV,ζW,ζX,ζY,ζZ,ζa,ζb,ζc,ζd,ζe,ζf,ζg,ζh,ζi,ζj,ζk,ζl,ζm,ζn,ζo,ζp,ζq,ζr,ζs,ζt,ζu,ζv,ζw,ζx,ζy,ζz,ζ0,ζ1,ζ2,ζ3,ζ4,ζ5,ζ6,ζ7,ζ8,ζ9,ηA,ηB,ηC,ηD,ηE,ηF,ηG,ηH,ηI,ηJ,ηK,ηL,ηM,ηN,ηO,ηP,ηQ,ηR,ηS,ηT,ηU,ηV,ηW,ηX,ηY,ηZ,ηa,ηb,ηc,ηd,ηe,ηf,ηg,ηh,ηi,ηj,ηk,ηl,ηm,ηn,ηo,ηp,ηq,ηr,ηs,ηt,ηu,ηv,ηw,ηx,ηy,ηz,η0,η1,η2,η3,η4,η5,η6,η7,η8,η9,ξA,ξB,ξC,ξD,ξE,ξF,ξG,ξH,ξI,ξJ,ξK,ξL,ξM,ξN,ξO,ξP,ξQ,ξR,ξS,ξT,ξU,ξV,ξW,ξX,ξY,ξZ,ξa,ξb,ξc,ξd,ξe,ξf,ξg,ξh,ξi,ξj,ξk,ξl,ξm,ξn,ξo,ξp,ξq,ξr,ξs,ξt,ξu,ξv,ξw,ξx,ξy,ξz,ξ0,ξ1,ξ2,ξ3,ξ4,ξ5,ξ6,ξ7,ξ8,ξ9,χA,χB,χC,χD,χE,χF,χG,χH,χI,χJ,χK,χL,χM,χN,χO,χP,χQ,χR,χS,χT,χU,χV,χW,χX,χY,χZ,χa,χb,χc,χd,χe,χf,χg,χh,χi,χj,χk,χl,χm,χn,χo,χp,χq,χr,χs,χt,χu,χv,χw, Nat.reduceLeDiff, Nat.reduceSub, ite_self, w1, w2, mnc, mxc, tk, dab, mx, al1] <;> rfl) ?_
    refine PL.wG.nxt (by simp (config := {contextual := true, maxDischargeDepth := 7}) only [List.map_append,List.map_cons,List.map_nil,List.length_append,δA,δB,δC,δD,δE,δF,δG,δH,δI,δJ,δK,δL,δM,δN,δO,δP,δQ,δR,δS,δT,δU,δV,δW,δX,δY,δZ,δa,δb,δc,δd,δe,δf,δg,δh,δi,δj,δk,δl,δm,δn,δo,δp,δq,δr,δs,δt,δu,δv,δw,δx,δy,δz,δ0,δ1,δ2,δ3,δ4,δ5,δ6,δ7,δ8,δ9,ζA,ζB,ζC,ζD,ζE,ζF,ζG,ζH,ζI,ζJ,ζK,ζL,ζM,ζN,ζO,ζP,ζQ,ζR,ζS,ζT,ζU,ζV,ζW,ζX,ζY,ζZ,ζa,ζb,ζc,ζd,ζe,ζf,ζg,ζh,ζi,ζj,ζk,ζl,ζm,ζn,ζo,ζp,ζq,ζr,ζs,ζt,ζu,ζv,ζw,ζx,ζy,ζz,ζ0,ζ1,ζ2,ζ3,ζ4,ζ5,ζ6,ζ7,ζ8,ζ9,ηA,ηB,ηC,ηD,ηE,ηF,ηG,ηH,ηI,ηJ,ηK,ηL,ηM,ηN,ηO,ηP,ηQ,ηR,ηS,ηT,ηU,ηV,ηW,ηX,ηY,ηZ,ηa,ηb,ηc,ηd,ηe,ηf,ηg,ηh,ηi,ηj,ηk,ηl,ηm,ηn,ηo,ηp,ηq,ηr,ηs,ηt,ηu,ηv,ηw,ηx,ηy,ηz,η0,η1,η2,η3,η4,η5,η6,η7,η8,η9,ξA,ξB,ξC,ξD,ξE,ξF,ξG,ξH,ξI,ξJ,ξK,ξL,ξM,ξN,ξO,ξP,ξQ,ξR,ξS,ξT,ξU,ξV,ξW,ξX,ξY,ξZ,ξa,ξb,ξc,ξd,ξe,ξf,ξg,ξh,ξi,ξj,ξk,ξl,ξm,ξn,ξo,ξp,ξq,ξr,ξs,ξt,ξu,ξv,ξw,ξx,ξy,ξz,ξ0,ξ1,ξ2,ξ3,ξ4,ξ5,ξ6,ξ7,ξ8,ξ9,χA,χB,χC,χD,χE,χF,χG,χH,χI,χJ,χK,χL,χM,χN,χO,χP,χQ,χR,χS,χT,χU,χV,χW,χX,χY,χZ,χa,χb,χc,χd,χe,χf,χg,χh,χi,χj,χk,χl,χm,χn,χo,χp,χq,χr,χs,χt,χu,χv,χw, Nat.reduceLeDiff, Nat.reduceSub, ite_self, VE, mnV] <;> rfl) ?_
    refine PL.wG.nxt (by simp (config := {contextual := true, maxDischargeDepth := 7}) only [List.map_append,List.map_cons,List.map_nil,List.length_append,δA,δB,δC,δD,δE,δF,δG,δH,δI,δJ,δK,δL,δM,δN,δO,δP,δQ,δR,δS,δT,δU,δV,δW,δX,δY,δZ,δa,δb,δc,δd,δe,δf,δg,δh,δi,δj,δk,δl,δm,δn,δo,δp,δq,δr,δs,δt,δu,δv,δw,δx,δy,δz,δ0,δ1,δ2,δ3,δ4,δ5,δ6,δ7,δ8,δ9,ζA,ζB,ζC,ζD,ζE,ζF,ζG,ζH,ζI,ζJ,ζK,ζL,ζM,ζN,ζO,ζP,ζQ,ζR,ζS,ζT,ζU,ζV,ζW,ζX,ζY,ζZ,ζa,ζb,ζc,ζd,ζe,ζf,ζg,ζh,ζi,ζj,ζk,ζl,ζm,ζn,ζo,ζp,ζq,ζr,ζs,ζt,ζu,ζv,ζw,ζx,ζy,ζz,ζ0,ζ1,ζ2,ζ3,ζ4,ζ5,ζ6,ζ7,ζ8,ζ9,ηA,ηB,ηC,ηD,ηE,ηF,ηG,ηH,ηI,ηJ,ηK,ηL,ηM,ηN,ηO,ηP,ηQ,ηR,ηS,ηT,ηU,ηV,ηW,ηX,ηY,ηZ,ηa,ηb,ηc,ηd,ηe,ηf,ηg,ηh,ηi,ηj,ηk,ηl,ηm,ηn,ηo,ηp,ηq,ηr,ηs,ηt,ηu,ηv,ηw,ηx,ηy,ηz,η0,η1,η2,η3,η4,η5,η6,η7,η8,η9,ξA,ξB,ξC,ξD,ξE,ξF,ξG,ξH,ξI,ξJ,ξK,ξL,ξM,ξN,ξO,ξP,ξQ,ξR,ξS,ξT,ξU,ξV,ξW,ξX,ξY,ξZ,ξa,ξb,ξc,ξd,ξe,ξf,ξg,ξh,ξi,ξj,ξk,ξl,ξm,ξn,ξo,ξp,ξq,ξr,ξs,ξt,ξu,ξv,ξw,ξx,ξy,ξz,ξ0,ξ1,ξ2,ξ3,ξ4,ξ5,ξ6,ξ7,ξ8,ξ9,χA,χB,χC,χD,χE,χF,χG,χH,χI,χJ,χK,χL,χM,χN,χO,χP,χQ,χR,χS,χT,χU,χV,χW,χX,χY,χZ,χa,χb,χc,χd,χe,χf,χg,χh,χi,χj,χk,χl,χm,χn,χo,χp,χq,χr,χs,χt,χu,χv,χw, Nat.reduceLeDiff, Nat.reduceSub, ite_self, kc, KE, tkq, dv, fl, mnP, nd, al2] <;> rfl) ?_
    -- the leaves
    have lEN := asc_len aEN
    have cl : mm__law_couples [.list (EN.map fun x => PyData.int ((x : Nat) : Int))] = some (.list ((coupL EN EN.length).map fun q => .tuple [.int (q.1 : Nat), .int (q.2 : Nat)])) := couples_l (A := EN) (by omega)
    have cll : (coupL EN EN.length).length ≤ 1000 := by
      have := coup_len EN EN.length (by omega)
      omega
    have cq : ∀ q : Nat × Nat, q ∈ coupL EN EN.length → q.1 ∈ EN ∧ q.2 ∈ EN ∧ q.1 < q.2 := fun q hq => mem_prs.mp ((mem_coup aEN.1).mp hq)
    have dvc : ∀ q : Nat × Nat, q ∈ coupL EN EN.length → dval K (kyL [q.1, q.2]) = some (.int (ws q.1 q.2)) := fun q hq => by
      obtain ⟨q1, q2, q3⟩ := cq q hq
      exact dv2 _ _ (by omega) ((mEN _).mp q2).1
    have dvx : ∀ x : Nat, x ∈ EN → dval K (kyL [x, x]) = some (.int (ws x x)) := fun x hx => dv2 _ _ (Nat.le_refl _) ((mEN _).mp hx).1
    have ca := cat_l ((coupL EN EN.length).map fun q => PyData.int (ws q.1 q.2)) (EN.map fun x => PyData.int (ws x x)) (by rw [List.length_map, List.length_map]; omega)
    have low : ∀ x y, x < n → y < n → W0 ≤ ws x y := fun x y hx hy => by
      rw [eW0]
      rcases Nat.le_total x y with q | q
      · exact bestE_le ws q hy
      · rw [← wsy x y hx hy]
        exact bestE_le ws q hx
    have mnE : oMin [.list (((coupL EN EN.length).map fun q => PyData.int (ws q.1 q.2)) ++ EN.map fun x => PyData.int (ws x x))] = some (.int W0) := by
      obtain ⟨a0, b0, h1, h2, e0⟩ := bestE_mem hn1 ws
      obtain ⟨x, y, x1, x2, x3, x4, x5, x6⟩ := leaf_pair h ht' 2000 a0 b0 (by omega) h2 (by
        have := dist_small h (show a0 < n by omega) h2
        omega)
      rw [← ews] at x6
      have x6 : ws x y ≤ W0 := by
        rw [eW0, e0]
        exact x6
      obtain ⟨q, hq, eq⟩ : ∃ q ∈ coupL EN EN.length, ws q.1 q.2 = ws x y := by
        rcases Nat.lt_or_gt_of_ne x3 with c | c
        · exact ⟨(x, y), (mem_coup aEN.1).mpr (mem_prs.mpr ⟨(mEN x).mpr ⟨x1, x4⟩, (mEN y).mpr ⟨x2, x5⟩, c⟩), rfl⟩
        · exact ⟨(y, x), (mem_coup aEN.1).mpr (mem_prs.mpr ⟨(mEN y).mpr ⟨x2, x5⟩, (mEN x).mpr ⟨x1, x4⟩, c⟩), wsy x y x1 x2⟩
      have hm : ws q.1 q.2 ∈ ((coupL EN EN.length).map fun q => ws q.1 q.2) ++ EN.map fun x => ws x x := List.mem_append_left _ (List.mem_map.mpr ⟨q, hq, rfl⟩)
      have k := min_ints (((coupL EN EN.length).map fun q => ws q.1 q.2) ++ EN.map fun x => ws x x) (List.ne_nil_of_mem hm)
      have v : minL (((coupL EN EN.length).map fun q => ws q.1 q.2) ++ EN.map fun x => ws x x) = W0 := by
        refine Int.le_antisymm ?_ (le_minL (List.ne_nil_of_mem hm) fun z hz => ?_)
        · have := minL_le hm
          omega
        · rcases List.mem_append.mp hz with r | r
          · obtain ⟨p, hp, e⟩ := List.mem_map.mp r
            obtain ⟨p1, p2, _⟩ := cq p hp
            rw [← e]
            exact low _ _ ((mEN _).mp p1).1 ((mEN _).mp p2).1
          · obtain ⟨p, hp, e⟩ := List.mem_map.mp r
            rw [← e]
            exact low _ _ ((mEN _).mp hp).1 ((mEN _).mp hp).1
      rw [v, List.map_append, List.map_map, List.map_map] at k
      exact k
    have eq0 : oEq (.int W0) (.int W0) = some (.bool true) := by rw [ζ8, decide_eq_true rfl]
    exact PL.wG.fin (by simp (config := {contextual := true, maxDischargeDepth := 7}) only [List.map_append,List.map_cons,List.map_nil,List.length_append,δA,δB,δC,δD,δE,δF,δG,δH,δI,δJ,δK,δL,δM,δN,δO,δP,δQ,δR,δS,δT,δU,δV,δW,δX,δY,δZ,δa,δb,δc,δd,δe,δf,δg,δh,δi,δj,δk,δl,δm,δn,δo,δp,δq,δr,δs,δt,δu,δv,δw,δx,δy,δz,δ0,δ1,δ2,δ3,δ4,δ5,δ6,δ7,δ8,δ9,ζA,ζB,ζC,ζD,ζE,ζF,ζG,ζH,ζI,ζJ,ζK,ζL,ζM,ζN,ζO,ζP,ζQ,ζR,ζS,ζT,ζU,ζV,ζW,ζX,ζY,ζZ,ζa,ζb,ζc,ζd,ζe,ζf,ζg,ζh,ζi,ζj,ζk,ζl,ζm,ζn,ζo,ζp,ζq,ζr,ζs,ζt,ζu,ζv,ζw,ζx,ζy,ζz,ζ0,ζ1,ζ2,ζ3,ζ4,ζ5,ζ6,ζ7,ζ8,ζ9,ηA,ηB,ηC,ηD,ηE,ηF,ηG,ηH,ηI,ηJ,ηK,ηL,ηM,ηN,ηO,ηP,ηQ,ηR,ηS,ηT,ηU,ηV,ηW,ηX,ηY,ηZ,ηa,ηb,ηc,ηd,ηe,ηf,ηg,ηh,ηi,ηj,ηk,ηl,ηm,ηn,ηo,ηp,ηq,ηr,ηs,ηt,ηu,ηv,ηw,ηx,ηy,ηz,η0,η1,η2,η3,η4,η5,η6,η7,η8,η9,ξA,ξB,ξC,ξD,ξE,ξF,ξG,ξH,ξI,ξJ,ξK,ξL,ξM,ξN,ξO,ξP,ξQ,ξR,ξS,ξT,ξU,ξV,ξW,ξX,ξY,ξZ,ξa,ξb,ξc,ξd,ξe,ξf,ξg,ξh,ξi,ξj,ξk,ξl,ξm,ξn,ξo,ξp,ξq,ξr,ξs,ξt,ξu,ξv,ξw,ξx,ξy,ξz,ξ0,ξ1,ξ2,ξ3,ξ4,ξ5,ξ6,ξ7,ξ8,ξ9,χA,χB,χC,χD,χE,χF,χG,χH,χI,χJ,χK,χL,χM,χN,χO,χP,χQ,χR,χS,χT,χU,χV,χW,χX,χY,χZ,χa,χb,χc,χd,χe,χf,χg,χh,χi,χj,χk,χl,χm,χn,χo,χp,χq,χr,χs,χt,χu,χv,χw, Nat.reduceLeDiff, Nat.reduceSub, ite_self, cl, cll, tk, tkq, dvc, dvx, ca, mnE, eq0, show EN.length ≤ 1000 by omega] <;> rfl) (by exact rfl)
end DG
namespace DG
open PySem PySem.Spec PyProof.Rows L2 DL
set_option maxHeartbeats 0 in
theorem all_mk {l : PySem.W.OpenLaw} {w : World} {K : PySem.W.Frag} {h : Heap} {mg : Str → Option Value} {fa f0 f1 f2 f3 f4 f5 f6 f7 f8 f9 f10 f11 f12 f13 f14 f15 f16 f17 f18 f19 f20 f21 f22 f23 f24 f25 f26 f27 f28 f29 f30 : Addr} (X : K.In h) (G : h.Ns mainGlobals mg) (hfa : mg "law" = some (.ref fa))
    {od0 an0 od1 an1 od2 an2 od3 an3 od4 an4 od5 an5 od6 an6 od7 an7 od8 an8 od9 an9 od10 an10 od11 an11 od12 an12 od13 an13 od14 an14 od15 an15 od16 an16 od17 an17 od18 an18 od19 an19 od20 an20 od21 an21 od22 an22 od23 an23 od24 an24 od25 an25 od26 an26 od27 an27 od28 an28 od29 an29 od30 an30 : Option Addr} {sl0 sl1 sl2 sl3 sl4 sl5 sl6 sl7 sl8 sl9 sl10 sl11 sl12 sl13 sl14 sl15 sl16 sl17 sl18 sl19 sl20 sl21 sl22 sl23 sl24 sl25 sl26 sl27 sl28 sl29 sl30 : Array (Option Value)} {oc0 kV0 dc0 pm0 cd0 ct0 oc1 kV1 dc1 pm1 cd1 ct1 oc2 kV2 dc2 pm2 cd2 ct2 oc3 kV3 dc3 pm3 cd3 ct3 oc4 kV4 dc4 pm4 cd4 ct4 oc5 kV5 dc5 pm5 cd5 ct5 oc6 kV6 dc6 pm6 cd6 ct6 oc7 kV7 dc7 pm7 cd7 ct7 oc8 kV8 dc8 pm8 cd8 ct8 oc9 kV9 dc9 pm9 cd9 ct9 oc10 kV10 dc10 pm10 cd10 ct10 oc11 kV11 dc11 pm11 cd11 ct11 oc12 kV12 dc12 pm12 cd12 ct12 oc13 kV13 dc13 pm13 cd13 ct13 oc14 kV14 dc14 pm14 cd14 ct14 oc15 kV15 dc15 pm15 cd15 ct15 oc16 kV16 dc16 pm16 cd16 ct16 oc17 kV17 dc17 pm17 cd17 ct17 oc18 kV18 dc18 pm18 cd18 ct18 oc19 kV19 dc19 pm19 cd19 ct19 oc20 kV20 dc20 pm20 cd20 ct20 oc21 kV21 dc21 pm21 cd21 ct21 oc22 kV22 dc22 pm22 cd22 ct22 oc23 kV23 dc23 pm23 cd23 ct23 oc24 kV24 dc24 pm24 cd24 ct24 oc25 kV25 dc25 pm25 cd25 ct25 oc26 kV26 dc26 pm26 cd26 ct26 oc27 kV27 dc27 pm27 cd27 ct27 oc28 kV28 dc28 pm28 cd28 ct28 oc29 kV29 dc29 pm29 cd29 ct29 oc30 kV30 dc30 pm30 cd30 ct30 : Value} {t_MOST_POINTS t_MOST_WEIGHT t_MOST_LENGTH t_MOST_ROADS : Tok}
    (H : ∀ ns : List Int, ns.length ≤ 63 → mm_law [.list (ns.map .int)] = some (.bool true))
    (a0 : PySem.W.nsIn K mainGlobals "_law_taken" = some (some (.ref f0)))
    (l0 : K.lookup f0 = some ⟨oc0, od0, .func (PySem.W.fnOf "_law_taken" "_law_taken" (defArgs st__law_taken) (defBody st__law_taken) (defScope st__law_taken) .none kV0 dc0 pm0 an0 cd0 ct0), sl0⟩)
    (c0 : PySem.W.codeIn K cd0 "_law_taken" = true)
    (k0 : PySem.W.keepIn K (.ref f0) = true)
    (a1 : PySem.W.nsIn K mainGlobals "_law_pick" = some (some (.ref f1)))
    (l1 : K.lookup f1 = some ⟨oc1, od1, .func (PySem.W.fnOf "_law_pick" "_law_pick" (defArgs st__law_pick) (defBody st__law_pick) (defScope st__law_pick) .none kV1 dc1 pm1 an1 cd1 ct1), sl1⟩)
    (c1 : PySem.W.codeIn K cd1 "_law_pick" = true)
    (k1 : PySem.W.keepIn K (.ref f1) = true)
    (a2 : PySem.W.nsIn K mainGlobals "_law_order" = some (some (.ref f2)))
    (l2 : K.lookup f2 = some ⟨oc2, od2, .func (PySem.W.fnOf "_law_order" "_law_order" (defArgs st__law_order) (defBody st__law_order) (defScope st__law_order) .none kV2 dc2 pm2 an2 cd2 ct2), sl2⟩)
    (c2 : PySem.W.codeIn K cd2 "_law_order" = true)
    (k2 : PySem.W.keepIn K (.ref f2) = true)
    (a3 : PySem.W.nsIn K mainGlobals "_law_web" = some (some (.ref f3)))
    (l3 : K.lookup f3 = some ⟨oc3, od3, .func (PySem.W.fnOf "_law_web" "_law_web" (defArgs st__law_web) (defBody st__law_web) (defScope st__law_web) .none kV3 dc3 pm3 an3 cd3 ct3), sl3⟩)
    (c3 : PySem.W.codeIn K cd3 "_law_web" = true)
    (k3 : PySem.W.keepIn K (.ref f3) = true)
    (a4 : PySem.W.nsIn K mainGlobals "_law_tree" = some (some (.ref f4)))
    (l4 : K.lookup f4 = some ⟨oc4, od4, .func (PySem.W.fnOf "_law_tree" "_law_tree" (defArgs st__law_tree) (defBody st__law_tree) (defScope st__law_tree) .none kV4 dc4 pm4 an4 cd4 ct4), sl4⟩)
    (c4 : PySem.W.codeIn K cd4 "_law_tree" = true)
    (k4 : PySem.W.keepIn K (.ref f4) = true)
    (a5 : PySem.W.nsIn K mainGlobals "_law_rows" = some (some (.ref f5)))
    (l5 : K.lookup f5 = some ⟨oc5, od5, .func (PySem.W.fnOf "_law_rows" "_law_rows" (defArgs st__law_rows) (defBody st__law_rows) (defScope st__law_rows) .none kV5 dc5 pm5 an5 cd5 ct5), sl5⟩)
    (c5 : PySem.W.codeIn K cd5 "_law_rows" = true)
    (k5 : PySem.W.keepIn K (.ref f5) = true)
    (a6 : PySem.W.nsIn K mainGlobals "_law_steps" = some (some (.ref f6)))
    (l6 : K.lookup f6 = some ⟨oc6, od6, .func (PySem.W.fnOf "_law_steps" "_law_steps" (defArgs st__law_steps) (defBody st__law_steps) (defScope st__law_steps) .none kV6 dc6 pm6 an6 cd6 ct6), sl6⟩)
    (c6 : PySem.W.codeIn K cd6 "_law_steps" = true)
    (k6 : PySem.W.keepIn K (.ref f6) = true)
    (a7 : PySem.W.nsIn K mainGlobals "_law_near" = some (some (.ref f7)))
    (l7 : K.lookup f7 = some ⟨oc7, od7, .func (PySem.W.fnOf "_law_near" "_law_near" (defArgs st__law_near) (defBody st__law_near) (defScope st__law_near) .none kV7 dc7 pm7 an7 cd7 ct7), sl7⟩)
    (c7 : PySem.W.codeIn K cd7 "_law_near" = true)
    (k7 : PySem.W.keepIn K (.ref f7) = true)
    (a8 : PySem.W.nsIn K mainGlobals "_law_on_way" = some (some (.ref f8)))
    (l8 : K.lookup f8 = some ⟨oc8, od8, .func (PySem.W.fnOf "_law_on_way" "_law_on_way" (defArgs st__law_on_way) (defBody st__law_on_way) (defScope st__law_on_way) .none kV8 dc8 pm8 an8 cd8 ct8), sl8⟩)
    (c8 : PySem.W.codeIn K cd8 "_law_on_way" = true)
    (k8 : PySem.W.keepIn K (.ref f8) = true)
    (a9 : PySem.W.nsIn K mainGlobals "_law_alike" = some (some (.ref f9)))
    (l9 : K.lookup f9 = some ⟨oc9, od9, .func (PySem.W.fnOf "_law_alike" "_law_alike" (defArgs st__law_alike) (defBody st__law_alike) (defScope st__law_alike) .none kV9 dc9 pm9 an9 cd9 ct9), sl9⟩)
    (c9 : PySem.W.codeIn K cd9 "_law_alike" = true)
    (k9 : PySem.W.keepIn K (.ref f9) = true)
    (a10 : PySem.W.nsIn K mainGlobals "is_in" = some (some (.ref f10)))
    (l10 : K.lookup f10 = some ⟨oc10, od10, .func (PySem.W.fnOf "is_in" "is_in" (defArgs st_is_in) (defBody st_is_in) (defScope st_is_in) .none kV10 dc10 pm10 an10 cd10 ct10), sl10⟩)
    (c10 : PySem.W.codeIn K cd10 "is_in" = true)
    (k10 : PySem.W.keepIn K (.ref f10) = true)
    (a11 : PySem.W.nsIn K mainGlobals "is_weights" = some (some (.ref f11)))
    (l11 : K.lookup f11 = some ⟨oc11, od11, .func (PySem.W.fnOf "is_weights" "is_weights" (defArgs st_is_weights) (defBody st_is_weights) (defScope st_is_weights) .none kV11 dc11 pm11 an11 cd11 ct11), sl11⟩)
    (c11 : PySem.W.codeIn K cd11 "is_weights" = true)
    (k11 : PySem.W.keepIn K (.ref f11) = true)
    (a12 : PySem.W.nsIn K mainGlobals "is_road" = some (some (.ref f12)))
    (l12 : K.lookup f12 = some ⟨oc12, od12, .func (PySem.W.fnOf "is_road" "is_road" (defArgs st_is_road) (defBody st_is_road) (defScope st_is_road) .none kV12 dc12 pm12 an12 cd12 ct12), sl12⟩)
    (c12 : PySem.W.codeIn K cd12 "is_road" = true)
    (k12 : PySem.W.keepIn K (.ref f12) = true)
    (a13 : PySem.W.nsIn K mainGlobals "parts_in" = some (some (.ref f13)))
    (l13 : K.lookup f13 = some ⟨oc13, od13, .func (PySem.W.fnOf "parts_in" "parts_in" (defArgs st_parts_in) (defBody st_parts_in) (defScope st_parts_in) .none kV13 dc13 pm13 an13 cd13 ct13), sl13⟩)
    (c13 : PySem.W.codeIn K cd13 "parts_in" = true)
    (k13 : PySem.W.keepIn K (.ref f13) = true)
    (a14 : PySem.W.nsIn K mainGlobals "need_web" = some (some (.ref f14)))
    (l14 : K.lookup f14 = some ⟨oc14, od14, .func (PySem.W.fnOf "need_web" "need_web" (defArgs st_need_web) (defBody st_need_web) (defScope st_need_web) .none kV14 dc14 pm14 an14 cd14 ct14), sl14⟩)
    (c14 : PySem.W.codeIn K cd14 "need_web" = true)
    (k14 : PySem.W.keepIn K (.ref f14) = true)
    (a15 : PySem.W.nsIn K mainGlobals "need_tree" = some (some (.ref f15)))
    (l15 : K.lookup f15 = some ⟨oc15, od15, .func (PySem.W.fnOf "need_tree" "need_tree" (defArgs st_need_tree) (defBody st_need_tree) (defScope st_need_tree) .none kV15 dc15 pm15 an15 cd15 ct15), sl15⟩)
    (c15 : PySem.W.codeIn K cd15 "need_tree" = true)
    (k15 : PySem.W.keepIn K (.ref f15) = true)
    (a16 : PySem.W.nsIn K mainGlobals "need_point" = some (some (.ref f16)))
    (l16 : K.lookup f16 = some ⟨oc16, od16, .func (PySem.W.fnOf "need_point" "need_point" (defArgs st_need_point) (defBody st_need_point) (defScope st_need_point) .none kV16 dc16 pm16 an16 cd16 ct16), sl16⟩)
    (c16 : PySem.W.codeIn K cd16 "need_point" = true)
    (k16 : PySem.W.keepIn K (.ref f16) = true)
    (a17 : PySem.W.nsIn K mainGlobals "need_ends" = some (some (.ref f17)))
    (l17 : K.lookup f17 = some ⟨oc17, od17, .func (PySem.W.fnOf "need_ends" "need_ends" (defArgs st_need_ends) (defBody st_need_ends) (defScope st_need_ends) .none kV17 dc17 pm17 an17 cd17 ct17), sl17⟩)
    (c17 : PySem.W.codeIn K cd17 "need_ends" = true)
    (k17 : PySem.W.keepIn K (.ref f17) = true)
    (a18 : PySem.W.nsIn K mainGlobals "near_in" = some (some (.ref f18)))
    (l18 : K.lookup f18 = some ⟨oc18, od18, .func (PySem.W.fnOf "near_in" "near_in" (defArgs st_near_in) (defBody st_near_in) (defScope st_near_in) .none kV18 dc18 pm18 an18 cd18 ct18), sl18⟩)
    (c18 : PySem.W.codeIn K cd18 "near_in" = true)
    (k18 : PySem.W.keepIn K (.ref f18) = true)
    (a19 : PySem.W.nsIn K mainGlobals "sum_in" = some (some (.ref f19)))
    (l19 : K.lookup f19 = some ⟨oc19, od19, .func (PySem.W.fnOf "sum_in" "sum_in" (defArgs st_sum_in) (defBody st_sum_in) (defScope st_sum_in) .none kV19 dc19 pm19 an19 cd19 ct19), sl19⟩)
    (c19 : PySem.W.codeIn K cd19 "sum_in" = true)
    (k19 : PySem.W.keepIn K (.ref f19) = true)
    (a20 : PySem.W.nsIn K mainGlobals "steps_from" = some (some (.ref f20)))
    (l20 : K.lookup f20 = some ⟨oc20, od20, .func (PySem.W.fnOf "steps_from" "steps_from" (defArgs st_steps_from) (defBody st_steps_from) (defScope st_steps_from) .none kV20 dc20 pm20 an20 cd20 ct20), sl20⟩)
    (c20 : PySem.W.codeIn K cd20 "steps_from" = true)
    (k20 : PySem.W.keepIn K (.ref f20) = true)
    (a21 : PySem.W.nsIn K mainGlobals "way_in" = some (some (.ref f21)))
    (l21 : K.lookup f21 = some ⟨oc21, od21, .func (PySem.W.fnOf "way_in" "way_in" (defArgs st_way_in) (defBody st_way_in) (defScope st_way_in) .none kV21 dc21 pm21 an21 cd21 ct21), sl21⟩)
    (c21 : PySem.W.codeIn K cd21 "way_in" = true)
    (k21 : PySem.W.keepIn K (.ref f21) = true)
    (a22 : PySem.W.nsIn K mainGlobals "sum_on" = some (some (.ref f22)))
    (l22 : K.lookup f22 = some ⟨oc22, od22, .func (PySem.W.fnOf "sum_on" "sum_on" (defArgs st_sum_on) (defBody st_sum_on) (defScope st_sum_on) .none kV22 dc22 pm22 an22 cd22 ct22), sl22⟩)
    (c22 : PySem.W.codeIn K cd22 "sum_on" = true)
    (k22 : PySem.W.keepIn K (.ref f22) = true)
    (a23 : PySem.W.nsIn K mainGlobals "table_of" = some (some (.ref f23)))
    (l23 : K.lookup f23 = some ⟨oc23, od23, .func (PySem.W.fnOf "table_of" "table_of" (defArgs st_table_of) (defBody st_table_of) (defScope st_table_of) .none kV23 dc23 pm23 an23 cd23 ct23), sl23⟩)
    (c23 : PySem.W.codeIn K cd23 "table_of" = true)
    (k23 : PySem.W.keepIn K (.ref f23) = true)
    (a24 : PySem.W.nsIn K mainGlobals "way_sum" = some (some (.ref f24)))
    (l24 : K.lookup f24 = some ⟨oc24, od24, .func (PySem.W.fnOf "way_sum" "way_sum" (defArgs st_way_sum) (defBody st_way_sum) (defScope st_way_sum) .none kV24 dc24 pm24 an24 cd24 ct24), sl24⟩)
    (c24 : PySem.W.codeIn K cd24 "way_sum" = true)
    (k24 : PySem.W.keepIn K (.ref f24) = true)
    (a25 : PySem.W.nsIn K mainGlobals "reach_on" = some (some (.ref f25)))
    (l25 : K.lookup f25 = some ⟨oc25, od25, .func (PySem.W.fnOf "reach_on" "reach_on" (defArgs st_reach_on) (defBody st_reach_on) (defScope st_reach_on) .none kV25 dc25 pm25 an25 cd25 ct25), sl25⟩)
    (c25 : PySem.W.codeIn K cd25 "reach_on" = true)
    (k25 : PySem.W.keepIn K (.ref f25) = true)
    (a26 : PySem.W.nsIn K mainGlobals "way_reach" = some (some (.ref f26)))
    (l26 : K.lookup f26 = some ⟨oc26, od26, .func (PySem.W.fnOf "way_reach" "way_reach" (defArgs st_way_reach) (defBody st_way_reach) (defScope st_way_reach) .none kV26 dc26 pm26 an26 cd26 ct26), sl26⟩)
    (c26 : PySem.W.codeIn K cd26 "way_reach" = true)
    (k26 : PySem.W.keepIn K (.ref f26) = true)
    (a27 : PySem.W.nsIn K mainGlobals "all_ends" = some (some (.ref f27)))
    (l27 : K.lookup f27 = some ⟨oc27, od27, .func (PySem.W.fnOf "all_ends" "all_ends" (defArgs st_all_ends) (defBody st_all_ends) (defScope st_all_ends) .none kV27 dc27 pm27 an27 cd27 ct27), sl27⟩)
    (c27 : PySem.W.codeIn K cd27 "all_ends" = true)
    (k27 : PySem.W.keepIn K (.ref f27) = true)
    (a28 : PySem.W.nsIn K mainGlobals "core" = some (some (.ref f28)))
    (l28 : K.lookup f28 = some ⟨oc28, od28, .func (PySem.W.fnOf "core" "core" (defArgs st_core) (defBody st_core) (defScope st_core) .none kV28 dc28 pm28 an28 cd28 ct28), sl28⟩)
    (c28 : PySem.W.codeIn K cd28 "core" = true)
    (k28 : PySem.W.keepIn K (.ref f28) = true)
    (a29 : PySem.W.nsIn K mainGlobals "_law_couples" = some (some (.ref f29)))
    (l29 : K.lookup f29 = some ⟨oc29, od29, .func (PySem.W.fnOf "_law_couples" "_law_couples" (defArgs st__law_couples) (defBody st__law_couples) (defScope st__law_couples) .none kV29 dc29 pm29 an29 cd29 ct29), sl29⟩)
    (c29 : PySem.W.codeIn K cd29 "_law_couples" = true)
    (k29 : PySem.W.keepIn K (.ref f29) = true)
    (a30 : PySem.W.nsIn K mainGlobals "law" = some (some (.ref f30)))
    (l30 : K.lookup f30 = some ⟨oc30, od30, .func (PySem.W.fnOf "law" "law" (defArgs st_law) (defBody st_law) (defScope st_law) .none kV30 dc30 pm30 an30 cd30 ct30), sl30⟩)
    (c30 : PySem.W.codeIn K cd30 "law" = true)
    (k30 : PySem.W.keepIn K (.ref f30) = true)
    (z_int : PySem.W.nsIn K mainGlobals "int" = some none)
    (z_len : PySem.W.nsIn K mainGlobals "len" = some none)
    (z_range : PySem.W.nsIn K mainGlobals "range" = some none)
    (z_list : PySem.W.nsIn K mainGlobals "list" = some none)
    (z_sum : PySem.W.nsIn K mainGlobals "sum" = some none)
    (z_tuple : PySem.W.nsIn K mainGlobals "tuple" = some none)
    (z_min : PySem.W.nsIn K mainGlobals "min" = some none)
    (z_isinstance : PySem.W.nsIn K mainGlobals "isinstance" = some none)
    (z_str : PySem.W.nsIn K mainGlobals "str" = some none)
    (z_bool : PySem.W.nsIn K mainGlobals "bool" = some none)
    (g_MOST_POINTS : PySem.W.nsIn K mainGlobals "MOST_POINTS" = some (some (.int 8 t_MOST_POINTS)))
    (g_MOST_WEIGHT : PySem.W.nsIn K mainGlobals "MOST_WEIGHT" = some (some (.int 100 t_MOST_WEIGHT)))
    (g_MOST_LENGTH : PySem.W.nsIn K mainGlobals "MOST_LENGTH" = some (some (.int 100 t_MOST_LENGTH)))
    (z_sorted : PySem.W.nsIn K mainGlobals "sorted" = some none)
    (g_MOST_ROADS : PySem.W.nsIn K mainGlobals "MOST_ROADS" = some (some (.int 14 t_MOST_ROADS)))
    (z_enumerate : PySem.W.nsIn K mainGlobals "enumerate" = some none)
    (z_zip : PySem.W.nsIn K mainGlobals "zip" = some none)
    (z_max : PySem.W.nsIn K mainGlobals "max" = some none) :
    ∃ fd : FuncData, (∀ (s : Shared) (v : Value), BindsTo s fd ⟨[v], []⟩ [("_law_script", v)]) ∧ ∀ base : Heap, K.In base → base.Ns mainGlobals mg → FnOk l.prog w K mg base CX0 7 fa fd ["_law_script"] (spLaw K 63) := by
  have e := hfa.symm.trans (PySem.W.mg_of X G a30)
  cases e
  have T : Txt mg := ⟨PySem.W.mg_none_of X G z_int, PySem.W.mg_none_of X G z_len, PySem.W.mg_none_of X G z_range, PySem.W.mg_none_of X G z_list, PySem.W.mg_none_of X G z_sum, PySem.W.mg_none_of X G z_tuple, PySem.W.mg_none_of X G z_min, PySem.W.mg_none_of X G z_isinstance, PySem.W.mg_none_of X G z_str, PySem.W.mg_none_of X G z_bool, ⟨_, PySem.W.mg_of X G g_MOST_POINTS⟩, ⟨_, PySem.W.mg_of X G g_MOST_WEIGHT⟩, ⟨_, PySem.W.mg_of X G g_MOST_LENGTH⟩, PySem.W.mg_none_of X G z_sorted, ⟨_, PySem.W.mg_of X G g_MOST_ROADS⟩, PySem.W.mg_none_of X G z_enumerate, PySem.W.mg_none_of X G z_zip, PySem.W.mg_none_of X G z_max⟩
  refine ⟨PySem.W.fnOf "law" "law" (defArgs st_law) (defBody st_law) (defScope st_law) .none kV30 dc30 pm30 an30 cd30 ct30, fun s v => .of_eq rfl, fun base _ _ => ?_⟩
  have F0 := fun_mk (st := st__law_taken) l0 c0 k0
  have B0 := F0.binds (ps := ["_law_row", "_law_many"]) fun _ _ _ _ _ _ us hl => match us, hl with | [_, _], _ => rfl
  have O0 := ok__law_taken (P := l.prog) (w := w) (base := base) F0 T 
  have C0 : Cal l.prog w K mg base 1 "_law_taken" _ := ⟨⟨_, _, _, O0, PySem.W.mg_of X G a0, k0, B0⟩⟩
  have F1 := fun_mk (st := st__law_pick) l1 c1 k1
  have B1 := F1.binds (ps := ["_law_row", "_law_things"]) fun _ _ _ _ _ _ us hl => match us, hl with | [_, _], _ => rfl
  have O1 := ok__law_pick (P := l.prog) (w := w) (base := base) F1 T C0
  have C1 : Cal l.prog w K mg base 2 "_law_pick" _ := ⟨⟨_, _, _, O1, PySem.W.mg_of X G a1, k1, B1⟩⟩
  have F2 := fun_mk (st := st__law_order) l2 c2 k2
  have B2 := F2.binds (ps := ["_law_row", "_law_many"]) fun _ _ _ _ _ _ us hl => match us, hl with | [_, _], _ => rfl
  have O2 := ok__law_order (P := l.prog) (w := w) (base := base) F2 T C0
  have C2 : Cal l.prog w K mg base 2 "_law_order" _ := ⟨⟨_, _, _, O2, PySem.W.mg_of X G a2, k2, B2⟩⟩
  have F3 := fun_mk (st := st__law_web) l3 c3 k3
  have B3 := F3.binds (ps := ["_law_row", "_law_most", "_law_extra"]) fun _ _ _ _ _ _ us hl => match us, hl with | [_, _, _], _ => rfl
  have O3 := ok__law_web (P := l.prog) (w := w) (base := base) F3 T C0 C1 C2
  have C3 : Cal l.prog w K mg base 3 "_law_web" _ := ⟨⟨_, _, _, O3, PySem.W.mg_of X G a3, k3, B3⟩⟩
  have F4 := fun_mk (st := st__law_tree) l4 c4 k4
  have B4 := F4.binds (ps := ["_law_row", "_law_most"]) fun _ _ _ _ _ _ us hl => match us, hl with | [_, _], _ => rfl
  have O4 := ok__law_tree (P := l.prog) (w := w) (base := base) F4 T C3
  have C4 : Cal l.prog w K mg base 4 "_law_tree" _ := ⟨⟨_, _, _, O4, PySem.W.mg_of X G a4, k4, B4⟩⟩
  have F5 := fun_mk (st := st__law_rows) l5 c5 k5
  have B5 := F5.binds (ps := ["_law_web_here"]) fun _ _ _ _ _ _ us hl => match us, hl with | [_], _ => rfl
  have O5 := ok__law_rows (P := l.prog) (w := w) (base := base) F5 T 
  have C5 : Cal l.prog w K mg base 1 "_law_rows" _ := ⟨⟨_, _, _, O5, PySem.W.mg_of X G a5, k5, B5⟩⟩
  have F6 := fun_mk (st := st__law_steps) l6 c6 k6
  have B6 := F6.binds (ps := ["_law_web_here", "_law_point"]) fun _ _ _ _ _ _ us hl => match us, hl with | [_, _], _ => rfl
  have O6 := ok__law_steps (P := l.prog) (w := w) (base := base) F6 T 
  have C6 : Cal l.prog w K mg base 1 "_law_steps" _ := ⟨⟨_, _, _, O6, PySem.W.mg_of X G a6, k6, B6⟩⟩
  have F7 := fun_mk (st := st__law_near) l7 c7 k7
  have B7 := F7.binds (ps := ["_law_rows_here", "_law_houses"]) fun _ _ _ _ _ _ us hl => match us, hl with | [_, _], _ => rfl
  have O7 := ok__law_near (P := l.prog) (w := w) (base := base) F7 T 
  have C7 : Cal l.prog w K mg base 1 "_law_near" _ := ⟨⟨_, _, _, O7, PySem.W.mg_of X G a7, k7, B7⟩⟩
  have F8 := fun_mk (st := st__law_on_way) l8 c8 k8
  have B8 := F8.binds (ps := ["_law_rows_here", "_law_a", "_law_b"]) fun _ _ _ _ _ _ us hl => match us, hl with | [_, _, _], _ => rfl
  have O8 := ok__law_on_way (P := l.prog) (w := w) (base := base) F8 T 
  have C8 : Cal l.prog w K mg base 1 "_law_on_way" _ := ⟨⟨_, _, _, O8, PySem.W.mg_of X G a8, k8, B8⟩⟩
  have F9 := fun_mk (st := st__law_alike) l9 c9 k9
  have B9 := F9.binds (ps := ["_law_found", "_law_due"]) fun _ _ _ _ _ _ us hl => match us, hl with | [_, _], _ => rfl
  have O9 := ok__law_alike (P := l.prog) (w := w) (base := base) F9 T  (PySem.W.mg_of X G a9) B9 6
  have C9 : Cal l.prog w K mg base 6 "_law_alike" _ := ⟨⟨_, _, _, O9, PySem.W.mg_of X G a9, k9, B9⟩⟩
  have F10 := fun_mk (st := st_is_in) l10 c10 k10
  have B10 := F10.binds (ps := ["value", "least", "most"]) fun _ _ _ _ _ _ us hl => match us, hl with | [_, _, _], _ => rfl
  have O10 := ok_is_in (P := l.prog) (w := w) (base := base) F10 T 
  have C10 : Cal l.prog w K mg base 1 "is_in" _ := ⟨⟨_, _, _, O10, PySem.W.mg_of X G a10, k10, B10⟩⟩
  have F11 := fun_mk (st := st_is_weights) l11 c11 k11
  have B11 := F11.binds (ps := ["value"]) fun _ _ _ _ _ _ us hl => match us, hl with | [_], _ => rfl
  have O11 := ok_is_weights (P := l.prog) (w := w) (base := base) F11 T C10
  have C11 : Cal l.prog w K mg base 2 "is_weights" _ := ⟨⟨_, _, _, O11, PySem.W.mg_of X G a11, k11, B11⟩⟩
  have F12 := fun_mk (st := st_is_road) l12 c12 k12
  have B12 := F12.binds (ps := ["value", "count"]) fun _ _ _ _ _ _ us hl => match us, hl with | [_, _], _ => rfl
  have O12 := ok_is_road (P := l.prog) (w := w) (base := base) F12 T C10
  have C12 : Cal l.prog w K mg base 2 "is_road" _ := ⟨⟨_, _, _, O12, PySem.W.mg_of X G a12, k12, B12⟩⟩
  have F13 := fun_mk (st := st_parts_in) l13 c13 k13
  have B13 := F13.binds (ps := ["points", "roads"]) fun _ _ _ _ _ _ us hl => match us, hl with | [_, _], _ => rfl
  have O13 := ok_parts_in (P := l.prog) (w := w) (base := base) F13 T 
  have C13 : Cal l.prog w K mg base 1 "parts_in" _ := ⟨⟨_, _, _, O13, PySem.W.mg_of X G a13, k13, B13⟩⟩
  have F14 := fun_mk (st := st_need_web) l14 c14 k14
  have B14 := F14.binds (ps := ["web"]) fun _ _ _ _ _ _ us hl => match us, hl with | [_], _ => rfl
  have O14 := ok_need_web (P := l.prog) (w := w) (base := base) F14 T C11 C12 C13
  have C14 : Cal l.prog w K mg base 3 "need_web" _ := ⟨⟨_, _, _, O14, PySem.W.mg_of X G a14, k14, B14⟩⟩
  have F15 := fun_mk (st := st_need_tree) l15 c15 k15
  have B15 := F15.binds (ps := ["web"]) fun _ _ _ _ _ _ us hl => match us, hl with | [_], _ => rfl
  have O15 := ok_need_tree (P := l.prog) (w := w) (base := base) F15 T C14
  have C15 : Cal l.prog w K mg base 4 "need_tree" _ := ⟨⟨_, _, _, O15, PySem.W.mg_of X G a15, k15, B15⟩⟩
  have F16 := fun_mk (st := st_need_point) l16 c16 k16
  have B16 := F16.binds (ps := ["web", "point"]) fun _ _ _ _ _ _ us hl => match us, hl with | [_, _], _ => rfl
  have O16 := ok_need_point (P := l.prog) (w := w) (base := base) F16 T C10
  have C16 : Cal l.prog w K mg base 2 "need_point" _ := ⟨⟨_, _, _, O16, PySem.W.mg_of X G a16, k16, B16⟩⟩
  have F17 := fun_mk (st := st_need_ends) l17 c17 k17
  have B17 := F17.binds (ps := ["tree", "a", "b"]) fun _ _ _ _ _ _ us hl => match us, hl with | [_, _, _], _ => rfl
  have O17 := ok_need_ends (P := l.prog) (w := w) (base := base) F17 T C15 C16
  have C17 : Cal l.prog w K mg base 5 "need_ends" _ := ⟨⟨_, _, _, O17, PySem.W.mg_of X G a17, k17, B17⟩⟩
  have F18 := fun_mk (st := st_near_in) l18 c18 k18
  have B18 := F18.binds (ps := ["rows", "houses"]) fun _ _ _ _ _ _ us hl => match us, hl with | [_, _], _ => rfl
  have O18 := ok_near_in (P := l.prog) (w := w) (base := base) F18 T 
  have C18 : Cal l.prog w K mg base 1 "near_in" _ := ⟨⟨_, _, _, O18, PySem.W.mg_of X G a18, k18, B18⟩⟩
  have F19 := fun_mk (st := st_sum_in) l19 c19 k19
  have B19 := F19.binds (ps := ["weights", "rows", "houses"]) fun _ _ _ _ _ _ us hl => match us, hl with | [_, _, _], _ => rfl
  have O19 := ok_sum_in (P := l.prog) (w := w) (base := base) F19 T C18
  have C19 : Cal l.prog w K mg base 2 "sum_in" _ := ⟨⟨_, _, _, O19, PySem.W.mg_of X G a19, k19, B19⟩⟩
  have F20 := fun_mk (st := st_steps_from) l20 c20 k20
  have B20 := F20.binds (ps := ["web", "point"]) fun _ _ _ _ _ _ us hl => match us, hl with | [_, _], _ => rfl
  have O20 := ok_steps_from (P := l.prog) (w := w) (base := base) F20 T 
  have C20 : Cal l.prog w K mg base 1 "steps_from" _ := ⟨⟨_, _, _, O20, PySem.W.mg_of X G a20, k20, B20⟩⟩
  have F21 := fun_mk (st := st_way_in) l21 c21 k21
  have B21 := F21.binds (ps := ["web", "rows", "a", "b"]) fun _ _ _ _ _ _ us hl => match us, hl with | [_, _, _, _], _ => rfl
  have O21 := ok_way_in (P := l.prog) (w := w) (base := base) F21 T C20
  have C21 : Cal l.prog w K mg base 2 "way_in" _ := ⟨⟨_, _, _, O21, PySem.W.mg_of X G a21, k21, B21⟩⟩
  have F22 := fun_mk (st := st_sum_on) l22 c22 k22
  have B22 := F22.binds (ps := ["tree", "rows", "a", "b"]) fun _ _ _ _ _ _ us hl => match us, hl with | [_, _, _, _], _ => rfl
  have O22 := ok_sum_on (P := l.prog) (w := w) (base := base) F22 T C19 C21
  have C22 : Cal l.prog w K mg base 3 "sum_on" _ := ⟨⟨_, _, _, O22, PySem.W.mg_of X G a22, k22, B22⟩⟩
  have F23 := fun_mk (st := st_table_of) l23 c23 k23
  have B23 := F23.binds (ps := ["web"]) fun _ _ _ _ _ _ us hl => match us, hl with | [_], _ => rfl
  have O23 := ok_table_of (P := l.prog) (w := w) (base := base) F23 T 
  have C23 : Cal l.prog w K mg base 1 "table_of" _ := ⟨⟨_, _, _, O23, PySem.W.mg_of X G a23, k23, B23⟩⟩
  have F24 := fun_mk (st := st_way_sum) l24 c24 k24
  have B24 := F24.binds (ps := ["tree", "a", "b"]) fun _ _ _ _ _ _ us hl => match us, hl with | [_, _, _], _ => rfl
  have O24 := ok_way_sum (P := l.prog) (w := w) (base := base) F24 T C17 C22 C23
  have C24 : Cal l.prog w K mg base 6 "way_sum" _ := ⟨⟨_, _, _, O24, PySem.W.mg_of X G a24, k24, B24⟩⟩
  have F25 := fun_mk (st := st_reach_on) l25 c25 k25
  have B25 := F25.binds (ps := ["tree", "rows", "a", "b"]) fun _ _ _ _ _ _ us hl => match us, hl with | [_, _, _, _], _ => rfl
  have O25 := ok_reach_on (P := l.prog) (w := w) (base := base) F25 T C18 C21
  have C25 : Cal l.prog w K mg base 3 "reach_on" _ := ⟨⟨_, _, _, O25, PySem.W.mg_of X G a25, k25, B25⟩⟩
  have F26 := fun_mk (st := st_way_reach) l26 c26 k26
  have B26 := F26.binds (ps := ["tree", "a", "b"]) fun _ _ _ _ _ _ us hl => match us, hl with | [_, _, _], _ => rfl
  have O26 := ok_way_reach (P := l.prog) (w := w) (base := base) F26 T C17 C25 C23
  have C26 : Cal l.prog w K mg base 6 "way_reach" _ := ⟨⟨_, _, _, O26, PySem.W.mg_of X G a26, k26, B26⟩⟩
  have F27 := fun_mk (st := st_all_ends) l27 c27 k27
  have B27 := F27.binds (ps := ["tree"]) fun _ _ _ _ _ _ us hl => match us, hl with | [_], _ => rfl
  have O27 := ok_all_ends (P := l.prog) (w := w) (base := base) F27 T 
  have C27 : Cal l.prog w K mg base 1 "all_ends" _ := ⟨⟨_, _, _, O27, PySem.W.mg_of X G a27, k27, B27⟩⟩
  have F28 := fun_mk (st := st_core) l28 c28 k28
  have B28 := F28.binds (ps := ["tree"]) fun _ _ _ _ _ _ us hl => match us, hl with | [_], _ => rfl
  have O28 := ok_core (P := l.prog) (w := w) (base := base) F28 T C15 C23 C27 C22
  have C28 : Cal l.prog w K mg base 5 "core" _ := ⟨⟨_, _, _, O28, PySem.W.mg_of X G a28, k28, B28⟩⟩
  have F29 := fun_mk (st := st__law_couples) l29 c29 k29
  have B29 := F29.binds (ps := ["_law_things"]) fun _ _ _ _ _ _ us hl => match us, hl with | [_], _ => rfl
  have O29 := ok__law_couples (P := l.prog) (w := w) (base := base) F29 T 
  have C29 : Cal l.prog w K mg base 1 "_law_couples" _ := ⟨⟨_, _, _, O29, PySem.W.mg_of X G a29, k29, B29⟩⟩
  have F30 := fun_mk (st := st_law) l30 c30 k30
  exact DL.ok_law (ok_law F30 T C4 C5 C6 C7 C8 C0 C9 C24 C26 C28 C29) H
theorem walk {l : PySem.W.OpenLaw} {q : Program} {loose : List Str} {XP : (Str → Option Value) → Heap → Prop} {YP : World → Heap → Prop} {d : DefRec} {K : Params → PySem.W.Frag} (hn : l.most = some 63) (hdf : d.params.defaults = [])
    (hY : ∀ (w : World) (h : Heap), YP w h → (K w.params).In h)
    (F : ∀ (w : World) (mg : Str → Option Value) (fa : Addr) (h : Heap), (K w.params).In h → h.Ns mainGlobals mg → mg d.name = some (.ref fa) →
      ∃ fd : FuncData, (∀ (s : Shared) (u : Value), BindsTo s fd ⟨[u], []⟩ [("_law_script", u)]) ∧ ∀ base : Heap, (K w.params).In base → base.Ns mainGlobals mg → FnOk l.prog w (K w.params) mg base CX0 7 fa fd ["_law_script"] (spLaw (K w.params) 63)) :
    PySem.W.WalkO q loose XP YP l.row.toRowW d [] (fun f vs => PySem.call f vs) :=
  L2.walk_of (n := 63) (k := 7) (x := "_law_script") (CX := fun _ => CX0) (sp := fun w => spLaw (K w.params) 63) hn (by decide) hdf ⟨rfl, by decide, by decide⟩ hY F (fun _ _ a ns hl _ hS => ⟨a, ns, rfl, hS, hl, fun _ => rfl⟩) fun _ _ _ _ _ z => z
end DG
open PySem PySem.W PyProof.Rows in
set_option maxRecDepth 100000 in
set_option maxHeartbeats 0 in
theorem PySem.Challenge.cw_nearhouses_k35_whole_cores_holds : PySem.Challenge.rw_nearhouses_k35_whole_cores.Holds := by
  w_on; o_law; k_head; (case hw => w_witness2)
  k_fill
  refine DG.walk (l := PySem.Challenge.rw_nearhouses_k35_whole_cores) rfl rfl (fun w h Y => PySem.W.kIn_of Y) ?F
  case F =>
    intro w mg fa h KX G hmg
    refine' DG.all_mk KX G hmg DG.law_true ?a0 ?l0 ?c0 ?k0 ?a1 ?l1 ?c1 ?k1 ?a2 ?l2 ?c2 ?k2 ?a3 ?l3 ?c3 ?k3 ?a4 ?l4 ?c4 ?k4 ?a5 ?l5 ?c5 ?k5 ?a6 ?l6 ?c6 ?k6 ?a7 ?l7 ?c7 ?k7 ?a8 ?l8 ?c8 ?k8 ?a9 ?l9 ?c9 ?k9 ?a10 ?l10 ?c10 ?k10 ?a11 ?l11 ?c11 ?k11 ?a12 ?l12 ?c12 ?k12 ?a13 ?l13 ?c13 ?k13 ?a14 ?l14 ?c14 ?k14 ?a15 ?l15 ?c15 ?k15 ?a16 ?l16 ?c16 ?k16 ?a17 ?l17 ?c17 ?k17 ?a18 ?l18 ?c18 ?k18 ?a19 ?l19 ?c19 ?k19 ?a20 ?l20 ?c20 ?k20 ?a21 ?l21 ?c21 ?k21 ?a22 ?l22 ?c22 ?k22 ?a23 ?l23 ?c23 ?k23 ?a24 ?l24 ?c24 ?k24 ?a25 ?l25 ?c25 ?k25 ?a26 ?l26 ?c26 ?k26 ?a27 ?l27 ?c27 ?k27 ?a28 ?l28 ?c28 ?k28 ?a29 ?l29 ?c29 ?k29 ?a30 ?l30 ?c30 ?k30 ?z_int ?z_len ?z_range ?z_list ?z_sum ?z_tuple ?z_min ?z_isinstance ?z_str ?z_bool ?g_MOST_POINTS ?g_MOST_WEIGHT ?g_MOST_LENGTH ?z_sorted ?g_MOST_ROADS ?z_enumerate ?z_zip ?z_max
    (case a0 => k_is)
    (case l0 => k_is)
    (case c0 => k_is)
    (case k0 => k_is)
    (case a1 => k_is)
    (case l1 => k_is)
    (case c1 => k_is)
    (case k1 => k_is)
    (case a2 => k_is)
    (case l2 => k_is)
    (case c2 => k_is)
    (case k2 => k_is)
    (case a3 => k_is)
    (case l3 => k_is)
    (case c3 => k_is)
    (case k3 => k_is)
    (case a4 => k_is)
    (case l4 => k_is)
    (case c4 => k_is)
    (case k4 => k_is)
    (case a5 => k_is)
    (case l5 => k_is)
    (case c5 => k_is)
    (case k5 => k_is)
    (case a6 => k_is)
    (case l6 => k_is)
    (case c6 => k_is)
    (case k6 => k_is)
    (case a7 => k_is)
    (case l7 => k_is)
    (case c7 => k_is)
    (case k7 => k_is)
    (case a8 => k_is)
    (case l8 => k_is)
    (case c8 => k_is)
    (case k8 => k_is)
    (case a9 => k_is)
    (case l9 => k_is)
    (case c9 => k_is)
    (case k9 => k_is)
    (case a10 => k_is)
    (case l10 => k_is)
    (case c10 => k_is)
    (case k10 => k_is)
    (case a11 => k_is)
    (case l11 => k_is)
    (case c11 => k_is)
    (case k11 => k_is)
    (case a12 => k_is)
    (case l12 => k_is)
    (case c12 => k_is)
    (case k12 => k_is)
    (case a13 => k_is)
    (case l13 => k_is)
    (case c13 => k_is)
    (case k13 => k_is)
    (case a14 => k_is)
    (case l14 => k_is)
    (case c14 => k_is)
    (case k14 => k_is)
    (case a15 => k_is)
    (case l15 => k_is)
    (case c15 => k_is)
    (case k15 => k_is)
    (case a16 => k_is)
    (case l16 => k_is)
    (case c16 => k_is)
    (case k16 => k_is)
    (case a17 => k_is)
    (case l17 => k_is)
    (case c17 => k_is)
    (case k17 => k_is)
    (case a18 => k_is)
    (case l18 => k_is)
    (case c18 => k_is)
    (case k18 => k_is)
    (case a19 => k_is)
    (case l19 => k_is)
    (case c19 => k_is)
    (case k19 => k_is)
    (case a20 => k_is)
    (case l20 => k_is)
    (case c20 => k_is)
    (case k20 => k_is)
    (case a21 => k_is)
    (case l21 => k_is)
    (case c21 => k_is)
    (case k21 => k_is)
    (case a22 => k_is)
    (case l22 => k_is)
    (case c22 => k_is)
    (case k22 => k_is)
    (case a23 => k_is)
    (case l23 => k_is)
    (case c23 => k_is)
    (case k23 => k_is)
    (case a24 => k_is)
    (case l24 => k_is)
    (case c24 => k_is)
    (case k24 => k_is)
    (case a25 => k_is)
    (case l25 => k_is)
    (case c25 => k_is)
    (case k25 => k_is)
    (case a26 => k_is)
    (case l26 => k_is)
    (case c26 => k_is)
    (case k26 => k_is)
    (case a27 => k_is)
    (case l27 => k_is)
    (case c27 => k_is)
    (case k27 => k_is)
    (case a28 => k_is)
    (case l28 => k_is)
    (case c28 => k_is)
    (case k28 => k_is)
    (case a29 => k_is)
    (case l29 => k_is)
    (case c29 => k_is)
    (case k29 => k_is)
    (case a30 => k_is)
    (case l30 => k_is)
    (case c30 => k_is)
    (case k30 => k_is)
    (case z_int => k_is)
    (case z_len => k_is)
    (case z_range => k_is)
    (case z_list => k_is)
    (case z_sum => k_is)
    (case z_tuple => k_is)
    (case z_min => k_is)
    (case z_isinstance => k_is)
    (case z_str => k_is)
    (case z_bool => k_is)
    (case g_MOST_POINTS => k_is)
    (case g_MOST_WEIGHT => k_is)
    (case g_MOST_LENGTH => k_is)
    (case z_sorted => k_is)
    (case g_MOST_ROADS => k_is)
    (case z_enumerate => k_is)
    (case z_zip => k_is)
    (case z_max => k_is)
