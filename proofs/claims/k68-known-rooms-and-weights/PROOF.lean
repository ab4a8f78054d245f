import PyProof.Rows.All
import Wide.All
import OpenK.AllK
import Wide.FinOn
import HandS.ForMost
import HandS.IsInst
import HandS.TupAny
import HandS.TupMul
import HandS.Wide
import HandS.Style
import HandS.Flow
import HandS.Deep
import KE.DataMinMax
import KE.DataCmp
import KE.SortData
import KE.DataFind
import PyProof.Rows.InDataRows
import KE.SortKeyHeap
import KE.GoesEnum
import KE.GoesMore
import HandS.Conv
import HandS.Strs
import HandS.SetFor
import KE.SortCalls
import HandS.TupSets
import KE.KSortKey
import HandS.Small
import HandS.DictTup
import KE.KDictSum
import KE.KDictList
import HandS.CallLocal
import KE.KDictCopyH
import PySem.Challenge.RW_nearhouses_k68_known_rooms_and_weights
set_option Elab.async false
set_option linter.all false
set_option maxRecDepth 100000
namespace L2
open PySem PySem.Spec PyProof.Rows
theorem sameT {K : PySem.W.Frag} {H H' : Hp} {a : Addr} {xs : List V} (e : Same H H') (h : SqT K H a xs) : SqT K H' a xs := by
  rcases h with (h | ⟨o, h⟩) | h
  · exact .inl (.inl (e _ _ h))
  · exact .inl (.inr ⟨o, e _ _ h⟩)
  · exact .inr h
end L2
namespace DL
open PySem PySem.Spec PyProof.Rows L2
/-! ## a value and its plain data; a dict of ints and texts is a value, too -/
def kD : Key → PyData
  | .inl i => .int i
  | .inr x => .str x
theorem sqT_of {K : PySem.W.Frag} {H : Hp} {a : Addr} {xs : List V} (h : H a = some (.tup xs)) : SqT K H a xs := .inl (.inl h)
mutual
inductive Dp (K : PySem.W.Frag) (H : Hp) : V → PyData → Prop
  | non : Dp K H .non .none
  | bl (b : Bool) : Dp K H (.bl b) (.bool b)
  | int (i : Int) : Dp K H (.int i) (.int i)
  | str (x : Str) : Dp K H (.str x) (.str x)
  | dic {a : Addr} {kvs : List (Key × V)} {ks : List (PyData × PyData)} : Rd H a (.dK kvs) → ks.map (·.1) = kvs.map (fun p => kD p.1) → DpAll K H (kvs.map (·.2)) (ks.map (·.2)) → Dp K H (.ref a) (.dict ks)
  | lst {a : Addr} {xs : List V} {ds : List PyData} : SqL K H a xs → DpAll K H xs ds → Dp K H (.ref a) (.list ds)
  | tup {a : Addr} {xs : List V} {ds : List PyData} : H a = some (.tup xs) → DpAll K H xs ds → Dp K H (.ref a) (.tuple ds)
inductive DpAll (K : PySem.W.Frag) (H : Hp) : List V → List PyData → Prop
  | nil : DpAll K H [] []
  | cons {v : V} {vs : List V} {d : PyData} {ds : List PyData} : Dp K H v d → DpAll K H vs ds → DpAll K H (v :: vs) (d :: ds)
end
section
variable {X : Cx} {pins : List (Addr × Obj)} {σ : L2.St} {H : Hp} {s : Shared}
theorem dic_reads {P : Program} {w : World} {h : Heap} : ∀ {kvs : List (Key × V)} {zs : List (Key × Value)} {es : List DictEntry}, KV kvs zs → Pairs (mixKind P w) es zs → Vals (kvs.map (·.2)) (es.map (·.val)) ∧ ∃ as, ReadsAll h (es.map (·.key)) (kvs.map fun p => kD p.1) as
  | _, _, _, .nil, .nil => ⟨.nil, _, .nil⟩
  | _, _, _, .cons r t, .cons e1 e2 e3 => by
    obtain ⟨v1, as, v2⟩ := dic_reads t e3
    refine ⟨.cons (by have q := r.2; rw [← e2] at q; exact q) v1, ?_⟩
    have e1 : keyIs _ _ = true := e1
    rw [← r.1] at e1
    rcases keyIs_shape e1 with ⟨i, t, e4, e5⟩ | ⟨x, t, e4, e5⟩
    · refine ⟨[] ++ as, ?_⟩
      rw [List.map_cons, List.map_cons, e4, e5]
      exact .cons (.int i t) v2
    · refine ⟨[] ++ as, ?_⟩
      rw [List.map_cons, List.map_cons, e4, e5]
      exact .cons (.str x t) v2
mutual
theorem Dp.reads (I : Inv X pins σ H s) : ∀ (d : PyData) (v : V) (u : Value), Dp X.K H v d → RelV v u → ∃ as, Reads s.heap u d as
  | _, _, _, .non, r => by cases r; exact ⟨[], .none⟩
  | _, _, _, .bl b, r => by cases r; exact ⟨[], .bool b⟩
  | _, _, _, .int i, ⟨t, r⟩ => by subst r; exact ⟨[], .int i t⟩
  | _, _, _, .str x, ⟨t, r⟩ => by subst r; exact ⟨[], .str x t⟩
  | _, _, _, .dic k ek ks, r => by
    cases r
    obtain ⟨_, _, zs, pz, ob, arr, e0, h1, h2, h3, _, h4, _⟩ := k.ok I.hok
    obtain ⟨rv, as, ra⟩ := dic_reads (h := s.heap) pz h4
    obtain ⟨bs, rb⟩ := Dp.readsAll I _ _ _ ks rv
    exact ⟨_, .dict h1 h2.1 h3 (by rw [ek]; exact ra) rb⟩
  | _, _, _, .lst k ks, r => by
    cases r
    obtain ⟨zs, vz, ⟨ob, m, h1, h2, _, h3⟩, _⟩ := I.list k
    obtain ⟨bs, hb⟩ := Dp.readsAll I _ _ zs ks vz
    exact ⟨_, .list h1 h2 h3 hb⟩
  | _, _, _, .tup k ks, r => by
    cases r
    obtain ⟨zs, vz, ⟨ob, h1, h2, m, h3⟩, _⟩ := I.tuple (sqT_of k)
    obtain ⟨bs, hb⟩ := Dp.readsAll I _ _ zs ks vz
    exact ⟨_, .tuple h1 h2 h3 hb⟩
theorem Dp.readsAll (I : Inv X pins σ H s) : ∀ (ds : List PyData) (vs : List V) (us : List Value), DpAll X.K H vs ds → Vals vs us → ∃ as, ReadsAll s.heap us ds as
  | _, _, _, .nil, r => by cases r; exact ⟨[], .nil⟩
  | _, _, _, .cons k ks, r => by
    cases r with
    | cons r1 r2 =>
      obtain ⟨a1, h1⟩ := Dp.reads I _ _ _ k r1
      obtain ⟨a2, h2⟩ := Dp.readsAll I _ _ _ ks r2
      exact ⟨a1 ++ a2, .cons h1 h2⟩
end
end
theorem rdMono {F F' : Hp} {a : Addr} {u : HO} (e : Same F F') (h : Rd F a u) : Rd F' a u := by
  rcases h with h | ⟨o, h⟩
  · exact .inl (e _ _ h)
  · exact .inr ⟨o, e _ _ h⟩
section
variable {K : PySem.W.Frag} {F F' : Hp}
mutual
theorem Dp.mono (e : Same F F') : ∀ {v : V} {d : PyData}, Dp K F v d → Dp K F' v d
  | _, _, .non => .non
  | _, _, .bl b => .bl b
  | _, _, .int i => .int i
  | _, _, .str s => .str s
  | _, _, .dic h ek t => .dic (rdMono e h) ek (DpAll.mono e t)
  | _, _, .tup h t => .tup (e _ _ h) (DpAll.mono e t)
  | _, _, .lst h t => .lst (e.seq h) (DpAll.mono e t)
theorem DpAll.mono (e : Same F F') : ∀ {vs : List V} {ds : List PyData}, DpAll K F vs ds → DpAll K F' vs ds
  | _, _, .nil => .nil
  | _, _, .cons h t => .cons (Dp.mono e h) (DpAll.mono e t)
end
theorem DpAll.length : ∀ {vs : List V} {ds : List PyData}, DpAll K F vs ds → vs.length = ds.length
  | _, _, .nil => rfl
  | _, _, .cons _ t => congrArg (· + 1) t.length
theorem DpAll.get : ∀ {vs : List V} {ds : List PyData} {i : Nat} {d : PyData}, DpAll K F vs ds → ds[i]? = some d → ∃ v, vs[i]? = some v ∧ Dp K F v d
  | _, _, _, _, .nil, e => by simp at e
  | _, _, 0, _, .cons h _, e => by
    simp at e
    subst e
    exact ⟨_, rfl, h⟩
  | _, _, i + 1, _, .cons _ t, e => by
    obtain ⟨v, h1, h2⟩ := DpAll.get (i := i) t (by simpa using e)
    exact ⟨v, by simpa using h1, h2⟩
theorem DpAll.get' : ∀ {vs : List V} {ds : List PyData} {i : Nat} {v : V}, DpAll K F vs ds → vs[i]? = some v → ∃ d, ds[i]? = some d ∧ Dp K F v d
  | _, _, _, _, .nil, e => by simp at e
  | _, _, 0, _, .cons h _, e => by
    simp at e
    subst e
    exact ⟨_, rfl, h⟩
  | _, _, i + 1, _, .cons _ t, e => by
    obtain ⟨v, h1, h2⟩ := DpAll.get' (i := i) t (by simpa using e)
    exact ⟨v, by simpa using h1, h2⟩
theorem DpAll.append : ∀ {vs ws : List V} {ds es : List PyData}, DpAll K F vs ds → DpAll K F ws es → DpAll K F (vs ++ ws) (ds ++ es)
  | _, _, _, _, .nil, s => s
  | _, _, _, _, .cons r t, s => .cons r (DpAll.append t s)
theorem DpAll.take : ∀ {vs : List V} {ds : List PyData} (n : Nat), DpAll K F vs ds → DpAll K F (vs.take n) (ds.take n)
  | _, _, 0, _ => .nil
  | _, _, _ + 1, .nil => .nil
  | _, _, n + 1, .cons r t => .cons r (DpAll.take n t)
theorem DpAll.drop : ∀ {vs : List V} {ds : List PyData} (n : Nat), DpAll K F vs ds → DpAll K F (vs.drop n) (ds.drop n)
  | _, _, 0, r => r
  | _, _, _ + 1, .nil => .nil
  | _, _, n + 1, .cons _ t => DpAll.drop n t
theorem DpAll.set : ∀ {vs : List V} {ds : List PyData} {v : V} {d : PyData} (n : Nat), DpAll K F vs ds → Dp K F v d → DpAll K F (vs.set n v) (ds.set n d)
  | _, _, _, _, _, .nil, _ => .nil
  | _, _, _, _, 0, .cons _ t, r => .cons r t
  | _, _, _, _, n + 1, .cons h t, r => .cons h (DpAll.set n t r)
theorem DpAll.dropLast : ∀ {vs : List V} {ds : List PyData}, DpAll K F vs ds → DpAll K F vs.dropLast ds.dropLast := fun {vs ds} h => by
  rw [List.dropLast_eq_take, List.dropLast_eq_take, h.length]
  exact h.take _
theorem DpAll.rep {vs : List V} {ds : List PyData} (h : DpAll K F vs ds) : ∀ n : Nat, DpAll K F (List.replicate n vs).flatten (List.replicate n ds).flatten
  | 0 => .nil
  | n + 1 => by
    rw [List.replicate_succ, List.replicate_succ, List.flatten_cons, List.flatten_cons]
    exact h.append (DpAll.rep h n)
theorem DpAll.reverse : ∀ {vs : List V} {ds : List PyData}, DpAll K F vs ds → DpAll K F vs.reverse ds.reverse
  | _, _, .nil => .nil
  | _, _, .cons h t => by
    rw [List.reverse_cons, List.reverse_cons]
    exact (DpAll.reverse t).append (.cons h .nil)
theorem DpAll.ints : ∀ {vs : List V} {ns : List Int}, DpAll K F vs (ns.map PyData.int) → vs = ns.map V.int
  | _, [], .nil => rfl
  | _, n :: ns, .cons (.int _) t => congrArg (V.int n :: ·) (DpAll.ints t)
theorem DpAll.of_ints : ∀ (ns : List Int), DpAll K F (ns.map V.int) (ns.map PyData.int)
  | [] => .nil
  | n :: ns => .cons (.int n) (DpAll.of_ints ns)
end


/-! ## data without addresses: the model's own plain data -/
abbrev D := PyData
abbrev Rep (K : PySem.W.Frag) (F : Hp) : V → D → Prop := Dp K F
abbrev RepL (K : PySem.W.Frag) (F : Hp) : List V → List D → Prop := DpAll K F
/-! ## the shared part of the heap, grown by what is new -/
def ext (F H H' : Hp) : Hp := fun a => if (H a).isSome then F a else H' a
section
variable {F H H' H1 H2 : Hp}
theorem Same.none_of (s : Same F H) {a : Addr} (h : H a = none) : F a = none := s.free h
theorem ext_self (s : Same F H) : ext F H H = F := by
  funext a
  unfold ext
  cases h : H a with
  | none => simp [s.free h]
  | some o => simp
theorem ext_ext (s1 : Same H H1) (s2 : Same H1 H2) : ext (ext F H H1) H1 H2 = ext F H H2 := by
  funext a
  unfold ext
  cases h : H a with
  | some o => simp [s1 _ _ h]
  | none =>
    cases h1 : H1 a with
    | none => simp
    | some o => simp [s2 _ _ h1]
theorem same_ext (s : Same F H) : Same F (ext F H H') := fun a o e => by
  unfold ext
  simp [s _ _ e, e]
theorem ext_sub (s : Same F H) (s1 : Same H H') : Same (ext F H H') H' := fun a o e => by
  unfold ext at e
  cases h : H a with
  | none => simpa [h] using e
  | some u =>
    simp [h] at e
    exact s1 _ _ (s _ _ e)
theorem ext_new (s : Same F H) {p : Addr} {o : HO} (h : H p = none) : ext F H (upd H p o) = upd F p o := by
  funext a
  unfold ext
  by_cases e : a = p
  · subst e
    rw [upd_same, upd_same]
    simp [h]
  · rw [upd_ne e, upd_ne e]
    cases q : H a with
    | none => simp [s.free q]
    | some u => simp
theorem same_new {p : Addr} {o : HO} (h : H p = none) : Same H (upd H p o) := fun b x e => by
  rw [upd_ne (ne_of_none e h)]
  exact e
theorem ext_mono {F1 : Hp} (s : Same F F1) : Same (ext F H H') (ext F1 H H') := fun a o e => by
  unfold ext at e ⊢
  cases h : H a with
  | none => simpa [h] using e
  | some u =>
    simp [h] at e
    simp
    exact s _ _ e
theorem Same.upd2 (s : Same F H) {p : Addr} {o : HO} (hn : F p = none) : Same F (upd H p o) := fun a x e => by
  rw [upd_ne (ne_of_none e hn)]
  exact s _ _ e
end

/-! ## the slots -/
/-- a field of an object of one's own -/
inductive Fd where
  | sh (d : D)
  | own (d : D)
  | own2 (d : D)
inductive E where
  | sh (d : D)
  | own (d : D)
  | own2 (d : D)
  | row (d : D)
  | dk (l : Bool) (ks : List (Key × D))
  | dt (l : Bool) (ks : List (List Key × D))
  | fn (j : Nat) (f : Addr)
  | ob (m : Nat) (fs : List (Str × Fd))
  | obs (fs : List (Str × D))
abbrev Env := List (Option E)

structure Z where
  H0 : Hp
  F0 : Hp
  B : Addr → Prop
  cl : Addr
  fp : List Addr

/-- a mutable object at p, its items shared -/
def Obj1 (K : PySem.W.Frag) (F H : Hp) (p : Addr) : D → Prop
  | .list ds => ∃ vs, H p = some (.lst vs) ∧ RepL K F vs ds
  | _ => False
inductive Objs (K : PySem.W.Frag) (F H : Hp) : List Addr → List D → Prop
  | nil : Objs K F H [] []
  | cons {p : Addr} {ps : List Addr} {d : D} {ds : List D} : Obj1 K F H p d → Objs K F H ps ds → Objs K F H (p :: ps) (d :: ds)
/-- an object of one's own, or one that is locked -/
def LkO (z : Z) (F H : Hp) (p : Addr) (u : HO) (l : Bool) (as : List Addr) : Prop := (l = false ∧ as = [p] ∧ z.H0 p = none ∧ H p = some u) ∨ (l = true ∧ as = [] ∧ ∃ o, F p = some (.frz o u))
theorem LkO.mono {z : Z} {F F' H H' : Hp} {p : Addr} {u : HO} {l : Bool} {as : List Addr} (h : LkO z F H p u l as) (s : Same F F') (k : ∀ a ∈ as, H' a = H a) : LkO z F' H' p u l as := by
  rcases h with ⟨h1, h2, h3, h4⟩ | ⟨h1, h2, o, h3⟩
  · exact .inl ⟨h1, h2, h3, (k p (by rw [h2]; exact List.mem_cons_self)).trans h4⟩
  · exact .inr ⟨h1, h2, o, s _ _ h3⟩
/-- the fields of an object -/
inductive Fds (K : PySem.W.Frag) (F H : Hp) : List (Str × V) → List (Str × Fd) → List Addr → Prop
  | nil : Fds K F H [] [] []
  | sh {n : Str} {v : V} {d : D} {xs : List (Str × V)} {fs : List (Str × Fd)} {as : List Addr} : Rep K F v d → Fds K F H xs fs as → Fds K F H ((n, v) :: xs) ((n, .sh d) :: fs) as
  | own {n : Str} {p : Addr} {d : D} {xs : List (Str × V)} {fs : List (Str × Fd)} {as : List Addr} : Obj1 K F H p d → Fds K F H xs fs as → Fds K F H ((n, .ref p) :: xs) ((n, .own d) :: fs) (p :: as)
  | own2 {n : Str} {p : Addr} {qs : List Addr} {ds : List D} {xs : List (Str × V)} {fs : List (Str × Fd)} {as : List Addr} : H p = some (.lst (qs.map V.ref)) → Objs K F H qs ds → Fds K F H xs fs as → Fds K F H ((n, .ref p) :: xs) ((n, .own2 (.list ds)) :: fs) (p :: (qs ++ as))
/-- a class of one's own with such fields -/
structure OkC (K : PySem.W.Frag) (C : Addr) (ns : List Str) : Prop where
  cls : Cls K C
  no : ∀ n ∈ ns, NoAttr K C n
def Ent (K : PySem.W.Frag) (z : Z) (F H : Hp) (v : V) : E → List Addr → Prop
  | .sh d, as => as = [] ∧ Rep K F v d
  | .own d, as => ∃ p, v = .ref p ∧ as = [p] ∧ z.H0 p = none ∧ Obj1 K F H p d
  | .row d, as => ∃ p, v = .ref p ∧ as = [p] ∧ z.B p ∧ Obj1 K F H p d
  | .dk l ks, as => ∃ p kvs, v = .ref p ∧ kvs.map (·.1) = ks.map (·.1) ∧ RepL K F (kvs.map (·.2)) (ks.map (·.2)) ∧ LkO z F H p (.dK kvs) l as
  | .dt l ks, as => ∃ p kvs, v = .ref p ∧ kvs.map (·.1) = ks.map (·.1) ∧ RepL K F (kvs.map (·.2)) (ks.map (·.2)) ∧ LkO z F H p (.dT kvs) l as
  | .fn _ f, as => as = [] ∧ v = .ref f
  | .ob m fs, as => ∃ p dx xs as', v = .ref p ∧ as = p :: as' ∧ H p = some (.ins z.cl dx xs) ∧ OkC K z.cl (fs.map (·.1)) ∧ as.Nodup ∧ ((∀ a ∈ as, z.H0 a = none ∨ z.B a) ∧ (m = 1 → as = z.fp) ∧ (m = 2 → z.fp.head? = some p) ∧ (m = 0 → ∀ a ∈ as, z.H0 a = none)) ∧ Fds K F H xs fs as'
  | .obs fs, as => as = [] ∧ ∃ p C dx xs, v = .ref p ∧ F p = some (.ins C dx xs) ∧ OkC K C (fs.map (·.1)) ∧ xs.map (·.1) = fs.map (·.1) ∧ RepL K F (xs.map (·.2)) (fs.map (·.2))
  | .own2 d, as => ∃ p qs ds, v = .ref p ∧ as = p :: qs ∧ d = .list ds ∧ H p = some (.lst (qs.map V.ref)) ∧ (p :: qs).Nodup ∧ (∀ a ∈ p :: qs, z.H0 a = none) ∧ Objs K F H qs ds

theorem Obj1.mono {K : PySem.W.Frag} {F F' H H' : Hp} {p : Addr} {d : D} (h : Obj1 K F H p d) (s : Same F F') (e : H' p = H p) : Obj1 K F' H' p d := by
  cases d with
  | list ds =>
    obtain ⟨vs, h1, h2⟩ := h
    exact ⟨vs, e.trans h1, h2.mono s⟩
  | _ => exact h.elim
theorem Obj1.some {K : PySem.W.Frag} {F H : Hp} {p : Addr} {d : D} (h : Obj1 K F H p d) : ∃ o, H p = some o := by
  cases d with
  | list ds =>
    obtain ⟨vs, h1, _⟩ := h
    exact ⟨_, h1⟩
  | _ => exact h.elim
theorem Objs.mono {K : PySem.W.Frag} {F F' H H' : Hp} (s : Same F F') : ∀ {ps : List Addr} {ds : List D}, Objs K F H ps ds → (∀ p ∈ ps, H' p = H p) → Objs K F' H' ps ds
  | _, _, .nil, _ => .nil
  | _, _, .cons h t, e => .cons (h.mono s (e _ List.mem_cons_self)) (t.mono s fun p hp => e p (List.mem_cons_of_mem _ hp))
theorem Objs.length {K : PySem.W.Frag} {F H : Hp} : ∀ {ps : List Addr} {ds : List D}, Objs K F H ps ds → ps.length = ds.length
  | _, _, .nil => rfl
  | _, _, .cons _ t => congrArg (· + 1) t.length
theorem Objs.get {K : PySem.W.Frag} {F H : Hp} : ∀ {ps : List Addr} {ds : List D} {i : Nat} {d : D}, Objs K F H ps ds → ds[i]? = some d → ∃ p, ps[i]? = some p ∧ Obj1 K F H p d
  | _, _, _, _, .nil, e => by simp at e
  | _, _, 0, _, .cons h _, e => by
    simp at e
    subst e
    exact ⟨_, rfl, h⟩
  | _, _, i + 1, _, .cons _ t, e => by
    obtain ⟨v, h1, h2⟩ := Objs.get (i := i) t (by simpa using e)
    exact ⟨v, by simpa using h1, h2⟩
theorem Objs.some {K : PySem.W.Frag} {F H : Hp} : ∀ {ps : List Addr} {ds : List D}, Objs K F H ps ds → ∀ p ∈ ps, ∃ o, H p = some o
  | _, _, .nil, _, h => by cases h
  | _, _, .cons h t, p, hp => by
    rcases List.mem_cons.mp hp with e | hp
    · subst e
      exact h.some
    · exact t.some p hp
theorem Fds.mono {K : PySem.W.Frag} {F F' H H' : Hp} (s : Same F F') : ∀ {xs : List (Str × V)} {fs : List (Str × Fd)} {as : List Addr}, Fds K F H xs fs as → (∀ a ∈ as, H' a = H a) → Fds K F' H' xs fs as
  | _, _, _, .nil, _ => .nil
  | _, _, _, .sh r t, e => .sh (r.mono s) (t.mono s e)
  | _, _, _, .own o t, e => .own (o.mono s (e _ List.mem_cons_self)) (t.mono s fun a ha => e a (List.mem_cons_of_mem _ ha))
  | _, _, _, .own2 h o t, e => .own2 ((e _ List.mem_cons_self).trans h) (o.mono s fun a ha => e a (List.mem_cons_of_mem _ (List.mem_append_left _ ha))) (t.mono s fun a ha => e a (List.mem_cons_of_mem _ (List.mem_append_right _ ha)))
theorem Ent.mono {K : PySem.W.Frag} {z : Z} {F F' H H' : Hp} {v : V} {e : E} {as : List Addr} (h : Ent K z F H v e as) (s : Same F F') (k : ∀ a ∈ as, H' a = H a) : Ent K z F' H' v e as := by
  cases e with
  | sh d => exact ⟨h.1, h.2.mono s⟩
  | fn j f => exact h
  | ob m fs =>
    obtain ⟨p, dx, xs, as', e1, e2, h1, h2, h3, h4, h5⟩ := h
    subst e2
    exact ⟨p, dx, xs, as', e1, rfl, (k p List.mem_cons_self).trans h1, h2, h3, h4, h5.mono s fun a ha => k a (List.mem_cons_of_mem _ ha)⟩
  | obs fs =>
    obtain ⟨e0, p, C, dx, xs, e1, h1, h2, h3, h4⟩ := h
    exact ⟨e0, p, C, dx, xs, e1, s _ _ h1, h2, h3, h4.mono s⟩
  | own d =>
    obtain ⟨p, e1, e2, e3, h⟩ := h
    subst e2
    exact ⟨p, e1, rfl, e3, h.mono s (k p List.mem_cons_self)⟩
  | row d =>
    obtain ⟨p, e1, e2, e3, h⟩ := h
    subst e2
    exact ⟨p, e1, rfl, e3, h.mono s (k p List.mem_cons_self)⟩
  | dk l ks =>
    obtain ⟨p, kvs, e1, e2, e3, h⟩ := h
    exact ⟨p, kvs, e1, e2, e3.mono s, h.mono s k⟩
  | dt l ks =>
    obtain ⟨p, kvs, e1, e2, e3, h⟩ := h
    exact ⟨p, kvs, e1, e2, e3.mono s, h.mono s k⟩
  | own2 d =>
    obtain ⟨p, qs, ds, e1, e2, e3, h1, h2, h3, h4⟩ := h
    subst e2
    exact ⟨p, qs, ds, e1, rfl, e3, (k p List.mem_cons_self).trans h1, h2, h3, h4.mono s fun q hq => k q (List.mem_cons_of_mem _ hq)⟩

/-- all tuples of the heap are shared -/
def AllT (F H : Hp) : Prop := ∀ a vs, H a = some (.tup vs) → F a = some (.tup vs)
theorem AllT.refl (H : Hp) : AllT H H := fun _ _ h => h
theorem AllT.ext {F H H' : Hp} (t : AllT F H) (s : Same H H') : AllT (DL.ext F H H') H' := fun a vs e => by
  unfold DL.ext
  cases q : H a with
  | none => simpa using e
  | some o =>
    have := s _ _ q
    rw [e] at this
    cases this
    simpa using t a vs q
theorem AllT.up {F H : Hp} (t : AllT F H) {p : Addr} {o : HO} (ho : ∀ vs, o ≠ .tup vs) : AllT F (upd H p o) := fun a vs e => by
  by_cases q : a = p
  · rw [q, upd_same] at e
    exact absurd (Option.some.inj e) (ho vs)
  · rw [upd_ne q] at e
    exact t a vs e
structure Rel (K : PySem.W.Frag) (z : Z) (ρ : Env) (σ : L2.St) (F H : Hp) (O : Nat → List Addr) : Prop where
  len : ρ.length = σ.length
  sub : Same F H
  ent : ∀ (i : Nat) (e : E), ρ[i]? = some (some e) → ∃ v, σ[i]? = some (some v) ∧ Ent K z F H v e (O i)
  off : ∀ (i : Nat) (a : Addr), a ∈ O i → F a = none ∧ H a ≠ none
  apt : ∀ (i j : Nat) (a : Addr), a ∈ O i → a ∈ O j → i = j
  old : ∀ a, z.H0 a ≠ none → z.F0 a = none → F a = none
  oldH : ∀ a, z.H0 a ≠ none → H a ≠ none
  keep : ∀ a o, z.H0 a = some o → ¬ z.B a → H a = some o
  f0 : Same z.F0 F
  tup : AllT F H

/-- nothing tracked has changed: the shared part may take in what is new -/
theorem Rel.grow {K : PySem.W.Frag} {z : Z} {ρ : Env} {σ : L2.St} {F H H' : Hp} {O : Nat → List Addr} (R : Rel K z ρ σ F H O) (s : Same H H') : Rel K z ρ σ (ext F H H') H' O where
  len := R.len
  sub := ext_sub R.sub s
  ent := fun i e h => by
    obtain ⟨v, h1, h2⟩ := R.ent i e h
    refine ⟨v, h1, h2.mono (same_ext R.sub) fun a ha => ?_⟩
    obtain ⟨_, n⟩ := R.off i a ha
    cases q : H a with
    | none => exact absurd q n
    | some o => exact s _ _ q
  off := fun i a ha => by
    obtain ⟨f, n⟩ := R.off i a ha
    cases q : H a with
    | none => exact absurd q n
    | some o =>
      refine ⟨?_, by rw [s _ _ q]; exact fun z => nomatch z⟩
      unfold ext
      simp [q, f]
  apt := R.apt
  old := fun a h0 f0 => by
    have f := R.old a h0 f0
    have n := R.oldH a h0
    unfold ext
    cases q : H a with
    | none => exact absurd q n
    | some o => simp [f]
  oldH := fun a h0 => by
    have n := R.oldH a h0
    cases q : H a with
    | none => exact absurd q n
    | some o =>
      rw [s _ _ q]
      exact fun z => nomatch z
  keep := fun a o h b => s _ _ (R.keep a o h b)
  f0 := R.f0.trans (same_ext R.sub)
  tup := R.tup.ext s

/-! ## the judgements: pure expressions -/
def tP (K : PySem.W.Frag) (z : Z) (f : Env → Option D) : TE := fun σ H Q => ∃ ρ F O d, Rel K z ρ σ F H O ∧ f ρ = some d ∧ ∀ v H', Same H H' → Rep K (ext F H H') v d → Q v H'
def tPs (K : PySem.W.Frag) (z : Z) (f : Env → Option (List D)) : TA := fun σ H Q => ∃ ρ F O ds, Rel K z ρ σ F H O ∧ f ρ = some ds ∧ ∀ vs H', Same H H' → RepL K (ext F H H') vs ds → Q vs H'
def tB (K : PySem.W.Frag) (z : Z) (f : Env → Option Bool) : TT := fun σ H Q => ∃ ρ F O b, Rel K z ρ σ F H O ∧ f ρ = some b ∧ ∀ H', Same H H' → Q b H'

section
variable {X : Cx}
theorem _root_.L2.PE.mono {e : Expr} {t t' : TE} (h : PE X e t) (i : ∀ σ H Q, t' σ H Q → t σ H Q) : PE X e t' := ⟨fun pins s σ H Q I q => h.run pins s σ H Q I (i _ _ _ q)⟩
theorem _root_.L2.PT.mono {e : Expr} {t t' : TT} (h : PT X e t) (i : ∀ σ H Q, t' σ H Q → t σ H Q) : PT X e t' := ⟨fun pins s σ H Q I q => h.run pins s σ H Q I (i _ _ _ q)⟩
theorem _root_.L2.PA.mono {es : List Expr} {t t' : TA} (h : PA X es t) (i : ∀ σ H Q, t' σ H Q → t σ H Q) : PA X es t' := ⟨fun pos pins s σ H Q I q => h.run pos pins s σ H Q I (i _ _ _ q)⟩
theorem _root_.L2.PW.mono {e : Expr} {t t' : TT} (h : PW X e t) (i : ∀ σ H Q, t' σ H Q → t σ H Q) : PW X e t' := ⟨fun w pins s σ H Q I q => h.run w pins s σ H Q I (i _ _ _ q)⟩
theorem _root_.L2.PS.mono {st : Stmt} {t t' : TS} (h : PS X st t) (i : ∀ D σ H, t' D σ H → t D σ H) : PS X st t' := ⟨fun pins s σ H D I q => h.run pins s σ H D I (i _ _ _ q)⟩
theorem _root_.L2.PSs.mono {st : List Stmt} {t t' : TS} (h : PSs X st t) (i : ∀ D σ H, t' D σ H → t D σ H) : PSs X st t' := ⟨fun pins s σ H D I q => h.run pins s σ H D I (i _ _ _ q)⟩
theorem _root_.L2.PI.mono {tg e : Expr} {t t' : TI} (h : PI X tg e t) (i : ∀ σ H Q, t' σ H Q → t σ H Q) : PI X tg e t' := ⟨fun pins s σ H Q I q => h.run pins s σ H Q I (i _ _ _ q)⟩

/-! ### names and constants -/
def cVar (i : Nat) : Env → Option D := fun ρ => match ρ[i]? with
  | some (some (.sh d)) => some d
  | _ => none
def cK (d : D) : Env → Option D := fun _ => some d
variable {z : Z}
theorem q_var (i : Nat) {x : Str} {pos : Pos} (hN : X.N[i]? = some x := by rfl) (hv : Vis X.env.scope x := by first | exact Or.inl rfl | exact Or.inr (Or.inl rfl) | exact Or.inr (Or.inr rfl)) (hd : (x == ("__debug__" : Str)) = false := by decide)
    (hcd : (x == ("__classdict__" : Str)) = false := by decide) : PE X (.Name x pos) (tP X.K z (cVar i)) := by
  refine (pe_var hN hv hd hcd).mono fun σ H Q ⟨ρ, F, O, d, R, e, q⟩ => ?_
  unfold cVar at e
  split at e
  · next d' h =>
    cases e
    obtain ⟨v, h1, _, h2⟩ := R.ent i _ h
    refine ⟨v, h1, q v H (Same.refl _) ?_⟩
    rw [ext_self R.sub]
    exact h2
  · cases e
theorem q_const {e : Expr} {v : V} {d : D} (h : PE X e (tC v)) (r : ∀ F, Rep X.K F v d) : PE X e (tP X.K z (cK d)) :=
  h.mono fun σ H Q ⟨ρ, F, O, d', R, e, q⟩ => by
    cases e
    exact q v H (Same.refl _) (r _)
theorem q_int {i : Int} {j pos} : PE X (.Constant (.int i) j pos) (tP X.K z (cK (.int i))) := q_const pe_int fun _ => .int i
theorem q_bl {b j pos} : PE X (.Constant (.bool b) j pos) (tP X.K z (cK (.bool b))) := q_const pe_bl fun _ => .bl b
theorem q_str {s j pos} : PE X (.Constant (.str s) j pos) (tP X.K z (cK (.str s))) := q_const pe_str fun _ => .str s
theorem q_non {j pos} : PE X (.Constant .none j pos) (tP X.K z (cK .none)) := q_const pe_non fun _ => .non
theorem q_globI {x : Str} {i : Int} {u : Value} {pos : Pos} (hg : Gl X x) (hm : X.mg x = some u) (r : RelV (.int i) u) (hd : (x == ("__debug__" : Str)) = false := by decide) : PE X (.Name x pos) (tP X.K z (cK (.int i))) := q_const (pe_glob hg hm r hd) fun _ => .int i
theorem q_globS {x : Str} {i : Str} {u : Value} {pos : Pos} (hg : Gl X x) (hm : X.mg x = some u) (r : RelV (.str i) u) (hd : (x == ("__debug__" : Str)) = false := by decide) : PE X (.Name x pos) (tP X.K z (cK (.str i))) := q_const (pe_glob hg hm r hd) fun _ => .str i

/-! ### two-place operations by values -/
structure Op2 (K : PySem.W.Frag) (r : R2) (o : D → D → Option D) : Prop where
  run : ∀ (F H : Hp) (x y : V) (a b d : D) (Q : VK), Same F H → Rep K F x a → Rep K F y b → o a b = some d → (∀ v H', Same H H' → Rep K (ext F H H') v d → Q v H') → r x y H Q
def c2 (o : D → D → Option D) (f g : Env → Option D) : Env → Option D := fun ρ => (f ρ).bind fun a => (g ρ).bind fun b => o a b
theorem bind_some {α β : Type} {x : Option α} {f : α → Option β} {b : β} (h : x.bind f = some b) : ∃ a, x = some a ∧ f a = some b := by
  cases x with
  | none => cases h
  | some a => exact ⟨a, rfl, h⟩
theorem tP2 {K : PySem.W.Frag} {r : R2} {o : D → D → Option D} (ho : Op2 K r o) {f g : Env → Option D} {σ : L2.St} {H : Hp} {Q : VK} (h : tP K z (c2 o f g) σ H Q) : tOp r (tP K z f) (tP K z g) σ H Q := by
  obtain ⟨ρ, F, O, d, R, e, q⟩ := h
  obtain ⟨a, ea, e⟩ := bind_some e
  obtain ⟨b, eb, e⟩ := bind_some e
  refine ⟨ρ, F, O, a, R, ea, fun v1 H1 s1 r1 => ?_⟩
  refine ⟨ρ, _, O, b, R.grow s1, eb, fun v2 H2 s2 r2 => ?_⟩
  rw [ext_ext s1 s2] at r2
  have R2 := R.grow (s1.trans s2)
  refine ho.run (ext F H H2) H2 v1 v2 a b d Q R2.sub (r1.mono ?_) r2 e fun v H3 s3 r3 => ?_
  · rw [← ext_ext s1 s2]
    exact same_ext (R.grow s1).sub
  · rw [ext_ext (s1.trans s2) s3] at r3
    exact q v H3 ((s1.trans s2).trans s3) r3
theorem q_op {a b : Expr} {pos : Pos} {op : Operator} {r : R2} {o : D → D → Option D} {f g : Env → Option D} (hr : OpR X (binaryOp op) r) (ho : Op2 X.K r o) (ha : PE X a (tP X.K z f)) (hb : PE X b (tP X.K z g)) : PE X (.BinOp a op b pos) (tP X.K z (c2 o f g)) :=
  (pe_op hr ha hb).mono fun _ _ _ h => tP2 ho h
theorem q_cmp {a b : Expr} {pos : Pos} {op : CmpOp} {r : R2} {o : D → D → Option D} {f g : Env → Option D} (hr : OpR X (compareOp op) r) (ho : Op2 X.K r o) (ha : PE X a (tP X.K z f)) (hb : PE X b (tP X.K z g)) (hm : behindInMarks op b = false) : PE X (.Compare a [op] [b] pos) (tP X.K z (c2 o f g)) :=
  (pe_cmpR hr ha hb hm).mono fun _ _ _ h => tP2 ho h
theorem q_ix {a b : Expr} {pos : Pos} {r : R2} {o : D → D → Option D} {f g : Env → Option D} (hr : IxR X r) (ho : Op2 X.K r o) (ha : PE X a (tP X.K z f)) (hb : PE X b (tP X.K z g)) (hs : PlainIx b := by exact fun _ _ => rfl) : PE X (.Subscript a b pos) (tP X.K z (c2 o f g)) :=
  (pe_ix hr ha hb hs).mono fun _ _ _ h => tP2 ho h

/-! ### one-place operations, calls by values -/
structure Op1 (K : PySem.W.Frag) (r : V → Hp → VK → Prop) (o : D → Option D) : Prop where
  run : ∀ (F H : Hp) (x : V) (a d : D) (Q : VK), Same F H → Rep K F x a → o a = some d → (∀ v H', Same H H' → Rep K (ext F H H') v d → Q v H') → r x H Q
structure OpN (K : PySem.W.Frag) (r : List V → Hp → VK → Prop) (o : List D → Option D) : Prop where
  run : ∀ (F H : Hp) (xs : List V) (as : List D) (d : D) (Q : VK), Same F H → RepL K F xs as → o as = some d → (∀ v H', Same H H' → Rep K (ext F H H') v d → Q v H') → r xs H Q
def c1 (o : D → Option D) (f : Env → Option D) : Env → Option D := fun ρ => (f ρ).bind o
def cN (o : List D → Option D) (f : Env → Option (List D)) : Env → Option D := fun ρ => (f ρ).bind o
def cNil : Env → Option (List D) := fun _ => some []
def cCons (f : Env → Option D) (g : Env → Option (List D)) : Env → Option (List D) := fun ρ => (f ρ).bind fun a => (g ρ).bind fun as => some (a :: as)
theorem tP1 {K : PySem.W.Frag} {r : V → Hp → VK → Prop} {o : D → Option D} (ho : Op1 K r o) {f : Env → Option D} {σ : L2.St} {H : Hp} {Q : VK} (h : tP K z (c1 o f) σ H Q) : tP K z f σ H fun x H1 => r x H1 Q := by
  obtain ⟨ρ, F, O, d, R, e, q⟩ := h
  obtain ⟨a, ea, e⟩ := bind_some e
  refine ⟨ρ, F, O, a, R, ea, fun v1 H1 s1 r1 => ho.run _ H1 v1 a d Q (R.grow s1).sub r1 e fun v H3 s3 r3 => ?_⟩
  rw [ext_ext s1 s3] at r3
  exact q v H3 (s1.trans s3) r3
theorem tPN {K : PySem.W.Frag} {r : List V → Hp → VK → Prop} {o : List D → Option D} (ho : OpN K r o) {f : Env → Option (List D)} {σ : L2.St} {H : Hp} {Q : VK} (h : tP K z (cN o f) σ H Q) : tPs K z f σ H fun x H1 => r x H1 Q := by
  obtain ⟨ρ, F, O, d, R, e, q⟩ := h
  obtain ⟨a, ea, e⟩ := bind_some e
  refine ⟨ρ, F, O, a, R, ea, fun v1 H1 s1 r1 => ho.run _ H1 v1 a d Q (R.grow s1).sub r1 e fun v H3 s3 r3 => ?_⟩
  rw [ext_ext s1 s3] at r3
  exact q v H3 (s1.trans s3) r3
theorem q_un {a : Expr} {pos : Pos} {op : UnaryOp} {r : V → Hp → VK → Prop} {o : D → Option D} {f : Env → Option D} (hr : UnR X (unaryOp op) r) (ho : Op1 X.K r o) (ha : PE X a (tP X.K z f)) : PE X (.UnaryOp op a pos) (tP X.K z (c1 o f)) :=
  (pe_un hr ha).mono fun _ _ _ h => tP1 ho h
theorem q_nil : PA X [] (tPs X.K z cNil) := pa_nil.mono fun σ H Q ⟨ρ, F, O, ds, R, e, q⟩ => by
  cases e
  exact q [] H (Same.refl _) .nil
theorem q_cons {e : Expr} {es : List Expr} {f : Env → Option D} {g : Env → Option (List D)} (ha : PE X e (tP X.K z f)) (hr : PA X es (tPs X.K z g)) (hs : starEach (e :: es) X.env = (false, eval e X.env) :: starEach es X.env := by rfl) : PA X (e :: es) (tPs X.K z (cCons f g)) := by
  refine (pa_cons ha hr hs).mono fun σ H Q ⟨ρ, F, O, ds, R, e, q⟩ => ?_
  obtain ⟨a, ea, e⟩ := bind_some e
  obtain ⟨as, eb, e⟩ := bind_some e
  cases e
  refine ⟨ρ, F, O, a, R, ea, fun v1 H1 s1 r1 => ?_⟩
  refine ⟨ρ, _, O, as, R.grow s1, eb, fun v2 H2 s2 r2 => ?_⟩
  rw [ext_ext s1 s2] at r2
  refine q _ _ (s1.trans s2) (.cons (r1.mono ?_) r2)
  rw [← ext_ext s1 s2]
  exact same_ext (R.grow s1).sub
theorem q_callB {x : Str} {p pos : Pos} {e : Expr} {es : List Expr} {id : String} {r : List V → Hp → VK → Prop} {o : List D → Option D} {f : Env → Option (List D)} (hc : CallR X (.builtin id) r) (ho : OpN X.K r o) (hg : Gl X x) (hm : X.mg x = none) (hv : bootBuiltins x = some (.builtin id))
    (ha : PA X (e :: es) (tPs X.K z f)) (hn : x ≠ "__name__" := by decide) (hdb : (x == ("__debug__" : Str)) = false := by decide)
    (he : starEach (e :: es) X.env = (false, eval e X.env) :: starEach es X.env := by rfl) (hpl : (backTo pos (starEach es X.env)).any (·.1) = false := by rfl) : PE X (.Call (.Name x p) (e :: es) [] pos) (tP X.K z (cN o f)) :=
  (pe_callB hc hg hm hv ha hn hdb he hpl).mono fun _ _ _ h => tPN ho h
theorem q_callTy {x : Str} {p pos : Pos} {e : Expr} {es : List Expr} {id : String} {r : List V → Hp → VK → Prop} {o : List D → Option D} {f : Env → Option (List D)} (hc : CallR X (.type id) r) (ho : OpN X.K r o) (hg : Gl X x) (hm : X.mg x = none) (hv : bootBuiltins x = some (.type id))
    (ha : PA X (e :: es) (tPs X.K z f)) (hn : x ≠ "__name__" := by decide) (hdb : (x == ("__debug__" : Str)) = false := by decide)
    (he : starEach (e :: es) X.env = (false, eval e X.env) :: starEach es X.env := by rfl) (hpl : (backTo pos (starEach es X.env)).any (·.1) = false := by rfl) : PE X (.Call (.Name x p) (e :: es) [] pos) (tP X.K z (cN o f)) :=
  (pe_callTy hc hg hm hv ha hn hdb he hpl).mono fun _ _ _ h => tPN ho h
/-- displays -/
def cTup (f : Env → Option (List D)) : Env → Option D := fun ρ => (f ρ).bind fun ds => if ds.length ≤ 1000 then some (.tuple ds) else none
def cLst (f : Env → Option (List D)) : Env → Option D := fun ρ => (f ρ).bind fun ds => if ds.length ≤ 1000 then some (.list ds) else none
theorem le1000 {n : Nat} (h : n ≤ 1000) : n ≤ sizeLine := Nat.le_of_lt (small1000 h)
theorem q_tup {es : List Expr} {x1} {pos : Pos} {f : Env → Option (List D)} (h : PA X es (tPs X.K z f)) : PE X (.Tuple es x1 pos) (tP X.K z (cTup f)) := by
  refine (pe_tup h).mono fun σ H Q ⟨ρ, F, O, d, R, e, q⟩ => ?_
  obtain ⟨ds, ea, e⟩ := bind_some e
  split at e
  · next hl =>
    cases e
    refine ⟨ρ, F, O, ds, R, ea, fun vs H1 s1 r1 => ⟨le1000 (by rw [r1.length]; exact hl), fun p hp => ?_⟩⟩
    have R1 := R.grow s1
    refine q _ _ (s1.trans (same_new hp)) ?_
    rw [← ext_ext s1 (same_new hp), ext_new R1.sub hp]
    exact .tup upd_same (r1.mono (same_new (R1.sub.free hp)))
  · cases e
def cDic : Env → Option D := fun _ => some (.dict [])
theorem q_dic {pos : Pos} : PE X (.Dict [] [] pos) (tP X.K z cDic) := by
  refine pe_dnewK.mono fun σ H Q ⟨ρ, F, O, d, R, e, q⟩ => fun p hp => ?_
  cases e
  refine q _ _ (same_new hp) ?_
  rw [ext_new R.sub hp]
  exact .dic (kvs := []) (.of upd_same) rfl .nil
theorem q_lst {es : List Expr} {pos : Pos} {f : Env → Option (List D)} (h : PA X es (tPs X.K z f)) : PE X (.List es pos) (tP X.K z (cLst f)) := by
  refine (pe_lst h).mono fun σ H Q ⟨ρ, F, O, d, R, e, q⟩ => ?_
  obtain ⟨ds, ea, e⟩ := bind_some e
  split at e
  · next hl =>
    cases e
    refine ⟨ρ, F, O, ds, R, ea, fun vs H1 s1 r1 => ⟨le1000 (by rw [r1.length]; exact hl), fun p hp => ?_⟩⟩
    have R1 := R.grow s1
    refine q _ _ (s1.trans (same_new hp)) ?_
    rw [← ext_ext s1 (same_new hp), ext_new R1.sub hp]
    exact .lst (.of upd_same) (r1.mono (same_new (R1.sub.free hp)))
  · cases e
end
end DL

namespace DL
open PySem PySem.Spec PyProof.Rows L2

theorem OpR.or {X : Cx} {f : Value → Value → Sem Value} {r r' : R2} (h : OpR X f r) (h' : OpR X f r') : OpR X f (fun x y H Q => r x y H Q ∨ r' x y H Q) := by
  intro pins s σ H x y v u Q I rx ry q
  rcases q with q | q
  · exact h pins s σ H x y v u Q I rx ry q
  · exact h' pins s σ H x y v u Q I rx ry q
theorem done {K : PySem.W.Frag} {F H : Hp} {v : V} {d : D} {Q : VK} (s : Same F H) (h : ∀ v H', Same H H' → Rep K (ext F H H') v d → Q v H') (r : Rep K F v d) : Q v H := h v H (Same.refl _) (by rw [ext_self s]; exact r)
theorem doneL {K : PySem.W.Frag} {F H : Hp} {vs : List V} {ds : List D} {Q : VK} (s : Same F H) (h : ∀ v H', Same H H' → Rep K (ext F H H') v (.list ds) → Q v H') (r : RepL K F vs ds) {p : Addr} (hp : H p = none) : Q (.ref p) (upd H p (.lst vs)) :=
  h _ _ (same_new hp) (by rw [ext_new s hp]; exact .lst (.of upd_same) (r.mono (same_new (s.free hp))))
theorem doneT {K : PySem.W.Frag} {F H : Hp} {vs : List V} {ds : List D} {Q : VK} (s : Same F H) (h : ∀ v H', Same H H' → Rep K (ext F H H') v (.tuple ds) → Q v H') (r : RepL K F vs ds) {p : Addr} (hp : H p = none) : Q (.ref p) (upd H p (.tup vs)) :=
  h _ _ (same_new hp) (by rw [ext_new s hp]; exact .tup upd_same (r.mono (same_new (s.free hp))))

/-! ## binary operations -/
def b64 (i : Int) : Bool := decide (-18446744073709551616 < i) && decide (i < 18446744073709551616)
def oAdd : D → D → Option D
  | .int i, .int j => some (.int (i + j))
  | .tuple xs, .tuple ys => if xs.length + ys.length ≤ 1000000 then some (.tuple (xs ++ ys)) else none
  | .list xs, .list ys => if xs.length + ys.length ≤ 1000000 then some (.list (xs ++ ys)) else none
  | .str x, .str y => if x.length + y.length ≤ 1000000 then some (.str (x ++ y)) else none
  | _, _ => none
def oSub : D → D → Option D
  | .int i, .int j => some (.int (i - j))
  | _, _ => none
def oMul : D → D → Option D
  | .int i, .int j => if b64 i || b64 j then some (.int (i * j)) else none
  | .tuple xs, .int k => if xs.length ≤ 1000 then (if xs.isEmpty then none else if 2 ≤ k then (if k ≤ 1000 then some (.tuple (List.replicate k.toNat xs).flatten) else none) else (if k = 1 then some (.tuple xs) else none)) else none
  | _, _ => none
def oDiv : D → D → Option D
  | .int i, .int j => if j = 0 then none else if j.natAbs < 2 ^ 200 then some (.int (i.fdiv j)) else none
  | _, _ => none
def oMod : D → D → Option D
  | .int i, .int j => if j = 0 then none else some (.int (i.fmod j))
  | _, _ => none
def oPow : D → D → Option D
  | .int i, .int j => if 0 ≤ j then (if j ≤ 1000 then (if i.natAbs < 1000000 then some (.int (i ^ j.toNat)) else none) else none) else none
  | _, _ => none
def oShl : D → D → Option D
  | .int i, .int j => if 0 ≤ j then (if j ≤ 1000 then (if i.natAbs < 1000000 then some (.int (i * 2 ^ j.toNat)) else none) else none) else none
  | _, _ => none
def oShr : D → D → Option D
  | .int i, .int j => if 0 ≤ j then some (.int (i / 2 ^ j.toNat)) else none
  | _, _ => none
def oAnd : D → D → Option D
  | .int i, .int j => some (.int (Builtin.bitAnd i j))
  | _, _ => none
def oOr : D → D → Option D
  | .int i, .int j => some (.int (Builtin.bitOr i j))
  | _, _ => none
def oNeg : D → Option D
  | .int i => some (.int (-i))
  | _ => none

section
variable {K : PySem.W.Frag}
theorem op2I {g : Int → Int → Int} {o : D → D → Option D} (h : ∀ a b d, o a b = some d → ∃ i j, a = .int i ∧ b = .int j ∧ d = .int (g i j)) : Op2 K (rI0 fun i j => .int (g i j)) o := ⟨fun F H x y a b d Q s ra rb e q => by
  obtain ⟨i, j, rfl, rfl, rfl⟩ := h a b d e
  cases ra
  cases rb
  exact ⟨i, j, rfl, rfl, done s q (.int _)⟩⟩
theorem op2C {C : Int → Int → Prop} {g : Int → Int → Int} {o : D → D → Option D} (h : ∀ a b d, o a b = some d → ∃ i j, a = .int i ∧ b = .int j ∧ C i j ∧ d = .int (g i j)) : Op2 K (rI C fun i j => .int (g i j)) o := ⟨fun F H x y a b d Q s ra rb e q => by
  obtain ⟨i, j, rfl, rfl, c, rfl⟩ := h a b d e
  cases ra
  cases rb
  exact ⟨i, j, rfl, rfl, c, done s q (.int _)⟩⟩
theorem w_sub : Op2 K (rI0 fun i j => .int (i - j)) oSub := op2I fun a b d e => by
  unfold oSub at e
  split at e
  · cases e
    exact ⟨_, _, rfl, rfl, rfl⟩
  · cases e
theorem w_and : Op2 K (rI0 fun i j => .int (Builtin.bitAnd i j)) oAnd := op2I fun a b d e => by
  unfold oAnd at e
  split at e
  · cases e
    exact ⟨_, _, rfl, rfl, rfl⟩
  · cases e
theorem w_or : Op2 K (rI0 fun i j => .int (Builtin.bitOr i j)) oOr := op2I fun a b d e => by
  unfold oOr at e
  split at e
  · cases e
    exact ⟨_, _, rfl, rfl, rfl⟩
  · cases e
def CDivW (i j : Int) : Prop := j ≠ 0 ∧ j.natAbs < 2 ^ 200
theorem op_fdivW : OpR X (binaryOp .FloorDiv) (rI CDivW fun i j => .int (i.fdiv j)) := opI fun _ j _ _ _ _ _ hc q => floordiv_int hc.1 q (.inl (PyProof.noPylong_of_log2 (by
  have h1 : j ≠ 0 := hc.1
  have h2 : j.natAbs < 2 ^ 200 := hc.2
  have : j.natAbs.log2 < 200 := (Nat.log2_lt (by omega)).mpr h2
  omega)))
theorem w_div : Op2 K (rI CDivW fun i j => .int (i.fdiv j)) oDiv := op2C fun a b d e => by
  unfold oDiv at e
  split at e
  · split at e
    · cases e
    · split at e
      · cases e
        exact ⟨_, _, rfl, rfl, ⟨by assumption, by assumption⟩, rfl⟩
      · cases e
  · cases e
theorem w_mod : Op2 K (rI (fun _ j => j ≠ 0) fun i j => .int (i.fmod j)) oMod := op2C fun a b d e => by
  unfold oMod at e
  split at e
  · split at e
    · cases e
    · cases e
      exact ⟨_, _, rfl, rfl, by assumption, rfl⟩
  · cases e
theorem cpow_of {i j : Int} (h0 : 0 ≤ j) (h1 : j ≤ 1000) (h2 : i.natAbs < 1000000) : CPow i j := ⟨h0, by omega, by omega⟩
theorem w_pow : Op2 K (rI CPow fun i j => .int (i ^ j.toNat)) oPow := op2C fun a b d e => by
  unfold oPow at e
  split at e
  · split at e
    · split at e
      · split at e
        · cases e
          exact ⟨_, _, rfl, rfl, cpow_of (by assumption) (by assumption) (by assumption), rfl⟩
        · cases e
      · cases e
    · cases e
  · cases e
theorem w_shl : Op2 K (rI CPow fun i j => .int (i * 2 ^ j.toNat)) oShl := op2C fun a b d e => by
  unfold oShl at e
  split at e
  · split at e
    · split at e
      · split at e
        · cases e
          exact ⟨_, _, rfl, rfl, cpow_of (by assumption) (by assumption) (by assumption), rfl⟩
        · cases e
      · cases e
    · cases e
  · cases e
theorem w_shr : Op2 K (rI (fun _ j => 0 ≤ j) fun i j => .int (i / 2 ^ j.toNat)) oShr := op2C fun a b d e => by
  unfold oShr at e
  split at e
  · split at e
    · cases e
      exact ⟨_, _, rfl, rfl, by assumption, rfl⟩
    · cases e
  · cases e
def rNeg : V → Hp → VK → Prop := rU fun i => .int (-i)
theorem w_neg : Op1 K rNeg oNeg := ⟨fun F H x a d Q s ra e q => by
  unfold oNeg at e
  split at e
  · cases e
    cases ra
    exact ⟨_, rfl, done s q (.int _)⟩
  · cases e⟩

/-- list + list, whatever the lists -/
def rCatL (K : PySem.W.Frag) : R2 := fun x y H Q => ∃ l b xs zs, x = .ref l ∧ y = .ref b ∧ SqL K H l xs ∧ SqL K H b zs ∧ xs.length + zs.length ≤ sizeLine ∧ ∀ p, H p = none → Q (.ref p) (upd H p (.lst (xs ++ zs)))
theorem op_catL {X : Cx} : OpR X (binaryOp .Add) (rCatL X.K) := by
  intro pins s σ H x y v u Q I rx ry h
  obtain ⟨l, b, xs, zs, rfl, rfl, hH, hB, hz, q⟩ := h
  cases rx
  cases ry
  obtain ⟨its, r, pl, _⟩ := I.list hH
  obtain ⟨its2, r2, pl2, _⟩ := I.list hB
  obtain ⟨⟨cls, dd, data, sl⟩, ho, hc, n, hd⟩ := pl.isList
  obtain ⟨⟨cls2, dd2, data2, sl2⟩, ho2, hc2, n2, hd2⟩ := pl2.isList
  simp only at hc hd hc2 hd2
  subst hc hd hc2 hd2
  have l1 := r.length
  have l2 := r2.length
  have ea : its.toArray ++ its2.toArray = (its ++ its2).toArray := by simp
  refine PySem.concat_meets ⟨_, ho, rfl⟩ ⟨_, ho2, rfl⟩ PySem.noFill_list_add PySem.seq_list_add PySem.F.slot_list_add PySem.F.entry_list_add (PySem.F.args_list_add_2 _ _) (PyProof.Rows.list_addW l b its.toArray its2.toArray n n2 dd dd2 sl sl2 (by simp only [List.size_toArray]; omega)) ⟨ho, ho2, ?_⟩
  rw [ea]
  exact ⟨.ref _, _, I.lnew (t' := s.toks) (r.append r2) (by rw [List.length_append]; omega), rfl, q _ I.fresh⟩
def rAddA (K : PySem.W.Frag) : R2 := fun x y H Q => (rI0 (fun i j => .int (i + j)) x y H Q ∨ rCatA K x y H Q) ∨ (rCatL K x y H Q ∨ ∃ i j, x = .str i ∧ y = .str j ∧ i.length + j.length ≤ sizeLine ∧ Q (.str (i ++ j)) H)
theorem op_addA {X : Cx} : OpR X (binaryOp .Add) (rAddA X.K) := OpR.or (OpR.or op_add op_catA) (OpR.or op_catL op_add_str)
theorem leM {n : Nat} (h : n ≤ 1000000) : n ≤ sizeLine := by rw [sizeLine_eq]; omega
theorem w_add : Op2 K (rAddA K) oAdd := ⟨fun F H x y a b d Q s ra rb e q => by
  unfold oAdd at e
  split at e
  · cases e
    cases ra
    cases rb
    exact .inl (.inl ⟨_, _, rfl, rfl, done s q (.int _)⟩)
  · next xs ys =>
    split at e
    · next hl =>
      cases e
      cases ra with
      | tup h1 t1 =>
        cases rb with
        | tup h2 t2 =>
          have l1 := t1.length
          have l2 := t2.length
          refine .inl (.inr ⟨_, _, _, _, rfl, rfl, sameT s (sqT_of h1), sameT s (sqT_of h2), leM (by omega), fun z => ?_, fun _ z => ?_, fun _ _ p hp => ?_⟩)
          · subst z
            cases t1
            exact done s q (.tup h2 t2)
          · subst z
            cases t2
            rw [List.append_nil] at q
            exact done s q (.tup h1 t1)
          · exact doneT s q (t1.append t2) hp
    · cases e
  · next xs ys =>
    split at e
    · next hl =>
      cases e
      cases ra with
      | lst h1 t1 =>
        cases rb with
        | lst h2 t2 =>
          have l1 := t1.length
          have l2 := t2.length
          exact .inr (.inl ⟨_, _, _, _, rfl, rfl, s.seq h1, s.seq h2, leM (by omega), fun p hp => doneL s q (t1.append t2) hp⟩)
    · cases e
  · split at e
    · next hl =>
      cases e
      cases ra
      cases rb
      exact .inr (.inr ⟨_, _, rfl, rfl, leM hl, done s q (.str _)⟩)
    · cases e
  · cases e⟩
theorem tuple_mul1 (l : Addr) (items : Array Value) (n : Nat) (dd : Option Addr) (sl : Array (Option Value)) (u : Tok) :
    Meets (Builtin.«tuple.__mul__» ⟨[.ref l, .int 1 u], []⟩) (fun _ R s => s.heap.get? l = some { cls := .type "tuple", dict := dd, data := .seq items n, slots := sl } ∧ R (.ok (.ret (Value.ref l))) s) :=
  .of_wp fun prog w A R s h => by
    obtain ⟨hp, g, d, tk, os⟩ := s
    obtain ⟨hl, h⟩ := h
    have f1 := AutoSeq1.idx_int
    have c1 : (items.isEmpty || (1 : Int) == 1) = true := by simp
    wp_walk using wpAny_loadPart' hl
    repeat (first
      | (refine wpAny_ite_false (decide_eq_false (by decide)) ?_; wp_walk using wpAny_loadPart' hl)
      | (refine wpAny_ite_true (decide_eq_true c1) ?_; wp_walk using wpAny_loadPart' hl))
    exact ⟨_, rfl, h⟩
/-- a tuple taken once is itself -/
def rRep1 (K : PySem.W.Frag) : R2 := fun x y H Q => ∃ l xs, x = .ref l ∧ y = .int 1 ∧ SqT K H l xs ∧ Q (.ref l) H
theorem op_rep1 {X : Cx} : OpR X (binaryOp .Mult) (rRep1 X.K) := by
  intro pins s σ H x y v u Q I rx ry h
  obtain ⟨l, xs, rfl, rfl, hT, q⟩ := h
  cases rx
  obtain ⟨t, rfl⟩ := ry
  obtain ⟨its, r, ⟨⟨cls, dd, data, sl⟩, ho, hc, n, hd⟩, hs⟩ := I.tuple hT
  simp only at hc hd
  subst hc hd
  exact wpAny_binaryOp_repeat_ref (T := "tuple") (U := "int") (by decide) ⟨_, ho, rfl⟩ (fun s' => typeIs_int s' 1 t) noFill_tuple_mul F.fills_int_mul F.slot_int_rmul repeat_tuple F.slot_int_index.lookup
    (call_meets F.slot_int_rmul (typeIs_int s 1 t) F.entry_int_rmul (F.args_int_rmul_2 _ _) (int_rmul_tuple 1 t l its.toArray n dd sl)
      ⟨ho, rfl, ⟨_, ho, rfl⟩, call_meets F.slot_tuple_mul ⟨_, ho, rfl⟩ F.entry_tuple_mul (F.args_tuple_mul_2 _ _) (tuple_mul1 l its.toArray n dd sl t) ⟨ho, ⟨.ref l, H, I, rfl, q⟩⟩⟩)
def rMulA (K : PySem.W.Frag) : R2 := fun x y H Q => (rI CMul (fun i j => .int (i * j)) x y H Q ∨ rRepT K x y H Q) ∨ rRep1 K x y H Q
theorem op_mulA {X : Cx} : OpR X (binaryOp .Mult) (rMulA X.K) := OpR.or (OpR.or op_mul op_repT) op_rep1
theorem b64_of {i : Int} (h : b64 i = true) : -(2 ^ 64) < i ∧ i < 2 ^ 64 := by
  unfold b64 at h
  rw [Bool.and_eq_true] at h
  have h1 := of_decide_eq_true h.1
  have h2 := of_decide_eq_true h.2
  exact ⟨by omega, by omega⟩
theorem w_mul : Op2 K (rMulA K) oMul := ⟨fun F H x y a b d Q s ra rb e q => by
  unfold oMul at e
  split at e
  · split at e
    · next i j hb =>
      cases e
      cases ra
      cases rb
      refine .inl (.inl ⟨_, _, rfl, rfl, ?_, done s q (.int _)⟩)
      rcases Bool.or_eq_true_iff.mp hb with h | h
      · exact .inl (b64_of h)
      · exact .inr (b64_of h)
    · cases e
  · next xs k =>
    split at e
    · next hl =>
      split at e
      · cases e
      · next hne =>
        split at e
        · next h2 =>
          split at e
          · next h1k =>
            cases e
            cases rb
            cases ra with
            | tup h1 t1 =>
              have l1 := t1.length
              refine .inl (.inr ⟨_, _, _, rfl, rfl, sameT s (sqT_of h1), fun z => ?_, h2, h1k, by omega, fun p hp => doneT s q (t1.rep _) hp⟩)
              subst z
              cases t1
              exact hne rfl
          · cases e
        · split at e
          · next h1k =>
            cases e
            cases rb
            cases ra with
            | tup h1 t1 =>
              subst h1k
              exact .inr ⟨_, _, rfl, rfl, sameT s (sqT_of h1), done s q (.tup h1 t1)⟩
          · cases e
    · cases e
  · cases e⟩

/-! ## comparisons -/
def okD (d : D) : Bool := SeqAt.shaped d
def oEq (a b : D) : Option D := if okD a && okD b then some (.bool (PyData.eqv a b)) else none
def oNe (a b : D) : Option D := if okD a && okD b then some (.bool (!PyData.eqv a b)) else none
/-- equality of plain data -/
def rEqQ (K : PySem.W.Frag) : R2 := fun x y H Q => ∃ a b, (Dp K H x a ∧ Dp K H y b) ∧ (okD a = true ∧ okD b = true) ∧ Q (.bl (PyData.eqv a b)) H
def rNeQ (K : PySem.W.Frag) : R2 := fun x y H Q => ∃ a b, (Dp K H x a ∧ Dp K H y b) ∧ (okD a = true ∧ okD b = true) ∧ Q (.bl (!PyData.eqv a b)) H
def rInQ (K : PySem.W.Frag) : R2 := fun x y H Q => ∃ a bs, (Dp K H x a ∧ Dp K H y (.list bs)) ∧ (okD a = true ∧ okD (.list bs) = true) ∧ Q (.bl (bs.any fun z => PyData.eqv z a)) H
def rNotInQ (K : PySem.W.Frag) : R2 := fun x y H Q => ∃ a bs, (Dp K H x a ∧ Dp K H y (.list bs)) ∧ (okD a = true ∧ okD (.list bs) = true) ∧ Q (.bl (!bs.any fun z => PyData.eqv z a)) H
section
variable {X : Cx}
theorem op_eqQ (hu : X.A.units + 64 < cLine) : OpR X (compareOp .Eq) (rEqQ X.K) := fun _ _ _ H _ _ _ _ _ I rx ry ⟨_, _, ⟨ka, kb⟩, ⟨sa, sb⟩, q⟩ =>
  (Dp.reads I _ _ _ ka rx).elim fun _ h1 => (Dp.reads I _ _ _ kb ry).elim fun _ h2 => SeqAt.compareEq_shaped h1 h2 sa sb hu ⟨.bl _, H, I, rfl, q⟩
theorem op_neQ (hu : X.A.units + 64 < cLine) : OpR X (compareOp .NotEq) (rNeQ X.K) := fun _ _ _ H _ _ _ _ _ I rx ry ⟨_, _, ⟨ka, kb⟩, ⟨sa, sb⟩, q⟩ =>
  (Dp.reads I _ _ _ ka rx).elim fun _ h1 => (Dp.reads I _ _ _ kb ry).elim fun _ h2 => SeqAt.compareNe_shaped h1 h2 sa sb hu ⟨.bl _, H, I, rfl, q⟩
theorem op_inQ (hu : X.A.units + 65 < cLine) : OpR X (compareOp .In) (rInQ X.K) := fun _ _ _ H _ _ _ _ _ I rx ry ⟨_, _, ⟨ka, kb⟩, ⟨sa, sb⟩, q⟩ =>
  (Dp.reads I _ _ _ ka rx).elim fun _ h1 => (Dp.reads I _ _ _ kb ry).elim fun _ h2 => SeqAt.in_list_reads h2 h1 (SeqAt.canLay_of_shaped sb) (SeqAt.canLay_of_shaped sa) (room_in_shaped sa hu) ⟨.bl _, H, I, rfl, q⟩
theorem op_notInQ (hu : X.A.units + 65 < cLine) : OpR X (compareOp .NotIn) (rNotInQ X.K) := fun _ _ _ H _ _ _ _ _ I rx ry ⟨_, _, ⟨ka, kb⟩, ⟨sa, sb⟩, q⟩ =>
  (Dp.reads I _ _ _ ka rx).elim fun _ h1 => (Dp.reads I _ _ _ kb ry).elim fun _ h2 => SeqAt.notIn_list_reads h2 h1 (SeqAt.canLay_of_shaped sb) (SeqAt.canLay_of_shaped sa) (room_in_shaped sa hu) ⟨.bl _, H, I, rfl, q⟩
end
theorem w_eq : Op2 K (rEqQ K) oEq := ⟨fun F H x y a b d Q s ra rb e q => by
  unfold oEq at e
  split at e
  · next h =>
    cases e
    rw [Bool.and_eq_true] at h
    exact ⟨a, b, ⟨ra.mono s, rb.mono s⟩, h, done s q (.bl _)⟩
  · cases e⟩
theorem w_ne : Op2 K (rNeQ K) oNe := ⟨fun F H x y a b d Q s ra rb e q => by
  unfold oNe at e
  split at e
  · next h =>
    cases e
    rw [Bool.and_eq_true] at h
    exact ⟨a, b, ⟨ra.mono s, rb.mono s⟩, h, done s q (.bl _)⟩
  · cases e⟩
def isN : D → Bool
  | .none => true
  | _ => false
theorem isN_not {d : D} (h : isN d = false) : d ≠ .none := fun e => by
  subst e
  cases h
def cmpOk (a b : D) : Bool := PySem.W.alike a b && !isN a && decide (a.depth ≤ 60)
def oLt (a b : D) : Option D := if cmpOk a b then some (.bool (PySem.W.dataLt a b)) else none
def oGt (a b : D) : Option D := if cmpOk a b then some (.bool (PySem.W.dataLt b a)) else none
def oLe (a b : D) : Option D := if cmpOk a b then some (.bool (!PySem.W.dataLt b a)) else none
def oGe (a b : D) : Option D := if cmpOk a b then some (.bool (!PySem.W.dataLt a b)) else none
def rCmp (K : PySem.W.Frag) (g : D → D → Bool) : R2 := fun x y H Q => ∃ d e, Dp K H x d ∧ Dp K H y e ∧ cmpOk d e = true ∧ Q (.bl (g d e)) H
theorem cmpOk_of {a b : D} (h : cmpOk a b = true) : PySem.W.alike a b = true ∧ a ≠ .none ∧ a.depth ≤ 60 := by
  unfold cmpOk at h
  rw [Bool.and_eq_true, Bool.and_eq_true] at h
  exact ⟨h.1.1, isN_not (by simpa using h.1.2), of_decide_eq_true h.2⟩
section
variable {X : Cx}
theorem op_cmpD {op : CmpOp} {g : D → D → Bool} (hu : X.A.units + 64 < cLine)
    (rule : ∀ {A : Around} {E : Value → Shared → Prop} {s : Shared} {a b : Value} {da db : PyData} {as bs : List Addr} {Q : Value → Shared → Prop}, Reads s.heap a da as → Reads s.heap b db bs → PySem.W.alike da db = true → da ≠ .none → A.units + min da.depth db.depth < cLine → Q (.bool (g da db)) s → wpAny (model X.prog X.w) A (compareOp op a b) Q E s) : OpR X (compareOp op) (rCmp X.K g) := by
  intro pins s σ H x y v u Q I rx ry h
  obtain ⟨d, e, hd, he, c, q⟩ := h
  obtain ⟨as, r1⟩ := Dp.reads I d x v hd rx
  obtain ⟨bs, r2⟩ := Dp.reads I e y u he ry
  obtain ⟨c1, c2, c3⟩ := cmpOk_of c
  have := Nat.min_le_left d.depth e.depth
  exact rule r1 r2 c1 c2 (by omega) ⟨.bl _, H, I, rfl, q⟩
theorem op_ltD (hu : X.A.units + 64 < cLine) : OpR X (compareOp .Lt) (rCmp X.K fun a b => PySem.W.dataLt a b) := op_cmpD hu PySem.W.lt_data
theorem op_gtD (hu : X.A.units + 64 < cLine) : OpR X (compareOp .Gt) (rCmp X.K fun a b => PySem.W.dataLt b a) := op_cmpD hu PySem.W.gt_data
theorem op_leD (hu : X.A.units + 64 < cLine) : OpR X (compareOp .LtE) (rCmp X.K fun a b => !PySem.W.dataLt b a) := op_cmpD hu PySem.W.le_data
theorem op_geD (hu : X.A.units + 64 < cLine) : OpR X (compareOp .GtE) (rCmp X.K fun a b => !PySem.W.dataLt a b) := op_cmpD hu PySem.W.ge_data
end
theorem w_cmp {g : D → D → Bool} : Op2 K (rCmp K g) (fun a b => if cmpOk a b then some (.bool (g a b)) else none) := ⟨fun F H x y a b d Q s ra rb e q => by
  split at e
  · next h =>
    cases e
    exact ⟨a, b, ra.mono s, rb.mono s, h, done s q (.bl _)⟩
  · cases e⟩
theorem w_lt : Op2 K (rCmp K fun a b => PySem.W.dataLt a b) oLt := w_cmp
theorem w_gt : Op2 K (rCmp K fun a b => PySem.W.dataLt b a) oGt := w_cmp
theorem w_le : Op2 K (rCmp K fun a b => !PySem.W.dataLt b a) oLe := w_cmp
theorem w_ge : Op2 K (rCmp K fun a b => !PySem.W.dataLt a b) oGe := w_cmp

/-- is None, is True -/
def oIs : D → D → Option D
  | a, .none => some (.bool (isN a))
  | .bool j, .bool k => some (.bool (decide (j = k)))
  | _, _ => none
def oIsNot : D → D → Option D
  | a, .none => some (.bool (!isN a))
  | .bool j, .bool k => some (.bool (!decide (j = k)))
  | _, _ => none
theorem isN_dec {F : Hp} {x : V} {a : D} (r : Rep K F x a) : decide (x = .non) = isN a := by
  cases r <;> rfl
def rIsA : R2 := fun x y H Q => (y = .non ∧ Q (.bl (decide (x = .non))) H) ∨ rIsB x y H Q
def rIsNotA : R2 := fun x y H Q => (y = .non ∧ Q (.bl (!decide (x = .non))) H) ∨ rNotB x y H Q
theorem op_isA {X : Cx} : OpR X (compareOp .Is) rIsA := OpR.or op_isN op_isBl
theorem op_isNotA {X : Cx} : OpR X (compareOp .IsNot) rIsNotA := OpR.or op_notN op_notBl
theorem w_is : Op2 K rIsA oIs := ⟨fun F H x y a b d Q s ra rb e q => by
  unfold oIs at e
  split at e
  · cases e
    cases rb
    exact .inl ⟨rfl, done s q (by rw [isN_dec ra]; exact .bl _)⟩
  · cases e
    cases ra
    cases rb
    exact .inr ⟨_, _, rfl, rfl, done s q (.bl _)⟩
  · cases e⟩
theorem w_isNot : Op2 K rIsNotA oIsNot := ⟨fun F H x y a b d Q s ra rb e q => by
  unfold oIsNot at e
  split at e
  · cases e
    cases rb
    exact .inl ⟨rfl, done s q (by rw [isN_dec ra]; exact .bl _)⟩
  · cases e
    cases ra
    cases rb
    exact .inr ⟨_, _, rfl, rfl, done s q (.bl _)⟩
  · cases e⟩
/-- x in xs -/
def oIn : D → D → Option D
  | d, .list ds => if okD d && okD (.list ds) then some (.bool (ds.any fun z => PyData.eqv z d)) else none
  | d, .tuple ds => if okD d && okD (.tuple ds) then some (.bool (ds.any fun z => PyData.eqv z d)) else none
  | _, _ => none
def oNotIn : D → D → Option D
  | d, .list ds => if okD d && okD (.list ds) then some (.bool (!ds.any fun z => PyData.eqv z d)) else none
  | d, .tuple ds => if okD d && okD (.tuple ds) then some (.bool (!ds.any fun z => PyData.eqv z d)) else none
  | _, _ => none
def rInT (K : PySem.W.Frag) : R2 := fun x y H Q => ∃ d ds, Dp K H x d ∧ Dp K H y (.tuple ds) ∧ SeqAt.shaped d = true ∧ SeqAt.shaped (.tuple ds) = true ∧ Q (.bl (ds.any fun z => PyData.eqv z d)) H
def rNotInT (K : PySem.W.Frag) : R2 := fun x y H Q => ∃ d ds, Dp K H x d ∧ Dp K H y (.tuple ds) ∧ SeqAt.shaped d = true ∧ SeqAt.shaped (.tuple ds) = true ∧ Q (.bl (!ds.any fun z => PyData.eqv z d)) H
section
variable {X : Cx}
theorem op_inT (hu : X.A.units + 65 < cLine) : OpR X (compareOp .In) (rInT X.K) := by
  intro pins s σ H x y v u Q I rx ry h
  obtain ⟨d, ds, hd, he, sd, se, q⟩ := h
  obtain ⟨as, r1⟩ := Dp.reads I d x v hd rx
  obtain ⟨bs, r2⟩ := Dp.reads I (.tuple ds) y u he ry
  exact SeqAt.in_tuple_reads r2 r1 (SeqAt.canLay_of_shaped se) (SeqAt.canLay_of_shaped sd) (room_in_shaped sd hu) ⟨.bl _, H, I, rfl, q⟩
theorem op_notInT (hu : X.A.units + 65 < cLine) : OpR X (compareOp .NotIn) (rNotInT X.K) := by
  intro pins s σ H x y v u Q I rx ry h
  obtain ⟨d, ds, hd, he, sd, se, q⟩ := h
  obtain ⟨as, r1⟩ := Dp.reads I d x v hd rx
  obtain ⟨bs, r2⟩ := Dp.reads I (.tuple ds) y u he ry
  exact SeqAt.notIn_tuple_reads r2 r1 (SeqAt.canLay_of_shaped se) (SeqAt.canLay_of_shaped sd) (room_in_shaped sd hu) ⟨.bl _, H, I, rfl, q⟩
def rInA (K : PySem.W.Frag) : R2 := fun x y H Q => rInQ K x y H Q ∨ rInT K x y H Q
def rNotInA (K : PySem.W.Frag) : R2 := fun x y H Q => rNotInQ K x y H Q ∨ rNotInT K x y H Q
theorem op_inA (hu : X.A.units + 65 < cLine) : OpR X (compareOp .In) (rInA X.K) := OpR.or (op_inQ hu) (op_inT hu)
theorem op_notInA (hu : X.A.units + 65 < cLine) : OpR X (compareOp .NotIn) (rNotInA X.K) := OpR.or (op_notInQ hu) (op_notInT hu)
end
theorem w_in : Op2 K (rInA K) oIn := ⟨fun F H x y a b d Q s ra rb e q => by
  unfold oIn at e
  split at e
  · split at e
    · next h =>
      cases e
      rw [Bool.and_eq_true] at h
      exact .inl ⟨_, _, ⟨ra.mono s, rb.mono s⟩, h, done s q (.bl _)⟩
    · cases e
  · split at e
    · next h =>
      cases e
      rw [Bool.and_eq_true] at h
      exact .inr ⟨_, _, ra.mono s, rb.mono s, h.1, h.2, done s q (.bl _)⟩
    · cases e
  · cases e⟩
theorem w_notIn : Op2 K (rNotInA K) oNotIn := ⟨fun F H x y a b d Q s ra rb e q => by
  unfold oNotIn at e
  split at e
  · split at e
    · next h =>
      cases e
      rw [Bool.and_eq_true] at h
      exact .inl ⟨_, _, ⟨ra.mono s, rb.mono s⟩, h, done s q (.bl _)⟩
    · cases e
  · split at e
    · next h =>
      cases e
      rw [Bool.and_eq_true] at h
      exact .inr ⟨_, _, ra.mono s, rb.mono s, h.1, h.2, done s q (.bl _)⟩
    · cases e
  · cases e⟩

/-! ## subscripts -/
def oIx : D → D → Option D
  | .list ds, .int i => atI ds i
  | .tuple ds, .int i => atI ds i
  | .str z, .int i => if z.length ≤ 1000000 then (atI z.cps.toList i).map fun c => .str ⟨#[c]⟩ else none
  | _, _ => none
theorem atI_rep {F : Hp} {vs : List V} {ds : List D} {i : Int} {d : D} (t : RepL K F vs ds) (e : atI ds i = some d) : ∃ v, atI vs i = some v ∧ Rep K F v d := by
  unfold atI at e ⊢
  obtain ⟨j, ej, e⟩ := bind_some e
  rw [t.length, ej]
  exact t.get e
theorem w_ix : Op2 K (rIx K) oIx := ⟨fun F H x y a b d Q s ra rb e q => by
  unfold oIx at e
  split at e
  · cases rb
    cases ra with
    | lst h1 t1 =>
      obtain ⟨v, h2, r⟩ := atI_rep t1 e
      exact .inl ⟨_, _, _, _, rfl, rfl, s.seq h1, h2, done s q r⟩
  · cases rb
    cases ra with
    | tup h1 t1 =>
      obtain ⟨v, h2, r⟩ := atI_rep t1 e
      exact .inr (.inl ⟨_, _, _, _, rfl, rfl, sameT s (sqT_of h1), h2, done s q r⟩)
  · split at e
    · next hl =>
      cases rb
      cases ra
      rw [Option.map_eq_some_iff] at e
      obtain ⟨c, h1, h2⟩ := e
      subst h2
      exact .inr (.inr ⟨_, _, _, rfl, rfl, leM hl, h1, done s q (.str _)⟩)
    · cases e
  · cases e⟩

/-! ## slices -/
def cutD (ds : List D) (lo hi : Option Int) : List D := (ds.drop (HT.sIx ds.length 0 lo)).take (HT.sIx ds.length ds.length hi - HT.sIx ds.length 0 lo)
def cNoPart : Env → Option (Option Int) := fun _ => some none
def cPart (f : Env → Option D) : Env → Option (Option Int) := fun ρ => (f ρ).bind fun d => match d with
  | .int i => some (some i)
  | _ => none
def tO (K : PySem.W.Frag) (z : Z) (f : Env → Option (Option Int)) : TO := fun σ H Q => ∃ ρ F O o, Rel K z ρ σ F H O ∧ f ρ = some o ∧ ∀ H', Same H H' → Q o H'
def oSl : D → Option Int → Option Int → Option D
  | .list ds, lo, hi => some (.list (cutD ds lo hi))
  | .tuple ds, lo, hi => some (.tuple (cutD ds lo hi))
  | .str z, lo, hi => none
  | _, _, _ => none
def cSl (f : Env → Option D) (l h : Env → Option (Option Int)) : Env → Option D := fun ρ => (f ρ).bind fun d => (l ρ).bind fun lo => (h ρ).bind fun hi => oSl d lo hi
section
variable {X : Cx} {z : Z}
theorem _root_.L2.PO.mono {e : Option Expr} {t t' : TO} (h : PO X e t) (i : ∀ σ H Q, t' σ H Q → t σ H Q) : PO X e t' := ⟨fun pins s σ H Q I q => h.run pins s σ H Q I (i _ _ _ q)⟩
theorem q_nopart : PO X none (tO X.K z cNoPart) := po_none.mono fun σ H Q ⟨ρ, F, O, o, R, e, q⟩ => by
  cases e
  exact q H (Same.refl _)
theorem q_part {e : Expr} {f : Env → Option D} (h : PE X e (tP X.K z f)) : PO X (some e) (tO X.K z (cPart f)) := (po_some h).mono fun σ H Q ⟨ρ, F, O, o, R, e, q⟩ => by
  obtain ⟨d, h1, h2⟩ := bind_some e
  split at h2
  · cases h2
    refine ⟨ρ, F, O, _, R, h1, fun v H1 s1 r1 => ?_⟩
    cases r1
    exact ⟨_, rfl, q H1 s1⟩
  · cases h2
theorem cutV_rep {K : PySem.W.Frag} {F : Hp} {vs : List V} {ds : List D} (t : RepL K F vs ds) (lo hi : Option Int) : RepL K F (cutV vs lo hi) (cutD ds lo hi) := by
  unfold cutV cutD
  rw [t.length]
  exact (t.drop _).take _
def rSlAll (K : PySem.W.Frag) : V → Option Int → Option Int → Hp → VK → Prop := fun x lo hi H Q => rSlL K x lo hi H Q ∨ rSlA K x lo hi H Q
theorem q_slice {e : Expr} {lo hi : Option Expr} {pos p2 : Pos} {f : Env → Option D} {l h : Env → Option (Option Int)} (he : PE X e (tP X.K z f)) (hl : PO X lo (tO X.K z l)) (hh : PO X hi (tO X.K z h)) : PE X (.Subscript e (.Slice lo hi none p2) pos) (tP X.K z (cSl f l h)) := by
  refine (pe_slice (r := rSlAll X.K) (SlR.or sl_list sl_tupA) he hl hh).mono fun σ H Q ⟨ρ, F, O, d, R, e, q⟩ => ?_
  obtain ⟨a, ea, e⟩ := bind_some e
  obtain ⟨li, el, e⟩ := bind_some e
  obtain ⟨hi, eh, e⟩ := bind_some e
  refine ⟨ρ, F, O, a, R, ea, fun v1 H1 s1 r1 => ?_⟩
  refine ⟨ρ, _, O, li, R.grow s1, el, fun H2 s2 => ?_⟩
  refine ⟨ρ, _, O, hi, R.grow (s1.trans s2), eh, fun H3 s3 => ?_⟩
  have s13 := (s1.trans s2).trans s3
  have R3 := R.grow s13
  have r3 : Rep X.K (ext F H H3) v1 a := r1.mono (by
    rw [← ext_ext s1 (s2.trans s3)]
    exact same_ext (R.grow s1).sub)
  have q3 : ∀ v H', Same H3 H' → Rep X.K (ext (ext F H H3) H3 H') v d → Q v H' := fun v H' s' r' => q v H' (s13.trans s') (by
    rw [ext_ext s13 s'] at r'
    exact r')
  unfold oSl at e
  split at e
  · cases e
    cases r3 with
    | lst h1 t1 => exact .inl ⟨_, _, rfl, R3.sub.seq h1, fun p hp => doneL R3.sub q3 (cutV_rep t1 li hi) hp⟩
  · next ds lo' hi' =>
    cases e
    cases r3 with
    | tup h1 t1 =>
      refine .inr ⟨_, _, rfl, sameT R3.sub (sqT_of h1), fun ⟨z1, z2⟩ => ?_, fun _ p hp => doneT R3.sub q3 (cutV_rep t1 li hi) hp⟩
      refine done R3.sub q3 ?_
      have e1 : cutD ds li hi = ds := by
        unfold cutD
        rw [← t1.length, z1, z2, t1.length]
        simp
      rw [e1]
      exact .tup h1 t1
  · cases e
  · cases e
end
end
end DL

namespace DL
open PySem PySem.Spec PyProof.Rows L2

/-! ## built-in calls -/
def oLen : List D → Option D
  | [.list ds] => some (.int ds.length)
  | [.tuple ds] => some (.int ds.length)
  | [.str z] => if z.length ≤ 1000000 then some (.int z.length) else none
  | _ => none
def oAbs : List D → Option D
  | [.int i] => some (.int (if i < 0 then -i else i))
  | _ => none
def oInt : List D → Option D
  | [.int i] => some (.int i)
  | [.bool k] => some (.int (if k then 1 else 0))
  | _ => none
def oList : List D → Option D
  | [.list ds] => some (.list ds)
  | [.tuple ds] => some (.list ds)
  | _ => none
def oTuple : List D → Option D
  | [.list ds] => some (.tuple ds)
  | [.tuple ds] => some (.tuple ds)
  | _ => none
def intsOf : List D → Option (List Int)
  | [] => some []
  | .int i :: r => (intsOf r).map (i :: ·)
  | _ :: _ => none
theorem intsOf_eq : ∀ {ds : List D} {ns : List Int}, intsOf ds = some ns → ds = ns.map PyData.int
  | [], ns, h => by
    cases h
    rfl
  | .int i :: r, ns, h => by
    unfold intsOf at h
    rw [Option.map_eq_some_iff] at h
    obtain ⟨m, h1, h2⟩ := h
    subst h2
    rw [intsOf_eq h1]
    rfl
  | .none :: _, _, h => by cases h
  | .bool _ :: _, _, h => by cases h
  | .str _ :: _, _, h => by cases h
  | .list _ :: _, _, h => by cases h
  | .tuple _ :: _, _, h => by cases h
  | .dict _ :: _, _, h => by cases h
def sumI : List Int → Int
  | [] => 0
  | i :: r => i + sumI r
theorem sumI_eq : ∀ ns : List Int, sumI ns = ns.sum
  | [] => rfl
  | i :: r => by
    rw [List.sum_cons, ← sumI_eq r]
    rfl
def oSum : List D → Option D
  | [.list ds] => (intsOf ds).map fun ns => .int (sumI ns)
  | [.tuple ds] => (intsOf ds).map fun ns => .int (sumI ns)
  | _ => none
def allAlike (xs : List D) : Bool := xs.all fun x => xs.all fun y => PySem.W.alike x y
def minOk (xs : List D) : Bool := allAlike xs && xs.all (fun x => !isN x) && decide (PyData.depthAll xs ≤ 60)
def oMin : List D → Option D
  | [.int i, .int j] => some (.int (if j < i then j else i))
  | [.list (x :: xs)] => if minOk (x :: xs) then some (PySem.W.minD x xs) else none
  | [.tuple (x :: xs)] => if minOk (x :: xs) then some (PySem.W.minD x xs) else none
  | _ => none
def oMax : List D → Option D
  | [.int i, .int j] => some (.int (if j > i then j else i))
  | [.list (x :: xs)] => if minOk (x :: xs) then some (PySem.W.maxD x xs) else none
  | [.tuple (x :: xs)] => if minOk (x :: xs) then some (PySem.W.maxD x xs) else none
  | _ => none

section
variable {X : Cx} {K : PySem.W.Frag}
theorem leM' {n : Nat} (h : n ≤ 1000000) : n ≤ sizeLine := leM h
def rLen (K : PySem.W.Frag) : List V → Hp → VK → Prop := fun xs H Q => ∃ x n, xs = [x] ∧ LenV K x H n ∧ Q (.int n) H
theorem w_len : OpN K (rLen K) oLen := ⟨fun F H xs as d Q s ra e q => by
  unfold oLen at e
  split at e
  · cases e
    cases ra with
    | cons r t =>
      cases t
      cases r with
      | lst h1 t1 => exact ⟨_, _, rfl, .inl ⟨_, s.seq h1, rfl⟩, done s q (by rw [t1.length]; exact .int _)⟩
  · cases e
    cases ra with
    | cons r t =>
      cases t
      cases r with
      | tup h1 t1 => exact ⟨_, _, rfl, .inr ⟨_, sameT s (sqT_of h1), rfl⟩, done s q (by rw [t1.length]; exact .int _)⟩
  · split at e
    · next hl =>
      cases e
      cases ra with
      | cons r t =>
        cases t
        cases r
        exact ⟨_, _, rfl, ⟨leM hl, rfl⟩, done s q (.int _)⟩
    · cases e
  · cases e⟩
def rAbs : List V → Hp → VK → Prop := fun xs H Q => ∃ i, xs = [.int i] ∧ Q (.int (if i < 0 then -i else i)) H
theorem w_abs : OpN K rAbs oAbs := ⟨fun F H xs as d Q s ra e q => by
  unfold oAbs at e
  split at e
  · cases e
    cases ra with
    | cons r t =>
      cases t
      cases r
      exact ⟨_, rfl, done s q (.int _)⟩
  · cases e⟩
def rInt : List V → Hp → VK → Prop := fun xs H Q => (∃ i, xs = [.int i] ∧ Q (.int i) H) ∨ ∃ k, xs = [.bl k] ∧ Q (.int (if k then 1 else 0)) H
theorem w_int : OpN K rInt oInt := ⟨fun F H xs as d Q s ra e q => by
  unfold oInt at e
  split at e
  · cases e
    cases ra with
    | cons r t =>
      cases t
      cases r
      exact .inl ⟨_, rfl, done s q (.int _)⟩
  · cases e
    cases ra with
    | cons r t =>
      cases t
      cases r
      exact .inr ⟨_, rfl, done s q (.int _)⟩
  · cases e⟩
def rListOf (K : PySem.W.Frag) : List V → Hp → VK → Prop := fun xs H Q => ∃ p ys, xs = [.ref p] ∧ (SqL K H p ys ∨ SqT K H p ys) ∧ ∀ l, H l = none → Q (.ref l) (upd H l (.lst ys))
theorem w_list : OpN K (rListOf K) oList := ⟨fun F H xs as d Q s ra e q => by
  unfold oList at e
  split at e
  · cases e
    cases ra with
    | cons r t =>
      cases t
      cases r with
      | lst h1 t1 => exact ⟨_, _, rfl, .inl (s.seq h1), fun p hp => doneL s q t1 hp⟩
  · cases e
    cases ra with
    | cons r t =>
      cases t
      cases r with
      | tup h1 t1 => exact ⟨_, _, rfl, .inr (sameT s (sqT_of h1)), fun p hp => doneL s q t1 hp⟩
  · cases e⟩
def rTupleOf (K : PySem.W.Frag) : List V → Hp → VK → Prop := fun xs H Q => ∃ p ys, xs = [.ref p] ∧ ((SqL K H p ys ∧ ∀ l, H l = none → Q (.ref l) (upd H l (.tup ys))) ∨ (SqT K H p ys ∧ Q (.ref p) H))
theorem w_tuple : OpN K (rTupleOf K) oTuple := ⟨fun F H xs as d Q s ra e q => by
  unfold oTuple at e
  split at e
  · cases e
    cases ra with
    | cons r t =>
      cases t
      cases r with
      | lst h1 t1 => exact ⟨_, _, rfl, .inl ⟨s.seq h1, fun p hp => doneT s q t1 hp⟩⟩
  · cases e
    cases ra with
    | cons r t =>
      cases t
      cases r with
      | tup h1 t1 => exact ⟨_, _, rfl, .inr ⟨sameT s (sqT_of h1), done s q (.tup h1 t1)⟩⟩
  · cases e⟩

/-! ### sum: of a list, of a tuple -/
section
variable {prog : Program} {w : World} {A : Around} {E : Value → Shared → Prop} {s : Shared}
theorem iter_tupleI {l : Addr} {items : Array Value} {Q : Value → Shared → Prop} (hl : s.heap.IsTuple l items)
    (h : ∀ s₂ : Shared, s₂ = { s with heap := s.heap.push { cls := .type "tuple_iterator", data := .fields #[.ref l, .int 0 0] } } →
      (s₂.heap.IsTupleIter s.heap.objs.size l 0 ∧ s₂.heap.IsTuple l items) → (∀ b ∈ [s.heap.objs.size, l], b < s₂.heap.objs.size) → l ≠ s.heap.objs.size → Q (.ref s.heap.objs.size) s₂) :
    wpAny (model prog w) A (pyIter (.ref l)) Q E s := by
  have hlt : l < s.heap.objs.size := by obtain ⟨_, e, _⟩ := hl; exact Heap.lt_size e
  refine PyProof.Rows.iter_tuple hl (h _ rfl ⟨⟨_, Heap.get?_push_size _ rfl, rfl, rfl⟩, ?_⟩ (fun b hb => ?_) (Nat.ne_of_lt hlt))
  · obtain ⟨o, e, c⟩ := hl
    exact ⟨o, Heap.get?_push_of_some _ e, c⟩
  · show b < (s.heap.push _).objs.size
    rw [Heap.size_push]
    rcases List.mem_cons.mp hb with rfl | hb
    · exact Nat.lt_succ_self _
    · rcases List.mem_cons.mp hb with rfl | hb
      · exact Nat.lt_succ_of_lt hlt
      · cases hb
theorem tuple_kept {l : Addr} {h' : Heap} (hk : ∀ b o, b ∉ [s.heap.objs.size] → (s.heap.push { cls := .type "tuple_iterator", data := .fields #[.ref l, .int 0 0] }).get? b = some o → h'.get? b = some o) :
    ∀ b o, s.heap.get? b = some o → h'.get? b = some o := fun b o e => by
  refine hk b o (fun hm => ?_) (Heap.get?_push_of_some _ e)
  rcases List.mem_cons.mp hm with e1 | hm
  · exact absurd (e1 ▸ Heap.lt_size e) (Nat.lt_irrefl _)
  · cases hm
theorem tuple_sum_raw {l : Addr} {its : List Value} {ns : List Int} {Q : Value → Shared → Prop} (hh : A.handled = none) (hl : s.heap.IsTuple l its.toArray) (hi : IntsAre its ns)
    (h : ∀ h' tk t', (∀ b o, s.heap.get? b = some o → h'.get? b = some o) → Q (.int ns.sum t') { s with heap := h', toks := tk }) : wpAny (model prog w) A (call (.builtin "sum") [.ref l]) Q E s := by
  obtain ⟨xs, e⟩ := hi.allInts.items
  have hn : numsOf (intItems xs).toList = ns := by rw [← e]; exact hi.numsOf
  rw [nums_intItems] at hn
  rw [e] at hl
  refine PySem.call_sum_walkG (iter_tupleI hl fun s₂ e st hfp hlI => ?_)
  subst e
  refine ⟨_, _, _, _, _, _, numAt xs, rfl, Walks.tuple (A := A.in1) hh _ l hlI (intItems xs), st, hfp, (fun _ _ => intItems_at), fun h' tk t' hk => ?_⟩
  have := h h' tk t' (tuple_kept hk)
  rw [← hn] at this
  have e2 : preSum (numAt xs) (intItems xs).size = (List.map (·.1) xs.toList).sum := by
    rw [preSum_eq, List.take_of_length_le (by simp [intItems])]
  rw [e2]
  exact this
end
def rSumA (K : PySem.W.Frag) : List V → Hp → VK → Prop := fun vs H Q => rSum K vs H Q ∨ ∃ (a : Addr) (ns : List Int), vs = [V.ref a] ∧ SqT K H a (ns.map V.int) ∧ Q (.int ns.sum) H
theorem cr_sumA (hc : X.calm = true) : CallR X (.builtin "sum") (rSumA X.K) := CallR.or (cr_sum hc) (by
  intro pins s σ H vs us Q I r h
  obtain ⟨a, ns, rfl, hs, q⟩ := h
  obtain ⟨its, rv, hl, _⟩ := I.tuple hs
  rw [Vals.ref1 r]
  exact tuple_sum_raw (I.ok.hd hc) hl rv.ints fun h' tk t' hk => ⟨.int _, H, I.kept hk, ⟨_, rfl⟩, q⟩)
theorem w_sum : OpN K (rSumA K) oSum := ⟨fun F H xs as d Q s ra e q => by
  unfold oSum at e
  split at e
  · rw [Option.map_eq_some_iff] at e
    obtain ⟨ns, h1, h2⟩ := e
    subst h2
    have e2 := intsOf_eq h1
    subst e2
    cases ra with
    | cons r t =>
      cases t
      cases r with
      | lst h1 t1 =>
        rw [t1.ints] at h1
        exact .inl ⟨_, _, rfl, s.seq h1, done s q (by rw [sumI_eq]; exact .int _)⟩
  · rw [Option.map_eq_some_iff] at e
    obtain ⟨ns, h1, h2⟩ := e
    subst h2
    have e2 := intsOf_eq h1
    subst e2
    cases ra with
    | cons r t =>
      cases t
      cases r with
      | tup h1 t1 =>
        rw [t1.ints] at h1
        exact .inr ⟨_, _, rfl, sameT s (sqT_of h1), done s q (by rw [sumI_eq]; exact .int _)⟩
  · cases e⟩

/-! ### min, max of data -/
theorem alike_of {xs : List D} (h : allAlike xs = true) : ∀ x ∈ xs, ∀ y ∈ xs, PySem.W.alike x y = true := fun x hx y hy => by
  unfold allAlike at h
  rw [List.all_eq_true] at h
  have h1 := h x hx
  rw [List.all_eq_true] at h1
  exact h1 y hy
theorem minOk_of {xs : List D} (h : minOk xs = true) : PySem.W.AlikeAll xs ∧ PyData.depthAll xs ≤ 60 := by
  unfold minOk at h
  rw [Bool.and_eq_true, Bool.and_eq_true] at h
  refine ⟨⟨alike_of h.1.1, fun x hx => ?_⟩, of_decide_eq_true h.2⟩
  have h1 := h.1.2
  rw [List.all_eq_true] at h1
  exact isN_not (by simpa using h1 x hx)
theorem min_at {A : Around} {E : Value → Shared → Prop} {s : Shared} {prog : Program} {w : World} {l : Addr} {vs : Array Value} {x : PyData} {xs : List PyData} {as : List Addr} {Q : Value → Shared → Prop} (hh : A.handled = none) (hl : s.heap.IsList l vs ∨ s.heap.IsTuple l vs) (hr : ReadsAll s.heap vs.toList (x :: xs) as) (ha : PySem.W.AlikeAll (x :: xs)) (hu : A.units + 1 + PyData.depthAll (x :: xs) < cLine)
    (h : ∀ (i : Nat) v h' tk, vs[i]? = some v → (x :: xs)[i]? = some (PySem.W.minD x xs) → (∀ b o, s.heap.get? b = some o → h'.get? b = some o) → Q v { s with heap := h', toks := tk }) :
    wpAny (model prog w) A (call (.builtin "min") [.ref l]) Q E s := by
  have hn : vs.size = xs.length + 1 := PySem.W.readsAll_len hr
  have e1 : vs.size - 1 = xs.length := by omega
  have e2 := PySem.W.argBest_fold PySem.W.dataLt PyData.none x xs xs.length (Nat.le_refl _)
  rw [List.take_length] at e2
  have e3 : ∀ {i : Nat}, i ≤ xs.length → (x :: xs).getD i .none = PySem.W.minD x xs → (x :: xs)[i]? = some (PySem.W.minD x xs) := fun {i} hi e => by
    have hlt : i < (x :: xs).length := Nat.lt_succ_of_le hi
    rw [List.getD_eq_getElem?_getD, List.getElem?_eq_getElem hlt] at e
    rw [List.getElem?_eq_getElem hlt]
    exact congrArg some e
  rcases hl with hl | hl
  · refine PySem.call_min_walkH (PySem.W.iter_listW (A := A.in1) hh hl fun s₂ e W st hfp hw hk => ?_)
    refine ⟨_, _, _, _, _, _, _, s.heap, _, rfl, W, st, hfp, by omega, hw, hk, PySem.W.cmpIn_lt (A := A.in1) hr ha (by show A.units + 1 + _ < _; exact hu), fun v s' hP m => ?_⟩
    obtain ⟨h', tk, rfl, hk'⟩ := PySem.W.moved_old e rfl m
    rw [e1] at hP
    exact h _ v h' tk hP (e3 e2.1 e2.2) hk'
  · refine PySem.call_min_walkH (PySem.W.iter_tupleW (A := A.in1) hh hl fun s₂ e W st hfp hw hk => ?_)
    refine ⟨_, _, _, _, _, _, _, s.heap, _, rfl, W, st, hfp, by omega, hw, hk, PySem.W.cmpIn_lt (A := A.in1) hr ha (by show A.units + 1 + _ < _; exact hu), fun v s' hP m => ?_⟩
    obtain ⟨h', tk, rfl, hk'⟩ := PySem.W.moved_old e rfl m
    rw [e1] at hP
    exact h _ v h' tk hP (e3 e2.1 e2.2) hk'
theorem max_at {A : Around} {E : Value → Shared → Prop} {s : Shared} {prog : Program} {w : World} {l : Addr} {vs : Array Value} {x : PyData} {xs : List PyData} {as : List Addr} {Q : Value → Shared → Prop} (hh : A.handled = none) (hl : s.heap.IsList l vs ∨ s.heap.IsTuple l vs) (hr : ReadsAll s.heap vs.toList (x :: xs) as) (ha : PySem.W.AlikeAll (x :: xs)) (hu : A.units + 1 + PyData.depthAll (x :: xs) < cLine)
    (h : ∀ (i : Nat) v h' tk, vs[i]? = some v → (x :: xs)[i]? = some (PySem.W.maxD x xs) → (∀ b o, s.heap.get? b = some o → h'.get? b = some o) → Q v { s with heap := h', toks := tk }) :
    wpAny (model prog w) A (call (.builtin "max") [.ref l]) Q E s := by
  have hn : vs.size = xs.length + 1 := PySem.W.readsAll_len hr
  have e1 : vs.size - 1 = xs.length := by omega
  have e2 := PySem.W.argBest_fold (fun y a => PySem.W.dataLt a y) PyData.none x xs xs.length (Nat.le_refl _)
  rw [List.take_length] at e2
  have e3 : ∀ {i : Nat}, i ≤ xs.length → (x :: xs).getD i .none = PySem.W.maxD x xs → (x :: xs)[i]? = some (PySem.W.maxD x xs) := fun {i} hi e => by
    have hlt : i < (x :: xs).length := Nat.lt_succ_of_le hi
    rw [List.getD_eq_getElem?_getD, List.getElem?_eq_getElem hlt] at e
    rw [List.getElem?_eq_getElem hlt]
    exact congrArg some e
  rcases hl with hl | hl
  · refine PySem.call_max_walkH (PySem.W.iter_listW (A := A.in1) hh hl fun s₂ e W st hfp hw hk => ?_)
    refine ⟨_, _, _, _, _, _, _, s.heap, _, rfl, W, st, hfp, by omega, hw, hk, PySem.W.cmpIn_gt (A := A.in1) hr ha (by show A.units + 1 + _ < _; exact hu), fun v s' hP m => ?_⟩
    obtain ⟨h', tk, rfl, hk'⟩ := PySem.W.moved_old e rfl m
    rw [e1] at hP
    exact h _ v h' tk hP (e3 e2.1 e2.2) hk'
  · refine PySem.call_max_walkH (PySem.W.iter_tupleW (A := A.in1) hh hl fun s₂ e W st hfp hw hk => ?_)
    refine ⟨_, _, _, _, _, _, _, s.heap, _, rfl, W, st, hfp, by omega, hw, hk, PySem.W.cmpIn_gt (A := A.in1) hr ha (by show A.units + 1 + _ < _; exact hu), fun v s' hP m => ?_⟩
    obtain ⟨h', tk, rfl, hk'⟩ := PySem.W.moved_old e rfl m
    rw [e1] at hP
    exact h _ v h' tk hP (e3 e2.1 e2.2) hk'
def rBest (K : PySem.W.Frag) (g : PyData → List PyData → PyData) : List V → Hp → VK → Prop := fun as H Q => ∃ a vs x xs, as = [V.ref a] ∧ (SqL K H a vs ∨ SqT K H a vs) ∧ DpAll K H vs (x :: xs) ∧ minOk (x :: xs) = true ∧ ∀ (i : Nat) v, vs[i]? = some v → (x :: xs)[i]? = some (g x xs) → Q v H
theorem cr_best {id : String} {g : PyData → List PyData → PyData} (hc : X.calm = true) (hu : X.A.units + 64 < cLine)
    (rule : ∀ {A : Around} {E : Value → Shared → Prop} {s : Shared} {l : Addr} {vs : Array Value} {x : PyData} {xs : List PyData} {as : List Addr} {Q : Value → Shared → Prop}, A.handled = none → (s.heap.IsList l vs ∨ s.heap.IsTuple l vs) → ReadsAll s.heap vs.toList (x :: xs) as → PySem.W.AlikeAll (x :: xs) → A.units + 1 + PyData.depthAll (x :: xs) < cLine →
      (∀ (i : Nat) v h' tk, vs[i]? = some v → (x :: xs)[i]? = some (g x xs) → (∀ b o, s.heap.get? b = some o → h'.get? b = some o) → Q v { s with heap := h', toks := tk }) → wpAny (model X.prog X.w) A (call (.builtin id) [.ref l]) Q E s) : CallR X (.builtin id) (rBest X.K g) := by
  intro pins s σ H vs us Q I r h
  obtain ⟨a, ws, x, xs, rfl, hs, hd, ok, q⟩ := h
  rw [Vals.ref1 r]
  obtain ⟨al, dp⟩ := minOk_of ok
  have fin : ∀ {its : List Value}, Vals ws its → (s.heap.IsList a its.toArray ∨ s.heap.IsTuple a its.toArray) → wpAny (model X.prog X.w) X.A (call (.builtin id) [.ref a]) (EP X pins σ Q) X.xe s := fun {its} rv hl => by
    obtain ⟨as, hr⟩ := Dp.readsAll I _ _ its hd rv
    refine rule (I.ok.hd hc) hl (show ReadsAll s.heap its.toArray.toList (x :: xs) as from hr) al (by omega) fun i v h' tk hi hd2 hk => ?_
    obtain ⟨y, hy, _⟩ := hd.get hd2
    obtain ⟨u, hu2, ru⟩ := rv.get hy
    have e : u = v := by
      have hi' : its[i]? = some v := by simpa using hi
      rw [hu2] at hi'
      exact Option.some.inj hi'
    subst e
    exact ⟨y, H, I.kept hk, ru, q i y hy hd2⟩
  rcases hs with hs | hs
  · obtain ⟨its, rv, hl, _⟩ := I.list hs
    exact fin rv (.inl hl.isList)
  · obtain ⟨its, rv, hl, _⟩ := I.tuple hs
    exact fin rv (.inr hl)
def rMin2 : List V → Hp → VK → Prop := fun xs H Q => ∃ i j, xs = [.int i, .int j] ∧ Q (.int (if j < i then j else i)) H
def rMax2 : List V → Hp → VK → Prop := fun xs H Q => ∃ i j, xs = [.int i, .int j] ∧ Q (.int (if j > i then j else i)) H
def rMinA (K : PySem.W.Frag) : List V → Hp → VK → Prop := fun xs H Q => rMin2 xs H Q ∨ rBest K PySem.W.minD xs H Q
def rMaxA (K : PySem.W.Frag) : List V → Hp → VK → Prop := fun xs H Q => rMax2 xs H Q ∨ rBest K PySem.W.maxD xs H Q
theorem cr_minA (hc : X.calm = true) (hu : X.A.units + 64 < cLine) : CallR X (.builtin "min") (rMinA X.K) := CallR.or (call_min2 hc) (cr_best hc hu min_at)
theorem cr_maxA (hc : X.calm = true) (hu : X.A.units + 64 < cLine) : CallR X (.builtin "max") (rMaxA X.K) := CallR.or (call_max2 hc) (cr_best hc hu max_at)
theorem w_best {F H : Hp} {v : V} {x : D} {xs : List D} {Q : VK} {g : D → List D → D} (s : Same F H) (r : Rep K F v (.list (x :: xs)) ∨ Rep K F v (.tuple (x :: xs))) (h : minOk (x :: xs) = true) (q : ∀ v H', Same H H' → Rep K (ext F H H') v (g x xs) → Q v H') : rBest K g [v] H Q := by
  rcases r with r | r
  · cases r with
    | lst h1 t1 =>
      refine ⟨_, _, x, xs, rfl, .inl (s.seq h1), t1.mono s, h, fun i v hv hd => done s q ?_⟩
      obtain ⟨d, hd2, rd⟩ := t1.get' hv
      rw [hd] at hd2
      cases hd2
      exact rd
  · cases r with
    | tup h1 t1 =>
      refine ⟨_, _, x, xs, rfl, .inr (sameT s (sqT_of h1)), t1.mono s, h, fun i v hv hd => done s q ?_⟩
      obtain ⟨d, hd2, rd⟩ := t1.get' hv
      rw [hd] at hd2
      cases hd2
      exact rd
theorem w_min : OpN K (rMinA K) oMin := ⟨fun F H xs as d Q s ra e q => by
  unfold oMin at e
  split at e
  · cases e
    cases ra with
    | cons r1 t =>
      cases t with
      | cons r2 t =>
        cases t
        cases r1
        cases r2
        exact .inl ⟨_, _, rfl, done s q (.int _)⟩
  · split at e
    · next h =>
      cases e
      cases ra with
      | cons r t =>
        cases t
        exact .inr (w_best s (.inl r) h q)
    · cases e
  · split at e
    · next h =>
      cases e
      cases ra with
      | cons r t =>
        cases t
        exact .inr (w_best s (.inr r) h q)
    · cases e
  · cases e⟩
theorem w_max : OpN K (rMaxA K) oMax := ⟨fun F H xs as d Q s ra e q => by
  unfold oMax at e
  split at e
  · cases e
    cases ra with
    | cons r1 t =>
      cases t with
      | cons r2 t =>
        cases t
        cases r1
        cases r2
        exact .inl ⟨_, _, rfl, done s q (.int _)⟩
  · split at e
    · next h =>
      cases e
      cases ra with
      | cons r t =>
        cases t
        exact .inr (w_best s (.inl r) h q)
    · cases e
  · split at e
    · next h =>
      cases e
      cases ra with
      | cons r t =>
        cases t
        exact .inr (w_best s (.inr r) h q)
    · cases e
  · cases e⟩

/-! ### sorted of data -/
def ins {α : Type} (le : α → α → Bool) (x : α) : List α → List α
  | [] => [x]
  | y :: r => if le x y then x :: y :: r else y :: ins le x r
def isort {α : Type} (le : α → α → Bool) : List α → List α
  | [] => []
  | x :: r => ins le x (isort le r)
section
variable {α : Type} {le : α → α → Bool}
theorem ins_mem {x z : α} : ∀ {l : List α}, z ∈ ins le x l ↔ z = x ∨ z ∈ l
  | [] => by simp [ins]
  | y :: r => by
    unfold ins
    split
    · simp
    · simp only [List.mem_cons, ins_mem (l := r)]
      constructor
      · rintro (h | h | h)
        · exact .inr (.inl h)
        · exact .inl h
        · exact .inr (.inr h)
      · rintro (h | h | h)
        · exact .inr (.inl h)
        · exact .inl h
        · exact .inr (.inr h)
theorem ins_pw (T : PySem.W.TotalLe le) {x : α} : ∀ {l : List α}, l.Pairwise (fun a b => le a b = true) → (ins le x l).Pairwise (fun a b => le a b = true)
  | [], _ => by simp [ins]
  | y :: r, h => by
    have h1 := List.pairwise_cons.mp h
    unfold ins
    split
    · next e => exact List.pairwise_cons.mpr ⟨fun z hz => by
        rcases List.mem_cons.mp hz with q | q
        · rw [q]
          exact e
        · exact T.trans _ _ _ e (h1.1 z q), h⟩
    · next e =>
      refine List.pairwise_cons.mpr ⟨fun z hz => ?_, ins_pw T h1.2⟩
      rcases ins_mem.mp hz with q | q
      · rw [q]
        exact (T.total x y).resolve_left e
      · exact h1.1 z q
theorem isort_pw (T : PySem.W.TotalLe le) : ∀ l : List α, (isort le l).Pairwise (fun a b => le a b = true)
  | [] => List.Pairwise.nil
  | x :: r => ins_pw T (isort_pw T r)
theorem ins_filter (T : PySem.W.TotalLe le) (c : α) {x : α} : ∀ {l : List α}, (ins le x l).filter (PySem.W.sameRank le c) = (x :: l).filter (PySem.W.sameRank le c)
  | [] => rfl
  | y :: r => by
    unfold ins
    split
    · rfl
    · next e =>
      have ih := ins_filter T c (x := x) (l := r)
      rw [List.filter_cons, ih, List.filter_cons, List.filter_cons, List.filter_cons]
      by_cases hx : PySem.W.sameRank le c x = true
      · have hy : PySem.W.sameRank le c y = false := by
          rw [Bool.eq_false_iff]
          intro hy
          unfold PySem.W.sameRank at hx hy
          rw [Bool.and_eq_true] at hx hy
          exact e (T.trans _ _ _ hx.2 hy.1)
        rw [hx, hy]
        simp
      · rw [if_neg hx, if_neg hx]
theorem isort_filter (T : PySem.W.TotalLe le) (c : α) : ∀ l : List α, (isort le l).filter (PySem.W.sameRank le c) = l.filter (PySem.W.sameRank le c)
  | [] => rfl
  | x :: r => by
    show (ins le x (isort le r)).filter _ = _
    rw [ins_filter T c, List.filter_cons, List.filter_cons, isort_filter T c r]
theorem isort_eq (T : PySem.W.TotalLe le) (l : List α) : isort le l = l.mergeSort le := PySem.W.sort_unique T (isort_pw T l) fun c => isort_filter T c l
theorem isort_length {α : Type} {le : α → α → Bool} : ∀ l : List α, (isort le l).length = l.length := by
  intro l
  induction l with
  | nil => rfl
  | cons x r ih =>
    show (ins le x (isort le r)).length = _
    rw [List.length_cons, ← ih]
    generalize isort le r = m
    induction m with
    | nil => rfl
    | cons y t ih2 =>
      unfold ins
      split
      · rfl
      · rw [List.length_cons, ih2, List.length_cons]
end
def leD (a b : D) : Bool := !PySem.W.dataLt b a
theorem leD_total : PySem.W.TotalLe leD := PySem.W.sortLe_total (PyProof.Rows.listOrd PyProof.Rows.itemOrd) false PySem.W.keyToks
def sortOk (ds : List D) : Bool := allAlike ds && (ds.all (fun d => match d with
  | .tuple (_ :: _) => true
  | _ => false) || ds.all (fun d => match d with
  | .none => false
  | .tuple _ => false
  | _ => true)) && decide (PyData.depthAll ds ≤ 60)
theorem depth_mem : ∀ {ds : List PyData} {d : PyData}, d ∈ ds → d.depth ≤ PyData.depthAll ds
  | x :: r, d, h => by
    rw [PyData.depthAll]
    rcases List.mem_cons.mp h with e | e
    · rw [e]
      exact Nat.le_max_left _ _
    · exact Nat.le_trans (depth_mem e) (Nat.le_max_right _ _)
theorem sortOk_of {ds : List D} (h : sortOk ds = true) : PySem.W.AllAlike ds ∧ PySem.W.Sortable ds ∧ PyData.depthAll ds ≤ 60 := by
  unfold sortOk at h
  rw [Bool.and_eq_true, Bool.and_eq_true] at h
  refine ⟨fun x hx y hy => alike_of h.1.1 x hx y hy, ?_, of_decide_eq_true h.2⟩
  rcases Bool.or_eq_true_iff.mp h.1.2 with q | q
  · refine .inl fun d hd => ?_
    rw [List.all_eq_true] at q
    have := q d hd
    split at this
    · exact ⟨_, _, rfl⟩
    · cases this
  · refine .inr fun d hd => ?_
    rw [List.all_eq_true] at q
    have := q d hd
    split at this
    · cases this
    · cases this
    · next h1 h2 => exact ⟨h1, fun xs => h2 xs⟩
theorem each_of {K : PySem.W.Frag} {F : Hp} : ∀ {vs : List V} {ds : List D}, RepL K F vs ds → PySem.W.EachIs (Rep K F) vs ds
  | _, _, .nil => .nil
  | _, _, .cons h t => .cons h (each_of t)
theorem of_each {K : PySem.W.Frag} {F : Hp} : ∀ {vs : List V} {ds : List D}, PySem.W.EachIs (Rep K F) vs ds → RepL K F vs ds
  | _, _, .nil => .nil
  | _, _, .cons h t => .cons h (of_each t)
theorem each_vals {Φ : V → D → Prop} : ∀ {vs : List V} {us : List Value} {ds : List D}, Vals vs us → PySem.W.EachIs Φ vs ds → PySem.W.EachIs (fun u d => ∃ v, RelV v u ∧ Φ v d) us ds
  | _, _, _, .nil, .nil => .nil
  | _, _, _, .cons r t, .cons h k => .cons ⟨_, r, h⟩ (each_vals t k)
theorem vals_each {Φ : V → D → Prop} : ∀ {us : List Value} {ds : List D}, PySem.W.EachIs (fun u d => ∃ v, RelV v u ∧ Φ v d) us ds → ∃ vs, Vals vs us ∧ PySem.W.EachIs Φ vs ds
  | _, _, .nil => ⟨[], .nil, .nil⟩
  | _, _, .cons ⟨v, r, h⟩ t => by
    obtain ⟨vs, h1, h2⟩ := vals_each t
    exact ⟨v :: vs, .cons r h1, .cons h h2⟩
theorem each_len {α β : Type} {R : α → β → Prop} : ∀ {a : List α} {b : List β}, PySem.W.EachIs R a b → a.length = b.length
  | _, _, .nil => rfl
  | _, _, .cons _ t => congrArg (· + 1) (each_len t)
def rSortedD (K : PySem.W.Frag) : List V → Hp → VK → Prop := fun xs H Q => ∃ (a : Addr) (vs : List V) (ds : List D) (Φ : V → D → Prop), xs = [V.ref a] ∧ SqL K H a vs ∧ DpAll K H vs ds ∧ PySem.W.EachIs Φ vs ds ∧ sortOk ds = true ∧
  ∀ vs' p, H p = none → PySem.W.EachIs Φ vs' (isort leD ds) → Q (.ref p) (upd H p (.lst vs'))
section
variable {X : Cx} {K : PySem.W.Frag}
theorem cr_sortedD (hu : X.A.units + 64 < cLine) : CallR X (.builtin "sorted") (rSortedD X.K) := by
  intro pins s σ H xs us Q I r h
  obtain ⟨a, vs, ds, Φ, rfl, hs, hd, hΦ, ok, q⟩ := h
  rw [Vals.ref1 r]
  obtain ⟨al, so, dp⟩ := sortOk_of ok
  obtain ⟨its, rv, hl, hz⟩ := I.list hs
  obtain ⟨as, hr⟩ := Dp.readsAll I _ _ its hd rv
  have l1 := hd.length
  have ms : ds.map (fun d => d) = ds := List.map_id' ds
  refine PySem.W.sorted_data (enc := fun d : PyData => d) (R := fun u d => ∃ v, RelV v u ∧ Φ v d) hl.isList (each_vals rv hΦ) (PySem.W.readsAll_each (fun d => d) (by rw [ms]; exact hr)) (by rw [ms]; exact al) (by rw [ms]; exact so) (by omega) (fun d hd => ?_) fun out hlen he => ?_
  · have := depth_mem hd
    omega
  · obtain ⟨vs', rv', hv'⟩ := vals_each he
    obtain ⟨ep, he'⟩ := PyProof.Rows.sortedAll_at s.heap its out.toArray
    have e : ds.mergeSort (PySem.W.dataLe false fun d => d) = isort leD ds := (isort_eq leD_total ds).symm
    rw [e] at hv'
    refine ⟨.ref _, upd H (s.heap.objs.size + 1) (.lst vs'), I.laid (t' := s.toks) (fun _ _ => PyProof.Rows.sortedAll_old) (Nat.le_succ _) ⟨?_, out, ep, rv', he'⟩, rfl, q _ _ (I.hok.fresh (Nat.le_succ _)) hv'⟩
    rw [rv'.length, hlen]
    omega
def oSorted : List D → Option D
  | [.list ds] => if sortOk ds then some (.list (isort leD ds)) else none
  | _ => none
theorem w_sorted : OpN K (rSortedD K) oSorted := ⟨fun F H xs as d Q s ra e q => by
  unfold oSorted at e
  split at e
  · split at e
    · next h =>
      cases e
      cases ra with
      | cons r t =>
        cases t
        cases r with
        | lst h1 t1 => exact ⟨_, _, _, Rep K F, rfl, s.seq h1, t1.mono s, each_of t1, h, fun vs' p hp he => doneL s q (of_each he) hp⟩
    · cases e
  · cases e⟩

/-! ### isinstance -/
def tyName : D → String
  | .none => "NoneType"
  | .bool _ => "bool"
  | .int _ => "int"
  | .str _ => "str"
  | .list _ => "list"
  | .tuple _ => "tuple"
  | .dict _ => "dict"
theorem ty_of {F : Hp} {v : V} {d : D} (r : Rep K F v d) : TyX K F v (.type (tyName d)) := by
  cases r with
  | non => exact .base .non
  | bl b => exact .base (.bl b)
  | int i => exact .base (.int i)
  | str s => exact .base (.str s)
  | dic h _ _ =>
    rcases h with h | ⟨o, h⟩
    · exact .base (.dK h)
    · exact .fDict h
  | lst h t =>
    rcases h with (h | ⟨o, h⟩) | ⟨o, its, n, h, c, _⟩
    · exact .base (.lst h)
    · exact .base (.frz h)
    · exact .kList h c
  | tup h t => exact .base (.tup h)
/-- the built-in types that are asked for -/
inductive Ty where
  | int | bool | str | list | tuple
def Ty.name : Ty → String
  | .int => "int"
  | .bool => "bool"
  | .str => "str"
  | .list => "list"
  | .tuple => "tuple"
def isTyN : Ty → String → Bool
  | .int, n => n == "int" || n == "bool"
  | .bool, n => n == "bool"
  | .str, n => n == "str"
  | .list, n => n == "list"
  | .tuple, n => n == "tuple"
def isTy : Ty → D → Bool
  | .int, .int _ => true
  | .int, .bool _ => true
  | .bool, .bool _ => true
  | .str, .str _ => true
  | .list, .list _ => true
  | .tuple, .tuple _ => true
  | _, _ => false
theorem kit_all (t : Ty) : ["NoneType", "bool", "int", "str", "list", "tuple", "dict"].all (fun n => decide (kitB n t.name = some (isTyN t n))) = true := by
  cases t <;> decide +kernel
theorem isTy_N (t : Ty) (d : D) : isTyN t (tyName d) = isTy t d := by
  cases t <;> cases d <;> simp [isTyN, isTy, tyName]
theorem isTy_kit (t : Ty) (d : D) : kitB (tyName d) t.name = some (isTy t d) := by
  have h := List.all_eq_true.mp (kit_all t) (tyName d) (by cases d <;> simp [tyName])
  rw [of_decide_eq_true h, isTy_N]
def cIsi (T : Ty) (f : Env → Option D) : Env → Option D := fun ρ => (f ρ).bind fun d => some (.bool (isTy T d))
variable {z : Z}
theorem q_isi {e : Expr} {T : Ty} {x : Str} {p q pos : Pos} {f : Env → Option D} (he : PE X e (tP X.K z f)) (hg : Gl X "isinstance") (hm : X.mg "isinstance" = none) (hb : bootBuiltins "isinstance" = some (.builtin "isinstance")) (ht : PE X (.Name x q) (tC (.ty T.name)))
    (hes : starEach [e, .Name x q] X.env = (false, eval e X.env) :: starEach [.Name x q] X.env := by rfl) (hes2 : starEach [.Name x q] X.env = (false, eval (.Name x q) X.env) :: starEach [] X.env := by rfl) (hpl : (backTo pos (starEach [.Name x q] X.env)).any (·.1) = false := by rfl) :
    PE X (.Call (.Name "isinstance" p) [e, .Name x q] [] pos) (tP X.K z (cIsi T f)) := by
  refine (pe_callB call_isi hg hm hb (pa_cons he (pa_cons ht pa_nil hes2) hes) (by decide) (by decide) hes hpl).mono fun σ H Q ⟨ρ, F, O, d, R, e, q⟩ => ?_
  obtain ⟨a, ea, e⟩ := bind_some e
  cases e
  refine ⟨ρ, F, O, a, R, ea, fun v1 H1 s1 r1 => ?_⟩
  have R1 := R.grow s1
  exact ⟨v1, .ty T.name, _, _, _, rfl, .ty T.name, ty_of (r1.mono R1.sub), kit_ty (isTy_kit T a), q _ H1 s1 (.bl _)⟩
def cIsi2 (T U : Ty) (f : Env → Option D) : Env → Option D := fun ρ => (f ρ).bind fun d => some (.bool (isTy T d || isTy U d))
theorem q_isi2 {e : Expr} {T U : Ty} {x y : Str} {p q q2 pos tpos : Pos} {k : Nat} {f : Env → Option D} (he : PE X e (tP X.K z f)) (hg : Gl X "isinstance") (hm : X.mg "isinstance" = none) (hb : bootBuiltins "isinstance" = some (.builtin "isinstance")) (ht : PE X (.Name x q) (tC (.ty T.name))) (hu : PE X (.Name y q2) (tC (.ty U.name)))
    (hes : starEach [e, .Tuple [.Name x q, .Name y q2] k tpos] X.env = (false, eval e X.env) :: starEach [.Tuple [.Name x q, .Name y q2] k tpos] X.env := by rfl)
    (hpl : (backTo pos (starEach [.Tuple [.Name x q, .Name y q2] k tpos] X.env)).any (·.1) = false := by rfl) :
    PE X (.Call (.Name "isinstance" p) [e, .Tuple [.Name x q, .Name y q2] k tpos] [] pos) (tP X.K z (cIsi2 T U f)) := by
  refine (pe_callB call_isiT hg hm hb (pa_cons he (pa_cons (pe_tup (pa_cons ht (pa_cons hu pa_nil))) pa_nil) hes) (by decide) (by decide) hes hpl).mono fun σ H Q ⟨ρ, F, O, d, R, e, q⟩ => ?_
  obtain ⟨a, ea, e⟩ := bind_some e
  cases e
  refine ⟨ρ, F, O, a, R, ea, fun v1 H1 s1 r1 => ⟨by show 2 ≤ sizeLine; decide, fun t ht => ?_⟩⟩
  have R1 := R.grow s1
  have sn := same_new (o := .tup [V.ty T.name, V.ty U.name]) ht
  refine ⟨v1, t, [.ty T.name, .ty U.name], _, [.type T.name, .type U.name], (isTy T a || isTy U a), rfl, upd_same, .cons (.ty _) (.cons (.ty _) .nil), ty_of ((r1.mono R1.sub).mono sn), kitAny_cons (kit_ty (isTy_kit T a)) (fun e1 => ?_) (fun e1 => ?_), q _ _ (s1.trans sn) (.bl _)⟩
  · rw [e1, Bool.false_or]
    refine kitAny_cons (kit_ty (isTy_kit U a)) (fun e2 => ?_) (fun e2 => e2)
    rw [e2]
    exact kitAny_nil
  · rw [e1]
    rfl
end
end
end DL

namespace DL
open PySem PySem.Spec PyProof.Rows L2

/-! ## what an expression leaves: nothing but the slots' own objects may change -/
structure Kp (F H F' H' : Hp) (O : Nat → List Addr) : Prop where
  same : Same F F'
  keep : ∀ a o, H a = some o → (∀ i, a ∉ O i) → H' a = some o
  out : ∀ a, H a ≠ none → F a = none → F' a = none
  dom : ∀ a, H a ≠ none → H' a ≠ none
theorem Kp.refl {F H : Hp} {O : Nat → List Addr} : Kp F H F H O := ⟨Same.refl _, fun _ _ h _ => h, fun _ _ h => h, fun _ h => h⟩
theorem Kp.trans {F H F1 H1 F2 H2 : Hp} {O : Nat → List Addr} (a : Kp F H F1 H1 O) (b : Kp F1 H1 F2 H2 O) : Kp F H F2 H2 O :=
  ⟨a.same.trans b.same, fun x o h n => b.keep x o (a.keep x o h n) n, fun x h f => b.out x (a.dom x h) (a.out x h f), fun x h => b.dom x (a.dom x h)⟩
theorem ne_none {α : Type} {x : Option α} {a : α} (h : x = some a) : x ≠ none := by
  rw [h]
  exact fun z => nomatch z
theorem some_of {α : Type} {x : Option α} (h : x ≠ none) : ∃ a, x = some a := by
  cases x with
  | none => exact absurd rfl h
  | some a => exact ⟨a, rfl⟩
theorem Kp.of_same {F H H' : Hp} {O : Nat → List Addr} (s0 : Same F H) (s : Same H H') : Kp F H (ext F H H') H' O :=
  ⟨same_ext s0, fun a o h _ => s _ _ h, fun a h f => by
    obtain ⟨o, q⟩ := some_of h
    unfold ext
    simp [q, f], fun a h => by
    obtain ⟨o, q⟩ := some_of h
    exact ne_none (s _ _ q)⟩

section
variable {K : PySem.W.Frag} {z : Z} {ρ : Env} {σ : L2.St} {F H : Hp} {O : Nat → List Addr}
/-- an address that nothing tells of changes -/
theorem Rel.other (R : Rel K z ρ σ F H O) {p : Addr} {o : HO} (hF : F p = none) (hO : ∀ i, p ∉ O i) (h0 : z.H0 p = none) (ho : ∀ vs, o ≠ .tup vs := by intro _ q; cases q) : Rel K z ρ σ F (upd H p o) O where
  len := R.len
  sub := DL.Same.upd2 R.sub hF
  ent := fun i e h => by
    obtain ⟨v, h1, h2⟩ := R.ent i e h
    exact ⟨v, h1, h2.mono (Same.refl _) fun a ha => upd_ne (show a ≠ p from fun q => hO i (q ▸ ha))⟩
  off := fun i a ha => ⟨(R.off i a ha).1, by
    rw [upd_ne (show a ≠ p from fun q => hO i (q ▸ ha))]
    exact (R.off i a ha).2⟩
  apt := R.apt
  old := R.old
  oldH := fun a h => by
    by_cases e : a = p
    · rw [e, upd_same]
      exact fun z => nomatch z
    · rw [upd_ne e]
      exact R.oldH a h
  keep := fun a o' h b => by
    have e : a ≠ p := fun e => by
      rw [e, h0] at h
      cases h
    rw [upd_ne e]
    exact R.keep a o' h b
  f0 := R.f0
  tup := R.tup.up ho
/-- what is tracked, and nobody's own, may be shared -/
theorem Rel.share (R : Rel K z ρ σ F H O) {p : Addr} {o : HO} (hH : H p = some o) (hF : F p = none) (hO : ∀ i, p ∉ O i) (h0 : z.H0 p = none) : Rel K z ρ σ (upd F p o) H O where
  len := R.len
  sub := fun a x e => by
    by_cases q : a = p
    · rw [q, upd_same] at e
      rw [q, hH]
      exact e
    · rw [upd_ne q] at e
      exact R.sub a x e
  ent := fun i e h => by
    obtain ⟨v, h1, h2⟩ := R.ent i e h
    exact ⟨v, h1, h2.mono (same_new hF) fun _ _ => rfl⟩
  off := fun i a ha => ⟨by
    rw [upd_ne (show a ≠ p from fun q => hO i (q ▸ ha))]
    exact (R.off i a ha).1, (R.off i a ha).2⟩
  apt := R.apt
  old := fun a h f => by
    have e : a ≠ p := fun e => by
      rw [e] at h
      exact h h0
    rw [upd_ne e]
    exact R.old a h f
  oldH := R.oldH
  keep := R.keep
  f0 := R.f0.trans (same_new hF)
  tup := fun a vs e => by
    by_cases q : a = p
    · rw [q] at e ⊢
      rw [upd_same, ← hH, e]
    · rw [upd_ne q]
      exact R.tup a vs e
/-- slot i gets a new entry with its own addresses -/
def setO (O : Nat → List Addr) (i : Nat) (as : List Addr) : Nat → List Addr := fun j => if j = i then as else O j
theorem Rel.setE (R : Rel K z ρ σ F H O) {i : Nat} {e : E} {v : V} {as : List Addr} (h : Ent K z F H v e as) (hn : ∀ a ∈ as, F a = none ∧ H a ≠ none ∧ ∀ j, j ≠ i → a ∉ O j) : Rel K z (ρ.set i (some e)) (σ.set i (some v)) F H (setO O i as) where
  len := by rw [List.length_set, List.length_set, R.len]
  sub := R.sub
  ent := fun j e' hj => by
    unfold setO
    by_cases q : j = i
    · subst q
      have hl : j < ρ.length := by
        have := (List.getElem?_eq_some_iff.mp hj).1
        rw [List.length_set] at this
        exact this
      rw [List.getElem?_set_self hl] at hj
      cases hj
      rw [if_pos rfl]
      exact ⟨v, List.getElem?_set_self (by rw [← R.len]; exact hl), h⟩
    · rw [List.getElem?_set_ne (Ne.symm q)] at hj
      rw [if_neg q, List.getElem?_set_ne (Ne.symm q)]
      exact R.ent j e' hj
  off := fun j a ha => by
    unfold setO at ha
    by_cases q : j = i
    · rw [if_pos q] at ha
      exact ⟨(hn a ha).1, (hn a ha).2.1⟩
    · rw [if_neg q] at ha
      exact R.off j a ha
  apt := fun j k a hj hk => by
    unfold setO at hj hk
    by_cases q : j = i
    · by_cases q2 : k = i
      · rw [q, q2]
      · rw [if_pos q] at hj
        rw [if_neg q2] at hk
        exact absurd hk ((hn a hj).2.2 k q2)
    · by_cases q2 : k = i
      · rw [if_neg q] at hj
        rw [if_pos q2] at hk
        exact absurd hj ((hn a hk).2.2 j q)
      · rw [if_neg q] at hj
        rw [if_neg q2] at hk
        exact R.apt j k a hj hk
  old := R.old
  oldH := R.oldH
  keep := R.keep
  f0 := R.f0
  tup := R.tup
theorem Rel.setD (R : Rel K z ρ σ F H O) {i : Nat} {d : D} {v : V} (h : Rep K F v d) : Rel K z (ρ.set i (some (.sh d))) (σ.set i (some v)) F H (setO O i []) :=
  R.setE (e := .sh d) ⟨rfl, h⟩ fun a ha => by cases ha
/-- some slots are forgotten -/
theorem Rel.weak (R : Rel K z ρ σ F H O) {ρ' : Env} {σ' : L2.St} (hl : ρ'.length = σ'.length) (h : ∀ (i : Nat) e, ρ'[i]? = some (some e) → ρ[i]? = some (some e) ∧ σ'[i]? = σ[i]?) : Rel K z ρ' σ' F H O where
  len := hl
  sub := R.sub
  ent := fun i e hi => by
    obtain ⟨h1, h2⟩ := h i e hi
    obtain ⟨v, h3, h4⟩ := R.ent i e h1
    exact ⟨v, h2.trans h3, h4⟩
  off := R.off
  apt := R.apt
  old := R.old
  oldH := R.oldH
  keep := R.keep
  f0 := R.f0
  tup := R.tup
end

/-! ## expressions that may change the slots' own objects -/
def tR (K : PySem.W.Frag) (z : Z) (f : Env → Option (D × Env)) : TE := fun σ H Q => ∃ ρ F O d ρ', Rel K z ρ σ F H O ∧ f ρ = some (d, ρ') ∧ ∀ v F' H', Rel K z ρ' σ F' H' O → Kp F H F' H' O → Rep K F' v d → Q v H'
def tRs (K : PySem.W.Frag) (z : Z) (f : Env → Option (List D × Env)) : TA := fun σ H Q => ∃ ρ F O ds ρ', Rel K z ρ σ F H O ∧ f ρ = some (ds, ρ') ∧ ∀ vs F' H', Rel K z ρ' σ F' H' O → Kp F H F' H' O → RepL K F' vs ds → Q vs H'
def tBR (K : PySem.W.Frag) (z : Z) (f : Env → Option (Bool × Env)) : TT := fun σ H Q => ∃ ρ F O b ρ', Rel K z ρ σ F H O ∧ f ρ = some (b, ρ') ∧ ∀ F' H', Rel K z ρ' σ F' H' O → Kp F H F' H' O → Q b H'
/-- a new value with objects of its own -/
def tW (K : PySem.W.Frag) (z : Z) (f : Env → Option (E × Env)) : TE := fun σ H Q => ∃ ρ F O e ρ', Rel K z ρ σ F H O ∧ f ρ = some (e, ρ') ∧ ∀ v F' H' as, Rel K z ρ' σ F' H' O → Kp F H F' H' O → Ent K z F' H' v e as → (∀ a ∈ as, H a = none ∧ F' a = none ∧ H' a ≠ none) → Q v H'
def lf (f : Env → Option D) : Env → Option (D × Env) := fun ρ => (f ρ).map fun d => (d, ρ)
def lfs (f : Env → Option (List D)) : Env → Option (List D × Env) := fun ρ => (f ρ).map fun d => (d, ρ)
def lfb (f : Env → Option Bool) : Env → Option (Bool × Env) := fun ρ => (f ρ).map fun d => (d, ρ)
def wsh (f : Env → Option (D × Env)) : Env → Option (E × Env) := fun ρ => (f ρ).map fun p => (.sh p.1, p.2)
section
variable {X : Cx} {z : Z}
theorem map_some {α β : Type} {x : Option α} {f : α → β} {b : β} (h : x.map f = some b) : ∃ a, x = some a ∧ f a = b := Option.map_eq_some_iff.mp h
theorem r_lf {e : Expr} {f : Env → Option D} (h : PE X e (tP X.K z f)) : PE X e (tR X.K z (lf f)) := h.mono fun σ H Q ⟨ρ, F, O, d, ρ', R, e, q⟩ => by
  obtain ⟨a, h1, h2⟩ := map_some e
  cases h2
  exact ⟨ρ, F, O, d, R, h1, fun v H' s r => q v _ H' (R.grow s) (.of_same R.sub s) r⟩
theorem r_lfs {es : List Expr} {f : Env → Option (List D)} (h : PA X es (tPs X.K z f)) : PA X es (tRs X.K z (lfs f)) := h.mono fun σ H Q ⟨ρ, F, O, d, ρ', R, e, q⟩ => by
  obtain ⟨a, h1, h2⟩ := map_some e
  cases h2
  exact ⟨ρ, F, O, d, R, h1, fun v H' s r => q v _ H' (R.grow s) (.of_same R.sub s) r⟩
theorem r_lfb {e : Expr} {f : Env → Option Bool} (h : PT X e (tB X.K z f)) : PT X e (tBR X.K z (lfb f)) := h.mono fun σ H Q ⟨ρ, F, O, d, ρ', R, e, q⟩ => by
  obtain ⟨a, h1, h2⟩ := map_some e
  cases h2
  exact ⟨ρ, F, O, d, R, h1, fun H' s => q _ H' (R.grow s) (.of_same R.sub s)⟩
theorem w_sh {e : Expr} {f : Env → Option (D × Env)} (h : PE X e (tR X.K z f)) : PE X e (tW X.K z (wsh f)) := h.mono fun σ H Q ⟨ρ, F, O, en, ρ', R, e, q⟩ => by
  obtain ⟨⟨d, ρ2⟩, h1, h2⟩ := map_some e
  cases h2
  exact ⟨ρ, F, O, d, _, R, h1, fun v F' H' R' k r => q v F' H' [] R' k ⟨rfl, r⟩ fun a ha => by cases ha⟩
/-- own objects are shared -/
def frzE : E → D
  | .sh d => d
  | .own d => d
  | .own2 d => d
  | .row d => d
  | .dk _ ks => .dict (ks.map fun p => (kD p.1, p.2))
  | .dt _ _ => .none
  | .fn _ _ => .none
  | .ob _ _ => .none
  | .obs _ => .none
def canFz : E → Bool
  | .row _ => false
  | .dt _ _ => false
  | .fn _ _ => false
  | .ob _ _ => false
  | .obs _ => false
  | _ => true
def rfz (f : Env → Option (E × Env)) : Env → Option (D × Env) := fun ρ => (f ρ).bind fun p => match p.1 with
  | .row _ => none
  | .dt _ _ => none
  | .fn _ _ => none
  | .ob _ _ => none
  | .obs _ => none
  | e => some (frzE e, p.2)
theorem objs_rep {K : PySem.W.Frag} {F H : Hp} : ∀ {qs : List Addr} {ds : List D}, Objs K F H qs ds → (∀ q ∈ qs, F q = none) → ∃ F', Same F F' ∧ (∀ a, F' a ≠ F a → a ∈ qs ∧ F' a = H a) ∧ RepL K F' (qs.map V.ref) ds
  | _, _, .nil, _ => ⟨F, Same.refl _, fun a h => absurd rfl h, .nil⟩
  | _, _, .cons (p := p) (ps := ps) (d := d) (ds := ds) h t, hn => by
    obtain ⟨F1, s1, c1, r1⟩ := objs_rep t fun q hq => hn q (List.mem_cons_of_mem _ hq)
    cases d with
    | list es =>
      obtain ⟨vs, h1, h2⟩ := h
      by_cases hp : F1 p = none
      · refine ⟨upd F1 p (.lst vs), s1.trans (same_new hp), fun a ha => ?_, .cons (.lst (.of upd_same) ((h2.mono s1).mono (same_new hp))) (r1.mono (same_new hp))⟩
        by_cases e : a = p
        · rw [e, upd_same]
          exact ⟨List.mem_cons_self, h1.symm⟩
        · rw [upd_ne e] at ha ⊢
          exact ⟨List.mem_cons_of_mem _ (c1 a ha).1, (c1 a ha).2⟩
      · have e1 : F1 p = H p := (c1 p (by
          rw [hn p List.mem_cons_self]
          exact hp)).2
        exact ⟨F1, s1, fun a ha => ⟨List.mem_cons_of_mem _ (c1 a ha).1, (c1 a ha).2⟩, .cons (.lst (.of (e1.trans h1)) (h2.mono s1)) r1⟩
    | _ => exact h.elim
/-- the shared part may take in the addresses of one entry -/
theorem ent_rep {K : PySem.W.Frag} {z : Z} {F H : Hp} {v : V} {e : E} {as : List Addr} (h : Ent K z F H v e as) (hr : canFz e = true) (hn : ∀ a ∈ as, F a = none) : ∃ F', Same F F' ∧ (∀ a, F' a ≠ F a → a ∈ as ∧ F' a = H a) ∧ Rep K F' v (frzE e) := by
  cases e with
  | sh d => exact ⟨F, Same.refl _, fun a q => absurd rfl q, h.2⟩
  | row d => cases hr
  | dt l ks => cases hr
  | fn j f => cases hr
  | ob m fs => cases hr
  | obs fs => cases hr
  | dk l ks =>
    obtain ⟨p, kvs, e1, e2, e3, h⟩ := h
    subst e1
    have ek : (ks.map fun p => (kD p.1, p.2)).map (·.1) = kvs.map (fun p => kD p.1) := by
      have := congrArg (List.map kD) e2
      rw [List.map_map, List.map_map] at this
      rw [List.map_map]
      exact this.symm
    have ev : (ks.map fun p => (kD p.1, p.2)).map (·.2) = ks.map (·.2) := by rw [List.map_map]; rfl
    rcases h with ⟨h1, h2, _, h4⟩ | ⟨h1, h2, o, h3⟩
    · subst h2
      have hp := hn p List.mem_cons_self
      refine ⟨upd F p (.dK kvs), same_new hp, fun a ha => ?_, .dic (.of upd_same) ek (by rw [ev]; exact e3.mono (same_new hp))⟩
      by_cases e : a = p
      · rw [e, upd_same]
        exact ⟨List.mem_cons_self, h4.symm⟩
      · rw [upd_ne e] at ha
        exact absurd rfl ha
    · exact ⟨F, Same.refl _, fun a q => absurd rfl q, .dic (.inr ⟨o, h3⟩) ek (by rw [ev]; exact e3)⟩
  | own d =>
    obtain ⟨p, e1, e2, _, h⟩ := h
    subst e1 e2
    cases d with
    | list es =>
      obtain ⟨vs, h1, h2⟩ := h
      have hp := hn p List.mem_cons_self
      refine ⟨upd F p (.lst vs), same_new hp, fun a ha => ?_, .lst (.of upd_same) (h2.mono (same_new hp))⟩
      by_cases e : a = p
      · rw [e, upd_same]
        exact ⟨List.mem_cons_self, h1.symm⟩
      · rw [upd_ne e] at ha
        exact absurd rfl ha
    | _ => exact h.elim
  | own2 d =>
    obtain ⟨p, qs, ds, e1, e2, e3, h1, h2, _, h4⟩ := h
    subst e1 e2 e3
    obtain ⟨F1, s1, c1, r1⟩ := objs_rep h4 fun q hq => hn q (List.mem_cons_of_mem _ hq)
    have hp : F1 p = none := by
      cases q : F1 p with
      | none => rfl
      | some o =>
        have := (c1 p (by rw [q, hn p List.mem_cons_self]; exact fun z => nomatch z)).1
        exact absurd this (List.nodup_cons.mp h2).1
    refine ⟨upd F1 p (.lst (qs.map V.ref)), s1.trans (same_new hp), fun a ha => ?_, .lst (.of upd_same) (r1.mono (same_new hp))⟩
    by_cases e : a = p
    · rw [e, upd_same]
      exact ⟨List.mem_cons_self, h1.symm⟩
    · rw [upd_ne e] at ha ⊢
      exact ⟨List.mem_cons_of_mem _ (c1 a ha).1, (c1 a ha).2⟩
/-- a larger shared part -/
theorem Rel.wider {K : PySem.W.Frag} {z : Z} {ρ : Env} {σ : L2.St} {F F' H : Hp} {O : Nat → List Addr} {as : List Addr} (R : Rel K z ρ σ F H O) (s : Same F F') (c : ∀ a, F' a ≠ F a → a ∈ as ∧ F' a = H a) (hn : ∀ a ∈ as, (∀ i, a ∉ O i) ∧ z.H0 a = none) : Rel K z ρ σ F' H O where
  len := R.len
  sub := fun a o e => by
    by_cases q : F' a = F a
    · exact R.sub a o (q ▸ e)
    · rw [← (c a q).2]
      exact e
  ent := fun i e h => by
    obtain ⟨v, h1, h2⟩ := R.ent i e h
    exact ⟨v, h1, h2.mono s fun _ _ => rfl⟩
  off := fun i a ha => ⟨by
    by_cases q : F' a = F a
    · rw [q]
      exact (R.off i a ha).1
    · exact absurd ha ((hn a (c a q).1).1 i), (R.off i a ha).2⟩
  apt := R.apt
  old := fun a h f => by
    by_cases q : F' a = F a
    · rw [q]
      exact R.old a h f
    · exact absurd (hn a (c a q).1).2 h
  oldH := R.oldH
  keep := R.keep
  f0 := R.f0.trans s
  tup := fun a vs e => by
    by_cases q : F' a = F a
    · rw [q]
      exact R.tup a vs e
    · rw [(c a q).2]
      exact e
theorem r_fz {e : Expr} {f : Env → Option (E × Env)} (h : PE X e (tW X.K z f)) : PE X e (tR X.K z (rfz f)) := h.mono fun σ H Q ⟨ρ, F, O, d, ρ', R, e, q⟩ => by
  obtain ⟨⟨en, ρ2⟩, h1, h2⟩ := bind_some e
  have hr : canFz en = true ∧ some (frzE en, ρ2) = some (d, ρ') := by
    cases en with
    | row d => cases h2
    | dt l ks => cases h2
    | fn j f => cases h2
    | ob m fs => cases h2
    | obs fs => cases h2
    | _ => exact ⟨rfl, h2⟩
  obtain ⟨hr, h2⟩ := hr
  cases h2
  refine ⟨ρ, F, O, en, _, R, h1, fun v F' H' as R' k en' hf => ?_⟩
  obtain ⟨F2, s2, c2, r2⟩ := ent_rep en' hr fun a ha => (hf a ha).2.1
  have hO : ∀ a ∈ as, (∀ i, a ∉ O i) ∧ z.H0 a = none := fun a ha => by
    have hH := (hf a ha).1
    refine ⟨fun i hi => (R.off i a hi).2 hH, ?_⟩
    cases q : z.H0 a with
    | none => rfl
    | some o => exact absurd hH (R.oldH a (ne_none q))
  refine q v F2 H' (R'.wider s2 c2 hO) ⟨k.same.trans s2, k.keep, fun a hH hF => ?_, k.dom⟩ r2
  by_cases e : F2 a = F' a
  · rw [e]
    exact k.out a hH hF
  · exact absurd (hf a (c2 a e).1).1 hH

/-! ### effectful operations -/
def r2 (o : D → D → Option D) (f g : Env → Option (D × Env)) : Env → Option (D × Env) := fun ρ => (f ρ).bind fun p => (g p.2).bind fun q => (o p.1 q.1).map fun d => (d, q.2)
def r1 (o : D → Option D) (f : Env → Option (D × Env)) : Env → Option (D × Env) := fun ρ => (f ρ).bind fun p => (o p.1).map fun d => (d, p.2)
def rN (o : List D → Option D) (f : Env → Option (List D × Env)) : Env → Option (D × Env) := fun ρ => (f ρ).bind fun p => (o p.1).map fun d => (d, p.2)
def rNil : Env → Option (List D × Env) := fun ρ => some ([], ρ)
def rCons (f : Env → Option (D × Env)) (g : Env → Option (List D × Env)) : Env → Option (List D × Env) := fun ρ => (f ρ).bind fun p => (g p.2).bind fun q => some (p.1 :: q.1, q.2)
theorem tR2 {K : PySem.W.Frag} {r : R2} {o : D → D → Option D} (ho : Op2 K r o) {f g : Env → Option (D × Env)} {σ : L2.St} {H : Hp} {Q : VK} (h : tR K z (r2 o f g) σ H Q) : tOp r (tR K z f) (tR K z g) σ H Q := by
  obtain ⟨ρ, F, O, d, ρ', R, e, q⟩ := h
  obtain ⟨⟨a, ρ1⟩, ea, e⟩ := bind_some e
  obtain ⟨⟨b, ρ2⟩, eb, e⟩ := bind_some e
  obtain ⟨d2, ed, e⟩ := map_some e
  cases e
  refine ⟨ρ, F, O, a, ρ1, R, ea, fun v1 F1 H1 R1 k1 r1 => ?_⟩
  refine ⟨ρ1, F1, O, b, ρ2, R1, eb, fun v2 F2 H2 R2 k2 r2 => ?_⟩
  exact ho.run F2 H2 v1 v2 a b d Q R2.sub (r1.mono k2.same) r2 ed fun v H3 s3 r3 => q v _ H3 (R2.grow s3) ((k1.trans k2).trans (.of_same R2.sub s3)) r3
theorem r_op {a b : Expr} {pos : Pos} {op : Operator} {r : R2} {o : D → D → Option D} {f g : Env → Option (D × Env)} (hr : OpR X (binaryOp op) r) (ho : Op2 X.K r o) (ha : PE X a (tR X.K z f)) (hb : PE X b (tR X.K z g)) : PE X (.BinOp a op b pos) (tR X.K z (r2 o f g)) :=
  (pe_op hr ha hb).mono fun _ _ _ h => tR2 ho h
theorem r_cmp {a b : Expr} {pos : Pos} {op : CmpOp} {r : R2} {o : D → D → Option D} {f g : Env → Option (D × Env)} (hr : OpR X (compareOp op) r) (ho : Op2 X.K r o) (ha : PE X a (tR X.K z f)) (hb : PE X b (tR X.K z g)) (hm : behindInMarks op b = false) : PE X (.Compare a [op] [b] pos) (tR X.K z (r2 o f g)) :=
  (pe_cmpR hr ha hb hm).mono fun _ _ _ h => tR2 ho h
theorem r_ix {a b : Expr} {pos : Pos} {r : R2} {o : D → D → Option D} {f g : Env → Option (D × Env)} (hr : IxR X r) (ho : Op2 X.K r o) (ha : PE X a (tR X.K z f)) (hb : PE X b (tR X.K z g)) (hs : PlainIx b := by exact fun _ _ => rfl) : PE X (.Subscript a b pos) (tR X.K z (r2 o f g)) :=
  (pe_ix hr ha hb hs).mono fun _ _ _ h => tR2 ho h
theorem r_nil : PA X [] (tRs X.K z rNil) := pa_nil.mono fun σ H Q ⟨ρ, F, O, ds, ρ', R, e, q⟩ => by
  cases e
  exact q [] F H R .refl .nil
theorem r_cons {e : Expr} {es : List Expr} {f : Env → Option (D × Env)} {g : Env → Option (List D × Env)} (ha : PE X e (tR X.K z f)) (hr : PA X es (tRs X.K z g)) (hs : starEach (e :: es) X.env = (false, eval e X.env) :: starEach es X.env := by rfl) : PA X (e :: es) (tRs X.K z (rCons f g)) := by
  refine (pa_cons ha hr hs).mono fun σ H Q ⟨ρ, F, O, ds, ρ', R, e, q⟩ => ?_
  obtain ⟨⟨a, ρ1⟩, ea, e⟩ := bind_some e
  obtain ⟨⟨as, ρ2⟩, eb, e⟩ := bind_some e
  cases e
  refine ⟨ρ, F, O, a, ρ1, R, ea, fun v1 F1 H1 R1 k1 r1 => ?_⟩
  refine ⟨ρ1, F1, O, as, ρ2, R1, eb, fun v2 F2 H2 R2 k2 r2 => ?_⟩
  exact q _ F2 H2 R2 (k1.trans k2) (.cons (r1.mono k2.same) r2)
theorem tRN {K : PySem.W.Frag} {r : List V → Hp → VK → Prop} {o : List D → Option D} (ho : OpN K r o) {f : Env → Option (List D × Env)} {σ : L2.St} {H : Hp} {Q : VK} (h : tR K z (rN o f) σ H Q) : tRs K z f σ H fun x H1 => r x H1 Q := by
  obtain ⟨ρ, F, O, d, ρ', R, e, q⟩ := h
  obtain ⟨⟨a, ρ1⟩, ea, e⟩ := bind_some e
  obtain ⟨d2, ed, e⟩ := map_some e
  cases e
  exact ⟨ρ, F, O, a, ρ1, R, ea, fun v1 F1 H1 R1 k1 r1 => ho.run F1 H1 v1 a d Q R1.sub r1 ed fun v H3 s3 r3 => q v _ H3 (R1.grow s3) (k1.trans (.of_same R1.sub s3)) r3⟩
theorem r_callB {x : Str} {p pos : Pos} {e : Expr} {es : List Expr} {id : String} {r : List V → Hp → VK → Prop} {o : List D → Option D} {f : Env → Option (List D × Env)} (hc : CallR X (.builtin id) r) (ho : OpN X.K r o) (hg : Gl X x) (hm : X.mg x = none) (hv : bootBuiltins x = some (.builtin id))
    (ha : PA X (e :: es) (tRs X.K z f)) (hn : x ≠ "__name__" := by decide) (hdb : (x == ("__debug__" : Str)) = false := by decide)
    (he : starEach (e :: es) X.env = (false, eval e X.env) :: starEach es X.env := by rfl) (hpl : (backTo pos (starEach es X.env)).any (·.1) = false := by rfl) : PE X (.Call (.Name x p) (e :: es) [] pos) (tR X.K z (rN o f)) :=
  (pe_callB hc hg hm hv ha hn hdb he hpl).mono fun _ _ _ h => tRN ho h
theorem r_callTy {x : Str} {p pos : Pos} {e : Expr} {es : List Expr} {id : String} {r : List V → Hp → VK → Prop} {o : List D → Option D} {f : Env → Option (List D × Env)} (hc : CallR X (.type id) r) (ho : OpN X.K r o) (hg : Gl X x) (hm : X.mg x = none) (hv : bootBuiltins x = some (.type id))
    (ha : PA X (e :: es) (tRs X.K z f)) (hn : x ≠ "__name__" := by decide) (hdb : (x == ("__debug__" : Str)) = false := by decide)
    (he : starEach (e :: es) X.env = (false, eval e X.env) :: starEach es X.env := by rfl) (hpl : (backTo pos (starEach es X.env)).any (·.1) = false := by rfl) : PE X (.Call (.Name x p) (e :: es) [] pos) (tR X.K z (rN o f)) :=
  (pe_callTy hc hg hm hv ha hn hdb he hpl).mono fun _ _ _ h => tRN ho h
def dTup (ds : List D) : Option D := if ds.length ≤ 1000 then some (.tuple ds) else none
def dLst (ds : List D) : Option D := if ds.length ≤ 1000 then some (.list ds) else none
theorem new_kp {F H : Hp} {O : Nat → List Addr} {p : Addr} {o : HO} (s0 : Same F H) (hp : H p = none) : Kp F H (upd F p o) (upd H p o) O := by
  have := Kp.of_same (O := O) s0 (same_new (o := o) hp)
  rwa [ext_new s0 hp] at this
theorem Rel.newS {K : PySem.W.Frag} {ρ : Env} {σ : L2.St} {F H : Hp} {O : Nat → List Addr} {p : Addr} {o : HO} (R : Rel K z ρ σ F H O) (hp : H p = none) : Rel K z ρ σ (upd F p o) (upd H p o) O := by
  have := R.grow (same_new (o := o) hp)
  rwa [ext_new R.sub hp] at this
theorem r_tup {es : List Expr} {x1} {pos : Pos} {f : Env → Option (List D × Env)} (h : PA X es (tRs X.K z f)) : PE X (.Tuple es x1 pos) (tR X.K z (rN dTup f)) := by
  refine (pe_tup h).mono fun σ H Q ⟨ρ, F, O, d, ρ', R, e, q⟩ => ?_
  obtain ⟨⟨ds, ρ1⟩, ea, e⟩ := bind_some e
  obtain ⟨d2, ed, e⟩ := map_some e
  cases e
  have ed : dTup ds = some _ := ed
  unfold dTup at ed
  split at ed
  · next hl =>
    cases ed
    refine ⟨ρ, F, O, ds, ρ1, R, ea, fun vs F1 H1 R1 k1 r1 => ⟨le1000 (by rw [r1.length]; exact hl), fun p hp => ?_⟩⟩
    exact q _ _ _ (R1.newS hp) (k1.trans (new_kp R1.sub hp)) (.tup upd_same (r1.mono (same_new (R1.sub.free hp))))
  · cases ed
theorem r_lst {es : List Expr} {pos : Pos} {f : Env → Option (List D × Env)} (h : PA X es (tRs X.K z f)) : PE X (.List es pos) (tR X.K z (rN dLst f)) := by
  refine (pe_lst h).mono fun σ H Q ⟨ρ, F, O, d, ρ', R, e, q⟩ => ?_
  obtain ⟨⟨ds, ρ1⟩, ea, e⟩ := bind_some e
  obtain ⟨d2, ed, e⟩ := map_some e
  cases e
  have ed : dLst ds = some _ := ed
  unfold dLst at ed
  split at ed
  · next hl =>
    cases ed
    refine ⟨ρ, F, O, ds, ρ1, R, ea, fun vs F1 H1 R1 k1 r1 => ⟨le1000 (by rw [r1.length]; exact hl), fun p hp => ?_⟩⟩
    exact q _ _ _ (R1.newS hp) (k1.trans (new_kp R1.sub hp)) (.lst (.of upd_same) (r1.mono (same_new (R1.sub.free hp))))
  · cases ed

/-! ### new objects of a slot's own -/
/-- a fresh list that is nobody's yet -/
theorem Rel.newW {K : PySem.W.Frag} {ρ : Env} {σ : L2.St} {F H : Hp} {O : Nat → List Addr} {p : Addr} {o : HO} (R : Rel K z ρ σ F H O) (hp : H p = none) (ho : ∀ vs, o ≠ .tup vs := by intro _ q; cases q) : Rel K z ρ σ F (upd H p o) O :=
  R.other (R.sub.free hp) (fun i hi => (R.off i p hi).2 hp) (by
    cases q : z.H0 p with
    | none => rfl
    | some u => exact absurd hp (R.oldH p (ne_none q))) ho
theorem newW_kp {F H : Hp} {O : Nat → List Addr} {p : Addr} {o : HO} (s0 : Same F H) (hp : H p = none) : Kp F H F (upd H p o) O :=
  ⟨Same.refl _, fun a x h _ => by rw [upd_ne (ne_of_none h hp)]; exact h, fun a _ f => f, fun a h => by
    obtain ⟨x, q⟩ := some_of h
    rw [upd_ne (ne_of_none q hp)]
    exact h⟩
theorem H0_of {K : PySem.W.Frag} {ρ : Env} {σ : L2.St} {F H : Hp} {O : Nat → List Addr} {p : Addr} (R : Rel K z ρ σ F H O) (hp : H p = none) : z.H0 p = none := by
  cases q : z.H0 p with
  | none => rfl
  | some u => exact absurd hp (R.oldH p (ne_none q))
theorem Kp.none_back {F H F' H' : Hp} {O : Nat → List Addr} (k : Kp F H F' H' O) {p : Addr} (h : H' p = none) : H p = none := by
  cases q : H p with
  | none => rfl
  | some o => exact absurd h (k.dom p (ne_none q))
/-- Q of a fresh list p of vs: as an own object -/
theorem fin_own {K : PySem.W.Frag} {ρ' : Env} {σ : L2.St} {F H F1 H1 : Hp} {O : Nat → List Addr} {Q : VK} {vs : List V} {ds : List D} {p : Addr} (R1 : Rel K z ρ' σ F1 H1 O) (k1 : Kp F H F1 H1 O)
    (q : ∀ v F' H' as, Rel K z ρ' σ F' H' O → Kp F H F' H' O → Ent K z F' H' v (.own (.list ds)) as → (∀ a ∈ as, H a = none ∧ F' a = none ∧ H' a ≠ none) → Q v H') (r : RepL K F1 vs ds) (hp : H1 p = none) : Q (.ref p) (upd H1 p (.lst vs)) :=
  q _ F1 _ [p] (R1.newW hp) (k1.trans (newW_kp R1.sub hp)) ⟨p, rfl, rfl, H0_of R1 hp, vs, upd_same, r⟩ fun a ha => by
    rcases List.mem_cons.mp ha with e | e
    · subst e
      exact ⟨k1.none_back hp, R1.sub.free hp, by rw [upd_same]; exact fun z => nomatch z⟩
    · cases e
def wN (o : List D → Option (List D)) (f : Env → Option (List D × Env)) : Env → Option (E × Env) := fun ρ => (f ρ).bind fun p => (o p.1).map fun ds => (.own (.list ds), p.2)
def few (ds : List D) : Option (List D) := if ds.length ≤ 1000 then some ds else none
theorem w_lst {es : List Expr} {pos : Pos} {f : Env → Option (List D × Env)} (h : PA X es (tRs X.K z f)) : PE X (.List es pos) (tW X.K z (wN few f)) := by
  refine (pe_lst h).mono fun σ H Q ⟨ρ, F, O, en, ρ', R, e, q⟩ => ?_
  obtain ⟨⟨ds, ρ1⟩, ea, e⟩ := bind_some e
  obtain ⟨d2, ed, e⟩ := map_some e
  cases e
  have ed : few ds = some d2 := ed
  unfold few at ed
  split at ed
  · next hl =>
    cases ed
    exact ⟨ρ, F, O, ds, _, R, ea, fun vs F1 H1 R1 k1 r1 => ⟨le1000 (by rw [r1.length]; exact hl), fun p hp => fin_own R1 k1 q r1 hp⟩⟩
  · cases ed
/-- list(xs) -/
def dListOf : List D → Option (List D)
  | [.list ds] => some ds
  | [.tuple ds] => some ds
  | _ => none
theorem w_listOf {x : Str} {p pos : Pos} {e : Expr} {es : List Expr} {f : Env → Option (List D × Env)} (hg : Gl X x) (hm : X.mg x = none) (hv : bootBuiltins x = some (.type "list"))
    (ha : PA X (e :: es) (tRs X.K z f)) (hn : x ≠ "__name__" := by decide) (hdb : (x == ("__debug__" : Str)) = false := by decide)
    (he : starEach (e :: es) X.env = (false, eval e X.env) :: starEach es X.env := by rfl) (hpl : (backTo pos (starEach es X.env)).any (·.1) = false := by rfl) : PE X (.Call (.Name x p) (e :: es) [] pos) (tW X.K z (wN dListOf f)) := by
  refine (pe_callTy call_list_of hg hm hv ha hn hdb he hpl).mono fun σ H Q ⟨ρ, F, O, en, ρ', R, e, q⟩ => ?_
  obtain ⟨⟨ds, ρ1⟩, ea, e⟩ := bind_some e
  obtain ⟨d2, ed, e⟩ := map_some e
  cases e
  refine ⟨ρ, F, O, ds, _, R, ea, fun vs F1 H1 R1 k1 r1 => ?_⟩
  have ed : dListOf ds = some d2 := ed
  unfold dListOf at ed
  split at ed
  · cases ed
    cases r1 with
    | cons r t =>
      cases t
      cases r with
      | lst h1 t1 => exact ⟨_, _, rfl, .inl (R1.sub.seq h1), fun p hp => fin_own R1 k1 q t1 hp⟩
  · cases ed
    cases r1 with
    | cons r t =>
      cases t
      cases r with
      | tup h1 t1 => exact ⟨_, _, rfl, .inr (sameT R1.sub (sqT_of h1)), fun p hp => fin_own R1 k1 q t1 hp⟩
  · cases ed
/-- [x, ..] * n -/
def wRep (f : Env → Option (List D × Env)) (g : Env → Option (D × Env)) : Env → Option (E × Env) := fun ρ => (f ρ).bind fun p => (g p.2).bind fun q => match q.1 with
  | .int k => if p.1.length ≤ 1000 then (if k ≤ 1000 then (if -1000 ≤ k then some (.own (.list (List.replicate k.toNat p.1).flatten), q.2) else none) else none) else none
  | _ => none
theorem w_rep {es : List Expr} {b : Expr} {lpos pos : Pos} {f : Env → Option (List D × Env)} {g : Env → Option (D × Env)} (h : PA X es (tRs X.K z f)) (hb : PE X b (tR X.K z g)) : PE X (.BinOp (.List es lpos) .Mult b pos) (tW X.K z (wRep f g)) := by
  refine (pe_op op_rep (pe_lst h) hb).mono fun σ H Q ⟨ρ, F, O, en, ρ', R, e, q⟩ => ?_
  obtain ⟨⟨ds, ρ1⟩, ea, e⟩ := bind_some e
  obtain ⟨⟨n, ρ2⟩, eb, e⟩ := bind_some e
  dsimp only at e
  split at e
  · next k =>
    split at e
    · next hl =>
      split at e
      · next h1k =>
        split at e
        · next h2k =>
          cases e
          refine ⟨ρ, F, O, ds, ρ1, R, ea, fun vs F1 H1 R1 k1 r1 => ⟨le1000 (by rw [r1.length]; exact hl), fun l hl' => ?_⟩⟩
          have R1' := R1.newW (o := .lst vs) hl'
          refine ⟨ρ1, F1, O, _, _, R1', eb, fun v2 F2 H2 R2 k2 r2 => ?_⟩
          cases r2
          have lO : ∀ i, l ∉ O i := fun i hi => (R1.off i l hi).2 hl'
          have hl2 : H2 l = some (.lst vs) := k2.keep l _ upd_same lO
          have k12 := (k1.trans (newW_kp (o := .lst vs) R1.sub hl')).trans k2
          refine ⟨l, _, vs, rfl, rfl, hl2, by omega, by omega, ?_, fun p hp => fin_own R2 k12 q ((r1.mono k2.same).rep _) hp⟩
          have a1 : vs.length ≤ 1000 := by rw [r1.length]; exact hl
          have a2 : k.toNat ≤ 1000 := by omega
          have a3 : vs.length * k.toNat ≤ 1000 * 1000 := Nat.mul_le_mul a1 a2
          exact leM (by omega)
        · cases e
      · cases e
    · cases e
  · cases e
end
end DL

namespace DL
open PySem PySem.Spec PyProof.Rows L2

/-! ## enumerate and zip of a list or a tuple -/
section
open Sem (wp)
open AutoSeq1 (wpAny_loadPart')
set_option maxHeartbeats 1000000 in
theorem meets_enum1 {v : Value} {o : Obj} {H : Heap → Prop} (B : PySem.Begins v o H) :
    Meets (Builtin.«enumerate.__new__» ⟨[.type "enumerate", v], []⟩) (fun _ R s => H s.heap ∧
      R (.ok (.ret (.ref (s.heap.push o).objs.size))) { s with heap := (s.heap.push o).push { cls := .type "enumerate", data := .fields #[.none, .bool false, .ref s.heap.objs.size, rawInt 0, .none, .none] } }) :=
  .of_wp fun prog w A R s h => by
    obtain ⟨hp, g, d, tk, os⟩ := s; obtain ⟨h1, h⟩ := h
    have hsub := sub_enumerate
    have q1 : ∀ {A' : Around} {E : Value → Shared → Prop} {Q : Value → Shared → Prop}, Q (.ref hp.objs.size) ⟨hp.push o, g, d, tk, os⟩ → wpAny (model prog w) A' (pyIter v) Q E ⟨hp, g, d, tk, os⟩ :=
      fun q => B.iter prog w _ _ ⟨hp, g, d, tk, os⟩ _ h1 q
    wp_walk using q1
    refine wpAny_stack_any fun st => wpAny_pure ?_
    split
    · rename_i c _ _ _ _ _
      cases (c == Value.type "enumerate")
      · wp_walk using q1
        exact ⟨_, rfl, h⟩
      · wp_walk using q1
        exact ⟨_, rfl, h⟩
    · wp_walk using q1
      exact ⟨_, rfl, h⟩
end
section
variable {prog : Program} {w : World} {A : Around} {E : Value → Shared → Prop} {s : Shared}
theorem enum_begins1 {v : Value} {o : Obj} {H : Heap → Prop} {Q : Value → Shared → Prop} (B : PySem.Begins v o H) (h1 : H s.heap)
    (h : ∀ h', IsEnum h' (s.heap.objs.size + 1) s.heap.objs.size 0 .none → h'.get? s.heap.objs.size = some o → h'.objs.size = s.heap.objs.size + 2 →
      (∀ b o, s.heap.get? b = some o → h'.get? b = some o) → Q (.ref (s.heap.objs.size + 1)) { s with heap := h' }) :
    wpAny (model prog w) A (call (.type "enumerate") [v]) Q E s := by
  refine callType_new F.called_enumerate (by decide) (F.typeCall_enumerate_1 _) (F.newCall_enumerate_1 _) (fun obj => F.args_object_init_2 obj _) F.entry_enumerate_new
    (meets_enum1 B) ⟨h1, ?_⟩
  have hz : (s.heap.push o).objs.size = s.heap.objs.size + 1 := Heap.size_push ..
  show _ ∧ _
  rw [hz]
  have he : IsEnum ((s.heap.push o).push { cls := .type "enumerate", data := .fields #[.none, .bool false, .ref s.heap.objs.size, rawInt 0, .none, .none] }) (s.heap.objs.size + 1) s.heap.objs.size 0 .none := by
    have := Heap.get?_push_size (s.heap.push o) (o := { cls := .type "enumerate", data := .fields #[.none, .bool false, .ref s.heap.objs.size, rawInt 0, .none, .none] }) rfl
    rw [hz] at this; exact this
  refine ⟨⟨_, he, rfl⟩, h _ he (Heap.get?_push_of_some _ (Heap.get?_push_size _ B.free)) (by rw [Heap.size_push, hz]) fun b o x => Heap.get?_push_of_some _ (Heap.get?_push_of_some _ x)⟩
end

/-- a list (true) or a tuple (false) of xs stands at a -/
def Sq (K : PySem.W.Frag) (H : Hp) (k : Bool) (a : Addr) (xs : List V) : Prop := match k with
  | true => SqL K H a xs
  | false => SqT K H a xs
theorem Sq.mono {K : PySem.W.Frag} {H H' : Hp} {k : Bool} {a : Addr} {xs : List V} (h : Sq K H k a xs) (s : Same H H') : Sq K H' k a xs := by
  cases k with
  | true => exact s.seq h
  | false => exact sameT s h
def ItAt (k : Bool) (h : Heap) (it a : Addr) (i : Nat) : Prop := match k with
  | true => h.IsListIter it a i
  | false => h.IsTupleIter it a i
def HSeq (k : Bool) (h : Heap) (a : Addr) (its : Array Value) : Prop := match k with
  | true => h.IsList a its
  | false => h.IsTuple a its
theorem ItAt.at {k : Bool} {h h' : Heap} {it a : Addr} {i : Nat} (x : ItAt k h it a i) (e : ∀ o, h.get? it = some o → h'.get? it = some o) : ItAt k h' it a i := by
  cases k with
  | true => exact Heap.IsListIter.at x e
  | false => exact Heap.IsTupleIter.at x e
theorem ItAt.ob {k : Bool} {h : Heap} {it a : Addr} {i : Nat} (x : ItAt k h it a i) : ∃ o, h.get? it = some o ∧ ∀ v, o.data ≠ .cell v := by
  cases k with
  | true =>
    obtain ⟨o, ho, _, hd⟩ := x
    exact ⟨o, ho, fun v q => by rw [hd] at q; cases q⟩
  | false =>
    obtain ⟨o, ho, _, hd⟩ := x
    exact ⟨o, ho, fun v q => by rw [hd] at q; cases q⟩
theorem draws (k : Bool) {prog : Program} {w : World} {A : Around} (hh : A.handled = none) (it a : Addr) (hne : a ≠ it) (items : Array Value) :
    Draws prog w A it [it, a] items.size (fun i v => items[i]? = some v) (fun i h => ItAt k h it a i ∧ HSeq k h a items) := by
  cases k with
  | true => exact Draws.list hh it a hne items
  | false => exact Draws.tuple hh it a hne items
def itObj (k : Bool) (a : Addr) : Obj := match k with
  | true => { cls := .type "list_iterator", data := .fields #[.ref a, .int 0 0] }
  | false => { cls := .type "tuple_iterator", data := .fields #[.ref a, .int 0 0] }
theorem begins (k : Bool) (a : Addr) (items : Array Value) : PySem.Begins (.ref a) (itObj k a) fun h => HSeq k h a items := by
  cases k with
  | true => exact begins_list a items
  | false => exact begins_tuple a items
theorem itObj_at {k : Bool} {h : Heap} {it a : Addr} (e : h.get? it = some (itObj k a)) : ItAt k h it a 0 := by
  cases k with
  | true => exact ⟨_, e, rfl, rfl⟩
  | false => exact ⟨_, e, rfl, rfl⟩
section
variable {X : Cx} {pins : List (Addr × Obj)} {σ : L2.St} {H : Hp} {s : Shared}
theorem invSq (I : Inv X pins σ H s) {k : Bool} {a : Addr} {xs : List V} (h : Sq X.K H k a xs) : ∃ its : List Value, Vals xs its ∧ HSeq k s.heap a its.toArray := by
  cases k with
  | true =>
    obtain ⟨its, r, pl, _⟩ := I.list h
    exact ⟨its, r, pl.isList⟩
  | false =>
    obtain ⟨its, r, pl, _⟩ := I.tuple h
    exact ⟨its, r, pl⟩
theorem invSq_inj (I : Inv X pins σ H s) {k : Bool} {a : Addr} {xs ys : List V} (h : Sq X.K H k a xs) (h' : Sq X.K H k a ys) : xs = ys := by
  cases k with
  | true => exact I.list_inj h h'
  | false => exact I.tuple_inj h h'
end
theorem HSeq.lt {k : Bool} {h : Heap} {a : Addr} {its : Array Value} (x : HSeq k h a its) : a < h.objs.size := by
  cases k with
  | true =>
    obtain ⟨o, e, _⟩ := x
    exact Heap.lt_size e
  | false =>
    obtain ⟨o, e, _⟩ := x
    exact Heap.lt_size e

/-- enumerate: each item in a new pair -/
def ItE (K : PySem.W.Frag) (k : Bool) (a : Addr) : It :=
  ⟨fun i H => ∃ (xs : List V) (x : V), Sq K H k a xs ∧ xs[i]? = some x, fun i H v H' => ∃ T x, v = .ref T ∧ H T = none ∧ H' = upd H T (.tup [.int (i : Nat), x]) ∧ ∀ xs, Sq K H k a xs → xs[i]? = some x, fun i H => ∃ xs : List V, Sq K H k a xs ∧ xs.length = i⟩
theorem turn_enumK {P : Program} {w : World} {K : PySem.W.Frag} {elts : List Expr} {kk : Nat} {tpos : Pos} {k : Bool} (a e it : Addr) :
    Turn P w K (.Tuple elts kk tpos) (ItE K k a) [e, it] e (fun i h => (∃ old, IsEnum h e it ((i : Nat) : Int) old) ∧ ItAt k h it a i ∧ e ≠ it ∧ a ≠ it ∧ a ≠ e) where
  mem := by simp
  obj := fun i h st b hb => by
    obtain ⟨⟨old, he⟩, hi, _⟩ := st
    have e' : b = e ∨ b = it := by simpa using hb
    rcases e' with z | z
    · rw [z]; exact ⟨_, he, fun v q => nomatch q⟩
    · rw [z]; exact hi.ob
  keep := fun i h h' st k => let ⟨⟨old, he⟩, hi, hne⟩ := st; ⟨⟨old, k e (by simp) _ he⟩, hi.at fun o q => k it (by simp) o q, hne⟩
  item := by
    intro X hP hw hK hc i pins s σ H E I hf st hg
    subst hP hw hK
    obtain ⟨⟨old, he⟩, hit, hne, hai, hae⟩ := st
    obtain ⟨xs, x, hq, hx⟩ := hg
    obtain ⟨its, rv, p⟩ := invSq I hq
    obtain ⟨u, hu, ru⟩ := rv.get hx
    have hlt : i < its.toArray.size := by
      have := (List.getElem?_eq_some_iff.mp hu).1
      simpa using this
    have hel : e < s.heap.objs.size := Heap.lt_size he
    have hil : it < s.heap.objs.size := by obtain ⟨_, q, _⟩ := hit.ob; exact Heap.lt_size q
    have D := draws k (prog := X.prog) (w := X.w) (A := X.A.in1) (I.ok.hd hc) it a hai its.toArray
    refine wpAny_pyNext_enum_itemD D he ⟨hit, p⟩ hlt hne (by simp [hne, hae.symm]) fun x' h' tk hP ho hit' hT hsz hk => ?_
    have ex : x' = u := by
      have hP' : its[i]? = some x' := by simpa using hP
      rw [hu] at hP'
      exact (Option.some.inj hP').symm
    subst ex
    refine ⟨_, rfl, wpAny_letOwnedTupleGo_enum (s := { s with heap := h', toks := tk + 1 }) ho fun h'' he' sb => ?_⟩
    have hT2 : h''.get? s.heap.objs.size = some { cls := .type "tuple", data := .seq #[.int i tk, x'] } := (sb.2 _ (Nat.ne_of_gt hel)).trans hT
    have new : ObjOk X.prog X.w (upd H s.heap.objs.size (.tup [.int (i : Nat), x])) h'' s.heap.objs.size (.tup [.int (i : Nat), x]) :=
      ⟨by show 2 ≤ sizeLine; decide, [.int i tk, x'], .cons ⟨_, rfl⟩ (.cons ru .nil), ⟨_, hT2, rfl, _, rfl⟩⟩
    have I1 : Inv X pins σ (upd H s.heap.objs.size (.tup [.int (i : Nat), x])) { s with heap := h'', toks := tk + 1 } :=
      I.turnedNew (ch := [e, it]) (fun b ob hb q => (sb.2 b (fun z => hb (by simp [z]))).trans (hk b ob (fun z => hb (by simp [z])) (fun z => hb (by simp [z])) q)) hf (Nat.le_refl _) new
    refine ⟨.ref s.heap.objs.size, _, I1, rfl, ⟨_, x, rfl, I.hok.fresh (Nat.le_refl _), rfl, fun ys hy => by rw [invSq_inj I hy hq]; exact hx⟩, ⟨⟨x', ?_⟩, hit'.1.at fun o q => (sb.2 it (Ne.symm hne)).trans q, hne, hai, hae⟩, fun b hb => ?_⟩
    · have e1 : ((i + 1 : Nat) : Int) = (i : Int) + 1 := by omega
      rw [e1]; exact he'
    · have hb' : b < s.heap.objs.size := by
        have e' : b = e ∨ b = it := by simpa using hb
        rcases e' with z | z
        · rw [z]; exact hel
        · rw [z]; exact hil
      rw [upd_ne (Nat.ne_of_lt hb')]
      exact (hf b hb).1
  done := by
    intro X hP hw hK hc i pins s σ H E I hf st hg
    subst hP hw hK
    obtain ⟨⟨old, he⟩, hit, hne, hai, hae⟩ := st
    obtain ⟨xs, hq, hx⟩ := hg
    obtain ⟨its, rv, p⟩ := invSq I hq
    obtain ⟨f0, f1, f2, f3, f4, f5⟩ := hf it (by simp)
    have hl := rv.length
    have D := draws k (prog := X.prog) (w := X.w) (A := X.A.in1) (I.ok.hd hc) it a hai its.toArray
    have hi : i = its.toArray.size := by
      rw [List.size_toArray]
      omega
    exact wpAny_pyNext_enum_endD D he (by rw [← hi]; exact ⟨hit, p⟩) fun h' eb => ⟨rfl, I.turned (t' := s.toks) (fun b o hb q => eb b o hb q) f0 f1 f3 f4 f5⟩
  self := fun A i s Q E st h => let ⟨⟨_, he⟩, _⟩ := st; wpAny_pyIter_enum he h
def iEnumK (K : PySem.W.Frag) (k : Bool) (ta : TA) : TI := fun σ H R => ta σ H fun vs H1 => ∃ a xs, vs = [.ref a] ∧ Sq K H1 k a xs ∧ R (ItE K k a) H1
theorem pi_enumK {X : Cx} {e : Expr} {ta : TA} {p pos tpos : Pos} {elts : List Expr} {kk : Nat} {k : Bool} (hg : Gl X "enumerate") (hm : X.mg "enumerate" = none) (ha : PA X [e] ta) (hs : starEach [e] X.env = [(false, eval e X.env)] := by rfl) :
    PI X (.Tuple elts kk tpos) (.Call (.Name "enumerate" p) [e] [] pos) (iEnumK X.K k ta) := by
  refine ⟨fun pins s σ H R I h => ?_⟩
  refine Call_ (ld_blt I hg hm boot_enumerate (PyProof.Rows.callWith_type1 (thn (ha.run pos pins s σ H _ I h) fun us s1 ⟨vs, H1, I1, r1, q1⟩ => ?_) hs rfl))
  obtain ⟨a, xs, ex, hq, q⟩ := q1
  subst ex
  cases r1 with
  | cons r rr =>
    cases rr
    cases r
    obtain ⟨its, rv, p'⟩ := invSq I1 hq
    have la := p'.lt
    refine enum_begins1 (begins k a its.toArray) p' fun h' he hit hsz hk => wpAny_pyIter_enum he ?_
    have I2 : Inv X pins σ H1 { s1 with heap := h' } := I1.kept (t' := s1.toks) hk
    refine ⟨s1.heap.objs.size + 1, [s1.heap.objs.size + 1, s1.heap.objs.size], _, _, H1, rfl, I2, turn_enumK a (s1.heap.objs.size + 1) s1.heap.objs.size, ⟨⟨.none, he⟩, itObj_at hit, Nat.succ_ne_self _, Nat.ne_of_lt la, Nat.ne_of_lt (Nat.lt_succ_of_lt la)⟩, fun b hb => ?_, q⟩
    have e' : b = s1.heap.objs.size + 1 ∨ b = s1.heap.objs.size := by simpa using hb
    have hle : s1.heap.objs.size ≤ b := by
      rcases e' with z | z
      · rw [z]; exact Nat.le_add_right _ _
      · rw [z]; exact Nat.le_refl _
    exact I1.fpOk hle (I1.hok.fresh hle)

/-- zip: both items in a new pair -/
def ItZ (K : PySem.W.Frag) (k l : Bool) (a b : Addr) : It :=
  ⟨fun i H => ∃ (xs ys : List V) (x y : V), Sq K H k a xs ∧ Sq K H l b ys ∧ xs[i]? = some x ∧ ys[i]? = some y,
    fun i H v H' => ∃ T x y, v = .ref T ∧ H T = none ∧ H' = upd H T (.tup [x, y]) ∧ (∀ xs, Sq K H k a xs → xs[i]? = some x) ∧ ∀ ys, Sq K H l b ys → ys[i]? = some y,
    fun i H => ∃ xs ys : List V, Sq K H k a xs ∧ Sq K H l b ys ∧ i ≤ xs.length ∧ i ≤ ys.length ∧ (i = xs.length ∨ i = ys.length)⟩
/-- the cells of a zip over a and b -/
structure ZApart (z TI TO i1 i2 a b : Addr) : Prop where
  S : ZipSep2 z TI TO i1 i2 [i1, a] [i2, b]
  a1 : a ≠ i1
  b2 : b ≠ i2
theorem turn_zipK {P : Program} {w : World} {K : PySem.W.Frag} {elts : List Expr} {kk : Nat} {tpos : Pos} {k l : Bool} {a b z TI TO i1 i2 : Addr} (D : ZApart z TI TO i1 i2 a b) :
    Turn P w K (.Tuple elts kk tpos) (ItZ K k l a b) [z, TI, TO, i1, i2] z (fun i h => IsZip h z TI TO .none ∧ IsTupOf2 h TI (.ref i1) (.ref i2) ∧ (∃ x y, IsTupOf2 h TO x y) ∧ ItAt k h i1 a i ∧ ItAt l h i2 b i) where
  mem := by simp
  obj := fun i h st c hc => by
    obtain ⟨hz, hTI, ⟨x, y, hTO⟩, h1, h2⟩ := st
    have e' : c = z ∨ c = TI ∨ c = TO ∨ c = i1 ∨ c = i2 := by simpa using hc
    rcases e' with q | q | q | q | q
    · rw [q]; exact ⟨_, hz, fun v q => nomatch q⟩
    · rw [q]; exact ⟨_, hTI, fun v q => nomatch q⟩
    · rw [q]; exact ⟨_, hTO, fun v q => nomatch q⟩
    · rw [q]; exact h1.ob
    · rw [q]; exact h2.ob
  keep := fun i h h' st k => by
    obtain ⟨hz, hTI, ⟨x, y, hTO⟩, h1, h2⟩ := st
    exact ⟨k z (by simp) _ hz, k TI (by simp) _ hTI, ⟨x, y, k TO (by simp) _ hTO⟩, h1.at fun o q => k i1 (by simp) o q, h2.at fun o q => k i2 (by simp) o q⟩
  item := by
    intro X hP hw hK hc i pins s σ H E I hf st hg
    subst hP hw hK
    obtain ⟨hz, hTI, ⟨x0, y0, hTO⟩, h1, h2⟩ := st
    obtain ⟨xs, ys, x, y, hqx, hqy, hx, hy⟩ := hg
    obtain ⟨its, rv, p⟩ := invSq I hqx
    obtain ⟨its2, rv2, p2⟩ := invSq I hqy
    obtain ⟨u, hu, ru⟩ := rv.get hx
    obtain ⟨u2, hu2, ru2⟩ := rv2.get hy
    have hlt : i < its.toArray.size := by
      have := (List.getElem?_eq_some_iff.mp hu).1
      simpa using this
    have hlt2 : i < its2.toArray.size := by
      have := (List.getElem?_eq_some_iff.mp hu2).1
      simpa using this
    have hzl : z < s.heap.objs.size := Heap.lt_size hz
    have D1 := draws k (prog := X.prog) (w := X.w) (A := X.A.in1) (I.ok.hd hc) i1 a D.a1 its.toArray
    have D2 := draws l (prog := X.prog) (w := X.w) (A := X.A.in1) (I.ok.hd hc) i2 b D.b2 its2.toArray
    refine wpAny_pyNext_zipD2_item D.S D1 D2 hz hTI hTO ⟨h1, p⟩ ⟨h2, p2⟩ hlt hlt2 fun x1 x2 h' tk hP1 hP2 z' TO' h1' h2' hT hsz hk => ?_
    have e1 : x1 = u := by
      have hP' : its[i]? = some x1 := by simpa using hP1
      rw [hu] at hP'
      exact (Option.some.inj hP').symm
    have e2 : x2 = u2 := by
      have hP' : its2[i]? = some x2 := by simpa using hP2
      rw [hu2] at hP'
      exact (Option.some.inj hP').symm
    subst e1 e2
    refine ⟨_, rfl, wpAny_letOwnedTupleGo_zip (s := { s with heap := h', toks := tk }) z' fun h'' z'' sb => ?_⟩
    have hT2 : h''.get? s.heap.objs.size = some { cls := .type "tuple", data := .seq #[x1, x2] } := (sb.2 _ (Nat.ne_of_gt hzl)).trans hT
    have new : ObjOk X.prog X.w (upd H s.heap.objs.size (.tup [x, y])) h'' s.heap.objs.size (.tup [x, y]) :=
      ⟨by show 2 ≤ sizeLine; decide, [x1, x2], .cons ru (.cons ru2 .nil), ⟨_, hT2, rfl, _, rfl⟩⟩
    have I1 : Inv X pins σ (upd H s.heap.objs.size (.tup [x, y])) { s with heap := h'', toks := tk } :=
      I.turnedNew (t' := tk) (ch := [z, TI, TO, i1, i2]) (fun c o hb q => (sb.2 c (fun q' => hb (by simp [q']))).trans (hk c o (fun q' => hb (by simp [q'])) (fun q' => hb (by simp [q'])) (fun q' => hb (by simp [q'])) (fun q' => hb (by simp [q'])) q)) hf (Nat.le_refl _) new
    refine ⟨.ref s.heap.objs.size, _, I1, rfl, ⟨_, x, y, rfl, I.hok.fresh (Nat.le_refl _), rfl, fun l hl => by rw [invSq_inj I hl hqx]; exact hx, fun l hl => by rw [invSq_inj I hl hqy]; exact hy⟩, ⟨z'', ?_, ⟨x1, x2, ?_⟩, ?_, ?_⟩, fun c hcm => ?_⟩
    · exact (sb.2 _ D.S.TIz).trans (hk _ _ D.S.TIz D.S.TITO D.S.TIi1 D.S.TIi2 hTI)
    · exact (sb.2 _ D.S.TOz).trans TO'
    · exact h1'.1.at fun o q => (sb.2 _ D.S.zi1.symm).trans q
    · exact h2'.1.at fun o q => (sb.2 _ D.S.zi2.symm).trans q
    · have hlt : c < s.heap.objs.size := by
        have e' : c = z ∨ c = TI ∨ c = TO ∨ c = i1 ∨ c = i2 := by simpa using hcm
        rcases e' with q | q | q | q | q
        · rw [q]; exact hzl
        · rw [q]; exact Heap.lt_size hTI
        · rw [q]; exact Heap.lt_size hTO
        · rw [q]; obtain ⟨_, e1, _⟩ := h1.ob; exact Heap.lt_size e1
        · rw [q]; obtain ⟨_, e2, _⟩ := h2.ob; exact Heap.lt_size e2
      rw [upd_ne (Nat.ne_of_lt hlt)]
      exact (hf c hcm).1
  done := by
    intro X hP hw hK hc i pins s σ H E I hf st hg
    subst hP hw hK
    obtain ⟨hz, hTI, ⟨x0, y0, hTO⟩, h1, h2⟩ := st
    obtain ⟨xs, ys, hqx, hqy, hl1, hl2, hend⟩ := hg
    obtain ⟨its, rv, p⟩ := invSq I hqx
    obtain ⟨its2, rv2, p2⟩ := invSq I hqy
    have l1 := rv.length
    have l2 := rv2.length
    have D1 := draws k (prog := X.prog) (w := X.w) (A := X.A.in1) (I.ok.hd hc) i1 a D.a1 its.toArray
    have D2 := draws l (prog := X.prog) (w := X.w) (A := X.A.in1) (I.ok.hd hc) i2 b D.b2 its2.toArray
    exact wpAny_pyNext_zipD2_end D.S D1 D2 hz hTI hTO ⟨h1, p⟩ ⟨h2, p2⟩ (by rw [List.size_toArray]; omega) (by rw [List.size_toArray]; omega) (by rw [List.size_toArray, List.size_toArray]; omega) fun h' tk hk => ⟨rfl, I.turnedL (t' := tk) (ch := [z, TI, TO, i1, i2]) (fun c o hb q =>
      hk c o (fun q' => hb (by simp [q'])) (fun q' => hb (by simp [q'])) (fun q' => hb (by simp [q'])) (fun q' => hb (by simp [q'])) q) hf⟩
  self := fun A i s Q E st h => wpAny_pyIter_zip st.1 h
def iZipK (K : PySem.W.Frag) (k l : Bool) (ta : TA) : TI := fun σ H R => ta σ H fun vs H1 => ∃ a b xs ys, vs = [.ref a, .ref b] ∧ Sq K H1 k a xs ∧ Sq K H1 l b ys ∧ R (ItZ K k l a b) H1
theorem pi_zipK {X : Cx} {e e2 : Expr} {ta : TA} {p pos tpos : Pos} {elts : List Expr} {kk : Nat} {k l : Bool} (hg : Gl X "zip") (hm : X.mg "zip" = none) (ha : PA X [e, e2] ta)
    (hs : starEach [e, e2] X.env = (false, eval e X.env) :: starEach [e2] X.env := by rfl) (hpl : (backTo pos (starEach [e2] X.env)).any (·.1) = false := by rfl) :
    PI X (.Tuple elts kk tpos) (.Call (.Name "zip" p) [e, e2] [] pos) (iZipK X.K k l ta) := by
  refine ⟨fun pins s σ H R I h => ?_⟩
  refine Call_ (ld_blt I hg hm PyProof.Rows.boot_zip (PyProof.Rows.callWith_type1 (thn (ha.run pos pins s σ H _ I h) fun us s1 ⟨vs, H1, I1, r1, q1⟩ => ?_) hs hpl))
  obtain ⟨a, b, xs, ys, ex, hqx, hqy, q⟩ := q1
  subst ex
  cases r1 with
  | cons r rr =>
    cases rr with
    | cons r' rr =>
      cases rr
      cases r
      cases r'
      obtain ⟨its, rv, p1⟩ := invSq I1 hqx
      obtain ⟨its2, rv2, p2⟩ := invSq I1 hqy
      have la : a < s1.heap.objs.size := p1.lt
      have lb : b < s1.heap.objs.size := p2.lt
      refine zip_begins2 (begins k a its.toArray) (begins l b its2.toArray) p1 p2 fun h' hz hTI hTO h1 h2 hsz hk => wpAny_pyIter_zip hz ?_
      have I2 : Inv X pins σ H1 { s1 with heap := h' } := I1.kept (t' := s1.toks) hk
      have S := zip_sep2 (N := s1.heap.objs.size) (fp1 := [a]) (fp2 := [b]) (fun c hc => by rw [List.mem_singleton.mp hc]; exact la) (fun c hc => by rw [List.mem_singleton.mp hc]; exact lb)
      refine ⟨s1.heap.objs.size + 4, [s1.heap.objs.size + 4, s1.heap.objs.size + 2, s1.heap.objs.size + 3, s1.heap.objs.size, s1.heap.objs.size + 1], _, _, H1, rfl, I2, turn_zipK ⟨S, Nat.ne_of_lt la, Nat.ne_of_lt (Nat.lt_succ_of_lt lb)⟩, ⟨hz, hTI, ⟨_, _, hTO⟩, itObj_at h1, itObj_at h2⟩, fun c hcm => ?_, q⟩
      have e' : c = s1.heap.objs.size + 4 ∨ c = s1.heap.objs.size + 2 ∨ c = s1.heap.objs.size + 3 ∨ c = s1.heap.objs.size ∨ c = s1.heap.objs.size + 1 := by simpa using hcm
      have hle : s1.heap.objs.size ≤ c := by
        rcases e' with z | z | z | z | z
        · rw [z]; exact Nat.le_add_right _ _
        · rw [z]; exact Nat.le_add_right _ _
        · rw [z]; exact Nat.le_add_right _ _
        · rw [z]; exact Nat.le_refl _
        · rw [z]; exact Nat.le_add_right _ _
      exact I1.fpOk hle (I1.hok.fresh hle)
end DL

namespace DL
open PySem PySem.Spec PyProof.Rows L2

/-! ## tests -/
def truth : D → Option Bool
  | .none => some false
  | .bool b => some b
  | .int i => some (i != 0)
  | .str s => if s.length ≤ 1000000 then some ((s.length : Int) != 0) else none
  | .list ds => some (!ds.isEmpty)
  | .tuple ds => some (!ds.isEmpty)
  | .dict _ => none
def isB : D → Option Bool
  | .bool b => some b
  | _ => none
def bT (f : Env → Option D) : Env → Option Bool := fun ρ => (f ρ).bind truth
def bV (f : Env → Option D) : Env → Option Bool := fun ρ => (f ρ).bind isB
def bTR (f : Env → Option (D × Env)) : Env → Option (Bool × Env) := fun ρ => (f ρ).bind fun p => (truth p.1).map fun b => (b, p.2)
def bVR (f : Env → Option (D × Env)) : Env → Option (Bool × Env) := fun ρ => (f ρ).bind fun p => (isB p.1).map fun b => (b, p.2)
def bAnd (f g : Env → Option Bool) : Env → Option Bool := fun ρ => (f ρ).bind fun a => if a = true then g ρ else some false
def bOr (f g : Env → Option Bool) : Env → Option Bool := fun ρ => (f ρ).bind fun a => if a = true then some true else g ρ
def bNot (f : Env → Option Bool) : Env → Option Bool := fun ρ => (f ρ).bind fun a => some (!a)
def bAndR (f g : Env → Option (Bool × Env)) : Env → Option (Bool × Env) := fun ρ => (f ρ).bind fun p => if p.1 = true then g p.2 else some (false, p.2)
def bOrR (f g : Env → Option (Bool × Env)) : Env → Option (Bool × Env) := fun ρ => (f ρ).bind fun p => if p.1 = true then some (true, p.2) else g p.2
def bNotR (f : Env → Option (Bool × Env)) : Env → Option (Bool × Env) := fun ρ => (f ρ).bind fun p => some (!p.1, p.2)
section
variable {X : Cx} {z : Z}
theorem rep_len {K : PySem.W.Frag} {F : Hp} {vs : List V} {ds : List D} (t : RepL K F vs ds) : vs.isEmpty = ds.isEmpty := by
  cases t <;> rfl
theorem truth_ok {K : PySem.W.Frag} {F H : Hp} {v : V} {d : D} {b : Bool} (s : Same F H) (r : Rep K F v d) (e : truth d = some b) : TruV K v H b := by
  cases r with
  | non =>
    cases e
    exact rfl
  | bl b =>
    cases e
    exact rfl
  | int i =>
    cases e
    exact rfl
  | str x =>
    have e : (if x.length ≤ 1000000 then some ((x.length : Int) != 0) else none) = some b := e
    split at e
    · cases e
      exact ⟨leM (by assumption), rfl⟩
    · cases e
  | dic h _ _ => cases e
  | lst h t =>
    cases e
    exact .inl ⟨_, s.seq h, by rw [rep_len t]⟩
  | tup h t =>
    cases e
    exact .inr (.inl ⟨_, sameT s (sqT_of h), by rw [rep_len t]⟩)
abbrev PlainT (X : Cx) (e : Expr) : Prop := ∀ whole, isTrue e X.env whole = (do let v ← whole; standAt e.pos; holding [v] (truthy v))
theorem b_val {e : Expr} {f : Env → Option D} (h : PE X e (tP X.K z f)) (he : PlainT X e := by intro _; rfl) : PT X e (tB X.K z (bT f)) :=
  (pt_truth h he).mono fun σ H Q ⟨ρ, F, O, b, R, e, q⟩ => by
    obtain ⟨d, h1, h2⟩ := bind_some e
    exact ⟨ρ, F, O, d, R, h1, fun v H' s r => ⟨b, truth_ok (R.grow s).sub r h2, q H' s⟩⟩
theorem b_valR {e : Expr} {f : Env → Option (D × Env)} (h : PE X e (tR X.K z f)) (he : PlainT X e := by intro _; rfl) : PT X e (tBR X.K z (bTR f)) :=
  (pt_truth h he).mono fun σ H Q ⟨ρ, F, O, b, ρ', R, e, q⟩ => by
    obtain ⟨⟨d, ρ1⟩, h1, h2⟩ := bind_some e
    obtain ⟨b2, h3, e3⟩ := map_some h2
    cases e3
    exact ⟨ρ, F, O, d, _, R, h1, fun v F' H' R' k r => ⟨_, truth_ok R'.sub r h3, q F' H' R' k⟩⟩
theorem isB_of {d : D} {b : Bool} (h : isB d = some b) : d = .bool b := by
  unfold isB at h
  split at h
  · cases h
    rfl
  · cases h
theorem b_cmp {a b : Expr} {pos : Pos} {op : CmpOp} {r : R2} {o : D → D → Option D} {f g : Env → Option D} (hr : OpR X (compareOp op) r) (ho : Op2 X.K r o) (ha : PE X a (tP X.K z f)) (hb : PE X b (tP X.K z g)) (hm : behindInMarks op b = false) : PT X (.Compare a [op] [b] pos) (tB X.K z (bV (c2 o f g))) :=
  (pt_cmpR hr ha hb hm).mono fun σ H Q ⟨ρ, F, O, b, R, e, q⟩ => by
    obtain ⟨d, h1, h2⟩ := bind_some e
    refine tP2 (z := z) ho ⟨ρ, F, O, d, R, h1, fun v H' s r => ⟨b, ?_, q H' s⟩⟩
    rw [isB_of h2] at r
    cases r
    rfl
theorem b_cmpR {a b : Expr} {pos : Pos} {op : CmpOp} {r : R2} {o : D → D → Option D} {f g : Env → Option (D × Env)} (hr : OpR X (compareOp op) r) (ho : Op2 X.K r o) (ha : PE X a (tR X.K z f)) (hb : PE X b (tR X.K z g)) (hm : behindInMarks op b = false) : PT X (.Compare a [op] [b] pos) (tBR X.K z (bVR (r2 o f g))) :=
  (pt_cmpR hr ha hb hm).mono fun σ H Q ⟨ρ, F, O, b, ρ', R, e, q⟩ => by
    obtain ⟨⟨d, ρ1⟩, h1, h2⟩ := bind_some e
    obtain ⟨b2, h3, e3⟩ := map_some h2
    cases e3
    refine tR2 (z := z) ho ⟨ρ, F, O, d, _, R, h1, fun v F' H' R' k r => ⟨_, ?_, q F' H' R' k⟩⟩
    have h4 := isB_of h3
    dsimp only at h4
    rw [h4] at r
    cases r
    rfl
theorem b_not {a : Expr} {pos : Pos} {f : Env → Option Bool} (h : PT X a (tB X.K z f)) : PT X (.UnaryOp .Not a pos) (tB X.K z (bNot f)) :=
  (pt_not h).mono fun σ H Q ⟨ρ, F, O, b, R, e, q⟩ => by
    obtain ⟨d, h1, h2⟩ := bind_some e
    cases h2
    exact ⟨ρ, F, O, d, R, h1, fun H' s => q H' s⟩
theorem b_notR {a : Expr} {pos : Pos} {f : Env → Option (Bool × Env)} (h : PT X a (tBR X.K z f)) : PT X (.UnaryOp .Not a pos) (tBR X.K z (bNotR f)) :=
  (pt_not h).mono fun σ H Q ⟨ρ, F, O, b, ρ', R, e, q⟩ => by
    obtain ⟨⟨d, ρ1⟩, h1, h2⟩ := bind_some e
    cases h2
    exact ⟨ρ, F, O, d, _, R, h1, fun F' H' R' k => q F' H' R' k⟩
theorem b_and1 {a : Expr} {pos : Pos} {f : Env → Option Bool} (h : PT X a (tB X.K z f)) : PW X (.BoolOp .And [a] pos) (tB X.K z f) := pw_and1 h
theorem b_or1 {a : Expr} {pos : Pos} {f : Env → Option Bool} (h : PT X a (tB X.K z f)) : PW X (.BoolOp .Or [a] pos) (tB X.K z f) := pw_or1 h
theorem b_and {a b : Expr} {rest : List Expr} {pos : Pos} {f g : Env → Option Bool} (h : PT X a (tB X.K z f)) (k : PW X (.BoolOp .And (b :: rest) pos) (tB X.K z g)) : PW X (.BoolOp .And (a :: b :: rest) pos) (tB X.K z (bAnd f g)) :=
  (pw_and h k).mono fun σ H Q ⟨ρ, F, O, c, R, e, q⟩ => by
    obtain ⟨d, h1, h2⟩ := bind_some e
    refine ⟨ρ, F, O, d, R, h1, fun H' s => ?_⟩
    split at h2
    · next hd =>
      rw [if_pos hd]
      exact ⟨ρ, _, O, c, R.grow s, h2, fun H2 s2 => q H2 (s.trans s2)⟩
    · next hd =>
      rw [if_neg hd]
      cases h2
      exact q H' s
theorem b_or {a b : Expr} {rest : List Expr} {pos : Pos} {f g : Env → Option Bool} (h : PT X a (tB X.K z f)) (k : PW X (.BoolOp .Or (b :: rest) pos) (tB X.K z g)) : PW X (.BoolOp .Or (a :: b :: rest) pos) (tB X.K z (bOr f g)) :=
  (pw_or h k).mono fun σ H Q ⟨ρ, F, O, c, R, e, q⟩ => by
    obtain ⟨d, h1, h2⟩ := bind_some e
    refine ⟨ρ, F, O, d, R, h1, fun H' s => ?_⟩
    split at h2
    · next hd =>
      rw [if_pos hd]
      cases h2
      exact q H' s
    · next hd =>
      rw [if_neg hd]
      exact ⟨ρ, _, O, c, R.grow s, h2, fun H2 s2 => q H2 (s.trans s2)⟩
theorem b_and1R {a : Expr} {pos : Pos} {f : Env → Option (Bool × Env)} (h : PT X a (tBR X.K z f)) : PW X (.BoolOp .And [a] pos) (tBR X.K z f) := pw_and1 h
theorem b_or1R {a : Expr} {pos : Pos} {f : Env → Option (Bool × Env)} (h : PT X a (tBR X.K z f)) : PW X (.BoolOp .Or [a] pos) (tBR X.K z f) := pw_or1 h
theorem b_andR {a b : Expr} {rest : List Expr} {pos : Pos} {f g : Env → Option (Bool × Env)} (h : PT X a (tBR X.K z f)) (k : PW X (.BoolOp .And (b :: rest) pos) (tBR X.K z g)) : PW X (.BoolOp .And (a :: b :: rest) pos) (tBR X.K z (bAndR f g)) :=
  (pw_and h k).mono fun σ H Q ⟨ρ, F, O, c, ρ', R, e, q⟩ => by
    obtain ⟨⟨d, ρ1⟩, h1, h2⟩ := bind_some e
    refine ⟨ρ, F, O, d, ρ1, R, h1, fun F' H' R' k => ?_⟩
    dsimp only at h2
    split at h2
    · next hd =>
      rw [if_pos hd]
      exact ⟨ρ1, F', O, c, ρ', R', h2, fun F2 H2 R2 k2 => q F2 H2 R2 (k.trans k2)⟩
    · next hd =>
      rw [if_neg hd]
      cases h2
      exact q F' H' R' k
theorem b_orR {a b : Expr} {rest : List Expr} {pos : Pos} {f g : Env → Option (Bool × Env)} (h : PT X a (tBR X.K z f)) (k : PW X (.BoolOp .Or (b :: rest) pos) (tBR X.K z g)) : PW X (.BoolOp .Or (a :: b :: rest) pos) (tBR X.K z (bOrR f g)) :=
  (pw_or h k).mono fun σ H Q ⟨ρ, F, O, c, ρ', R, e, q⟩ => by
    obtain ⟨⟨d, ρ1⟩, h1, h2⟩ := bind_some e
    refine ⟨ρ, F, O, d, ρ1, R, h1, fun F' H' R' k => ?_⟩
    dsimp only at h2
    split at h2
    · next hd =>
      rw [if_pos hd]
      cases h2
      exact q F' H' R' k
    · next hd =>
      rw [if_neg hd]
      exact ⟨ρ1, F', O, c, ρ', R', h2, fun F2 H2 R2 k2 => q F2 H2 R2 (k.trans k2)⟩
/-! ### as values -/
def cAnd (f g : Env → Option D) : Env → Option D := fun ρ => (f ρ).bind fun d => (isB d).bind fun a => if a = true then g ρ else some (.bool false)
def cOr (f g : Env → Option D) : Env → Option D := fun ρ => (f ρ).bind fun d => (isB d).bind fun a => if a = true then some (.bool true) else g ρ
def cNot (f : Env → Option D) : Env → Option D := fun ρ => (f ρ).bind fun d => (isB d).bind fun a => some (.bool (!a))
def cIf (c : Env → Option Bool) (f g : Env → Option D) : Env → Option D := fun ρ => (c ρ).bind fun b => if b = true then f ρ else g ρ
def rIf (c : Env → Option (Bool × Env)) (f g : Env → Option (D × Env)) : Env → Option (D × Env) := fun ρ => (c ρ).bind fun p => if p.1 = true then f p.2 else g p.2
theorem q_one {op} {a : Expr} {pos : Pos} {t : TE} (h : PE X a t) : PE X (.BoolOp op [a] pos) t := pe_one h
theorem q_and {a b : Expr} {rest : List Expr} {pos : Pos} {f g : Env → Option D} (h : PE X a (tP X.K z f)) (k : PE X (.BoolOp .And (b :: rest) pos) (tP X.K z g)) : PE X (.BoolOp .And (a :: b :: rest) pos) (tP X.K z (cAnd f g)) :=
  (pe_and h k).mono fun σ H Q ⟨ρ, F, O, c, R, e, q⟩ => by
    obtain ⟨d, h1, h2⟩ := bind_some e
    obtain ⟨a, ha, h2⟩ := bind_some h2
    rw [isB_of ha] at h1
    refine ⟨ρ, F, O, _, R, h1, fun v H' s r => ?_⟩
    cases r
    refine ⟨a, rfl, ?_⟩
    split at h2
    · next hd =>
      rw [if_pos hd]
      refine ⟨ρ, _, O, c, R.grow s, h2, fun v2 H2 s2 r2 => q v2 H2 (s.trans s2) ?_⟩
      rw [ext_ext s s2] at r2
      exact r2
    · next hd =>
      rw [if_neg hd]
      cases h2
      exact q _ H' s (.bl _)
theorem q_or {a b : Expr} {rest : List Expr} {pos : Pos} {f g : Env → Option D} (h : PE X a (tP X.K z f)) (k : PE X (.BoolOp .Or (b :: rest) pos) (tP X.K z g)) : PE X (.BoolOp .Or (a :: b :: rest) pos) (tP X.K z (cOr f g)) :=
  (pe_or h k).mono fun σ H Q ⟨ρ, F, O, c, R, e, q⟩ => by
    obtain ⟨d, h1, h2⟩ := bind_some e
    obtain ⟨a, ha, h2⟩ := bind_some h2
    rw [isB_of ha] at h1
    refine ⟨ρ, F, O, _, R, h1, fun v H' s r => ?_⟩
    cases r
    refine ⟨a, rfl, ?_⟩
    split at h2
    · next hd =>
      rw [if_pos hd]
      cases h2
      exact q _ H' s (.bl _)
    · next hd =>
      rw [if_neg hd]
      refine ⟨ρ, _, O, c, R.grow s, h2, fun v2 H2 s2 r2 => q v2 H2 (s.trans s2) ?_⟩
      rw [ext_ext s s2] at r2
      exact r2
theorem q_not {a : Expr} {pos : Pos} {f : Env → Option D} (h : PE X a (tP X.K z f)) : PE X (.UnaryOp .Not a pos) (tP X.K z (cNot f)) :=
  (pe_not h).mono fun σ H Q ⟨ρ, F, O, c, R, e, q⟩ => by
    obtain ⟨d, h1, h2⟩ := bind_some e
    obtain ⟨a, ha, h2⟩ := bind_some h2
    rw [isB_of ha] at h1
    cases h2
    refine ⟨ρ, F, O, _, R, h1, fun v H' s r => ?_⟩
    cases r
    exact ⟨a, rfl, q _ H' s (.bl _)⟩
theorem q_if {c a b : Expr} {pos : Pos} {t : Env → Option Bool} {f g : Env → Option D} (hc : PT X c (tB X.K z t)) (ha : PE X a (tP X.K z f)) (hb : PE X b (tP X.K z g)) : PE X (.IfExp c a b pos) (tP X.K z (cIf t f g)) :=
  (pe_ifExp hc ha hb).mono fun σ H Q ⟨ρ, F, O, d, R, e, q⟩ => by
    obtain ⟨k, h1, h2⟩ := bind_some e
    refine ⟨ρ, F, O, k, R, h1, fun H' s => ?_⟩
    split at h2
    · next hd =>
      rw [if_pos hd]
      refine ⟨ρ, _, O, d, R.grow s, h2, fun v2 H2 s2 r2 => q v2 H2 (s.trans s2) ?_⟩
      rw [ext_ext s s2] at r2
      exact r2
    · next hd =>
      rw [if_neg hd]
      refine ⟨ρ, _, O, d, R.grow s, h2, fun v2 H2 s2 r2 => q v2 H2 (s.trans s2) ?_⟩
      rw [ext_ext s s2] at r2
      exact r2
theorem r_if {c a b : Expr} {pos : Pos} {t : Env → Option (Bool × Env)} {f g : Env → Option (D × Env)} (hc : PT X c (tBR X.K z t)) (ha : PE X a (tR X.K z f)) (hb : PE X b (tR X.K z g)) : PE X (.IfExp c a b pos) (tR X.K z (rIf t f g)) :=
  (pe_ifExp hc ha hb).mono fun σ H Q ⟨ρ, F, O, d, ρ', R, e, q⟩ => by
    obtain ⟨⟨k, ρ1⟩, h1, h2⟩ := bind_some e
    refine ⟨ρ, F, O, k, ρ1, R, h1, fun F' H' R' kp => ?_⟩
    dsimp only at h2
    split at h2
    · next hd =>
      rw [if_pos hd]
      exact ⟨ρ1, F', O, d, ρ', R', h2, fun v2 F2 H2 R2 k2 r2 => q v2 F2 H2 R2 (kp.trans k2) r2⟩
    · next hd =>
      rw [if_neg hd]
      exact ⟨ρ1, F', O, d, ρ', R', h2, fun v2 F2 H2 R2 k2 r2 => q v2 F2 H2 R2 (kp.trans k2) r2⟩
/-- a op1 b op2 c -/
def cChain (o o' : D → D → Option D) (f g h : Env → Option D) : Env → Option D := fun ρ => (f ρ).bind fun a => (g ρ).bind fun b => (o a b).bind fun d => (isB d).bind fun k => if k = true then (h ρ).bind fun c => o' b c else some (.bool false)
theorem chain_ok {r r' : R2} {o o' : D → D → Option D} {f g h : Env → Option D} (h1 : Op2 X.K r o) (h2 : Op2 X.K r' o') {σ : L2.St} {H : Hp} {Q : VK} (hq : tP X.K z (cChain o o' f g h) σ H Q) : tChain r r' (tP X.K z f) (tP X.K z g) (tP X.K z h) σ H Q := by
  obtain ⟨ρ, F, O, d, R, e, q⟩ := hq
  obtain ⟨a, ea, e⟩ := bind_some e
  obtain ⟨b, eb, e⟩ := bind_some e
  obtain ⟨d1, ed, e⟩ := bind_some e
  obtain ⟨k, ek, e⟩ := bind_some e
  rw [isB_of ek] at ed
  refine ⟨ρ, F, O, a, R, ea, fun v1 H1 s1 r1 => ?_⟩
  refine ⟨ρ, _, O, b, R.grow s1, eb, fun v2 H2 s2 r2 => ?_⟩
  rw [ext_ext s1 s2] at r2
  have R2 := R.grow (s1.trans s2)
  have r1' : Rep X.K (ext F H H2) v1 a := r1.mono (by
    rw [← ext_ext s1 s2]
    exact same_ext (R.grow s1).sub)
  refine h1.run (ext F H H2) H2 v1 v2 a b (.bool k) _ R2.sub r1' r2 ed fun v H3 s3 r3 => ?_
  cases r3
  refine ⟨k, rfl, ?_⟩
  split at e
  · next hk =>
    rw [if_pos hk]
    obtain ⟨c, ec, e⟩ := bind_some e
    have s13 := (s1.trans s2).trans s3
    refine ⟨ρ, _, O, c, R.grow s13, ec, fun v4 H4 s4 r4 => ?_⟩
    rw [ext_ext s13 s4] at r4
    have s14 := s13.trans s4
    have R4 := R.grow s14
    have r24 : Rep X.K (ext F H H4) v2 b := r2.mono (by
      rw [← ext_ext (s1.trans s2) (s3.trans s4)]
      exact same_ext R2.sub)
    refine h2.run (ext F H H4) H4 v2 v4 b c d Q R4.sub r24 r4 e fun v H5 s5 r5 => q v H5 (s14.trans s5) ?_
    rw [ext_ext s14 s5] at r5
    exact r5
  · next hk =>
    rw [if_neg hk]
    cases e
    exact q _ H3 ((s1.trans s2).trans s3) (.bl _)
theorem q_chain {a b c : Expr} {pos : Pos} {op op' : CmpOp} {r r' : R2} {o o' : D → D → Option D} {f g h : Env → Option D} (hr : OpR X (compareOp op) r) (ho : Op2 X.K r o) (hr' : OpR X (compareOp op') r') (ho' : Op2 X.K r' o') (ha : PE X a (tP X.K z f)) (hb : PE X b (tP X.K z g)) (hc : PE X c (tP X.K z h))
    (hm : lastMarks [op, op'] [b, c] = false := by with_unfolding_all rfl) : PE X (.Compare a [op, op'] [b, c] pos) (tP X.K z (cChain o o' f g h)) := (pe_chain hr hr' ha hb hc hm).mono fun _ _ _ hq => chain_ok ho ho' hq
theorem b_chain {a b c : Expr} {pos : Pos} {op op' : CmpOp} {r r' : R2} {o o' : D → D → Option D} {f g h : Env → Option D} (hr : OpR X (compareOp op) r) (ho : Op2 X.K r o) (hr' : OpR X (compareOp op') r') (ho' : Op2 X.K r' o') (ha : PE X a (tP X.K z f)) (hb : PE X b (tP X.K z g)) (hc : PE X c (tP X.K z h))
    (hm : lastMarks [op, op'] [b, c] = false := by with_unfolding_all rfl) : PT X (.Compare a [op, op'] [b, c] pos) (tB X.K z (bV (cChain o o' f g h))) := (pt_chain hr hr' ha hb hc hm).mono fun σ H Q ⟨ρ, F, O, b, R, e, q⟩ => by
    obtain ⟨d, h1, h2⟩ := bind_some e
    refine chain_ok ho ho' ⟨ρ, F, O, d, R, h1, fun v H' s r => ⟨b, ?_, q H' s⟩⟩
    rw [isB_of h2] at r
    cases r
    rfl
end

/-! ## what a loop walks -/
structure Yld0 (K : PySem.W.Frag) (J : It) (F : Hp) (ds : List D) : Prop where
  go : ∀ i H, Same F H → i < ds.length → J.go i H
  yld : ∀ (i : Nat) H x H' d, Same F H → J.yld i H x H' → ds[i]? = some d → Same H H' ∧ Rep K (ext F H H') x d
  stop : ∀ i H, Same F H → i = ds.length → J.stop i H
structure Yld (K : PySem.W.Frag) (J : It) (F : Hp) (ds : List D) : Prop where
  go : ∀ i H, Same F H → i < ds.length → J.go i H
  yld : ∀ (i : Nat) F' H x H' d, Same F F' → Same F' H → AllT F' H → J.yld i H x H' → ds[i]? = some d → Same H H' ∧ Rep K (ext F' H H') x d
  stop : ∀ i H, Same F H → i = ds.length → J.stop i H
theorem Yld0.of {K : PySem.W.Frag} {J : It} {F : Hp} {ds : List D} (y : Yld0 K J F ds) : Yld K J F ds :=
  ⟨y.go, fun i F' H x H' d s h _ hy hd => by
    obtain ⟨h1, h2⟩ := y.yld i H x H' d (s.trans h) hy hd
    exact ⟨h1, h2.mono (ext_mono s)⟩, y.stop⟩
theorem Yld.mono {K : PySem.W.Frag} {J : It} {F F' : Hp} {ds : List D} (y : Yld K J F ds) (s : Same F F') : Yld K J F' ds :=
  ⟨fun i H h hi => y.go i H (s.trans h) hi, fun i F2 H x H' d s2 h t hy hd => y.yld i F2 H x H' d (s.trans s2) h t hy hd, fun i H h hi => y.stop i H (s.trans h) hi⟩
theorem get_lt {α : Type} {l : List α} {i : Nat} {x : α} (h : l[i]? = some x) : i < l.length := (List.getElem?_eq_some_iff.mp h).1
theorem yld_list0 {K : PySem.W.Frag} {F : Hp} {a : Addr} {vs : List V} {ds : List D} (h : SqL K F a vs) (t : RepL K F vs ds) : Yld0 K (Itl K a) F ds where
  go := fun i H s hi => by
    have hl := t.length
    exact ⟨vs, vs[i]'(by omega), s.seq h, List.getElem?_eq_getElem _⟩
  yld := fun i H x H' d s ⟨e, hx⟩ hd => by
    subst e
    refine ⟨Same.refl _, ?_⟩
    rw [ext_self s]
    obtain ⟨v, h1, h2⟩ := t.get hd
    rw [hx _ (s.seq h)] at h1
    cases h1
    exact h2
  stop := fun i H s hi => ⟨vs, s.seq h, by rw [t.length]; omega⟩
theorem yld_list {K : PySem.W.Frag} {F : Hp} {a : Addr} {vs : List V} {ds : List D} (h : SqL K F a vs) (t : RepL K F vs ds) : Yld K (Itl K a) F ds := (yld_list0 h t).of
theorem yld_tup0 {K : PySem.W.Frag} {F : Hp} {a : Addr} {vs : List V} {ds : List D} (h : SqT K F a vs) (t : RepL K F vs ds) : Yld0 K (Itt K a) F ds where
  go := fun i H s hi => by
    have hl := t.length
    exact ⟨vs, vs[i]'(by omega), sameT s h, List.getElem?_eq_getElem _⟩
  yld := fun i H x H' d s ⟨e, hx⟩ hd => by
    subst e
    refine ⟨Same.refl _, ?_⟩
    rw [ext_self s]
    obtain ⟨v, h1, h2⟩ := t.get hd
    rw [hx _ (sameT s h)] at h1
    cases h1
    exact h2
  stop := fun i H s hi => ⟨vs, sameT s h, by rw [t.length]; omega⟩
theorem yld_tup {K : PySem.W.Frag} {F : Hp} {a : Addr} {vs : List V} {ds : List D} (h : SqT K F a vs) (t : RepL K F vs ds) : Yld K (Itt K a) F ds := (yld_tup0 h t).of
def rangeD (lo : Int) (n : Nat) : List D := (List.range n).map fun i => .int (lo + (i : Nat))
theorem rangeD_len {lo : Int} {n : Nat} : (rangeD lo n).length = n := by
  unfold rangeD
  rw [List.length_map, List.length_range]
theorem yld_range0 {K : PySem.W.Frag} {F : Hp} {lo : Int} {n : Nat} : Yld0 K (Itr lo n) F (rangeD lo n) where
  go := fun i H s hi => by
    rw [rangeD_len] at hi
    exact hi
  yld := fun i H x H' d s ⟨e, hx⟩ hd => by
    subst e hx
    refine ⟨Same.refl _, ?_⟩
    unfold rangeD at hd
    rw [List.getElem?_map] at hd
    obtain ⟨j, h1, h2⟩ := map_some hd
    have h3 := (List.getElem?_eq_some_iff.mp h1).2
    rw [List.getElem_range] at h3
    subst h3 h2
    exact .int _
  stop := fun i H s hi => by
    rw [rangeD_len] at hi
    exact Nat.le_of_eq hi.symm
theorem yld_range {K : PySem.W.Frag} {F : Hp} {lo : Int} {n : Nat} : Yld K (Itr lo n) F (rangeD lo n) := (yld_range0).of
def enumD : Nat → List D → List D
  | _, [] => []
  | k, d :: r => .tuple [.int k, d] :: enumD (k + 1) r
theorem enumD_len : ∀ (k : Nat) (ds : List D), (enumD k ds).length = ds.length
  | _, [] => rfl
  | k, d :: r => congrArg (· + 1) (enumD_len (k + 1) r)
theorem enumD_get : ∀ (k : Nat) (ds : List D) (i : Nat) (x : D), (enumD k ds)[i]? = some x → ∃ d, ds[i]? = some d ∧ x = .tuple [.int ((k + i : Nat) : Int), d]
  | _, [], i, x, h => by simp [enumD] at h
  | k, d :: r, 0, x, h => by
    cases h
    exact ⟨d, rfl, rfl⟩
  | k, d :: r, i + 1, x, h => by
    obtain ⟨d', h1, h2⟩ := enumD_get (k + 1) r i x h
    refine ⟨d', h1, ?_⟩
    rw [h2, show k + 1 + i = k + (i + 1) by omega]
theorem Sq.of_rep {K : PySem.W.Frag} {F : Hp} {v : V} {ds : List D} {k : Bool} (r : Rep K F v (if k then .list ds else .tuple ds)) : ∃ a vs, v = .ref a ∧ Sq K F k a vs ∧ RepL K F vs ds := by
  cases k with
  | true =>
    cases r with
    | lst h t => exact ⟨_, _, rfl, h, t⟩
  | false =>
    cases r with
    | tup h t => exact ⟨_, _, rfl, sqT_of h, t⟩
theorem yld_enum0 {K : PySem.W.Frag} {F : Hp} {k : Bool} {a : Addr} {vs : List V} {ds : List D} (h : Sq K F k a vs) (t : RepL K F vs ds) : Yld0 K (ItE K k a) F (enumD 0 ds) where
  go := fun i H s hi => by
    have hl := t.length
    rw [enumD_len] at hi
    exact ⟨vs, vs[i]'(by omega), h.mono s, List.getElem?_eq_getElem _⟩
  yld := fun i H x H' d s ⟨T, y, e1, hT, e2, hy⟩ hd => by
    subst e1 e2
    obtain ⟨d', h1, h2⟩ := enumD_get 0 ds i d hd
    obtain ⟨v, h3, h4⟩ := t.get h1
    rw [hy _ (h.mono s)] at h3
    cases h3
    refine ⟨same_new hT, ?_⟩
    rw [ext_new s hT, h2, Nat.zero_add]
    exact .tup upd_same (.cons (.int _) (.cons (h4.mono (same_new (s.free hT))) .nil))
  stop := fun i H s hi => ⟨vs, h.mono s, by rw [t.length]; rw [enumD_len] at hi; omega⟩
theorem yld_enum {K : PySem.W.Frag} {F : Hp} {k : Bool} {a : Addr} {vs : List V} {ds : List D} (h : Sq K F k a vs) (t : RepL K F vs ds) : Yld K (ItE K k a) F (enumD 0 ds) := (yld_enum0 h t).of
def zipD : List D → List D → List D
  | a :: r, b :: q => .tuple [a, b] :: zipD r q
  | _, _ => []
theorem zipD_len : ∀ (xs ys : List D), (zipD xs ys).length = min xs.length ys.length
  | [], _ => by simp [zipD]
  | _ :: _, [] => by simp [zipD]
  | a :: r, b :: q => by
    show (zipD r q).length + 1 = _
    rw [zipD_len r q, List.length_cons, List.length_cons]
    omega
theorem zipD_get : ∀ (xs ys : List D) (i : Nat) (x : D), (zipD xs ys)[i]? = some x → ∃ a b, xs[i]? = some a ∧ ys[i]? = some b ∧ x = .tuple [a, b]
  | [], _, i, x, h => by simp [zipD] at h
  | _ :: _, [], i, x, h => by simp [zipD] at h
  | a :: r, b :: q, 0, x, h => by
    cases h
    exact ⟨a, b, rfl, rfl, rfl⟩
  | a :: r, b :: q, i + 1, x, h => zipD_get r q i x h
theorem yld_zip0 {K : PySem.W.Frag} {F : Hp} {k l : Bool} {a b : Addr} {vs ws : List V} {ds es : List D} (h : Sq K F k a vs) (t : RepL K F vs ds) (h' : Sq K F l b ws) (t' : RepL K F ws es) : Yld0 K (ItZ K k l a b) F (zipD ds es) where
  go := fun i H s hi => by
    have hl := t.length
    have hl' := t'.length
    rw [zipD_len] at hi
    exact ⟨vs, ws, vs[i]'(by omega), ws[i]'(by omega), h.mono s, h'.mono s, List.getElem?_eq_getElem _, List.getElem?_eq_getElem _⟩
  yld := fun i H x H' d s ⟨T, y, y', e1, hT, e2, hy, hy'⟩ hd => by
    subst e1 e2
    obtain ⟨d1, d2, h1, h2, h3⟩ := zipD_get ds es i d hd
    obtain ⟨v, h4, h5⟩ := t.get h1
    obtain ⟨v', h6, h7⟩ := t'.get h2
    rw [hy _ (h.mono s)] at h4
    rw [hy' _ (h'.mono s)] at h6
    cases h4
    cases h6
    refine ⟨same_new hT, ?_⟩
    rw [ext_new s hT, h3]
    exact .tup upd_same (.cons (h5.mono (same_new (s.free hT))) (.cons (h7.mono (same_new (s.free hT))) .nil))
  stop := fun i H s hi => by
    have hl := t.length
    have hl' := t'.length
    rw [zipD_len] at hi
    exact ⟨vs, ws, h.mono s, h'.mono s, by omega, by omega, by omega⟩

theorem yld_zip {K : PySem.W.Frag} {F : Hp} {k l : Bool} {a b : Addr} {vs ws : List V} {ds es : List D} (h : Sq K F k a vs) (t : RepL K F vs ds) (h' : Sq K F l b ws) (t' : RepL K F ws es) : Yld K (ItZ K k l a b) F (zipD ds es) := (yld_zip0 h t h' t').of
def tIP (K : PySem.W.Frag) (z : Z) (it : Env → Option (List D)) : TI := fun σ H R => ∃ ρ F O ds, Rel K z ρ σ F H O ∧ it ρ = some ds ∧ ∀ J H', Same H H' → Yld K J (ext F H H') ds → R J H'
def tIR (K : PySem.W.Frag) (z : Z) (it : Env → Option (List D × Env)) : TI := fun σ H R => ∃ ρ F O ds ρ', Rel K z ρ σ F H O ∧ it ρ = some (ds, ρ') ∧ ∀ J F' H', Rel K z ρ' σ F' H' O → Kp F H F' H' O → Yld K J F' ds → R J H'
def seqOf : D → Option (List D)
  | .list ds => some ds
  | .tuple ds => some ds
  | _ => none
def ok62 (i : Int) : Bool := decide (-4611686018427387904 ≤ i) && decide (i < 4611686018427387904)
theorem ok62_of {i : Int} (h : ok62 i = true) : -(2 ^ 62) ≤ i ∧ i < 2 ^ 62 := by
  unfold ok62 at h
  rw [Bool.and_eq_true] at h
  have h1 := of_decide_eq_true h.1
  have h2 := of_decide_eq_true h.2
  exact ⟨by omega, by omega⟩
def rg1 : List D → Option (List D)
  | [.int j] => if ok62 j then some (rangeD 0 j.toNat) else none
  | _ => none
def rg2 : List D → Option (List D)
  | [.int i, .int j] => if ok62 i && ok62 j then some (rangeD i (j - i).toNat) else none
  | _ => none
def en1 : List D → Option (List D)
  | [.list ds] => some (enumD 0 ds)
  | [.tuple ds] => some (enumD 0 ds)
  | _ => none
def zp2 : List D → Option (List D)
  | [a, b] => (seqOf a).bind fun xs => (seqOf b).bind fun ys => some (zipD xs ys)
  | _ => none
def iS (f : Env → Option D) : Env → Option (List D) := fun ρ => (f ρ).bind seqOf
def iSR (f : Env → Option (D × Env)) : Env → Option (List D × Env) := fun ρ => (f ρ).bind fun p => (seqOf p.1).map fun ds => (ds, p.2)
def iN (o : List D → Option (List D)) (f : Env → Option (List D)) : Env → Option (List D) := fun ρ => (f ρ).bind o
def iNR (o : List D → Option (List D)) (f : Env → Option (List D × Env)) : Env → Option (List D × Env) := fun ρ => (f ρ).bind fun p => (o p.1).map fun ds => (ds, p.2)
section
variable {X : Cx} {z : Z} {tg : Expr}
theorem i_lf {e : Expr} {it : Env → Option (List D)} (h : PI X tg e (tIP X.K z it)) : PI X tg e (tIR X.K z (lfs it)) := h.mono fun σ H Q ⟨ρ, F, O, ds, ρ', R, e, q⟩ => by
  obtain ⟨a, h1, h2⟩ := map_some e
  cases h2
  exact ⟨ρ, F, O, _, R, h1, fun J H' s y => q J _ H' (R.grow s) (.of_same R.sub s) y⟩
theorem seqOf_of {d : D} {ds : List D} (h : seqOf d = some ds) : d = .list ds ∨ d = .tuple ds := by
  unfold seqOf at h
  split at h
  · cases h
    exact .inl rfl
  · cases h
    exact .inr rfl
  · cases h
theorem i_seq {e : Expr} {f : Env → Option D} (h : PE X e (tP X.K z f)) : PI X tg e (tIP X.K z (iS f)) := by
  refine ⟨fun pins s σ H Rr I ⟨ρ, F, O, ds, R, e, q⟩ => ?_⟩
  obtain ⟨d, h1, h2⟩ := bind_some e
  rcases seqOf_of h2 with k | k
  · subst k
    refine (pi_list h).run pins s σ H Rr I ⟨ρ, F, O, _, R, h1, fun v H' s r => ?_⟩
    cases r with
    | lst hs t => exact ⟨_, rfl, ⟨_, (R.grow s).sub.seq hs⟩, q _ H' s (yld_list hs t)⟩
  · subst k
    refine (pi_tup h).run pins s σ H Rr I ⟨ρ, F, O, _, R, h1, fun v H' s r => ?_⟩
    cases r with
    | tup hs t => exact ⟨_, rfl, ⟨_, sameT (R.grow s).sub (sqT_of hs)⟩, q _ H' s (yld_tup (sqT_of hs) t)⟩
theorem i_seqR {e : Expr} {f : Env → Option (D × Env)} (h : PE X e (tR X.K z f)) : PI X tg e (tIR X.K z (iSR f)) := by
  refine ⟨fun pins s σ H Rr I ⟨ρ, F, O, ds, ρ', R, e, q⟩ => ?_⟩
  obtain ⟨⟨d, ρ1⟩, h1, h2⟩ := bind_some e
  obtain ⟨ds', h3, e3⟩ := map_some h2
  cases e3
  rcases seqOf_of h3 with k | k
  · dsimp only at k
    subst k
    refine (pi_list h).run pins s σ H Rr I ⟨ρ, F, O, _, _, R, h1, fun v F' H' R' kp r => ?_⟩
    cases r with
    | lst hs t => exact ⟨_, rfl, ⟨_, R'.sub.seq hs⟩, q _ F' H' R' kp (yld_list hs t)⟩
  · dsimp only at k
    subst k
    refine (pi_tup h).run pins s σ H Rr I ⟨ρ, F, O, _, _, R, h1, fun v F' H' R' kp r => ?_⟩
    cases r with
    | tup hs t => exact ⟨_, rfl, ⟨_, sameT R'.sub (sqT_of hs)⟩, q _ F' H' R' kp (yld_tup (sqT_of hs) t)⟩
theorem rg1_of {as ds : List D} (h : rg1 as = some ds) : ∃ j, as = [.int j] ∧ (-(2 ^ 62) ≤ j ∧ j < 2 ^ 62) ∧ ds = rangeD 0 j.toNat := by
  unfold rg1 at h
  split at h
  · split at h
    · cases h
      exact ⟨_, rfl, ok62_of (by assumption), rfl⟩
    · cases h
  · cases h
theorem rg2_of {as ds : List D} (h : rg2 as = some ds) : ∃ i j, as = [.int i, .int j] ∧ (-(2 ^ 62) ≤ i ∧ i < 2 ^ 62) ∧ (-(2 ^ 62) ≤ j ∧ j < 2 ^ 62) ∧ ds = rangeD i (j - i).toNat := by
  unfold rg2 at h
  split at h
  · split at h
    · next hk =>
      cases h
      rw [Bool.and_eq_true] at hk
      exact ⟨_, _, rfl, ok62_of hk.1, ok62_of hk.2, rfl⟩
    · cases h
  · cases h
theorem reps1 {K : PySem.W.Frag} {F : Hp} {vs : List V} {j : Int} (r : RepL K F vs [.int j]) : vs = [.int j] := by
  cases r with
  | cons r t =>
    cases r
    cases t
    rfl
theorem reps2 {K : PySem.W.Frag} {F : Hp} {vs : List V} {i j : Int} (r : RepL K F vs [.int i, .int j]) : vs = [.int i, .int j] := by
  cases r with
  | cons r t =>
    cases r
    rw [reps1 t]
theorem i_range1 {a : Expr} {f : Env → Option (List D)} {p pos : Pos} (hg : Gl X "range") (hm : X.mg "range" = none) (ha : PA X [a] (tPs X.K z f)) (hs : starEach [a] X.env = [(false, eval a X.env)] := by rfl) : PI X tg (.Call (.Name "range" p) [a] [] pos) (tIP X.K z (iN rg1 f)) :=
  (pi_range1 hg hm ha hs).mono fun σ H Q ⟨ρ, F, O, ds, R, e, q⟩ => by
    obtain ⟨as, h1, h2⟩ := bind_some e
    obtain ⟨j, e1, b1, e2⟩ := rg1_of h2
    subst e1 e2
    exact ⟨ρ, F, O, _, R, h1, fun vs H' s r => ⟨j, reps1 r, b1.1, b1.2, q _ H' s yld_range⟩⟩
theorem i_range1R {a : Expr} {f : Env → Option (List D × Env)} {p pos : Pos} (hg : Gl X "range") (hm : X.mg "range" = none) (ha : PA X [a] (tRs X.K z f)) (hs : starEach [a] X.env = [(false, eval a X.env)] := by rfl) : PI X tg (.Call (.Name "range" p) [a] [] pos) (tIR X.K z (iNR rg1 f)) :=
  (pi_range1 hg hm ha hs).mono fun σ H Q ⟨ρ, F, O, ds, ρ', R, e, q⟩ => by
    obtain ⟨⟨as, ρ1⟩, h1, h2⟩ := bind_some e
    obtain ⟨ds', h3, e3⟩ := map_some h2
    cases e3
    obtain ⟨j, e1, b1, e2⟩ := rg1_of h3
    dsimp only at e1
    subst e1 e2
    exact ⟨ρ, F, O, _, _, R, h1, fun vs F' H' R' kp r => ⟨j, reps1 r, b1.1, b1.2, q _ F' H' R' kp yld_range⟩⟩
theorem i_range2 {a b : Expr} {f : Env → Option (List D)} {p pos : Pos} (hg : Gl X "range") (hm : X.mg "range" = none) (ha : PA X [a, b] (tPs X.K z f)) (hs : starEach [a, b] X.env = [(false, eval a X.env), (false, eval b X.env)] := by rfl) (hs2 : starEach [b] X.env = [(false, eval b X.env)] := by rfl) : PI X tg (.Call (.Name "range" p) [a, b] [] pos) (tIP X.K z (iN rg2 f)) :=
  (pi_range2 hg hm ha hs hs2).mono fun σ H Q ⟨ρ, F, O, ds, R, e, q⟩ => by
    obtain ⟨as, h1, h2⟩ := bind_some e
    obtain ⟨i, j, e1, b1, b2, e2⟩ := rg2_of h2
    subst e1 e2
    exact ⟨ρ, F, O, _, R, h1, fun vs H' s r => ⟨i, j, reps2 r, ⟨b1.1, b1.2, b2.1, b2.2⟩, q _ H' s yld_range⟩⟩
theorem i_range2R {a b : Expr} {f : Env → Option (List D × Env)} {p pos : Pos} (hg : Gl X "range") (hm : X.mg "range" = none) (ha : PA X [a, b] (tRs X.K z f)) (hs : starEach [a, b] X.env = [(false, eval a X.env), (false, eval b X.env)] := by rfl) (hs2 : starEach [b] X.env = [(false, eval b X.env)] := by rfl) : PI X tg (.Call (.Name "range" p) [a, b] [] pos) (tIR X.K z (iNR rg2 f)) :=
  (pi_range2 hg hm ha hs hs2).mono fun σ H Q ⟨ρ, F, O, ds, ρ', R, e, q⟩ => by
    obtain ⟨⟨as, ρ1⟩, h1, h2⟩ := bind_some e
    obtain ⟨ds', h3, e3⟩ := map_some h2
    cases e3
    obtain ⟨i, j, e1, b1, b2, e2⟩ := rg2_of h3
    dsimp only at e1
    subst e1 e2
    exact ⟨ρ, F, O, _, _, R, h1, fun vs F' H' R' kp r => ⟨i, j, reps2 r, ⟨b1.1, b1.2, b2.1, b2.2⟩, q _ F' H' R' kp yld_range⟩⟩
theorem en1_of {as ds : List D} (h : en1 as = some ds) : ∃ (k : Bool) (es : List D), as = [if k then .list es else .tuple es] ∧ ds = enumD 0 es := by
  unfold en1 at h
  split at h
  · cases h
    exact ⟨true, _, rfl, rfl⟩
  · cases h
    exact ⟨false, _, rfl, rfl⟩
  · cases h
theorem i_enum {e : Expr} {f : Env → Option (List D)} {p pos tpos : Pos} {elts : List Expr} {kk : Nat} (hg : Gl X "enumerate") (hm : X.mg "enumerate" = none) (ha : PA X [e] (tPs X.K z f)) (hs : starEach [e] X.env = [(false, eval e X.env)] := by rfl) :
    PI X (.Tuple elts kk tpos) (.Call (.Name "enumerate" p) [e] [] pos) (tIP X.K z (iN en1 f)) := by
  refine ⟨fun pins s σ H Rr I ⟨ρ, F, O, ds, R, e, q⟩ => ?_⟩
  obtain ⟨as, h1, h2⟩ := bind_some e
  obtain ⟨k, es, e1, e2⟩ := en1_of h2
  subst e1 e2
  refine (pi_enumK (k := k) hg hm ha hs).run pins s σ H Rr I ⟨ρ, F, O, _, R, h1, fun vs H' s r => ?_⟩
  cases r with
  | cons r t =>
    cases t
    obtain ⟨a, ws, e3, h3, h4⟩ := Sq.of_rep r
    subst e3
    exact ⟨a, ws, rfl, h3.mono (R.grow s).sub, q _ H' s (yld_enum h3 h4)⟩
theorem zp2_of {as ds : List D} (h : zp2 as = some ds) : ∃ (k l : Bool) (xs ys : List D), as = [if k then .list xs else .tuple xs, if l then .list ys else .tuple ys] ∧ ds = zipD xs ys := by
  unfold zp2 at h
  split at h
  · obtain ⟨xs, h1, h⟩ := bind_some h
    obtain ⟨ys, h2, h⟩ := bind_some h
    cases h
    rcases seqOf_of h1 with k | k <;> rcases seqOf_of h2 with l | l <;> subst k l
    · exact ⟨true, true, _, _, rfl, rfl⟩
    · exact ⟨true, false, _, _, rfl, rfl⟩
    · exact ⟨false, true, _, _, rfl, rfl⟩
    · exact ⟨false, false, _, _, rfl, rfl⟩
  · cases h
theorem i_zip {e e2 : Expr} {f : Env → Option (List D)} {p pos tpos : Pos} {elts : List Expr} {kk : Nat} (hg : Gl X "zip") (hm : X.mg "zip" = none) (ha : PA X [e, e2] (tPs X.K z f))
    (hs : starEach [e, e2] X.env = (false, eval e X.env) :: starEach [e2] X.env := by rfl) (hpl : (backTo pos (starEach [e2] X.env)).any (·.1) = false := by rfl) :
    PI X (.Tuple elts kk tpos) (.Call (.Name "zip" p) [e, e2] [] pos) (tIP X.K z (iN zp2 f)) := by
  refine ⟨fun pins s σ H Rr I ⟨ρ, F, O, ds, R, e, q⟩ => ?_⟩
  obtain ⟨as, h1, h2⟩ := bind_some e
  obtain ⟨k, l, xs, ys, e1, e2⟩ := zp2_of h2
  subst e1 e2
  refine (pi_zipK (k := k) (l := l) hg hm ha hs hpl).run pins s σ H Rr I ⟨ρ, F, O, _, R, h1, fun vs H' s r => ?_⟩
  cases r with
  | cons r t =>
    cases t with
    | cons r' t =>
      cases t
      obtain ⟨a, ws, e3, h3, h4⟩ := Sq.of_rep r
      obtain ⟨b, ws', e5, h5, h6⟩ := Sq.of_rep r'
      subst e3 e5
      exact ⟨a, b, ws, ws', rfl, h3.mono (R.grow s).sub, h5.mono (R.grow s).sub, q _ H' s (yld_zip h3 h4 h5 h6)⟩
/-- list(range(..)), tuple(range(..)) -/
def lRg (o : List D → Option (List D)) (f : Env → Option (List D)) : Env → Option D := fun ρ => (f ρ).bind fun as => (o as).bind fun ds => if ds.length ≤ 1000 then some (.list ds) else none
end
end DL

namespace DL
open PySem PySem.Spec PyProof.Rows L2

/-! ## targets -/
/-- what a target may have stored to: the slots js -/
structure Stp (js : Nat → Bool) (σ σ' : L2.St) (O O' : Nat → List Addr) : Prop where
  wp : ∀ vs : List Nat, (∀ j, js j = true → j ∈ vs) → wipe σ' vs = wipe σ vs
  oo : ∀ i, js i = false → O' i = O i
  sub : ∀ i a, a ∈ O' i → a ∈ O i
theorem Stp.refl {js : Nat → Bool} {σ : L2.St} {O : Nat → List Addr} : Stp js σ σ O O := ⟨fun _ _ => rfl, fun _ _ => rfl, fun _ _ h => h⟩
theorem Stp.trans {js : Nat → Bool} {σ σ1 σ2 : L2.St} {O O1 O2 : Nat → List Addr} (a : Stp js σ σ1 O O1) (b : Stp js σ1 σ2 O1 O2) : Stp js σ σ2 O O2 :=
  ⟨fun vs h => (b.wp vs h).trans (a.wp vs h), fun i h => (b.oo i h).trans (a.oo i h), fun i x h => a.sub i x (b.sub i x h)⟩
theorem wipe_set {σ : L2.St} {i : Nat} {v : Option V} : ∀ {vs : List Nat}, i ∈ vs → wipe (σ.set i v) vs = wipe σ vs
  | w :: vs, h => by
    show (wipe (σ.set i v) vs).set w none = (wipe σ vs).set w none
    by_cases hi : i ∈ vs
    · rw [wipe_set hi]
    · have e : i = w := by
        rcases List.mem_cons.mp h with h | h
        · exact h
        · exact absurd h hi
      subst e
      have aux : ∀ {us : List Nat}, i ∉ us → wipe (σ.set i v) us = (wipe σ us).set i v := fun {us} => by
        induction us with
        | nil => exact fun _ => rfl
        | cons u us ih =>
          intro hu
          show (wipe (σ.set i v) us).set u none = ((wipe σ us).set u none).set i v
          rw [ih fun m => hu (List.mem_cons_of_mem _ m), List.set_comm _ _ (fun e => hu (by rw [e]; exact List.mem_cons_self))]
      rw [aux hi, List.set_set]
theorem Stp.set {js : Nat → Bool} {σ : L2.St} {O : Nat → List Addr} {i : Nat} {v : Option V} (h : js i = true) : Stp js σ (σ.set i v) O (setO O i []) :=
  ⟨fun vs hv => wipe_set (hv i h), fun j hj => by
    unfold setO
    rw [if_neg (fun e => by rw [e, h] at hj; cases hj)], fun j a ha => by
    unfold setO at ha
    split at ha
    · cases ha
    · exact ha⟩
abbrev allJ : Nat → Bool := fun _ => true
abbrev ofJ (vs : List Nat) : Nat → Bool := fun i => vs.contains i
def tG (K : PySem.W.Frag) (z : Z) (js : Nat → Bool) (b : D → Env → Option Env) : TG := fun v σ H Q => ∃ ρ F O d ρ', Rel K z ρ σ F H O ∧ Rep K F v d ∧ b d ρ = some ρ' ∧ ∀ σ' O', Rel K z ρ' σ' F H O' → Stp js σ σ' O O' → Q σ' H
def tGs (K : PySem.W.Frag) (z : Z) (js : Nat → Bool) (b : List D → Env → Option Env) : TGs := fun vs σ H Q => ∃ ρ F O ds ρ', Rel K z ρ σ F H O ∧ RepL K F vs ds ∧ b ds ρ = some ρ' ∧ ∀ σ' O', Rel K z ρ' σ' F H O' → Stp js σ σ' O O' → Q σ' H
def bNm (i : Nat) : D → Env → Option Env := fun d ρ => some (ρ.set i (some (.sh d)))
def bNil : List D → Env → Option Env := fun ds ρ => match ds with
  | [] => some ρ
  | _ => none
def bCons (b : D → Env → Option Env) (g : List D → Env → Option Env) : List D → Env → Option Env := fun ds ρ => match ds with
  | d :: r => (b d ρ).bind (g r)
  | [] => none
def bTp (n : Nat) (g : List D → Env → Option Env) : D → Env → Option Env := fun d ρ => match d with
  | .tuple ds => if ds.length = n then g ds ρ else none
  | _ => none
section
variable {X : Cx} {z : Z} {js : Nat → Bool}
theorem _root_.L2.PG.mono {e : Expr} {t t' : TG} (h : PG X e t) (i : ∀ v σ H Q, t' v σ H Q → t v σ H Q) : PG X e t' := ⟨fun pins s σ H v u Q I r q => h.run pins s σ H v u Q I r (i _ _ _ _ q)⟩
theorem _root_.L2.PGs.mono {e : List Expr} {t t' : TGs} (h : PGs X e t) (i : ∀ v σ H Q, t' v σ H Q → t v σ H Q) : PGs X e t' := ⟨fun pins s σ H v u Q I r q => h.run pins s σ H v u Q I r (i _ _ _ _ q)⟩
theorem g_nm (i : Nat) {x : Str} {pos : Pos} (hN : X.N.Nodup) (hi : X.N[i]? = some x := by rfl) (hx : Loc X.env.scope x := by first | exact Or.inl rfl | exact Or.inr rfl) (hf : X.fn x = true ∨ X.env.scope.names.lookup x = some .local := by first | exact .inl rfl | exact .inr rfl) (hj : js i = true := by rfl) : PG X (.Name x pos) (tG X.K z js (bNm i)) :=
  (pg_name hN hi hx hf).mono fun v σ H Q ⟨ρ, F, O, d, ρ', R, r, e, q⟩ => by
    cases e
    exact q _ _ (R.setD r) (.set hj)
theorem g_nil : PGs X [] (tGs X.K z js bNil) := pgs_nil.mono fun vs σ H Q ⟨ρ, F, O, ds, ρ', R, r, e, q⟩ => by
  unfold bNil at e
  split at e
  · cases e
    cases r
    exact ⟨rfl, q _ _ R .refl⟩
  · cases e
theorem g_cons {e : Expr} {es : List Expr} {b : D → Env → Option Env} {g : List D → Env → Option Env} (h1 : PG X e (tG X.K z js b)) (h2 : PGs X es (tGs X.K z js g))
    (hs : (assignEach (e :: es) X.env).map (·.2) = assign e X.env :: (assignEach es X.env).map (·.2) := by rfl) : PGs X (e :: es) (tGs X.K z js (bCons b g)) :=
  (pgs_cons h1 h2 hs).mono fun vs σ H Q ⟨ρ, F, O, ds, ρ', R, r, e, q⟩ => by
    unfold bCons at e
    split at e
    · obtain ⟨ρ1, h1, h2⟩ := bind_some e
      cases r with
      | cons r t => exact ⟨_, _, rfl, ρ, F, O, _, ρ1, R, r, h1, fun σ' O' R' s => ⟨ρ1, F, O', _, ρ', R', t, h2, fun σ2 O2 R2 s2 => q σ2 O2 R2 (s.trans s2)⟩⟩
    · cases e
theorem g_tup {es : List Expr} {k n : Nat} {pos : Pos} {g : List D → Env → Option Env} (hc : X.calm = true) (h : PGs X es (tGs X.K z js g))
    (hn : (assignEach es X.env).length = n := by rfl) (hst : (assignEach es X.env).findIdx? (·.1) = none := by rfl) : PG X (.Tuple es k pos) (tG X.K z js (bTp n g)) :=
  (pg_tup hc h hn hst).mono fun v σ H Q ⟨ρ, F, O, d, ρ', R, r, e, q⟩ => by
    unfold bTp at e
    split at e
    · split at e
      · cases r with
        | tup hs t => exact ⟨_, _, rfl, sameT R.sub (sqT_of hs), by rw [t.length]; assumption, ρ, F, O, _, ρ', R, t, e, q⟩
      · cases e
    · cases e
end

/-! ## statements -/
inductive Fl where
  | nx
  | bk
  | ct
  | ret (d : D)
abbrev Gs := Env → Option (Fl × Env)
def FinS (K : PySem.W.Frag) (z : Z) (F : Hp) (D : Ends) (ρ : Env) : Fl → Prop
  | .nx => ∀ σ F' H O, Rel K z ρ σ F' H O → Same F F' → D.nx σ H
  | .bk => ∀ σ F' H O, Rel K z ρ σ F' H O → Same F F' → D.bk σ H
  | .ct => ∀ σ F' H O, Rel K z ρ σ F' H O → Same F F' → D.ct σ H
  | .ret d => ∀ v σ F' H O, Rel K z ρ σ F' H O → Same F F' → Rep K F' v d → D.rt v H
theorem FinS.from {K : PySem.W.Frag} {z : Z} {F F1 : Hp} {D : Ends} {ρ : Env} {fl : Fl} (h : FinS K z F D ρ fl) (s : Same F F1) : FinS K z F1 D ρ fl := by
  cases fl with
  | nx => exact fun σ F' H O R s' => h σ F' H O R (s.trans s')
  | bk => exact fun σ F' H O R s' => h σ F' H O R (s.trans s')
  | ct => exact fun σ F' H O R s' => h σ F' H O R (s.trans s')
  | ret d => exact fun v σ F' H O R s' => h v σ F' H O R (s.trans s')
def tS (K : PySem.W.Frag) (z : Z) (g : Gs) : TS := fun D σ H => ∃ ρ F O fl ρ', Rel K z ρ σ F H O ∧ g ρ = some (fl, ρ') ∧ FinS K z F D ρ' fl
def gNx : Gs := fun ρ => some (.nx, ρ)
def gBk : Gs := fun ρ => some (.bk, ρ)
def gCt : Gs := fun ρ => some (.ct, ρ)
def gNever : Gs := fun _ => none
def gSeq (g h : Gs) : Gs := fun ρ => (g ρ).bind fun p => match p.1 with
  | .nx => h p.2
  | _ => some p
def gAsg (f : Env → Option (D × Env)) (b : D → Env → Option Env) : Gs := fun ρ => (f ρ).bind fun p => (b p.1 p.2).map fun ρ' => (.nx, ρ')
def gSetW (i : Nat) (f : Env → Option (E × Env)) : Gs := fun ρ => (f ρ).map fun p => (.nx, p.2.set i (some p.1))
def gRet (f : Env → Option (D × Env)) : Gs := fun ρ => (f ρ).map fun p => (.ret p.1, p.2)
def gExpr (f : Env → Option (D × Env)) : Gs := fun ρ => (f ρ).map fun p => (.nx, p.2)
def gIf (c : Env → Option (Bool × Env)) (g h : Gs) : Gs := fun ρ => (c ρ).bind fun p => if p.1 = true then g p.2 else h p.2
def gLoop (b : D → Env → Option Env) (g : Gs) : List D → Gs
  | [], ρ => some (.nx, ρ)
  | d :: r, ρ => (b d ρ).bind fun ρ1 => (g ρ1).bind fun p => match p.1 with
    | .nx => gLoop b g r p.2
    | .ct => gLoop b g r p.2
    | .bk => some (.nx, p.2)
    | .ret d => some (.ret d, p.2)
def gFor (it : Env → Option (List D × Env)) (b : D → Env → Option Env) (g : Gs) : Gs := fun ρ => (it ρ).bind fun p => gLoop b g p.1 p.2
def gWhile (c : Env → Option (Bool × Env)) (g : Gs) : Nat → Gs
  | 0, _ => none
  | n + 1, ρ => (c ρ).bind fun p => if p.1 = true then (g p.2).bind fun q => match q.1 with
      | .nx => gWhile c g n q.2
      | .ct => gWhile c g n q.2
      | .bk => some (.nx, q.2)
      | .ret d => some (.ret d, q.2)
    else some (.nx, p.2)
section
variable {X : Cx} {z : Z}
theorem s_nil : PSs X [] (tS X.K z gNx) := pss_nil.mono fun D σ H ⟨ρ, F, O, fl, ρ', R, e, q⟩ => by
  cases e
  exact q σ F H O R (Same.refl _)
theorem s_cons {st : Stmt} {rest : List Stmt} {g h : Gs} (h1 : PS X st (tS X.K z g)) (h2 : PSs X rest (tS X.K z h)) : PSs X (st :: rest) (tS X.K z (gSeq g h)) :=
  (pss_cons h1 h2).mono fun D σ H ⟨ρ, F, O, fl, ρ', R, e, q⟩ => by
    obtain ⟨⟨fl1, ρ1⟩, h1, h2⟩ := bind_some e
    refine ⟨ρ, F, O, fl1, ρ1, R, h1, ?_⟩
    cases fl1 with
    | nx => exact fun σ' F' H' O' R' s => ⟨ρ1, F', O', fl, ρ', R', h2, q.from s⟩
    | bk =>
      cases h2
      exact q
    | ct =>
      cases h2
      exact q
    | ret d =>
      cases h2
      exact q
theorem s_one {st : Stmt} {g : Gs} (h : PS X st (tS X.K z g)) : PSs X [st] (tS X.K z g) := pss_one h
theorem s_pass {pos : Pos} : PS X (.Pass pos) (tS X.K z gNx) := ps_pass.mono fun D σ H ⟨ρ, F, O, fl, ρ', R, e, q⟩ => by
  cases e
  exact q σ F H O R (Same.refl _)
theorem s_break {pos : Pos} : PS X (.Break pos) (tS X.K z gBk) := ps_break.mono fun D σ H ⟨ρ, F, O, fl, ρ', R, e, q⟩ => by
  cases e
  exact q σ F H O R (Same.refl _)
theorem s_cont {pos : Pos} : PS X (.Continue pos) (tS X.K z gCt) := ps_continue.mono fun D σ H ⟨ρ, F, O, fl, ρ', R, e, q⟩ => by
  cases e
  exact q σ F H O R (Same.refl _)
theorem s_never {st : Stmt} : PS X st (tS X.K z gNever) := ps_never.mono fun D σ H ⟨ρ, F, O, fl, ρ', R, e, q⟩ => by cases e
theorem ss_never {sts : List Stmt} : PSs X sts (tS X.K z gNever) := pss_never.mono fun D σ H ⟨ρ, F, O, fl, ρ', R, e, q⟩ => by cases e
theorem asg_in {te : TE} {tg : TG} {f : Env → Option (D × Env)} {b : D → Env → Option Env} {D : Ends} {σ : L2.St} {H : Hp} (h : tS X.K z (gAsg f b) D σ H) : tAsg (tR X.K z f) (tG X.K z allJ b) D σ H := by
  obtain ⟨ρ, F, O, fl, ρ', R, e, q⟩ := h
  obtain ⟨⟨d, ρ1⟩, h1, h2⟩ := bind_some e
  obtain ⟨ρ2, h3, h4⟩ := map_some h2
  cases h4
  exact ⟨ρ, F, O, d, ρ1, R, h1, fun v F' H' R' k r => ⟨ρ1, F', O, d, _, R', r, h3, fun σ' O' R2 _ => q σ' F' H' O' R2 k.same⟩⟩
theorem s_asg {tg e : Expr} {pos : Pos} {f : Env → Option (D × Env)} {b : D → Env → Option Env} (he : PE X e (tR X.K z f)) (hg : PG X tg (tG X.K z allJ b)) (hs : swapsWithSole [tg] e pos.line X.env = pure false := by rfl) (hw : swappedStores [tg] e X.env = pure none := by rfl)
    (h1 : (assignEach [tg] X.env).map (·.2) = [assign tg X.env] := by rfl) : PS X (.Assign [tg] e pos) (tS X.K z (gAsg f b)) :=
  (ps_asg he hg hs hw h1).mono fun D σ H h => asg_in (te := tR X.K z f) (tg := tG X.K z allJ b) h
theorem s_set (i : Nat) {x : Str} {e : Expr} {pos pos' : Pos} {f : Env → Option (D × Env)} (hN : X.N.Nodup) (he : PE X e (tR X.K z f)) (hi : X.N[i]? = some x := by rfl) (hx : Loc X.env.scope x := by first | exact Or.inl rfl | exact Or.inr rfl)
    (hs : swapsWith e (some (.Name x pos')) pos.line X.env = pure false := by rfl) (hf : X.fn x = true ∨ X.env.scope.names.lookup x = some .local := by first | exact .inl rfl | exact .inr rfl) : PS X (.Assign [.Name x pos'] e pos) (tS X.K z (gAsg f (bNm i))) :=
  (ps_set hN hi hx he hs hf).mono fun D σ H ⟨ρ, F, O, fl, ρ', R, e, q⟩ => by
    obtain ⟨⟨d, ρ1⟩, h1, h2⟩ := bind_some e
    cases h2
    exact ⟨ρ, F, O, d, ρ1, R, h1, fun v F' H' R' k r => q _ _ _ _ (R'.setD r) k.same⟩
theorem setE_new {K : PySem.W.Frag} {ρ : Env} {σ : L2.St} {H F' H' : Hp} {O : Nat → List Addr} {e : E} {v : V} {as : List Addr} {i : Nat} (R0 : ∀ i a, a ∈ O i → H a ≠ none) (R : Rel K z ρ σ F' H' O) (h : Ent K z F' H' v e as) (hf : ∀ a ∈ as, H a = none ∧ F' a = none ∧ H' a ≠ none) :
    Rel K z (ρ.set i (some e)) (σ.set i (some v)) F' H' (setO O i as) :=
  R.setE h fun a ha => ⟨(hf a ha).2.1, (hf a ha).2.2, fun j _ hj => R0 j a hj (hf a ha).1⟩
theorem s_setW (i : Nat) {x : Str} {e : Expr} {pos pos' : Pos} {f : Env → Option (E × Env)} (hN : X.N.Nodup) (he : PE X e (tW X.K z f)) (hi : X.N[i]? = some x := by rfl) (hx : Loc X.env.scope x := by first | exact Or.inl rfl | exact Or.inr rfl)
    (hs : swapsWith e (some (.Name x pos')) pos.line X.env = pure false := by rfl) (hf : X.fn x = true ∨ X.env.scope.names.lookup x = some .local := by first | exact .inl rfl | exact .inr rfl) : PS X (.Assign [.Name x pos'] e pos) (tS X.K z (gSetW i f)) :=
  (ps_set hN hi hx he hs hf).mono fun D σ H ⟨ρ, F, O, fl, ρ', R, e, q⟩ => by
    obtain ⟨⟨d, ρ1⟩, h1, h2⟩ := map_some e
    cases h2
    exact ⟨ρ, F, O, d, ρ1, R, h1, fun v F' H' as R' k r hf => q _ _ _ _ (setE_new (fun i a ha => (R.off i a ha).2) R' r hf) k.same⟩
theorem s_ret {e : Expr} {pos : Pos} {f : Env → Option (D × Env)} (he : PE X e (tR X.K z f)) : PS X (.Return (some e) pos) (tS X.K z (gRet f)) :=
  (ps_ret he).mono fun D σ H ⟨ρ, F, O, fl, ρ', R, e, q⟩ => by
    obtain ⟨⟨d, ρ1⟩, h1, h2⟩ := map_some e
    cases h2
    exact ⟨ρ, F, O, d, ρ1, R, h1, fun v F' H' R' k r => q v σ F' H' O R' k.same r⟩
theorem s_retN {pos : Pos} : PS X (.Return none pos) (tS X.K z (gRet (lf (cK .none)))) := ps_retN.mono fun D σ H ⟨ρ, F, O, fl, ρ', R, e, q⟩ => by
  cases e
  exact q .non σ F H O R (Same.refl _) .non
theorem s_expr {e : Expr} {pos : Pos} {f : Env → Option (D × Env)} (he : PE X e (tR X.K z f)) (hs : swapsWith e none pos.line X.env = pure false := by rfl) : PS X (.Expr e pos) (tS X.K z (gExpr f)) :=
  (ps_expr he hs).mono fun D σ H ⟨ρ, F, O, fl, ρ', R, e, q⟩ => by
    obtain ⟨⟨d, ρ1⟩, h1, h2⟩ := map_some e
    cases h2
    exact ⟨ρ, F, O, d, ρ1, R, h1, fun v F' H' R' k r => q σ F' H' O R' k.same⟩
theorem s_doc {x j pos pos'} : PS X (.Expr (.Constant (.str x) j pos) pos') (tS X.K z gNx) := ps_doc.mono fun D σ H ⟨ρ, F, O, fl, ρ', R, e, q⟩ => by
  cases e
  exact q σ F H O R (Same.refl _)
theorem s_if {c : Expr} {a b : List Stmt} {pos : Pos} {tc : Env → Option (Bool × Env)} {g h : Gs} (hc : PT X c (tBR X.K z tc)) (ha : PSs X a (tS X.K z g)) (hb : PSs X b (tS X.K z h)) : PS X (.If c a b pos) (tS X.K z (gIf tc g h)) :=
  (ps_if hc ha hb).mono fun D σ H ⟨ρ, F, O, fl, ρ', R, e, q⟩ => by
    obtain ⟨⟨b, ρ1⟩, h1, h2⟩ := bind_some e
    refine ⟨ρ, F, O, b, ρ1, R, h1, fun F' H' R' k => ?_⟩
    cases b with
    | true => exact ⟨ρ1, F', O, fl, ρ', R', h2, q.from k.same⟩
    | false => exact ⟨ρ1, F', O, fl, ρ', R', h2, q.from k.same⟩
theorem s_for {tg iter : Expr} {body : List Stmt} {pos : Pos} {it : Env → Option (List D × Env)} {b : D → Env → Option Env} {g : Gs} (hc : X.calm = true) (hi : PI X tg iter (tIR X.K z it)) (hg : PG X tg (tG X.K z allJ b)) (hb : PSs X body (tS X.K z g))
    (hp : PassesOwn (model X.prog X.w) X.A X.env X.xe) (hs : ∀ x, foldedSetIterable iter X.env x = pure x := by intro _; rfl) : PS X (.For tg iter body [] pos) (tS X.K z (gFor it b g)) :=
  (ps_for hp hc hi hg hb hs).mono fun D σ H ⟨ρ, F, O, fl, ρ', R, e, q⟩ => by
    obtain ⟨⟨ds, ρ1⟩, h1, h2⟩ := bind_some e
    refine ⟨ρ, F, O, ds, ρ1, R, h1, fun J F1 H1 R1 k1 y => ?_⟩
    refine ⟨fun i m σ H => m = ds.length - i ∧ i ≤ ds.length ∧ ∃ ρ2 F2 O2, Rel X.K z ρ2 σ F2 H O2 ∧ Same F1 F2 ∧ gLoop b g (ds.drop i) ρ2 = some (fl, ρ'), ⟨ds.length, by simp, Nat.zero_le _, ρ1, F1, O, R1, Same.refl _, h2⟩, ?_⟩
    rintro i m σ2 H2 ⟨rfl, hi, ρ2, F2, O2, R2, s2, e2⟩
    by_cases hlt : i < ds.length
    · have ed : ds.drop i = ds[i] :: ds.drop (i + 1) := by rw [List.drop_eq_getElem_cons hlt]
      rw [ed] at e2
      obtain ⟨ρ3, e3, e4⟩ := bind_some e2
      obtain ⟨⟨fl4, ρ4⟩, e5, e6⟩ := bind_some e4
      have sH : Same F1 H2 := s2.trans R2.sub
      refine .inr ⟨y.go i H2 sH hlt, fun σ' H' => ∃ ρ2 F2 O2, Rel X.K z ρ2 σ' F2 H' O2 ∧ Same F1 F2 ∧ gLoop b g (ds.drop (i + 1)) ρ2 = some (fl, ρ'), fun σ' H' n => ⟨ds.length - (i + 1), by omega, rfl, by omega, n⟩, fun x H' yx => ?_⟩
      obtain ⟨sx, rx⟩ := y.yld i F2 H2 x H' _ s2 R2.sub R2.tup yx (List.getElem?_eq_getElem hlt)
      have R3 := R2.grow sx
      refine ⟨ρ2, _, O2, _, ρ3, R3, rx, e3, fun σ5 O5 R5 _ => ⟨ρ3, _, O5, fl4, ρ4, R5, e5, ?_⟩⟩
      have s5 : Same F1 (ext F2 H2 H') := s2.trans (same_ext R2.sub)
      cases fl4 with
      | nx => exact fun σ6 F6 H6 O6 R6 s6 => ⟨ρ4, F6, O6, R6, s5.trans s6, e6⟩
      | ct => exact fun σ6 F6 H6 O6 R6 s6 => ⟨ρ4, F6, O6, R6, s5.trans s6, e6⟩
      | bk =>
        cases e6
        exact fun σ6 F6 H6 O6 R6 s6 => q σ6 F6 H6 O6 R6 ((k1.same.trans s5).trans s6)
      | ret d =>
        cases e6
        exact fun v σ6 F6 H6 O6 R6 s6 r => q v σ6 F6 H6 O6 R6 ((k1.same.trans s5).trans s6) r
    · have ei : i = ds.length := by omega
      subst ei
      rw [List.drop_length] at e2
      cases e2
      exact .inl ⟨y.stop _ H2 (s2.trans R2.sub) rfl, q σ2 F2 H2 O2 R2 (k1.same.trans s2)⟩
theorem s_while {c : Expr} {body : List Stmt} {pos : Pos} {tc : Env → Option (Bool × Env)} {g : Gs} (n : Nat) (hc : PT X c (tBR X.K z tc)) (hb : PSs X body (tS X.K z g)) (hp : PassesOwn (model X.prog X.w) X.A X.env X.xe) : PS X (.While c body [] pos) (tS X.K z (gWhile tc g n)) :=
  (ps_while hp hc hb).mono fun D σ H ⟨ρ, F, O, fl, ρ', R, e, q⟩ => by
    refine ⟨fun m σ H => ∃ ρ2 F2 O2, Rel X.K z ρ2 σ F2 H O2 ∧ Same F F2 ∧ gWhile tc g m ρ2 = some (fl, ρ'), ⟨n, ρ, F, O, R, Same.refl _, e⟩, ?_⟩
    rintro m σ2 H2 ⟨ρ2, F2, O2, R2, s2, e2⟩
    cases m with
    | zero => cases e2
    | succ m =>
      obtain ⟨⟨b, ρ3⟩, e3, e4⟩ := bind_some e2
      refine ⟨ρ2, F2, O2, b, ρ3, R2, e3, fun F' H' R' k => ?_⟩
      have sF := s2.trans k.same
      cases b with
      | false =>
        show D.nx σ2 H'
        rw [if_neg Bool.false_ne_true] at e4
        cases e4
        exact q σ2 F' H' O2 R' sF
      | true =>
        rw [if_pos rfl] at e4
        obtain ⟨⟨fl4, ρ4⟩, e5, e6⟩ := bind_some e4
        refine ⟨fun σ' H' => ∃ ρ2 F2 O2, Rel X.K z ρ2 σ' F2 H' O2 ∧ Same F F2 ∧ gWhile tc g m ρ2 = some (fl, ρ'), fun σ' H' h => ⟨m, Nat.lt_succ_self _, h⟩, ρ3, F', O2, fl4, ρ4, R', e5, ?_⟩
        cases fl4 with
        | nx => exact fun σ6 F6 H6 O6 R6 s6 => ⟨ρ4, F6, O6, R6, sF.trans s6, e6⟩
        | ct => exact fun σ6 F6 H6 O6 R6 s6 => ⟨ρ4, F6, O6, R6, sF.trans s6, e6⟩
        | bk =>
          cases e6
          exact fun σ6 F6 H6 O6 R6 s6 => q σ6 F6 H6 O6 R6 (sF.trans s6)
        | ret d =>
          cases e6
          exact fun v σ6 F6 H6 O6 R6 s6 r => q v σ6 F6 H6 O6 R6 (sF.trans s6) r
end
end DL

namespace DL
open PySem PySem.Spec PyProof.Rows L2

/-! ## reading what is a slot's own -/
def isAt : D → Bool
  | .none => true
  | .bool _ => true
  | .int _ => true
  | .str _ => true
  | _ => false
def thF : Fd → D
  | .sh d => d
  | .own d => d
  | .own2 d => d
def thE : Option E → Option E
  | some (.own d) => some (.sh d)
  | some (.own2 d) => some (.sh d)
  | some (.row d) => some (.sh d)
  | some (.dk l ks) => some (.sh (frzE (.dk l ks)))
  | some (.dt _ _) => none
  | some (.fn _ _) => none
  | some (.ob _ fs) => some (.obs (fs.map fun p => (p.1, thF p.2)))
  | e => e
def cBor (f : Env → Option D) : Env → Option D := fun ρ => (f (ρ.map thE)).bind fun d => if isAt d then some d else none
def bBor (f : Env → Option Bool) : Env → Option Bool := fun ρ => f (ρ.map thE)
section
variable {X : Cx} {z : Z}
theorem Obj1.rep {K : PySem.W.Frag} {F H : Hp} {p : Addr} {d : D} (s : Same F H) (h : Obj1 K F H p d) : Rep K H (.ref p) d := by
  cases d with
  | list ds =>
    obtain ⟨vs, h1, h2⟩ := h
    exact .lst (.of h1) (h2.mono s)
  | _ => exact h.elim
theorem Objs.rep {K : PySem.W.Frag} {F H : Hp} (s : Same F H) : ∀ {ps : List Addr} {ds : List D}, Objs K F H ps ds → RepL K H (ps.map V.ref) ds
  | _, _, .nil => .nil
  | _, _, .cons h t => .cons (h.rep s) (Objs.rep s t)
theorem Ent.rep {K : PySem.W.Frag} {z : Z} {F H : Hp} {v : V} {e : E} {as : List Addr} (s : Same F H) (h : Ent K z F H v e as) (hd : ((∀ l ks, e ≠ .dt l ks) ∧ ∀ j f, e ≠ .fn j f) ∧ (∀ m fs, e ≠ .ob m fs) ∧ ∀ fs, e ≠ .obs fs) : Rep K H v (frzE e) := by
  cases e with
  | ob m fs => exact absurd rfl (hd.2.1 m fs)
  | obs fs => exact absurd rfl (hd.2.2 fs)
  | dt l ks => exact absurd rfl (hd.1.1 l ks)
  | fn j f => exact absurd rfl (hd.1.2 j f)
  | dk l ks =>
    obtain ⟨p, kvs, e1, e2, e3, h⟩ := h
    subst e1
    have ek : (ks.map fun p => (kD p.1, p.2)).map (·.1) = kvs.map (fun p => kD p.1) := by
      have := congrArg (List.map kD) e2
      rw [List.map_map, List.map_map] at this
      rw [List.map_map]
      exact this.symm
    have ev : (ks.map fun p => (kD p.1, p.2)).map (·.2) = ks.map (·.2) := by rw [List.map_map]; rfl
    refine .dic ?_ ek (by rw [ev]; exact e3.mono s)
    rcases h with ⟨_, _, _, h4⟩ | ⟨_, _, o, h3⟩
    · exact .of h4
    · exact .inr ⟨o, s _ _ h3⟩
  | sh d => exact h.2.mono s
  | own d =>
    obtain ⟨p, e1, _, _, h⟩ := h
    subst e1
    exact h.rep s
  | row d =>
    obtain ⟨p, e1, _, _, h⟩ := h
    subst e1
    exact h.rep s
  | own2 d =>
    obtain ⟨p, qs, ds, e1, e2, e3, h1, h2, _, h4⟩ := h
    subst e1 e3
    exact .lst (.of h1) (h4.rep s)
theorem thE_some {e : Option E} {e' : E} (h : thE e = some e') : ∃ e0, e = some e0 ∧ ((e' = .sh (frzE e0) ∧ ((∀ l ks, e0 ≠ .dt l ks) ∧ ∀ j f, e0 ≠ .fn j f) ∧ (∀ m fs, e0 ≠ .ob m fs) ∧ ∀ fs, e0 ≠ .obs fs) ∨ (∃ m fs, e0 = .ob m fs ∧ e' = .obs (fs.map fun p => (p.1, thF p.2))) ∨ ∃ fs, e0 = .obs fs ∧ e' = .obs fs) := by
  cases e with
  | none => cases h
  | some e =>
    refine ⟨e, rfl, ?_⟩
    cases e <;> first | (cases h; exact .inl ⟨rfl, ⟨(fun _ _ q => nomatch q), fun _ _ q => nomatch q⟩, (fun _ _ q => nomatch q), fun _ q => nomatch q⟩) | (cases h; exact .inr (.inl ⟨_, _, rfl, rfl⟩)) | (cases h; exact .inr (.inr ⟨_, rfl, rfl⟩)) | cases h
theorem Fds.rep {K : PySem.W.Frag} {F H : Hp} (s : Same F H) : ∀ {xs : List (Str × V)} {fs : List (Str × Fd)} {as : List Addr}, Fds K F H xs fs as → xs.map (·.1) = (fs.map fun p => (p.1, thF p.2)).map (·.1) ∧ RepL K H (xs.map (·.2)) ((fs.map fun p => (p.1, thF p.2)).map (·.2))
  | _, _, _, .nil => ⟨rfl, .nil⟩
  | _, _, _, .sh r t => ⟨congrArg (_ :: ·) (Fds.rep s t).1, .cons (r.mono s) (Fds.rep s t).2⟩
  | _, _, _, .own o t => ⟨congrArg (_ :: ·) (Fds.rep s t).1, .cons (o.rep s) (Fds.rep s t).2⟩
  | _, _, _, .own2 h o t => ⟨congrArg (_ :: ·) (Fds.rep s t).1, .cons (.lst (.of h) (o.rep s)) (Fds.rep s t).2⟩
theorem Rel.thaw {K : PySem.W.Frag} {z : Z} {ρ : Env} {σ : L2.St} {F H : Hp} {O : Nat → List Addr} (R : Rel K z ρ σ F H O) : Rel K ⟨H, H, fun _ => False, z.cl, []⟩ (ρ.map thE) σ H H (fun _ => []) where
  len := by rw [List.length_map, R.len]
  sub := Same.refl _
  ent := fun i e h => by
    rw [List.getElem?_map] at h
    obtain ⟨e1, h1, h2⟩ := map_some h
    obtain ⟨e0, h3, h4⟩ := thE_some h2
    subst h3
    obtain ⟨v, hv, hE⟩ := R.ent i e0 h1
    rcases h4 with ⟨h4, h5⟩ | ⟨m, fs, h4, h5⟩ | ⟨fs, h4, h5⟩
    · subst h4
      exact ⟨v, hv, rfl, hE.rep R.sub h5⟩
    · subst h4 h5
      obtain ⟨p, dx, xs, as', e1, e2, h1, h2, h3, h4, h5⟩ := hE
      obtain ⟨n1, n2⟩ := h5.rep R.sub
      exact ⟨v, hv, rfl, p, _, dx, xs, e1, h1, by rw [List.map_map]; exact h2, n1, n2⟩
    · subst h4 h5
      obtain ⟨_, p, C, dx, xs, e1, h1, h2, h3, h4⟩ := hE
      exact ⟨v, hv, rfl, p, C, dx, xs, e1, R.sub _ _ h1, h2, h3, h4.mono R.sub⟩
  off := fun i a ha => by cases ha
  apt := fun i j a ha => by cases ha
  old := fun a h f => absurd f h
  oldH := fun a h => h
  keep := fun a o h _ => h
  f0 := Same.refl _
  tup := AllT.refl _
theorem rep_at {K : PySem.W.Frag} {F F' : Hp} {v : V} {d : D} (h : isAt d = true) (r : Rep K F v d) : Rep K F' v d := by
  cases r with
  | non => exact .non
  | bl b => exact .bl b
  | int i => exact .int i
  | str s => exact .str s
  | _ => cases h
theorem q_bor {e : Expr} {f : Env → Option D} (h : ∀ z : Z, PE X e (tP X.K z f)) : PE X e (tP X.K z (cBor f)) :=
  ⟨fun pins s σ H Q I ⟨ρ, F, O, d, R, e, q⟩ => by
    obtain ⟨d', h1, h2⟩ := bind_some e
    split at h2
    · next ha =>
      cases h2
      exact (h ⟨H, H, fun _ => False, z.cl, []⟩).run pins s σ H Q I ⟨_, H, _, _, R.thaw, h1, fun v H' sm r => q v H' sm (rep_at ha r)⟩
    · cases h2⟩
theorem b_bor {e : Expr} {f : Env → Option Bool} (h : ∀ z : Z, PT X e (tB X.K z f)) : PT X e (tB X.K z (bBor f)) :=
  ⟨fun pins s σ H Q I ⟨ρ, F, O, b, R, e, q⟩ =>
    (h ⟨H, H, fun _ => False, z.cl, []⟩).run pins s σ H Q I ⟨_, H, _, _, R.thaw, e, q⟩⟩

/-! ### an item of an own list -/
def ownL (e : Option (Option E)) : Option (List D) := match e with
  | some (some (.own (.list ds))) => some ds
  | some (some (.row (.list ds))) => some ds
  | _ => none
theorem ownL_of {K : PySem.W.Frag} {z : Z} {ρ : Env} {σ : L2.St} {F H : Hp} {O : Nat → List Addr} {i : Nat} {ds : List D} (R : Rel K z ρ σ F H O) (h : ownL ρ[i]? = some ds) : ∃ p vs, σ[i]? = some (some (.ref p)) ∧ O i = [p] ∧ H p = some (.lst vs) ∧ RepL K F vs ds ∧ (z.H0 p = none ∨ z.B p) ∧ ((ρ[i]? = some (some (.own (.list ds))) ∧ z.H0 p = none) ∨ (ρ[i]? = some (some (.row (.list ds))) ∧ z.B p)) := by
  unfold ownL at h
  split at h
  · next hi =>
    cases h
    obtain ⟨v, h1, p, e1, e2, e3, vs, h2, h3⟩ := R.ent i _ hi
    subst e1
    exact ⟨p, vs, h1, e2, h2, h3, .inl e3, .inl ⟨hi, e3⟩⟩
  · next hi =>
    cases h
    obtain ⟨v, h1, p, e1, e2, e3, vs, h2, h3⟩ := R.ent i _ hi
    subst e1
    exact ⟨p, vs, h1, e2, h2, h3, .inr e3, .inr ⟨hi, e3⟩⟩
  · cases h
def cIxO (i : Nat) (f : Env → Option D) : Env → Option D := fun ρ => (ownL ρ[i]?).bind fun ds => (f ρ).bind fun k => match k with
  | .int k => atI ds k
  | _ => none
theorem q_ixO (i : Nat) {x : Str} {e : Expr} {pos p2 : Pos} {f : Env → Option D} (he : PE X e (tP X.K z f)) (hN : X.N[i]? = some x := by rfl) (hv : Vis X.env.scope x := by first | exact Or.inl rfl | exact Or.inr (Or.inl rfl) | exact Or.inr (Or.inr rfl)) (hd : (x == ("__debug__" : Str)) = false := by decide)
    (hcd : (x == ("__classdict__" : Str)) = false := by decide) (hs : PlainIx e := by exact fun _ _ => rfl) : PE X (.Subscript (.Name x pos) e p2) (tP X.K z (cIxO i f)) :=
  (pe_ix ix_seq (pe_var hN hv hd hcd) he hs).mono fun σ H Q ⟨ρ, F, O, d, R, e, q⟩ => by
    obtain ⟨ds, h1, e⟩ := bind_some e
    obtain ⟨k, h2, e⟩ := bind_some e
    obtain ⟨p, vs, s1, s2, s3, s4, _⟩ := ownL_of R h1
    refine ⟨_, s1, ρ, F, O, k, R, h2, fun v H1 sm r => ?_⟩
    split at e
    · cases r
      obtain ⟨w, w1, w2⟩ := atI_rep s4 e
      exact .inl ⟨p, vs, _, w, rfl, rfl, .of (sm _ _ s3), w1, q w H1 sm (w2.mono (same_ext R.sub))⟩
    · cases e

/-! ### own objects become shared -/
theorem Rel.freeze {K : PySem.W.Frag} {ρ : Env} {σ : L2.St} {F H : Hp} {O : Nat → List Addr} {i : Nat} {e : E} (R : Rel K z ρ σ F H O) (h : ρ[i]? = some (some e)) (hr : canFz e = true) : ∃ F', Same F F' ∧ Rel K z (ρ.set i (some (.sh (frzE e)))) σ F' H (setO O i []) := by
  obtain ⟨v, hv, hE⟩ := R.ent i e h
  obtain ⟨F', s, c, r⟩ := ent_rep hE hr fun a ha => (R.off i a ha).1
  have h0 : ∀ a ∈ O i, z.H0 a = none := fun a ha => by
    cases e with
    | sh d =>
      rw [hE.1] at ha
      cases ha
    | row d => cases hr
    | dt l ks => cases hr
    | fn j f => cases hr
    | ob m fs => cases hr
    | obs fs => cases hr
    | dk l ks =>
      obtain ⟨p, kvs, _, _, _, q⟩ := hE
      rcases q with ⟨_, e2, e3, _⟩ | ⟨_, e2, _⟩
      · rw [e2] at ha
        rcases List.mem_cons.mp ha with q | q
        · rw [q]
          exact e3
        · cases q
      · rw [e2] at ha
        cases ha
    | own d =>
      obtain ⟨p, _, e2, e3, _⟩ := hE
      rw [e2] at ha
      rcases List.mem_cons.mp ha with q | q
      · rw [q]
        exact e3
      · cases q
    | own2 d =>
      obtain ⟨p, qs, ds, _, e2, _, _, _, e3, _⟩ := hE
      rw [e2] at ha
      exact e3 a ha
  refine ⟨F', s, ⟨?_, ?_, ?_, ?_, ?_, ?_, R.oldH, R.keep, R.f0.trans s, fun a vs e => by
    by_cases q : F' a = F a
    · rw [q]
      exact R.tup a vs e
    · rw [(c a q).2]
      exact e⟩⟩
  · rw [List.length_set, R.len]
  · intro a o ea
    by_cases q : F' a = F a
    · exact R.sub a o (q ▸ ea)
    · rw [← (c a q).2]
      exact ea
  · intro j e' hj
    unfold setO
    by_cases q : j = i
    · subst q
      have hl : j < ρ.length := (List.getElem?_eq_some_iff.mp h).1
      rw [List.getElem?_set_self hl] at hj
      cases hj
      rw [if_pos rfl]
      exact ⟨v, hv, rfl, r⟩
    · rw [List.getElem?_set_ne (Ne.symm q)] at hj
      rw [if_neg q]
      obtain ⟨w, h1, h2⟩ := R.ent j e' hj
      exact ⟨w, h1, h2.mono s fun _ _ => rfl⟩
  · intro j a ha
    unfold setO at ha
    split at ha
    · cases ha
    · next q =>
      refine ⟨?_, (R.off j a ha).2⟩
      by_cases q2 : F' a = F a
      · rw [q2]
        exact (R.off j a ha).1
      · exact absurd (R.apt j i a ha (c a q2).1) q
  · intro j k a hj hk
    unfold setO at hj hk
    split at hj
    · cases hj
    · split at hk
      · cases hk
      · exact R.apt j k a hj hk
  · intro a h1 h2
    by_cases q2 : F' a = F a
    · rw [q2]
      exact R.old a h1 h2
    · exact absurd (h0 a (c a q2).1) h1
def fz (i : Nat) (ρ : Env) : Env := match ρ[i]? with
  | some (some (.own d)) => ρ.set i (some (.sh d))
  | some (some (.own2 d)) => ρ.set i (some (.sh d))
  | some (some (.dk l ks)) => ρ.set i (some (.sh (frzE (.dk l ks))))
  | _ => ρ
def gFz (i : Nat) (g : Gs) : Gs := fun ρ => g (fz i ρ)
theorem Rel.fz {K : PySem.W.Frag} {ρ : Env} {σ : L2.St} {F H : Hp} {O : Nat → List Addr} (i : Nat) (R : Rel K z ρ σ F H O) : ∃ F' O', Same F F' ∧ Rel K z (DL.fz i ρ) σ F' H O' := by
  unfold DL.fz
  split
  · next h =>
    obtain ⟨F', s, R'⟩ := R.freeze h rfl
    exact ⟨F', _, s, R'⟩
  · next h =>
    obtain ⟨F', s, R'⟩ := R.freeze h rfl
    exact ⟨F', _, s, R'⟩
  · next h =>
    obtain ⟨F', s, R'⟩ := R.freeze h rfl
    exact ⟨F', _, s, R'⟩
  · exact ⟨F, O, Same.refl _, R⟩
theorem fz_in {t : TS} {g : Gs} (i : Nat) {D : Ends} {σ : L2.St} {H : Hp} {K : PySem.W.Frag} (h : tS K z (gFz i g) D σ H) : tS K z g D σ H := by
  obtain ⟨ρ, F, O, fl, ρ', R, e, q⟩ := h
  obtain ⟨F', O', s, R'⟩ := R.fz i
  exact ⟨_, F', O', fl, ρ', R', e, q.from s⟩
theorem s_fz (i : Nat) {st : Stmt} {g : Gs} (h : PS X st (tS X.K z g)) : PS X st (tS X.K z (gFz i g)) := h.mono fun D σ H q => fz_in (t := tNext) i q
theorem ss_fz (i : Nat) {st : List Stmt} {g : Gs} (h : PSs X st (tS X.K z g)) : PSs X st (tS X.K z (gFz i g)) := h.mono fun D σ H q => fz_in (t := tNext) i q

/-! ### own objects are written -/
theorem Rel.mut {K : PySem.W.Frag} {ρ : Env} {σ : L2.St} {F H : Hp} {O : Nat → List Addr} {i : Nat} {a : Addr} {o : HO} {e : E} {v : V} (R : Rel K z ρ σ F H O) (ha : a ∈ O i) (hz : z.H0 a = none ∨ z.B a) (hv : σ[i]? = some (some v)) (he : Ent K z F (upd H a o) v e (O i)) (ho : ∀ vs, o ≠ .tup vs := by intro _ q; cases q) : Rel K z (ρ.set i (some e)) σ F (upd H a o) O where
  len := by rw [List.length_set, R.len]
  sub := DL.Same.upd2 R.sub (R.off i a ha).1
  ent := fun j e' hj => by
    by_cases q : j = i
    · subst q
      have hl : j < ρ.length := by
        have := (List.getElem?_eq_some_iff.mp hj).1
        rw [List.length_set] at this
        exact this
      rw [List.getElem?_set_self hl] at hj
      cases hj
      exact ⟨v, hv, he⟩
    · rw [List.getElem?_set_ne (Ne.symm q)] at hj
      obtain ⟨w, h1, h2⟩ := R.ent j e' hj
      exact ⟨w, h1, h2.mono (Same.refl _) fun b hb => upd_ne (show b ≠ a from fun x => q (R.apt j i a (x ▸ hb) ha))⟩
  off := fun j b hb => ⟨(R.off j b hb).1, by
    by_cases q : b = a
    · rw [q, upd_same]
      exact fun z => nomatch z
    · rw [upd_ne q]
      exact (R.off j b hb).2⟩
  apt := R.apt
  old := R.old
  oldH := fun b h => by
    by_cases e : b = a
    · rw [e, upd_same]
      exact fun z => nomatch z
    · rw [upd_ne e]
      exact R.oldH b h
  keep := fun b o' h nb => by
    have e : b ≠ a := fun e => by
      subst e
      rcases hz with hz | hz
      · rw [hz] at h
        cases h
      · exact nb hz
    rw [upd_ne e]
    exact R.keep b o' h nb
  f0 := R.f0
  tup := R.tup.up ho
/-- the slot's own list gets new items -/
def putL (i : Nat) (es : List D) (ρ : Env) : Env := match ρ[i]? with
  | some (some (.row _)) => ρ.set i (some (.row (.list es)))
  | _ => ρ.set i (some (.own (.list es)))
theorem Rel.putL {K : PySem.W.Frag} {ρ : Env} {σ : L2.St} {F H : Hp} {O : Nat → List Addr} {i : Nat} {ds es : List D} {p : Addr} {ws : List V} (R : Rel K z ρ σ F H O) (h : ownL ρ[i]? = some ds) (hp : σ[i]? = some (some (.ref p))) (r : RepL K F ws es) : Rel K z (DL.putL i es ρ) σ F (upd H p (.lst ws)) O := by
  obtain ⟨p', vs, s1, s2, s3, s4, s5, s6⟩ := ownL_of R h
  rw [s1] at hp
  cases hp
  have hm : p ∈ O i := by rw [s2]; exact List.mem_cons_self
  unfold DL.putL
  rcases s6 with ⟨q, q2⟩ | ⟨q, q2⟩
  · rw [q]
    exact R.mut hm s5 s1 ⟨p, rfl, s2, q2, ws, upd_same, r⟩
  · rw [q]
    exact R.mut hm s5 s1 ⟨p, rfl, s2, q2, ws, upd_same, r⟩
/-- x.append(e) -/
def gApp (i : Nat) (f : Env → Option (D × Env)) : Gs := fun ρ => (ownL ρ[i]?).bind fun _ => (f ρ).bind fun p => (ownL p.2[i]?).bind fun ds => if ds.length ≤ 1000 then some (.nx, putL i (ds ++ [p.1]) p.2) else none
theorem s_app (i : Nat) {x : Str} {e : Expr} {f : Env → Option (D × Env)} {p1 p2 p3 pos : Pos} (he : PE X e (tR X.K z f)) (hN : X.N[i]? = some x := by rfl) (hv : Vis X.env.scope x := by first | exact Or.inl rfl | exact Or.inr (Or.inl rfl) | exact Or.inr (Or.inr rfl)) (hd : (x == ("__debug__" : Str)) = false := by decide)
    (hcd : (x == ("__classdict__" : Str)) = false := by decide)
    (hbase : attributeBase (.Name x p1) "append" X.env (eval (.Name x p1) X.env) = eval (.Name x p1) X.env := by rfl)
    (hfew : ((backTo p3 (starEach [e] X.env)).all (fun x => !x.1) && (backToKw p3 (keywordEach [] X.env)).all (fun x => x.1.isSome)
      && decide ([e].length + ([] : List Keyword).length + (if ([] : List Keyword).isEmpty then 0 else 1) < 30)) = true := by rfl)
    (hline : (p2.endLine == p3.line) = true := by rfl) (hs : starEach [e] X.env = (false, eval e X.env) :: starEach [] X.env := by rfl) (hpl : (backTo p3 (starEach [] X.env)).any (·.1) = false := by rfl)
    (hsw : swapsWith (.Call (.Attribute (.Name x p1) "append" p2) [e] [] p3) none pos.line X.env = pure false := by rfl) :
    PS X (.Expr (.Call (.Attribute (.Name x p1) "append" p2) [e] [] p3) pos) (tS X.K z (gApp i f)) :=
  (ps_expr (pe_bm PySem.F.plainAttrs_list PySem.F.slot_list_append PySem.F.type_list_append mt_append (pe_var hN hv hd hcd) (pa_cons he pa_nil hs) hbase hfew hline hs hpl) hsw).mono fun D σ H ⟨ρ, F, O, fl, ρ', R, e, q⟩ => by
    obtain ⟨d0, h0, e⟩ := bind_some e
    obtain ⟨⟨d, ρ1⟩, h1, e⟩ := bind_some e
    obtain ⟨ds, h2, e⟩ := bind_some e
    split at e
    · next hl =>
      cases e
      obtain ⟨p, vs, s1, s2, s3, s4, _⟩ := ownL_of R h0
      refine ⟨_, s1, .inl ⟨rfl, _, SqL.of s3⟩, ρ, F, O, d, ρ1, R, h1, fun v F' H' R' k r => ?_⟩
      obtain ⟨p', vs', t1, t2, t3, t4, _⟩ := ownL_of R' h2
      have e1 := s1.symm.trans t1
      cases e1
      refine ⟨p, vs', v, rfl, rfl, t3, by have := t4.length; have := small1000 hl; omega, ?_⟩
      exact q σ F' _ O (R'.putL h2 s1 (t4.append (.cons r .nil))) k.same
    · cases e
/-- x[k] = e -/
def gSetI (i : Nat) (f g : Env → Option (D × Env)) : Gs := fun ρ => (f ρ).bind fun p => (ownL p.2[i]?).bind fun _ => (g p.2).bind fun q => match q.1 with
  | .int k => (ownL q.2[i]?).bind fun ds => (ixN ds.length k).map fun j => (.nx, putL i (ds.set j p.1) q.2)
  | _ => none
theorem s_setI (i : Nat) {x : Str} {e b : Expr} {f g : Env → Option (D × Env)} {p1 p2 pos : Pos} (he : PE X e (tR X.K z f)) (hb : PE X b (tR X.K z g)) (hN : X.N[i]? = some x := by rfl) (hv : Vis X.env.scope x := by first | exact Or.inl rfl | exact Or.inr (Or.inl rfl) | exact Or.inr (Or.inr rfl)) (hd : (x == ("__debug__" : Str)) = false := by decide)
    (hcd : (x == ("__classdict__" : Str)) = false := by decide)
    (ha : ∀ v, assign (.Subscript (.Name x p1) b p2) X.env v = (do
      let ov ← holding [v] (eval (.Name x p1) X.env)
      let iv ← holding [v, ov] (eval b X.env)
      standAt p2
      holding [v, ov, iv] (setItem ov iv v)
      release [v, ov, iv] []) := by intro _; rfl)
    (hs : swapsWithSole [.Subscript (.Name x p1) b p2] e pos.line X.env = pure false := by rfl) (hw : swappedStores [.Subscript (.Name x p1) b p2] e X.env = pure none := by rfl)
    (h1 : (assignEach [.Subscript (.Name x p1) b p2] X.env).map (·.2) = [assign (.Subscript (.Name x p1) b p2) X.env] := by rfl) :
    PS X (.Assign [.Subscript (.Name x p1) b p2] e pos) (tS X.K z (gSetI i f g)) :=
  (ps_asg he (pg_sub (pe_var hN hv hd hcd) hb set_list ha) hs hw h1).mono fun D σ H ⟨ρ, F, O, fl, ρ', R, e, q⟩ => by
    obtain ⟨⟨d, ρ1⟩, h1, e⟩ := bind_some e
    obtain ⟨d0, h0, e⟩ := bind_some e
    obtain ⟨⟨k, ρ2⟩, h2, e⟩ := bind_some e
    dsimp only at e
    split at e
    · obtain ⟨ds, h3, e⟩ := bind_some e
      obtain ⟨j, h4, e⟩ := map_some e
      cases e
      refine ⟨ρ, F, O, d, ρ1, R, h1, fun v F1 H1 R1 k1 r1 => ?_⟩
      obtain ⟨p, vs, s1, _⟩ := ownL_of R1 h0
      refine ⟨_, s1, ρ1, F1, O, _, ρ2, R1, h2, fun w F2 H2 R2 k2 r2 => ?_⟩
      cases r2
      obtain ⟨p', vs', t1, t2, t3, t4, _⟩ := ownL_of R2 h3
      have e1 := s1.symm.trans t1
      cases e1
      exact ⟨p, vs', _, j, rfl, rfl, t3, by rw [t4.length]; exact h4, q σ F2 _ O (R2.putL h3 s1 (t4.set j (r1.mono k2.same))) (k1.same.trans k2.same)⟩
    · cases e
/-- x[k] op= e -/
theorem get_list : PGet X (rIxL X.K) := by
  intro pins s σ H x y v u Q I rx ry h
  obtain ⟨p, xs, i, z, rfl, rfl, hq, he, q⟩ := h
  cases rx
  obtain ⟨t, rfl⟩ := ry
  obtain ⟨its, r, pl, hz⟩ := I.list hq
  obtain ⟨j, h1, h2, h3, h4, h5⟩ := atI_get he
  obtain ⟨w, ew, rw'⟩ := r.get h2
  have hl := r.length
  have hn := line63
  have fin : EP X pins σ Q w s := ⟨z, H, I, rw', q⟩
  by_cases h0 : 0 ≤ i
  · have hj : i.toNat = j := by
      rw [seqIndex_of h0 h5] at h1
      exact Option.some.inj h1
    exact wpAny_getItem_list pl.isList h0 (by omega) (by rw [hj]; simpa using ew) fin
  · have hj : (i + (its.toArray.size : Int)).toNat = j := by
      rw [seqIndex_neg (by omega) h4] at h1
      rw [List.size_toArray, ← hl]
      exact Option.some.inj h1
    exact wpAny_getItem_list_neg pl.isList (by omega) (by rw [List.size_toArray] <;> omega) (by omega) (by rw [hj]; simpa using ew) fin
def gAugI (i : Nat) (o : D → D → Option D) (g f : Env → Option (D × Env)) : Gs := fun ρ => (ownL ρ[i]?).bind fun _ => (g ρ).bind fun p => match p.1 with
  | .int k => (ownL p.2[i]?).bind fun ds => (atI ds k).bind fun x => (f p.2).bind fun q => (o x q.1).bind fun y => (ownL q.2[i]?).bind fun es => (ixN es.length k).map fun j => (.nx, putL i (es.set j y) q.2)
  | _ => none
theorem s_augI (i : Nat) {x : Str} {e b : Expr} {op : Operator} {r : R2} {o : D → D → Option D} {f g : Env → Option (D × Env)} {p1 p2 pos : Pos} (hr : OpR X (inplaceOp op) r) (ho : Op2 X.K r o) (hb : PE X b (tR X.K z g)) (he : PE X e (tR X.K z f)) (hN : X.N[i]? = some x := by rfl) (hv : Vis X.env.scope x := by first | exact Or.inl rfl | exact Or.inr (Or.inl rfl) | exact Or.inr (Or.inr rfl)) (hd : (x == ("__debug__" : Str)) = false := by decide)
    (hcd : (x == ("__classdict__" : Str)) = false := by decide)
    (ha : ∀ ov iv new, augStore b ov iv new = (do holding [new, ov, iv] (setItem ov iv new); release [new, ov, iv] []; pure .next) := by intros; rfl) : PS X (.AugAssign (.Subscript (.Name x p1) b p2) op e pos) (tS X.K z (gAugI i o g f)) :=
  (ps_augS (pe_var hN hv hd hcd) hb get_list he hr set_list ha).mono fun D σ H ⟨ρ, F, O, fl, ρ', R, e, q⟩ => by
    obtain ⟨d0, h0, e⟩ := bind_some e
    obtain ⟨⟨k, ρ1⟩, h1, e⟩ := bind_some e
    dsimp only at e
    split at e
    · obtain ⟨ds, h2, e⟩ := bind_some e
      obtain ⟨xd, h3, e⟩ := bind_some e
      obtain ⟨⟨ed, ρ2⟩, h4, e⟩ := bind_some e
      obtain ⟨yd, h5, e⟩ := bind_some e
      obtain ⟨es, h6, e⟩ := bind_some e
      obtain ⟨j, h7, e⟩ := map_some e
      cases e
      obtain ⟨p, vs, s1, _⟩ := ownL_of R h0
      refine ⟨_, s1, ρ, F, O, _, ρ1, R, h1, fun v F1 H1 R1 k1 r1 => ?_⟩
      cases r1
      obtain ⟨p', vs', t1, t2, t3, t4, _⟩ := ownL_of R1 h2
      have e1 := s1.symm.trans t1
      cases e1
      obtain ⟨w, w1, w2⟩ := atI_rep t4 h3
      refine ⟨p, vs', _, w, rfl, rfl, .of t3, w1, ρ1, F1, O, ed, ρ2, R1, h4, fun y F2 H2 R2 k2 r2 => ?_⟩
      refine ho.run F2 H2 w y xd ed yd _ R2.sub (w2.mono k2.same) r2 h5 fun u H3 s3 r3 => ?_
      have R3 := R2.grow s3
      obtain ⟨p', vs3, t1, t2, t3, t4, _⟩ := ownL_of R3 h6
      have e1 := s1.symm.trans t1
      cases e1
      exact ⟨p, vs3, _, j, rfl, rfl, t3, by rw [t4.length]; exact h7, q σ _ _ O (R3.putL h6 s1 (t4.set j r3)) ((k1.same.trans k2.same).trans (same_ext R2.sub))⟩
    · cases e
/-- x op= e -/
def gAug (i : Nat) (o : D → D → Option D) (f : Env → Option (D × Env)) : Gs := fun ρ => (cVar i ρ).bind fun d => (f ρ).bind fun p => (o d p.1).map fun y => (.nx, p.2.set i (some (.sh y)))
theorem s_aug (i : Nat) {x : Str} {e : Expr} {op : Operator} {r : R2} {o : D → D → Option D} {f : Env → Option (D × Env)} {p1 pos : Pos} (hr : OpR X (inplaceOp op) r) (ho : Op2 X.K r o) (hN : X.N.Nodup) (he : PE X e (tR X.K z f)) (hi : X.N[i]? = some x := by rfl) (hx : Loc X.env.scope x := by first | exact Or.inl rfl | exact Or.inr rfl)
    (hf : X.fn x = true ∨ X.env.scope.names.lookup x = some .local := by first | exact .inl rfl | exact .inr rfl) : PS X (.AugAssign (.Name x p1) op e pos) (tS X.K z (gAug i o f)) :=
  (ps_aug hN hi hx he hr hf).mono fun D σ H ⟨ρ, F, O, fl, ρ', R, e, q⟩ => by
    obtain ⟨d, h1, e⟩ := bind_some e
    obtain ⟨⟨d2, ρ1⟩, h2, e⟩ := bind_some e
    obtain ⟨y, h3, e⟩ := map_some e
    cases e
    unfold cVar at h1
    split at h1
    · next hi =>
      cases h1
      obtain ⟨v, v1, _, v2⟩ := R.ent i _ hi
      refine ⟨v, v1, ρ, F, O, d2, ρ1, R, h2, fun w F1 H1 R1 k1 r1 => ?_⟩
      exact ho.run F1 H1 v w d d2 y _ R1.sub (v2.mono k1.same) r1 h3 fun u H2 s2 r2 => q _ _ _ _ ((R1.grow s2).setD r2) (k1.same.trans (same_ext R1.sub))
    · cases h1
def oAddI : D → D → Option D
  | .int i, .int j => some (.int (i + j))
  | _, _ => none
theorem w_addI {K : PySem.W.Frag} : Op2 K (rI0 fun i j => .int (i + j)) oAddI := op2I fun a b d e => by
  unfold oAddI at e
  split at e
  · cases e
    exact ⟨_, _, rfl, rfl, rfl⟩
  · cases e

/-! ### lists of own lists -/
def own2L (e : Option (Option E)) : Option (List D) := match e with
  | some (some (.own2 (.list ds))) => some ds
  | _ => none
def listOf : D → Option (List D)
  | .list ds => some ds
  | _ => none
theorem own2L_of {K : PySem.W.Frag} {ρ : Env} {σ : L2.St} {F H : Hp} {O : Nat → List Addr} {i : Nat} {ds : List D} (R : Rel K z ρ σ F H O) (h : own2L ρ[i]? = some ds) : ρ[i]? = some (some (.own2 (.list ds))) ∧ ∃ p qs, σ[i]? = some (some (.ref p)) ∧ O i = p :: qs ∧ H p = some (.lst (qs.map V.ref)) ∧ (p :: qs).Nodup ∧ (∀ a ∈ p :: qs, z.H0 a = none) ∧ Objs K F H qs ds := by
  unfold own2L at h
  split at h
  · next hi =>
    cases h
    obtain ⟨v, h1, p, qs, ds', e1, e2, e3, h2, h3, h4, h5⟩ := R.ent i _ hi
    cases e3
    subst e1
    exact ⟨hi, p, qs, h1, e2, h2, h3, h4, h5⟩
  · cases h
theorem Objs.set {K : PySem.W.Frag} {F H : Hp} {o : HO} {d : D} : ∀ {qs : List Addr} {ds : List D} {j : Nat} {q : Addr}, Objs K F H qs ds → qs.Nodup → qs[j]? = Option.some q → Obj1 K F (upd H q o) q d → Objs K F (upd H q o) qs (ds.set j d)
  | _, _, _, _, .nil, _, h, _ => by simp at h
  | _, _, 0, q, .cons (p := p) h t, n, hj, ho => by
    simp at hj
    subst hj
    exact .cons ho (t.mono (Same.refl _) fun b hb => upd_ne (fun e => (List.nodup_cons.mp n).1 (e ▸ hb)))
  | _, _, j + 1, q, .cons (p := p) h t, n, hj, ho => by
    have hj' := hj
    rw [List.getElem?_cons_succ] at hj'
    have hm := List.mem_of_getElem? hj'
    refine .cons (h.mono (Same.refl _) (upd_ne fun e => (List.nodup_cons.mp n).1 (by rw [e]; exact hm))) (Objs.set t (List.nodup_cons.mp n).2 hj' ho)
theorem Rel.put2 {K : PySem.W.Frag} {ρ : Env} {σ : L2.St} {F H : Hp} {O : Nat → List Addr} {i j : Nat} {rows es : List D} {p q : Addr} {qs : List Addr} {ws : List V} (R : Rel K z ρ σ F H O) (h : own2L ρ[i]? = some rows) (hp : σ[i]? = some (some (.ref p))) (ho : O i = p :: qs) (hq : qs[j]? = some q) (r : RepL K F ws es) : Rel K z (ρ.set i (some (.own2 (.list (rows.set j (.list es)))))) σ F (upd H q (.lst ws)) O := by
  obtain ⟨_, p', qs', s1, s2, s3, s4, s5, s6⟩ := own2L_of R h
  rw [hp] at s1
  cases s1
  rw [ho] at s2
  cases s2
  have hm := List.mem_of_getElem? hq
  have np : p ≠ q := fun e => (List.nodup_cons.mp s4).1 (by rw [e]; exact hm)
  refine R.mut (by rw [ho]; exact List.mem_cons_of_mem _ hm) (.inl (s5 q (List.mem_cons_of_mem _ hm))) hp ⟨p, qs, _, rfl, ho, rfl, (upd_ne np).trans s3, s4, s5, ?_⟩
  exact s6.set (List.nodup_cons.mp s4).2 hq ⟨ws, upd_same, r⟩
theorem atI_ix {α : Type} {xs : List α} {i : Int} {v : α} (h : atI xs i = some v) : ∃ j, ixN xs.length i = some j ∧ xs[j]? = some v := bind_some h
/-- x[a][b] = e -/
def gSetI2 (i : Nat) (f : Env → Option (D × Env)) (g h : Env → Option D) : Gs := fun ρ => (f ρ).bind fun p => (own2L p.2[i]?).bind fun rows => (g p.2).bind fun a => (h p.2).bind fun b => match a with
  | .int a => match b with
    | .int b => (ixN rows.length a).bind fun ja => (rows[ja]?).bind fun r => (listOf r).bind fun ds => (ixN ds.length b).map fun jb => (.nx, p.2.set i (some (.own2 (.list (rows.set ja (.list (ds.set jb p.1)))))))
    | _ => none
  | _ => none
theorem s_setI2 (i : Nat) {x : Str} {e a b : Expr} {f : Env → Option (D × Env)} {g h : Env → Option D} {p1 p2 p3 pos : Pos} (he : PE X e (tR X.K z f)) (haa : PE X a (tP X.K z g)) (hb : PE X b (tP X.K z h)) (hN : X.N[i]? = some x := by rfl) (hv : Vis X.env.scope x := by first | exact Or.inl rfl | exact Or.inr (Or.inl rfl) | exact Or.inr (Or.inr rfl)) (hd : (x == ("__debug__" : Str)) = false := by decide)
    (hcd : (x == ("__classdict__" : Str)) = false := by decide) (hpi : PlainIx a := by exact fun _ _ => rfl)
    (ha : ∀ v, assign (.Subscript (.Subscript (.Name x p1) a p2) b p3) X.env v = (do
      let ov ← holding [v] (eval (.Subscript (.Name x p1) a p2) X.env)
      let iv ← holding [v, ov] (eval b X.env)
      standAt p3
      holding [v, ov, iv] (setItem ov iv v)
      release [v, ov, iv] []) := by intro _; rfl)
    (hs : swapsWithSole [.Subscript (.Subscript (.Name x p1) a p2) b p3] e pos.line X.env = pure false := by rfl) (hw : swappedStores [.Subscript (.Subscript (.Name x p1) a p2) b p3] e X.env = pure none := by rfl)
    (h1 : (assignEach [.Subscript (.Subscript (.Name x p1) a p2) b p3] X.env).map (·.2) = [assign (.Subscript (.Subscript (.Name x p1) a p2) b p3) X.env] := by rfl) :
    PS X (.Assign [.Subscript (.Subscript (.Name x p1) a p2) b p3] e pos) (tS X.K z (gSetI2 i f g h)) :=
  (ps_asg he (pg_sub (pe_ix ix_seq (pe_var hN hv hd hcd) haa hpi) hb set_list ha) hs hw h1).mono fun D σ H ⟨ρ, F, O, fl, ρ', R, e, q⟩ => by
    obtain ⟨⟨d, ρ1⟩, h1, e⟩ := bind_some e
    obtain ⟨rows, h2, e⟩ := bind_some e
    obtain ⟨ad, h3, e⟩ := bind_some e
    obtain ⟨bd, h4, e⟩ := bind_some e
    dsimp only at e h2 h3 h4
    split at e
    · split at e
      · obtain ⟨ja, h5, e⟩ := bind_some e
        obtain ⟨rd, h6, e⟩ := bind_some e
        obtain ⟨ds, h7, e⟩ := bind_some e
        obtain ⟨jb, h8, e⟩ := map_some e
        cases e
        have er : rd = .list ds := by
          cases rd <;> cases h7
          rfl
        subst er
        refine ⟨ρ, F, O, d, ρ1, R, h1, fun v F1 H1 R1 k1 r1 => ?_⟩
        obtain ⟨_, p, qs, s1, s2, s3, s4, s5, s6⟩ := own2L_of R1 h2
        obtain ⟨qa, hq1, ws, hq2, hq3⟩ := s6.get h6
        refine ⟨_, s1, ρ1, F1, O, _, R1, h3, fun va H2 m2 r2 => ?_⟩
        cases r2
        refine .inl ⟨p, _, _, .ref qa, rfl, rfl, .of (m2 _ _ s3), ?_, ?_⟩
        · unfold atI
          rw [List.length_map, s6.length, h5]
          show (qs.map V.ref)[ja]? = _
          rw [List.getElem?_map, hq1]
          rfl
        · refine ⟨ρ1, _, O, _, R1.grow m2, h4, fun vb H3 m3 r3 => ?_⟩
          cases r3
          have m23 := m2.trans m3
          have R3 := R1.grow m23
          refine ⟨qa, ws, _, jb, rfl, rfl, m23 _ _ hq2, by rw [hq3.length]; exact h8, q σ _ _ O (R3.put2 h2 s1 s2 hq1 ((hq3.mono (same_ext R1.sub)).set jb (r1.mono (same_ext R1.sub)))) (k1.same.trans (same_ext R1.sub))⟩
      · cases e
    · cases e
end
end DL

namespace DL
open PySem PySem.Spec PyProof.Rows L2

/-! ## list(range(..)), tuple(range(..)) -/
def tRgP (K : PySem.W.Frag) (z : Z) (f : Env → Option (Int × Int)) : L2.St → Hp → (Int → Int → Hp → Prop) → Prop := fun σ H Q => ∃ ρ F O p, Rel K z ρ σ F H O ∧ f ρ = some p ∧ ∀ H', Same H H' → Q p.1 p.2 H'
def rgFit (a b : Int) : Option (Int × Int) := if -1000 ≤ a then (if a ≤ 1000 then (if -1000 ≤ b then (if b ≤ 1000 then some (a, b) else none) else none) else none) else none
def cRg1 (f : Env → Option D) : Env → Option (Int × Int) := fun ρ => (f ρ).bind fun d => match d with
  | .int n => rgFit 0 n
  | _ => none
def cRg2 (f g : Env → Option D) : Env → Option (Int × Int) := fun ρ => (f ρ).bind fun d => (g ρ).bind fun e => match d with
  | .int a => match e with
    | .int b => rgFit a b
    | _ => none
  | _ => none
def cListRg (f : Env → Option (Int × Int)) : Env → Option D := fun ρ => (f ρ).map fun p => .list (rangeD p.1 (p.2 - p.1).toNat)
def cTupRg (f : Env → Option (Int × Int)) : Env → Option D := fun ρ => (f ρ).map fun p => .tuple (rangeD p.1 (p.2 - p.1).toNat)
def wListRg (f : Env → Option (Int × Int)) : Env → Option (E × Env) := fun ρ => (f ρ).map fun p => (.own (.list (rangeD p.1 (p.2 - p.1).toNat)), ρ)
section
variable {X : Cx} {z : Z}
theorem rgFit_of {a b : Int} {p : Int × Int} (h : rgFit a b = some p) : p = (a, b) ∧ -1000 ≤ a ∧ a ≤ 1000 ∧ -1000 ≤ b ∧ b ≤ 1000 := by
  unfold rgFit at h
  split at h
  · split at h
    · split at h
      · split at h
        · cases h
          exact ⟨rfl, by assumption, by assumption, by assumption, by assumption⟩
        · cases h
      · cases h
    · cases h
  · cases h
theorem cRg1_fit {f : Env → Option D} {ρ : Env} {p : Int × Int} (h : cRg1 f ρ = some p) : ∃ n, f ρ = some (.int n) ∧ p = (0, n) ∧ RgOk p.1 p.2 := by
  obtain ⟨d, h1, h2⟩ := bind_some h
  split at h2
  · obtain ⟨e, h3, h4, h5, h6⟩ := rgFit_of h2
    subst e
    exact ⟨_, h1, rfl, by show RgOk 0 _; exact ⟨by omega, by omega, by omega, by omega, by omega⟩⟩
  · cases h2
theorem cRg2_fit {f g : Env → Option D} {ρ : Env} {p : Int × Int} (h : cRg2 f g ρ = some p) : ∃ a b, f ρ = some (.int a) ∧ g ρ = some (.int b) ∧ p = (a, b) ∧ RgOk p.1 p.2 := by
  obtain ⟨d, h1, h2⟩ := bind_some h
  obtain ⟨e, h3, h4⟩ := bind_some h2
  split at h4
  · split at h4
    · obtain ⟨e, h5, h6, h7, h8⟩ := rgFit_of h4
      subst e
      exact ⟨_, _, h1, h3, rfl, ⟨by omega, by omega, by omega, by omega, by omega⟩⟩
    · cases h4
  · cases h4
structure RgP (X : Cx) (z : Z) (e : Expr) (f : Env → Option (Int × Int)) : Prop where
  run : PRg X e (tRgP X.K z f)
  fit : ∀ ρ p, f ρ = some p → RgOk p.1 p.2
theorem q_rg1 {a : Expr} {f : Env → Option D} {p pos : Pos} (hg : Gl X "range") (hm : X.mg "range" = none) (ha : PE X a (tP X.K z f)) (na : starEach [a] X.env = (false, eval a X.env) :: starEach [] X.env := by rfl) : RgP X z (.Call (.Name "range" p) [a] [] pos) (cRg1 f) :=
  ⟨fun pins s σ H Q I ⟨ρ, F, O, d, R, e, q⟩ => by
    obtain ⟨n, h1, h2, _⟩ := cRg1_fit e
    subst h2
    refine prg_1 hg hm ha na pins s σ H Q I ⟨ρ, F, O, _, R, h1, fun v H' sm r => ?_⟩
    cases r
    exact ⟨n, rfl, q H' sm⟩, fun ρ p h => by
    obtain ⟨_, _, _, h⟩ := cRg1_fit h
    exact h⟩
theorem q_rg2 {a b : Expr} {f g : Env → Option D} {p pos : Pos} (hg : Gl X "range") (hm : X.mg "range" = none) (ha : PE X a (tP X.K z f)) (hb : PE X b (tP X.K z g)) (na : starEach [a, b] X.env = (false, eval a X.env) :: starEach [b] X.env := by rfl)
    (nb : starEach [b] X.env = (false, eval b X.env) :: starEach [] X.env := by rfl) (hp : (backTo pos (starEach [b] X.env)).any (·.1) = false := by rfl) : RgP X z (.Call (.Name "range" p) [a, b] [] pos) (cRg2 f g) :=
  ⟨fun pins s σ H Q I ⟨ρ, F, O, d, R, e, q⟩ => by
    obtain ⟨x, y, h1, h2, h3, _⟩ := cRg2_fit e
    subst h3
    refine prg_2 hg hm ha hb na nb hp pins s σ H Q I ⟨ρ, F, O, _, R, h1, fun v H1 s1 r => ?_⟩
    cases r
    refine ⟨ρ, _, O, _, R.grow s1, h2, fun v H2 s2 r => ?_⟩
    cases r
    exact ⟨x, y, rfl, rfl, q H2 (s1.trans s2)⟩, fun ρ p h => by
    obtain ⟨_, _, _, _, _, h⟩ := cRg2_fit h
    exact h⟩
theorem rgV_rep {K : PySem.W.Frag} {F : Hp} {a b : Int} : RepL K F (rgV a b) (rangeD a (b - a).toNat) := by
  unfold rgV rangeD
  generalize List.range (b - a).toNat = l
  induction l with
  | nil => exact .nil
  | cons i l ih => exact .cons (.int _) ih
theorem q_listRg {e : Expr} {f : Env → Option (Int × Int)} {p pos : Pos} (hc : X.calm = true) (hg : Gl X "list") (hm : X.mg "list" = none) (he : RgP X z e f) (na : starEach [e] X.env = (false, eval e X.env) :: starEach [] X.env := by rfl) : PE X (.Call (.Name "list" p) [e] [] pos) (tP X.K z (cListRg f)) :=
  (pe_listRg hc hg hm he.run na).mono fun σ H Q ⟨ρ, F, O, d, R, e, q⟩ => by
    obtain ⟨r, h1, h2⟩ := map_some e
    subst h2
    refine ⟨ρ, F, O, r, R, h1, fun H' sm => ⟨he.fit _ _ h1, fun p hp => ?_⟩⟩
    have R1 := R.grow sm
    refine q _ _ (sm.trans (same_new hp)) ?_
    rw [← ext_ext sm (same_new hp), ext_new R1.sub hp]
    exact .lst (.of upd_same) rgV_rep
theorem q_tupRg {e : Expr} {f : Env → Option (Int × Int)} {p pos : Pos} (hc : X.calm = true) (hg : Gl X "tuple") (hm : X.mg "tuple" = none) (he : RgP X z e f) (na : starEach [e] X.env = (false, eval e X.env) :: starEach [] X.env := by rfl) : PE X (.Call (.Name "tuple" p) [e] [] pos) (tP X.K z (cTupRg f)) :=
  (pe_tupRg hc hg hm he.run na).mono fun σ H Q ⟨ρ, F, O, d, R, e, q⟩ => by
    obtain ⟨r, h1, h2⟩ := map_some e
    subst h2
    refine ⟨ρ, F, O, r, R, h1, fun H' sm => ⟨he.fit _ _ h1, fun p hp => ?_⟩⟩
    have R1 := R.grow sm
    refine q _ _ (sm.trans (same_new hp)) ?_
    rw [← ext_ext sm (same_new hp), ext_new R1.sub hp]
    exact .tup upd_same rgV_rep
theorem w_listRg {e : Expr} {f : Env → Option (Int × Int)} {p pos : Pos} (hc : X.calm = true) (hg : Gl X "list") (hm : X.mg "list" = none) (he : RgP X z e f) (na : starEach [e] X.env = (false, eval e X.env) :: starEach [] X.env := by rfl) : PE X (.Call (.Name "list" p) [e] [] pos) (tW X.K z (wListRg f)) :=
  (pe_listRg hc hg hm he.run na).mono fun σ H Q ⟨ρ, F, O, d, ρ', R, e, q⟩ => by
    obtain ⟨r, h1, h2⟩ := map_some e
    cases h2
    refine ⟨ρ, F, O, r, R, h1, fun H' sm => ⟨he.fit _ _ h1, fun p hp => ?_⟩⟩
    exact fin_own (R.grow sm) (.of_same R.sub sm) q rgV_rep hp

/-! ## a, b = x, y -/
def gPar2 (i j : Nat) (f g : Env → Option (E × Env)) : Gs := fun ρ => (f ρ).bind fun p => (g p.2).map fun q => (.nx, (q.2.set i (some p.1)).set j (some q.1))
def gPar3 (i j l : Nat) (f g h : Env → Option (E × Env)) : Gs := fun ρ => (f ρ).bind fun p => (g p.2).bind fun q => (h q.2).map fun r => (.nx, ((r.2.set i (some p.1)).set j (some q.1)).set l (some r.1))
theorem keepW {K : PySem.W.Frag} {F H F1 H1 F2 H2 : Hp} {O : Nat → List Addr} {ρ : Env} {σ : L2.St} {v : V} {e : E} {as : List Addr} (R : Rel K z ρ σ F H O) (k2 : Kp F1 H1 F2 H2 O) (h : Ent K z F1 H1 v e as) (hf : ∀ a ∈ as, H a = none ∧ F1 a = none ∧ H1 a ≠ none) : Ent K z F2 H2 v e as ∧ ∀ a ∈ as, H a = none ∧ F2 a = none ∧ H2 a ≠ none :=
  ⟨h.mono k2.same fun a ha => by
    obtain ⟨h0, _, h1⟩ := hf a ha
    obtain ⟨o, h2⟩ := some_of h1
    rw [h2]
    exact k2.keep a o h2 fun i hi => (R.off i a hi).2 h0, fun a ha => by
    obtain ⟨h0, h1, h2⟩ := hf a ha
    exact ⟨h0, k2.out a h2 h1, k2.dom a h2⟩⟩
theorem s_par2 (i j : Nat) {x y : Str} {a b : Expr} {px py pt pos : Pos} {kt k2 pt2} {f g : Env → Option (E × Env)} (hc : X.calm = true) (hN : X.N.Nodup) (ha : PE X a (tW X.K z f)) (hb : PE X b (tW X.K z g)) (hi : X.N[i]? = some x := by rfl) (hj : X.N[j]? = some y := by rfl) (hij : i ≠ j := by decide)
    (hx : X.env.scope.names.lookup x = some .local := by rfl) (hy : X.env.scope.names.lookup y = some .local := by rfl) (ha1 : starEach [a, b] X.env = (false, eval a X.env) :: starEach [b] X.env := by rfl) (hb1 : starEach [b] X.env = (false, eval b X.env) :: starEach [] X.env := by rfl)
    (hw : swappedStores [.Tuple [.Name x px, .Name y py] kt pt] (.Tuple [a, b] k2 pt2) X.env = pure (some [x, y]) := by rfl)
    (hs : swapsWithSole [.Tuple [.Name x px, .Name y py] kt pt] (.Tuple [a, b] k2 pt2) pos.line X.env = pure false := by rfl) :
    PS X (.Assign [.Tuple [.Name x px, .Name y py] kt pt] (.Tuple [a, b] k2 pt2) pos) (tS X.K z (gPar2 i j f g)) :=
  (ps_par hc hN hi hj hij hx hy (pa_cons ha (pa_cons hb pa_nil hb1) ha1) hw hs).mono fun D σ H ⟨ρ, F, O, fl, ρ', R, e, q⟩ => by
    obtain ⟨⟨e1, ρ1⟩, h1, e⟩ := bind_some e
    obtain ⟨⟨e2, ρ2⟩, h2, e⟩ := map_some e
    cases e
    refine ⟨ρ, F, O, e1, ρ1, R, h1, fun v1 F1 H1 as1 R1 k1 n1 f1 => ⟨ρ1, F1, O, e2, ρ2, R1, h2, fun v2 F2 H2 as2 R2 k2 n2 f2 => ⟨v1, v2, rfl, ?_⟩⟩⟩
    obtain ⟨n1', f1'⟩ := keepW R k2 n1 f1
    have R3 := setE_new (i := i) (fun i a ha => (R.off i a ha).2) R2 n1' f1'
    refine q _ F2 H2 _ (R3.setE (i := j) n2 fun a ha => ⟨(f2 a ha).2.1, (f2 a ha).2.2, fun l _ hl => ?_⟩) (k1.same.trans k2.same)
    unfold setO at hl
    split at hl
    · exact (f1 a hl).2.2 (f2 a ha).1
    · exact (R1.off l a hl).2 (f2 a ha).1
theorem s_par3 (i j l : Nat) {x y w : Str} {a b c : Expr} {px py pw pt pos : Pos} {kt k2 pt2} {f g h : Env → Option (E × Env)} (hc : X.calm = true) (hN : X.N.Nodup) (ha : PE X a (tW X.K z f)) (hb : PE X b (tW X.K z g)) (hcc : PE X c (tW X.K z h)) (hi : X.N[i]? = some x := by rfl) (hj : X.N[j]? = some y := by rfl) (hl : X.N[l]? = some w := by rfl) (hij : i ≠ j := by decide) (hil : i ≠ l := by decide) (hjl : j ≠ l := by decide)
    (hx : X.env.scope.names.lookup x = some .local := by rfl) (hy : X.env.scope.names.lookup y = some .local := by rfl) (hz : X.env.scope.names.lookup w = some .local := by rfl) (ha1 : starEach [a, b, c] X.env = (false, eval a X.env) :: starEach [b, c] X.env := by rfl) (hb1 : starEach [b, c] X.env = (false, eval b X.env) :: starEach [c] X.env := by rfl) (hc1 : starEach [c] X.env = (false, eval c X.env) :: starEach [] X.env := by rfl)
    (hw : swappedStores [.Tuple [.Name x px, .Name y py, .Name w pw] kt pt] (.Tuple [a, b, c] k2 pt2) X.env = pure (some [x, y, w]) := by rfl)
    (hs : swapsWithSole [.Tuple [.Name x px, .Name y py, .Name w pw] kt pt] (.Tuple [a, b, c] k2 pt2) pos.line X.env = pure false := by rfl) :
    PS X (.Assign [.Tuple [.Name x px, .Name y py, .Name w pw] kt pt] (.Tuple [a, b, c] k2 pt2) pos) (tS X.K z (gPar3 i j l f g h)) :=
  (ps_par3 hc hN hi hj hl hij hil hjl hx hy hz (pa_cons ha (pa_cons hb (pa_cons hcc pa_nil hc1) hb1) ha1) hw hs).mono fun D σ H ⟨ρ, F, O, fl, ρ', R, e, q⟩ => by
    obtain ⟨⟨e1, ρ1⟩, h1, e⟩ := bind_some e
    obtain ⟨⟨e2, ρ2⟩, h2, e⟩ := bind_some e
    obtain ⟨⟨e3, ρ3⟩, h3, e⟩ := map_some e
    cases e
    refine ⟨ρ, F, O, e1, ρ1, R, h1, fun v1 F1 H1 as1 R1 k1 n1 f1 => ⟨ρ1, F1, O, e2, ρ2, R1, h2, fun v2 F2 H2 as2 R2 k2 n2 f2 => ⟨ρ2, F2, O, e3, ρ3, R2, h3, fun v3 F3 H3 as3 R3 k3 n3 f3 => ⟨v1, v2, v3, rfl, ?_⟩⟩⟩⟩
    obtain ⟨n1', f1'⟩ := keepW R (k2.trans k3) n1 f1
    obtain ⟨n2', f2'⟩ := keepW R1 k3 n2 f2
    have S1 := setE_new (i := i) (fun i a ha => (R.off i a ha).2) R3 n1' f1'
    have S2 := S1.setE (i := j) n2' fun a ha => ⟨(f2' a ha).2.1, (f2' a ha).2.2, fun m _ hm => by
      unfold setO at hm
      split at hm
      · exact (f1 a hm).2.2 (f2 a ha).1
      · exact (R1.off m a hm).2 (f2 a ha).1⟩
    refine q _ F3 H3 _ (S2.setE (i := l) n3 fun a ha => ⟨(f3 a ha).2.1, (f3 a ha).2.2, fun m _ hm => ?_⟩) ((k1.same.trans k2.same).trans k3.same)
    unfold setO at hm
    split at hm
    · exact (f2 a hm).2.2 (f3 a ha).1
    · split at hm
      · exact (k2.dom a (f1 a hm).2.2) (f3 a ha).1
      · exact (R2.off m a hm).2 (f3 a ha).1
end
end DL

namespace DL
open PySem PySem.Spec PyProof.Rows L2

/-! ## list comprehensions -/
def wipeE (ρ : Env) : List Nat → Env
  | [] => ρ
  | v :: vs => (wipeE ρ vs).set v none
theorem wipeE_length (ρ : Env) : ∀ vs : List Nat, (wipeE ρ vs).length = ρ.length
  | [] => rfl
  | v :: vs => by
    unfold wipeE
    rw [List.length_set, wipeE_length ρ vs]
theorem wipeE_some {ρ : Env} {i : Nat} {e : E} : ∀ {vs : List Nat}, (wipeE ρ vs)[i]? = some (some e) → ρ[i]? = some (some e) ∧ i ∉ vs
  | [], h => ⟨h, by simp⟩
  | v :: vs, h => by
    unfold wipeE at h
    by_cases q : v = i
    · subst q
      by_cases hl : v < (wipeE ρ vs).length
      · rw [List.getElem?_set_self hl] at h
        cases h
      · rw [List.getElem?_eq_none (by rw [List.length_set]; omega)] at h
        cases h
    · rw [List.getElem?_set_ne q] at h
      obtain ⟨h1, h2⟩ := wipeE_some h
      exact ⟨h1, fun m => (List.mem_cons.mp m).elim (fun e => q e.symm) h2⟩
theorem wipe_idem (σ : L2.St) (vs : List Nat) : wipe (wipe σ vs) vs = wipe σ vs := by
  have aux : ∀ us : List Nat, (∀ u ∈ us, u ∈ vs) → wipe (wipe σ vs) us = wipe σ vs := by
    intro us
    induction us with
    | nil => exact fun _ => rfl
    | cons u us ih =>
      intro h
      show (wipe (wipe σ vs) us).set u none = wipe σ vs
      rw [ih fun x hx => h x (List.mem_cons_of_mem _ hx)]
      have hu := h u List.mem_cons_self
      apply List.ext_getElem?
      intro j
      by_cases q : u = j
      · subst q
        by_cases hl : u < (wipe σ vs).length
        · rw [List.getElem?_set_self hl]
          cases e : (wipe σ vs)[u]? with
          | none =>
            rw [List.getElem?_eq_none_iff] at e
            omega
          | some w =>
            cases w with
            | none => rfl
            | some w => exact absurd hu (wipe_some e).2
        · rw [List.getElem?_eq_none (by rw [List.length_set]; omega), List.getElem?_eq_none (by omega)]
      · rw [List.getElem?_set_ne q]
  exact aux vs fun _ h => h
theorem ofJ_mem {vs : List Nat} {j : Nat} (h : ofJ vs j = true) : j ∈ vs := List.contains_iff_mem.mp h
theorem ofJ_not {vs : List Nat} {j : Nat} (h : j ∉ vs) : ofJ vs j = false := by
  cases q : ofJ vs j with
  | false => rfl
  | true => exact absurd (ofJ_mem q) h
section
variable {K : PySem.W.Frag} {z : Z} {ρ : Env} {σ : L2.St} {F H : Hp} {O O' : Nat → List Addr}
theorem Rel.wipe (R : Rel K z ρ σ F H O) (vs : List Nat) : Rel K z (wipeE ρ vs) (L2.wipe σ vs) F H O :=
  R.weak (by rw [wipeE_length, wipe_length, R.len]) fun i e h => by
    obtain ⟨h1, h2⟩ := wipeE_some h
    exact ⟨h1, wipe_out h2⟩
theorem Rel.unwipe {vs : List Nat} (R : Rel K z (wipeE ρ vs) (L2.wipe σ vs) F H O) : Rel K z (wipeE ρ vs) σ F H O :=
  R.weak (by
    have := R.len
    rw [wipe_length] at this
    exact this) fun i e h => ⟨h, (wipe_out (wipeE_some h).2).symm⟩
/-- the target's slots forgotten, the addresses as before -/
theorem Rel.back {vs : List Nat} (R : Rel K z ρ σ F H O') (ho : ∀ i, i ∉ vs → O' i = O i) (hf : ∀ i a, a ∈ O i → F a = none ∧ H a ≠ none) (ha : ∀ i j a, a ∈ O i → a ∈ O j → i = j) : Rel K z (wipeE ρ vs) (L2.wipe σ vs) F H O where
  len := by rw [wipeE_length, wipe_length, R.len]
  sub := R.sub
  ent := fun i e h => by
    obtain ⟨h1, h2⟩ := wipeE_some h
    obtain ⟨v, h3, h4⟩ := R.ent i e h1
    rw [ho i h2] at h4
    exact ⟨v, (wipe_out h2).trans h3, h4⟩
  off := hf
  apt := ha
  old := R.old
  oldH := R.oldH
  keep := R.keep
  f0 := R.f0
  tup := R.tup
theorem Kp.wide {F H F' H' : Hp} {O O' : Nat → List Addr} (k : Kp F H F' H' O') (h : ∀ i a, a ∈ O' i → a ∈ O i) : Kp F H F' H' O :=
  ⟨k.same, fun a o e n => k.keep a o e fun i hi => n i (h i a hi), k.out, k.dom⟩
end
def bYes : Env → Option Bool := fun _ => some true
def bYesR : Env → Option (Bool × Env) := fun ρ => some (true, ρ)
section
variable {X : Cx} {z : Z}
theorem _root_.L2.PTs.mono {es : List Expr} {t t' : TT} (h : PTs X es t) (i : ∀ σ H Q, t' σ H Q → t σ H Q) : PTs X es t' := ⟨fun pins s σ H Q I q => h.run pins s σ H Q I (i _ _ _ q)⟩
theorem t_nil : PTs X [] (tB X.K z bYes) := pts_nil.mono fun σ H Q ⟨ρ, F, O, b, R, e, q⟩ => by
  cases e
  exact q H (Same.refl _)
theorem t_one {c : Expr} {t : Env → Option Bool} (h : PT X c (tB X.K z t)) : PTs X [c] (tB X.K z t) := pts_one h
theorem t_nilR : PTs X [] (tBR X.K z bYesR) := pts_nil.mono fun σ H Q ⟨ρ, F, O, b, ρ', R, e, q⟩ => by
  cases e
  exact q F H R .refl
theorem t_oneR {c : Expr} {t : Env → Option (Bool × Env)} (h : PT X c (tBR X.K z t)) : PTs X [c] (tBR X.K z t) := pts_one h
end

/-! ### pure -/
def lcD (ρ0 : Env) (b : D → Env → Option Env) (t : Env → Option Bool) (f : Env → Option D) : List D → Option (List D)
  | [] => some []
  | d :: r => (b d ρ0).bind fun ρ1 => (t ρ1).bind fun k => if k = true then (f ρ1).bind fun e => (lcD ρ0 b t f r).bind fun es => some (e :: es) else lcD ρ0 b t f r
def cLc (vs : List Nat) (it : Env → Option (List D)) (b : D → Env → Option Env) (t : Env → Option Bool) (f : Env → Option D) : Env → Option D := fun ρ => (it ρ).bind fun ds => (lcD (wipeE ρ vs) b t f ds).bind fun es => if es.length ≤ 1000 then some (.list es) else none
theorem ext_step {F F2 H Hc H' : Hp} (i : Same F2 (ext F H Hc)) (s : Same H Hc) (s2 : Same Hc H') : Same (ext F2 Hc H') (ext F H H') := fun a o e => by
  unfold ext at e ⊢
  cases q : Hc a with
  | some u =>
    simp [q] at e
    have e2 := i a o e
    unfold ext at e2
    cases q2 : H a with
    | some w => simpa [q2] using e2
    | none =>
      simp [q2] at e2
      simpa using s2 a o e2
  | none =>
    simp [q] at e
    cases q2 : H a with
    | some w =>
      have := s a w q2
      rw [q] at this
      cases this
    | none => simpa using e
theorem ext_put {F F2 H Hc : Hp} {D : Addr} {o : HO} (i : Same F2 (ext F H Hc)) (hD : F2 D = none) : Same F2 (ext F H (upd Hc D o)) := fun a u e => by
  have n : a ≠ D := fun q => by
    rw [q, hD] at e
    cases e
  have := i a u e
  unfold ext at this ⊢
  rw [upd_ne n]
  exact this
theorem ext_none {F2 Hc H' : Hp} {D : Addr} {o : HO} (h : F2 D = none) (hc : Hc D = some o) : ext F2 Hc H' D = none := by
  unfold ext
  simp [hc, h]
theorem lc_in {K : PySem.W.Frag} {z : Z} {vs : List Nat} {it : Env → Option (List D)} {b : D → Env → Option Env} {t : Env → Option Bool} {f : Env → Option D} {σ : L2.St} {H : Hp} {Q : VK} (h : tP K z (cLc vs it b t f) σ H Q) :
    tLc (tIP K z it) (tG K z (ofJ vs) b) (tB K z t) (tP K z f) vs σ H Q := by
  obtain ⟨ρ, F, O, d, R, e, q⟩ := h
  obtain ⟨ds, h1, e⟩ := bind_some e
  obtain ⟨es, h2, e⟩ := bind_some e
  split at e
  · next hl =>
    cases e
    refine ⟨ρ, F, O, ds, R, h1, fun J H1 s1 y D hD => ?_⟩
    have R1 := (R.grow s1).wipe vs
    have hD0 : H D = none := by
      cases q2 : H D with
      | none => rfl
      | some o =>
        rw [s1 _ _ q2] at hD
        cases hD
    have hDO : ∀ i, D ∉ O i := fun i hi => (R.off i D hi).2 hD0
    have hDz := H0_of R hD0
    have hDF : ext F H H1 D = none := (R.grow s1).sub.free hD
    refine ⟨fun i m Hc => m = ds.length - i ∧ i ≤ ds.length ∧ ∃ F2 acc vacc rest, Rel K z (wipeE ρ vs) (wipe σ vs) F2 Hc O ∧ Same (ext F H H1) F2 ∧ Same F2 (ext F H Hc) ∧ Same H1 Hc ∧ F2 D = none ∧ Hc D = some (.lst vacc) ∧ RepL K F2 vacc acc ∧ lcD (wipeE ρ vs) b t f (ds.drop i) = some rest ∧ acc ++ rest = es,
      ⟨ds.length, by simp, Nat.zero_le _, _, [], [], es, R1.other hDF hDO hDz, Same.refl _, ext_put (Same.refl _) hDF, same_new hD, hDF, upd_same, .nil, h2, rfl⟩, ?_⟩
    rintro i m Hc ⟨rfl, hi, F2, acc, vacc, rest, R2, sF, sE, sH, hF2, hDc, ra, hr, hes⟩
    by_cases hlt : i < ds.length
    · have ed : ds.drop i = ds[i] :: ds.drop (i + 1) := by rw [List.drop_eq_getElem_cons hlt]
      rw [ed] at hr
      obtain ⟨ρ3, e3, hr⟩ := bind_some hr
      obtain ⟨k, e4, hr⟩ := bind_some hr
      have sY : Same (ext F H H1) Hc := sF.trans R2.sub
      refine .inr ⟨y.go i Hc sY hlt, fun Hc => ∃ F2 acc vacc rest, Rel K z (wipeE ρ vs) (wipe σ vs) F2 Hc O ∧ Same (ext F H H1) F2 ∧ Same F2 (ext F H Hc) ∧ Same H1 Hc ∧ F2 D = none ∧ Hc D = some (.lst vacc) ∧ RepL K F2 vacc acc ∧ lcD (wipeE ρ vs) b t f (ds.drop (i + 1)) = some rest ∧ acc ++ rest = es, fun H' n => ⟨ds.length - (i + 1), by omega, rfl, by omega, n⟩, fun x H' yx => ?_⟩
      obtain ⟨sx, rx⟩ := y.yld i F2 Hc x H' _ sF R2.sub R2.tup yx (List.getElem?_eq_getElem hlt)
      have R3 := R2.grow sx
      refine ⟨_, _, O, _, ρ3, R3, rx, e3, fun σ5 O5 R5 st => ⟨?_, ?_⟩⟩
      · rw [st.wp vs fun j hj => ofJ_mem hj, wipe_idem]
      refine ⟨ρ3, _, O5, k, R5, e4, fun H6 s6 => ?_⟩
      have sH0 : Same H Hc := s1.trans sH
      cases k with
      | true =>
        rw [if_pos rfl] at hr
        obtain ⟨ev, e5, hr⟩ := bind_some hr
        obtain ⟨rest', e6, hr⟩ := bind_some hr
        cases hr
        refine ⟨ρ3, _, O5, ev, R5.grow s6, e5, fun yv H7 s7 r7 => ?_⟩
        have s67 := s6.trans s7
        have sx7 := sx.trans s67
        rw [ext_ext s6 s7, ext_ext sx s67] at r7
        have R7 := R2.grow sx7
        have hF7 : ext F2 Hc H7 D = none := ext_none hF2 hDc
        have e7 : H7 D = some (.lst vacc) := sx7 _ _ hDc
        have ra' : RepL K (ext F2 Hc H7) vacc acc := ra.mono (same_ext R2.sub)
        refine ⟨vacc, e7, ?_, ext F2 Hc H7, acc ++ [ev], vacc ++ [yv], rest', R7.other hF7 hDO hDz, sF.trans (same_ext R2.sub), ext_put (ext_step sE sH0 sx7) hF7, ?_, hF7, upd_same, ra'.append (.cons r7 .nil), e6, by rw [List.append_assoc]; exact hes⟩
        · have l1 := ra.length
          have l2 : acc.length ≤ es.length := by rw [← hes, List.length_append]; omega
          have := small1000 hl
          omega
        · intro a o ea
          have n : a ≠ D := fun q => by
            rw [q, hD] at ea
            cases ea
          rw [upd_ne n]
          exact sx7 _ _ (sH _ _ ea)
      | false =>
        rw [if_neg Bool.false_ne_true] at hr
        have sx6 := sx.trans s6
        exact ⟨ext F2 Hc H6, acc, vacc, rest, R2.grow sx6, sF.trans (same_ext R2.sub), ext_step sE sH0 sx6, sH.trans sx6, ext_none hF2 hDc, sx6 _ _ hDc, ra.mono (same_ext R2.sub), hr, hes⟩
    · have ei : i = ds.length := by omega
      subst ei
      rw [List.drop_length] at hr
      cases hr
      rw [List.append_nil] at hes
      subst hes
      refine .inl ⟨y.stop _ Hc (sF.trans R2.sub) rfl, q _ Hc (s1.trans sH) (.lst (.of ?_) (ra.mono sE))⟩
      unfold ext
      simp [hD0, hDc]
  · cases e

/-! ### what a block's own items may change -/
def lcR (vs : List Nat) (b : D → Env → Option Env) (t : Env → Option (Bool × Env)) (f : Env → Option (D × Env)) : List D → Env → Option (List D × Env)
  | [], ρ => some ([], wipeE ρ vs)
  | d :: r, ρ => (b d (wipeE ρ vs)).bind fun ρ1 => (t ρ1).bind fun p => if p.1 = true then (f p.2).bind fun q => (lcR vs b t f r q.2).bind fun w => some (q.1 :: w.1, w.2) else lcR vs b t f r p.2
def few2 (p : List D × Env) : Option (List D × Env) := if p.1.length ≤ 1000 then some p else none
def rLc (vs : List Nat) (it : Env → Option (List D × Env)) (b : D → Env → Option Env) (t : Env → Option (Bool × Env)) (f : Env → Option (D × Env)) : Env → Option (List D × Env) := fun ρ => (it ρ).bind fun p => (lcR vs b t f p.1 p.2).bind few2
def cLcR (vs : List Nat) (it : Env → Option (List D × Env)) (b : D → Env → Option Env) (t : Env → Option (Bool × Env)) (f : Env → Option (D × Env)) : Env → Option (D × Env) := fun ρ => (rLc vs it b t f ρ).map fun p => (.list p.1, p.2)
def wLc (vs : List Nat) (it : Env → Option (List D × Env)) (b : D → Env → Option Env) (t : Env → Option (Bool × Env)) (f : Env → Option (D × Env)) : Env → Option (E × Env) := fun ρ => (rLc vs it b t f ρ).map fun p => (.own (.list p.1), p.2)
theorem lcR_in {K : PySem.W.Frag} {z : Z} {vs : List Nat} {it : Env → Option (List D × Env)} {b : D → Env → Option Env} {t : Env → Option (Bool × Env)} {f : Env → Option (D × Env)} {σ : L2.St} {H : Hp} {Q : VK} {ρ : Env} {F : Hp} {O : Nat → List Addr} {es : List D} {ρe : Env}
    (R : Rel K z ρ σ F H O) (e : rLc vs it b t f ρ = some (es, ρe)) (q : ∀ D F' H' vacc, Rel K z ρe σ F' H' O → Kp F H F' H' O → H D = none → F' D = none → H' D = some (.lst vacc) → RepL K F' vacc es → Q (.ref D) H') :
    tLc (tIR K z it) (tG K z (ofJ vs) b) (tBR K z t) (tR K z f) vs σ H Q := by
  obtain ⟨⟨ds, ρ1⟩, h1, e⟩ := bind_some e
  obtain ⟨⟨es', ρe'⟩, h2, e⟩ := bind_some e
  unfold few2 at e
  split at e
  · next hl =>
    cases e
    dsimp only at h2 hl
    refine ⟨ρ, F, O, ds, ρ1, R, h1, fun J F1 H1 R1 k1 y D hD => ?_⟩
    have hD0 : H D = none := k1.none_back hD
    have hDO : ∀ i, D ∉ O i := fun i hi => (R.off i D hi).2 hD0
    have hDz := H0_of R hD0
    have hDF : F1 D = none := R1.sub.free hD
    have kD : Kp F1 H1 F1 (upd H1 D (.lst [])) O := newW_kp R1.sub hD
    have off : ∀ {F2 H2 : Hp}, Kp F1 H1 F2 H2 O → ∀ i a, a ∈ O i → F2 a = none ∧ H2 a ≠ none := fun k i a ha => ⟨k.out a (R1.off i a ha).2 (R1.off i a ha).1, k.dom a (R1.off i a ha).2⟩
    have kput : ∀ {F2 Hc : Hp} {o : HO}, Kp F1 H1 F2 Hc O → Kp F1 H1 F2 (upd Hc D o) O := fun {F2 Hc o} k => ⟨k.same, fun a o' ea n => by
      have nD : a ≠ D := fun q => by
        rw [q, hD] at ea
        cases ea
      rw [upd_ne nD]
      exact k.keep a o' ea n, k.out, fun a ea => by
      have nD : a ≠ D := fun q => ea (by rw [q]; exact hD)
      rw [upd_ne nD]
      exact k.dom a ea⟩
    refine ⟨fun i m Hc => m = ds.length - i ∧ i ≤ ds.length ∧ ∃ ρc F2 acc vacc rest, Rel K z (wipeE ρc vs) (wipe σ vs) F2 Hc O ∧ Kp F1 H1 F2 Hc O ∧ F2 D = none ∧ Hc D = some (.lst vacc) ∧ RepL K F2 vacc acc ∧ lcR vs b t f (ds.drop i) ρc = some (rest, ρe) ∧ acc ++ rest = es,
      ⟨ds.length, by simp, Nat.zero_le _, ρ1, F1, [], [], es, (R1.wipe vs).other hDF hDO hDz, kD, hDF, upd_same, .nil, h2, rfl⟩, ?_⟩
    rintro i m Hc ⟨rfl, hi, ρc, F2, acc, vacc, rest, R2, k2, hF2, hDc, ra, hr, hes⟩
    by_cases hlt : i < ds.length
    · have ed : ds.drop i = ds[i] :: ds.drop (i + 1) := by rw [List.drop_eq_getElem_cons hlt]
      rw [ed] at hr
      obtain ⟨ρ3, e3, hr⟩ := bind_some hr
      obtain ⟨⟨k, ρ4⟩, e4, hr⟩ := bind_some hr
      have sY : Same F1 Hc := k2.same.trans R2.sub
      refine .inr ⟨y.go i Hc sY hlt, fun Hc => ∃ ρc F2 acc vacc rest, Rel K z (wipeE ρc vs) (wipe σ vs) F2 Hc O ∧ Kp F1 H1 F2 Hc O ∧ F2 D = none ∧ Hc D = some (.lst vacc) ∧ RepL K F2 vacc acc ∧ lcR vs b t f (ds.drop (i + 1)) ρc = some (rest, ρe) ∧ acc ++ rest = es, fun H' n => ⟨ds.length - (i + 1), by omega, rfl, by omega, n⟩, fun x H' yx => ?_⟩
      obtain ⟨sx, rx⟩ := y.yld i F2 Hc x H' _ k2.same R2.sub R2.tup yx (List.getElem?_eq_getElem hlt)
      have R3 := R2.grow sx
      have k3 : Kp F1 H1 (ext F2 Hc H') H' O := k2.trans (.of_same R2.sub sx)
      have hF3 : ext F2 Hc H' D = none := ext_none hF2 hDc
      have ra3 : RepL K (ext F2 Hc H') vacc acc := ra.mono (same_ext R2.sub)
      have hD3 : H' D = some (.lst vacc) := sx _ _ hDc
      refine ⟨_, _, O, _, ρ3, R3, rx, e3, fun σ5 O5 R5 st => ?_⟩
      have ew : wipe σ5 vs = wipe σ vs := by rw [st.wp vs fun j hj => ofJ_mem hj, wipe_idem]
      refine ⟨ew, ρ3, _, O5, k, ρ4, R5, e4, fun F6 H6 R6 k6 => ?_⟩
      have k6' := k6.wide st.sub
      have hD6 : H6 D = some (.lst vacc) := k6'.keep _ _ hD3 hDO
      have hF6 : F6 D = none := k6.out D (ne_none hD3) hF3
      have k36 := k3.trans k6'
      cases k with
      | true =>
        rw [if_pos rfl] at hr
        obtain ⟨⟨ev, ρ7⟩, e5, hr⟩ := bind_some hr
        obtain ⟨⟨rest', ρ8⟩, e6, hr⟩ := bind_some hr
        cases hr
        refine ⟨ρ4, _, O5, ev, ρ7, R6, e5, fun yv F7 H7 R7 k7 r7 => ?_⟩
        have k7' := k7.wide st.sub
        have hD7 : H7 D = some (.lst vacc) := k7'.keep _ _ hD6 hDO
        have hF7 : F7 D = none := k7.out D (ne_none hD6) hF6
        have kk := k36.trans k7'
        have R7' := R7.back (vs := vs) (O := O) (fun i hi => st.oo i (ofJ_not hi)) (off kk) R1.apt
        rw [ew] at R7'
        refine ⟨vacc, hD7, ?_, ρ7, F7, acc ++ [ev], vacc ++ [yv], rest', R7'.other hF7 hDO hDz, kput kk, hF7, upd_same, ((ra3.mono k6.same).mono k7.same).append (.cons r7 .nil), e6, by rw [List.append_assoc]; exact hes⟩
        have l1 := ra.length
        have l2 : acc.length ≤ es.length := by rw [← hes, List.length_append]; omega
        have := small1000 hl
        omega
      | false =>
        rw [if_neg Bool.false_ne_true] at hr
        have R6' := R6.back (vs := vs) (O := O) (fun i hi => st.oo i (ofJ_not hi)) (off k36) R1.apt
        rw [ew] at R6'
        exact ⟨ρ4, F6, acc, vacc, rest, R6', k36, hF6, hD6, ra3.mono k6.same, hr, hes⟩
    · have ei : i = ds.length := by omega
      subst ei
      rw [List.drop_length] at hr
      cases hr
      rw [List.append_nil] at hes
      subst hes
      exact .inl ⟨y.stop _ Hc (k2.same.trans R2.sub) rfl, q D F2 Hc vacc R2.unwipe (k1.trans k2) hD0 hF2 hDc ra⟩
  · cases e
theorem lcR_sh {K : PySem.W.Frag} {z : Z} {vs : List Nat} {it : Env → Option (List D × Env)} {b : D → Env → Option Env} {t : Env → Option (Bool × Env)} {f : Env → Option (D × Env)} {σ : L2.St} {H : Hp} {Q : VK} (h : tR K z (cLcR vs it b t f) σ H Q) : tLc (tIR K z it) (tG K z (ofJ vs) b) (tBR K z t) (tR K z f) vs σ H Q := by
  obtain ⟨ρ, F, O, d, ρ', R, e, q⟩ := h
  obtain ⟨⟨es, ρe⟩, h1, h2⟩ := map_some e
  cases h2
  refine lcR_in R h1 fun D F' H' vacc R' k hD hF hD' r => ?_
  have hO : ∀ i, D ∉ O i := fun i hi => (R.off i D hi).2 hD
  refine q _ _ H' (R'.share hD' hF hO (H0_of R hD)) ⟨k.same.trans (same_new hF), k.keep, fun a h f => ?_, k.dom⟩ (.lst (.of upd_same) (r.mono (same_new hF)))
  have n : a ≠ D := fun q => h (by rw [q]; exact hD)
  rw [upd_ne n]
  exact k.out a h f
theorem lcR_own {K : PySem.W.Frag} {z : Z} {vs : List Nat} {it : Env → Option (List D × Env)} {b : D → Env → Option Env} {t : Env → Option (Bool × Env)} {f : Env → Option (D × Env)} {σ : L2.St} {H : Hp} {Q : VK} (h : tW K z (wLc vs it b t f) σ H Q) : tLc (tIR K z it) (tG K z (ofJ vs) b) (tBR K z t) (tR K z f) vs σ H Q := by
  obtain ⟨ρ, F, O, en, ρ', R, e, q⟩ := h
  obtain ⟨⟨es, ρe⟩, h1, h2⟩ := map_some e
  cases h2
  refine lcR_in R h1 fun D F' H' vacc R' k hD hF hD' r => ?_
  refine q _ F' H' [D] R' k ⟨D, rfl, rfl, H0_of R hD, vacc, hD', r⟩ fun a ha => ?_
  rcases List.mem_cons.mp ha with e | e
  · subst e
    exact ⟨hD, hF, ne_none hD'⟩
  · cases e
end DL

namespace DL
open PySem PySem.Spec PyProof.Rows L2

/-! ## comprehensions as expressions, and stored -/
section
variable {X : Cx} {z : Z} {elt tg iter : Expr} {ifs : List Expr} {scope : Scope} {own : List (Str × Nat)} {pos : Pos} {b : D → Env → Option Env}
abbrev blkE (X : Cx) (scope : Scope) (s : Shared) (H : Hp) (C : Addr) (cl : List (Str × Addr)) (fp : List Addr) : Cx := X.blk s H scope (compEnvC scope cl C X.env) fp
theorem tP_of_lf {K : PySem.W.Frag} {f : Env → Option D} {σ : L2.St} {H : Hp} {Q : VK} (h : tR K z (lf f) σ H Q) : tP K z f σ H Q := by
  obtain ⟨ρ, F, O, d, ρ', R, e, q⟩ := h
  obtain ⟨a, h1, h2⟩ := map_some e
  cases h2
  exact ⟨ρ, F, O, _, R, h1, fun v H' s r => q v _ H' (R.grow s) (.of_same R.sub s) r⟩
theorem asg_val {K : PySem.W.Frag} {i : Nat} {f : Env → Option (D × Env)} {D : Ends} {σ : L2.St} {H : Hp} (h : tS K z (gAsg f (bNm i)) D σ H) : tR K z f σ H fun x H1 => D.nx (σ.set i (some x)) H1 := by
  obtain ⟨ρ, F, O, fl, ρ', R, e, q⟩ := h
  obtain ⟨⟨d, ρ1⟩, h1, h2⟩ := bind_some e
  cases h2
  exact ⟨ρ, F, O, d, ρ1, R, h1, fun v F' H' R' k r => q _ _ _ _ (R'.setD r) k.same⟩
theorem setW_val {K : PySem.W.Frag} {i : Nat} {f : Env → Option (E × Env)} {D : Ends} {σ : L2.St} {H : Hp} (h : tS K z (gSetW i f) D σ H) : tW K z f σ H fun x H1 => D.nx (σ.set i (some x)) H1 := by
  obtain ⟨ρ, F, O, fl, ρ', R, e, q⟩ := h
  obtain ⟨⟨d, ρ1⟩, h1, h2⟩ := map_some e
  cases h2
  exact ⟨ρ, F, O, d, ρ1, R, h1, fun v F' H' as R' k r hf => q _ _ _ _ (setE_new (fun i a ha => (R.off i a ha).2) R' r hf) k.same⟩
theorem q_lc {it : Env → Option (List D)} {t : Env → Option Bool} {f : Env → Option D} (hc : X.calm = true) (hN : X.N.Nodup) (ok : BlkOk X.N X.env.scope scope own) (hi : PI X tg iter (tIP X.K z it))
    (hg : ∀ s H C cl fp, PG (blkE X scope s H C cl fp) tg (tG X.K z (ofJ (own.map (·.2))) b)) (ht : ∀ s H C cl fp, PTs (blkE X scope s H C cl fp) ifs (tB X.K z t))
    (he : ∀ s H C cl fp, PE (blkE X scope s H C cl fp) elt (tP X.K z f)) (hs : ∀ x, foldedSetIterable iter X.env x = pure x := by intro _; rfl) :
    PE X (.ListComp elt [⟨tg, iter, ifs, 0⟩] scope pos) (tP X.K z (cLc (own.map (·.2)) it b t f)) := (pe_lc hc hN hi ok hg ht he hs).mono fun _ _ _ h => lc_in h
theorem r_lc {it : Env → Option (List D × Env)} {t : Env → Option (Bool × Env)} {f : Env → Option (D × Env)} (hc : X.calm = true) (hN : X.N.Nodup) (ok : BlkOk X.N X.env.scope scope own) (hi : PI X tg iter (tIR X.K z it))
    (hg : ∀ s H C cl fp, PG (blkE X scope s H C cl fp) tg (tG X.K z (ofJ (own.map (·.2))) b)) (ht : ∀ s H C cl fp, PTs (blkE X scope s H C cl fp) ifs (tBR X.K z t))
    (he : ∀ s H C cl fp, PE (blkE X scope s H C cl fp) elt (tR X.K z f)) (hs : ∀ x, foldedSetIterable iter X.env x = pure x := by intro _; rfl) :
    PE X (.ListComp elt [⟨tg, iter, ifs, 0⟩] scope pos) (tR X.K z (cLcR (own.map (·.2)) it b t f)) := (pe_lc hc hN hi ok hg ht he hs).mono fun _ _ _ h => lcR_sh h
theorem w_lc {it : Env → Option (List D × Env)} {t : Env → Option (Bool × Env)} {f : Env → Option (D × Env)} (hc : X.calm = true) (hN : X.N.Nodup) (ok : BlkOk X.N X.env.scope scope own) (hi : PI X tg iter (tIR X.K z it))
    (hg : ∀ s H C cl fp, PG (blkE X scope s H C cl fp) tg (tG X.K z (ofJ (own.map (·.2))) b)) (ht : ∀ s H C cl fp, PTs (blkE X scope s H C cl fp) ifs (tBR X.K z t))
    (he : ∀ s H C cl fp, PE (blkE X scope s H C cl fp) elt (tR X.K z f)) (hs : ∀ x, foldedSetIterable iter X.env x = pure x := by intro _; rfl) :
    PE X (.ListComp elt [⟨tg, iter, ifs, 0⟩] scope pos) (tW X.K z (wLc (own.map (·.2)) it b t f)) := (pe_lc hc hN hi ok hg ht he hs).mono fun _ _ _ h => lcR_own h
theorem s_lc (i : Nat) {y : Str} {py spos : Pos} {it : Env → Option (List D)} {t : Env → Option Bool} {f : Env → Option D} (hc : X.calm = true) (hN : X.N.Nodup) (ok : BlkOk X.N X.env.scope scope own)
    (hsw : swapsWith (.ListComp elt [⟨tg, iter, ifs, 0⟩] scope pos) (some (.Name y py)) spos.line X.env = pure true) (hi : PI X tg iter (tIP X.K z it))
    (hg : ∀ s H C cl fp, PG (blkE X scope s H C cl fp) tg (tG X.K z (ofJ (own.map (·.2))) b)) (ht : ∀ s H C cl fp, PTs (blkE X scope s H C cl fp) ifs (tB X.K z t))
    (he : ∀ s H C cl fp, PE (blkE X scope s H C cl fp) elt (tP X.K z f)) (hy : X.N[i]? = some y := by rfl) (hyl : X.env.scope.names.lookup y = some .local := by rfl) (hs : ∀ x, foldedSetIterable iter X.env x = pure x := by intro _; rfl) :
    PS X (.Assign [.Name y py] (.ListComp elt [⟨tg, iter, ifs, 0⟩] scope pos) spos) (tS X.K z (gAsg (lf (cLc (own.map (·.2)) it b t f)) (bNm i))) := (ps_setLc hc hN hy hyl hsw hi ok hg ht he hs).mono fun _ _ _ h => lc_in (tP_of_lf (asg_val h))
theorem s_lcR (i : Nat) {y : Str} {py spos : Pos} {it : Env → Option (List D × Env)} {t : Env → Option (Bool × Env)} {f : Env → Option (D × Env)} (hc : X.calm = true) (hN : X.N.Nodup) (ok : BlkOk X.N X.env.scope scope own)
    (hsw : swapsWith (.ListComp elt [⟨tg, iter, ifs, 0⟩] scope pos) (some (.Name y py)) spos.line X.env = pure true) (hi : PI X tg iter (tIR X.K z it))
    (hg : ∀ s H C cl fp, PG (blkE X scope s H C cl fp) tg (tG X.K z (ofJ (own.map (·.2))) b)) (ht : ∀ s H C cl fp, PTs (blkE X scope s H C cl fp) ifs (tBR X.K z t))
    (he : ∀ s H C cl fp, PE (blkE X scope s H C cl fp) elt (tR X.K z f)) (hy : X.N[i]? = some y := by rfl) (hyl : X.env.scope.names.lookup y = some .local := by rfl) (hs : ∀ x, foldedSetIterable iter X.env x = pure x := by intro _; rfl) :
    PS X (.Assign [.Name y py] (.ListComp elt [⟨tg, iter, ifs, 0⟩] scope pos) spos) (tS X.K z (gAsg (cLcR (own.map (·.2)) it b t f) (bNm i))) := (ps_setLc hc hN hy hyl hsw hi ok hg ht he hs).mono fun _ _ _ h => lcR_sh (asg_val h)
theorem s_lcW (i : Nat) {y : Str} {py spos : Pos} {it : Env → Option (List D × Env)} {t : Env → Option (Bool × Env)} {f : Env → Option (D × Env)} (hc : X.calm = true) (hN : X.N.Nodup) (ok : BlkOk X.N X.env.scope scope own)
    (hsw : swapsWith (.ListComp elt [⟨tg, iter, ifs, 0⟩] scope pos) (some (.Name y py)) spos.line X.env = pure true) (hi : PI X tg iter (tIR X.K z it))
    (hg : ∀ s H C cl fp, PG (blkE X scope s H C cl fp) tg (tG X.K z (ofJ (own.map (·.2))) b)) (ht : ∀ s H C cl fp, PTs (blkE X scope s H C cl fp) ifs (tBR X.K z t))
    (he : ∀ s H C cl fp, PE (blkE X scope s H C cl fp) elt (tR X.K z f)) (hy : X.N[i]? = some y := by rfl) (hyl : X.env.scope.names.lookup y = some .local := by rfl) (hs : ∀ x, foldedSetIterable iter X.env x = pure x := by intro _; rfl) :
    PS X (.Assign [.Name y py] (.ListComp elt [⟨tg, iter, ifs, 0⟩] scope pos) spos) (tS X.K z (gSetW i (wLc (own.map (·.2)) it b t f))) := (ps_setLc hc hN hy hyl hsw hi ok hg ht he hs).mono fun _ _ _ h => lcR_own (setW_val h)
end

/-! ## a list of own lists: each item is made anew -/
def lcW2 (vs : List Nat) (b : D → Env → Option Env) (f : Env → Option (E × Env)) : List D → Env → Option (List D × Env)
  | [], ρ => some ([], wipeE ρ vs)
  | d :: r, ρ => (b d (wipeE ρ vs)).bind fun ρ1 => (f ρ1).bind fun p => match p.1 with
    | .own e => (lcW2 vs b f r p.2).bind fun w => some (e :: w.1, w.2)
    | _ => none
def wLc2 (vs : List Nat) (it : Env → Option (List D × Env)) (b : D → Env → Option Env) (f : Env → Option (E × Env)) : Env → Option (E × Env) := fun ρ => (it ρ).bind fun p => (lcW2 vs b f p.1 p.2).bind fun q => if q.1.length ≤ 1000 then some (.own2 (.list q.1), q.2) else none
theorem Objs.append {K : PySem.W.Frag} {F H : Hp} {p : Addr} {d : D} (h : Obj1 K F H p d) : ∀ {ps : List Addr} {ds : List D}, Objs K F H ps ds → Objs K F H (ps ++ [p]) (ds ++ [d])
  | _, _, .nil => .cons h .nil
  | _, _, .cons h' t => .cons h' (Objs.append h t)
theorem lcW2_in {K : PySem.W.Frag} {z : Z} {vs : List Nat} {it : Env → Option (List D × Env)} {b : D → Env → Option Env} {f : Env → Option (E × Env)} {σ : L2.St} {H : Hp} {Q : VK} (h : tW K z (wLc2 vs it b f) σ H Q) :
    tLc (tIR K z it) (tG K z (ofJ vs) b) (tBR K z bYesR) (tW K z f) vs σ H Q := by
  obtain ⟨ρ, F, O, en, ρz, R, e, q⟩ := h
  obtain ⟨⟨ds, ρ1⟩, h1, e⟩ := bind_some e
  obtain ⟨⟨es, ρe⟩, h2, e⟩ := bind_some e
  split at e
  · next hl =>
    cases e
    dsimp only at h2 hl
    refine ⟨ρ, F, O, ds, ρ1, R, h1, fun J F1 H1 R1 k1 y D hD => ?_⟩
    have hD0 : H D = none := k1.none_back hD
    have hDO : ∀ i, D ∉ O i := fun i hi => (R.off i D hi).2 hD0
    have hDz := H0_of R hD0
    have hDF : F1 D = none := R1.sub.free hD
    have kD : Kp F1 H1 F1 (upd H1 D (.lst [])) O := newW_kp R1.sub hD
    have off : ∀ {F2 H2 : Hp}, Kp F1 H1 F2 H2 O → ∀ i a, a ∈ O i → F2 a = none ∧ H2 a ≠ none := fun k i a ha => ⟨k.out a (R1.off i a ha).2 (R1.off i a ha).1, k.dom a (R1.off i a ha).2⟩
    have kput : ∀ {F2 Hc : Hp} {o : HO}, Kp F1 H1 F2 Hc O → Kp F1 H1 F2 (upd Hc D o) O := fun {F2 Hc o} k => ⟨k.same, fun a o' ea n => by
      have nD : a ≠ D := fun q => by
        rw [q, hD] at ea
        cases ea
      rw [upd_ne nD]
      exact k.keep a o' ea n, k.out, fun a ea => by
      have nD : a ≠ D := fun q => ea (by rw [q]; exact hD)
      rw [upd_ne nD]
      exact k.dom a ea⟩
    refine ⟨fun i m Hc => m = ds.length - i ∧ i ≤ ds.length ∧ ∃ ρc F2 acc qs rest, Rel K z (wipeE ρc vs) (wipe σ vs) F2 Hc O ∧ Kp F1 H1 F2 Hc O ∧ F2 D = none ∧ Hc D = some (.lst (qs.map V.ref)) ∧ Objs K F2 Hc qs acc ∧ (D :: qs).Nodup ∧ (∀ a ∈ qs, H1 a = none ∧ F2 a = none) ∧ lcW2 vs b f (ds.drop i) ρc = some (rest, ρe) ∧ acc ++ rest = es,
      ⟨ds.length, by simp, Nat.zero_le _, ρ1, F1, [], [], es, (R1.wipe vs).other hDF hDO hDz, kD, hDF, upd_same, .nil, by simp, (fun a ha => by cases ha), h2, rfl⟩, ?_⟩
    rintro i m Hc ⟨rfl, hi, ρc, F2, acc, qs, rest, R2, k2, hF2, hDc, ra, hn, hq, hr, hes⟩
    have notO : ∀ a ∈ qs, ∀ i, a ∉ O i := fun a ha i hi => (R1.off i a hi).2 (hq a ha).1
    by_cases hlt : i < ds.length
    · have ed : ds.drop i = ds[i] :: ds.drop (i + 1) := by rw [List.drop_eq_getElem_cons hlt]
      rw [ed] at hr
      obtain ⟨ρ3, e3, hr⟩ := bind_some hr
      obtain ⟨⟨ev, ρ7⟩, e4, hr⟩ := bind_some hr
      have sY : Same F1 Hc := k2.same.trans R2.sub
      refine .inr ⟨y.go i Hc sY hlt, fun Hc => ∃ ρc F2 acc qs rest, Rel K z (wipeE ρc vs) (wipe σ vs) F2 Hc O ∧ Kp F1 H1 F2 Hc O ∧ F2 D = none ∧ Hc D = some (.lst (qs.map V.ref)) ∧ Objs K F2 Hc qs acc ∧ (D :: qs).Nodup ∧ (∀ a ∈ qs, H1 a = none ∧ F2 a = none) ∧ lcW2 vs b f (ds.drop (i + 1)) ρc = some (rest, ρe) ∧ acc ++ rest = es, fun H' n => ⟨ds.length - (i + 1), by omega, rfl, by omega, n⟩, fun x H' yx => ?_⟩
      obtain ⟨sx, rx⟩ := y.yld i F2 Hc x H' _ k2.same R2.sub R2.tup yx (List.getElem?_eq_getElem hlt)
      have R3 := R2.grow sx
      have k3 : Kp F1 H1 (ext F2 Hc H') H' O := k2.trans (.of_same R2.sub sx)
      have hF3 : ext F2 Hc H' D = none := ext_none hF2 hDc
      have hD3 : H' D = some (.lst (qs.map V.ref)) := sx _ _ hDc
      refine ⟨_, _, O, _, ρ3, R3, rx, e3, fun σ5 O5 R5 st => ?_⟩
      have ew : wipe σ5 vs = wipe σ vs := by rw [st.wp vs fun j hj => ofJ_mem hj, wipe_idem]
      refine ⟨ew, ρ3, _, O5, true, ρ3, R5, rfl, fun F6 H6 R6 k6 => ?_⟩
      have k6' := k6.wide st.sub
      refine ⟨ρ3, F6, O5, ev, ρ7, R6, e4, fun yv F7 H7 as R7 k7 ent fr => ?_⟩
      dsimp only at hr
      split at hr
      · next e7 =>
        obtain ⟨⟨rest', ρ8⟩, e6, hr⟩ := bind_some hr
        cases hr
        obtain ⟨p, ev1, ev2, ev3, ob⟩ := ent
        subst ev1 ev2
        have k7' := k7.wide st.sub
        have k37 := k6'.trans k7'
        have kk := k3.trans k37
        have hD7 : H7 D = some (.lst (qs.map V.ref)) := k37.keep _ _ hD3 hDO
        have hF7 : F7 D = none := k37.out D (ne_none hD3) hF3
        have R7' := R7.back (vs := vs) (O := O) (fun i hi => st.oo i (ofJ_not hi)) (off kk) R1.apt
        rw [ew] at R7'
        obtain ⟨fp1, fp2, fp3⟩ := fr p List.mem_cons_self
        have fp1' : H' p = none := k6.none_back fp1
        have fpc : Hc p = none := by
          cases q2 : Hc p with
          | none => rfl
          | some o =>
            rw [sx _ _ q2] at fp1'
            cases fp1'
        have fpH : H1 p = none := k2.none_back fpc
        have npD : p ≠ D := fun e => by
          rw [e, hDc] at fpc
          cases fpc
        have npq : p ∉ qs := fun hm => by
          obtain ⟨o, eo⟩ := ra.some p hm
          rw [eo] at fpc
          cases fpc
        have nDq : D ∉ qs := (List.nodup_cons.mp hn).1
        have keepq : ∀ a ∈ qs, upd H7 D (.lst ((qs ++ [p]).map V.ref)) a = Hc a := fun a ha => by
          rw [upd_ne (show a ≠ D from fun e => nDq (e ▸ ha))]
          obtain ⟨o, eo⟩ := ra.some a ha
          rw [eo]
          exact k37.keep a o (sx _ _ eo) (notO a ha)
        have emap : (qs.map V.ref ++ [V.ref p]) = (qs ++ [p]).map V.ref := by rw [List.map_append]; rfl
        refine ⟨_, hD7, ?_, ρ7, F7, acc ++ [e7], qs ++ [p], rest', ?_, kput kk, hF7, ?_, ?_, ?_, ?_, e6, by rw [List.append_assoc]; exact hes⟩
        · have l1 := ra.length
          have l2 : acc.length ≤ es.length := by rw [← hes, List.length_append]; omega
          have := small1000 hl
          rw [List.length_map]
          omega
        · exact R7'.other hF7 hDO hDz
        · rw [upd_same, emap]
        · rw [emap]
          exact Objs.append (ob.mono (Same.refl _) (upd_ne npD)) (ra.mono ((same_ext R2.sub).trans k37.same) keepq)
        · rw [← List.cons_append, List.nodup_append]
          refine ⟨hn, by simp, fun a ha b hb => ?_⟩
          rw [List.mem_singleton] at hb
          subst hb
          rcases List.mem_cons.mp ha with e | e
          · subst e
            exact npD.symm
          · exact fun q => npq (q ▸ e)
        · intro a ha
          rcases List.mem_append.mp ha with ha | ha
          · obtain ⟨u1, u2⟩ := hq a ha
            refine ⟨u1, ?_⟩
            obtain ⟨o, eo⟩ := ra.some a ha
            exact k37.out a (ne_none (sx _ _ eo)) (ext_none u2 eo)
          · rw [List.mem_singleton] at ha
            subst ha
            exact ⟨fpH, fp2⟩
      · cases hr
    · have ei : i = ds.length := by omega
      subst ei
      rw [List.drop_length] at hr
      cases hr
      rw [List.append_nil] at hes
      subst hes
      have h1H : ∀ a, H1 a = none → H a = none := fun a ha => k1.none_back ha
      refine .inl ⟨y.stop _ Hc (k2.same.trans R2.sub) rfl, q _ F2 Hc (D :: qs) R2.unwipe (k1.trans k2) ⟨D, qs, _, rfl, rfl, rfl, hDc, hn, fun a ha => ?_, ra⟩ fun a ha => ?_⟩
      · rcases List.mem_cons.mp ha with e | e
        · subst e
          exact hDz
        · exact H0_of R (h1H a (hq a e).1)
      · rcases List.mem_cons.mp ha with e | e
        · subst e
          exact ⟨hD0, hF2, ne_none hDc⟩
        · obtain ⟨o, eo⟩ := ra.some a e
          exact ⟨h1H a (hq a e).1, (hq a e).2, ne_none eo⟩
  · cases e
section
variable {X : Cx} {z : Z} {elt tg iter : Expr} {scope : Scope} {own : List (Str × Nat)} {pos : Pos} {b : D → Env → Option Env}
theorem w_lc2 {it : Env → Option (List D × Env)} {f : Env → Option (E × Env)} (hc : X.calm = true) (hN : X.N.Nodup) (ok : BlkOk X.N X.env.scope scope own) (hi : PI X tg iter (tIR X.K z it))
    (hg : ∀ s H C cl fp, PG (blkE X scope s H C cl fp) tg (tG X.K z (ofJ (own.map (·.2))) b))
    (he : ∀ s H C cl fp, PE (blkE X scope s H C cl fp) elt (tW X.K z f)) (hs : ∀ x, foldedSetIterable iter X.env x = pure x := by intro _; rfl) :
    PE X (.ListComp elt [⟨tg, iter, [], 0⟩] scope pos) (tW X.K z (wLc2 (own.map (·.2)) it b f)) := (pe_lc hc hN hi ok hg (fun _ _ _ _ _ => t_nilR) he hs).mono fun _ _ _ h => lcW2_in h
theorem s_lcW2 (i : Nat) {y : Str} {py spos : Pos} {it : Env → Option (List D × Env)} {f : Env → Option (E × Env)} (hc : X.calm = true) (hN : X.N.Nodup) (ok : BlkOk X.N X.env.scope scope own)
    (hsw : swapsWith (.ListComp elt [⟨tg, iter, [], 0⟩] scope pos) (some (.Name y py)) spos.line X.env = pure true) (hi : PI X tg iter (tIR X.K z it))
    (hg : ∀ s H C cl fp, PG (blkE X scope s H C cl fp) tg (tG X.K z (ofJ (own.map (·.2))) b))
    (he : ∀ s H C cl fp, PE (blkE X scope s H C cl fp) elt (tW X.K z f)) (hy : X.N[i]? = some y := by rfl) (hyl : X.env.scope.names.lookup y = some .local := by rfl) (hs : ∀ x, foldedSetIterable iter X.env x = pure x := by intro _; rfl) :
    PS X (.Assign [.Name y py] (.ListComp elt [⟨tg, iter, [], 0⟩] scope pos) spos) (tS X.K z (gSetW i (wLc2 (own.map (·.2)) it b f))) := (ps_setLc hc hN hy hyl hsw hi ok hg (fun _ _ _ _ _ => t_nilR) he hs).mono fun _ _ _ h => lcW2_in (setW_val h)
end
end DL

namespace DL
open PySem PySem.Spec PyProof.Rows L2

/-! ## defs: what they promise, how they are called -/
def spP (K : PySem.W.Frag) (m : List D → Option D) : Sp := fun vs H Q _ => ∃ F ds d, (Same F H ∧ AllT F H) ∧ RepL K F vs ds ∧ m ds = some d ∧ ∀ v H', Same H H' → Rep K (ext F H H') v d → Q v H'
/-- the first parameter a list that the def writes to -/
def spR (K : PySem.W.Frag) (m : List D → List D → Option (D × List D)) : Sp := fun vs H Q _ => ∃ F p ws ds vs' as d ds', vs = .ref p :: vs' ∧ (Same F H ∧ AllT F H) ∧ F p = none ∧ H p = some (.lst ws) ∧ RepL K F ws ds ∧ RepL K F vs' as ∧ m ds as = some (d, ds') ∧
  ∀ v H' ws', (∀ a o, a ≠ p → H a = some o → H' a = some o) → H' p = some (.lst ws') → RepL K (ext F H H') ws' ds' → Rep K (ext F H H') v d → Q v H'
def fin : Fl × Env → Option D
  | (.ret d, _) => some d
  | (.nx, _) => some .none
  | _ => none
def ini (N : Nat) (ds : List D) : Env := ds.map (fun d => some (.sh d)) ++ List.replicate (N - ds.length) none
def run (N n : Nat) (g : Gs) : List D → Option D := fun ds => if ds.length = n then (g (ini N ds)).bind fin else none
def rowL (e : Option (Option E)) : Option (List D) := match e with
  | some (some (.row (.list ds))) => some ds
  | _ => none
def runR (N n : Nat) (g : Gs) : List D → List D → Option (D × List D) := fun ds as => if as.length + 1 = n then (g (some (.row (.list ds)) :: ini (N - 1) as)).bind fun p => (fin p).bind fun d => (rowL p.2[0]?).bind fun ds' => some (d, ds') else none
section
variable {P : Program} {w : World} {K : PySem.W.Frag} {mg : Str → Option Value} {base : Heap}
theorem ini_get {N : Nat} {ds : List D} {i : Nat} {e : E} (h : (ini N ds)[i]? = some (some e)) : ∃ d, ds[i]? = some d ∧ e = .sh d := by
  unfold ini at h
  by_cases q : i < ds.length
  · rw [List.getElem?_append_left (by rw [List.length_map]; exact q), List.getElem?_map] at h
    obtain ⟨d, h1, h2⟩ := map_some h
    cases h2
    exact ⟨d, h1, rfl⟩
  · rw [List.getElem?_append_right (by rw [List.length_map]; omega), List.getElem?_replicate] at h
    split at h <;> cases h
theorem start_get {N : List Str} {vs : List V} {i : Nat} {v : V} (h : vs[i]? = some v) : (L2.start N vs)[i]? = some (some v) := by
  unfold L2.start
  have hl := (List.getElem?_eq_some_iff.mp h).1
  rw [List.getElem?_append_left (by rw [List.length_map]; exact hl), List.getElem?_map, h]
  rfl
theorem rel_start {c : Addr} {l : List Addr} {N : List Str} {F H : Hp} {vs : List V} {ds : List D} (s : Same F H) (t : AllT F H) (r : RepL K F vs ds) : Rel K ⟨H, F, fun _ => False, c, l⟩ (ini N.length ds) (L2.start N vs) F H (fun _ => []) where
  len := by
    unfold ini L2.start
    rw [List.length_append, List.length_append, List.length_map, List.length_map, r.length, List.length_replicate, List.length_replicate]
  sub := s
  ent := fun i e h => by
    obtain ⟨d, h1, h2⟩ := ini_get h
    subst h2
    obtain ⟨v, h3, h4⟩ := r.get h1
    exact ⟨v, start_get h3, rfl, h4⟩
  off := fun i a ha => by cases ha
  apt := fun i j a ha => by cases ha
  old := fun a _ f => f
  oldH := fun a h => h
  keep := fun a o h _ => h
  f0 := Same.refl _
  tup := t
theorem end_sub {c : Addr} {l : List Addr} {F H F' H' : Hp} {B : Addr → Prop} {ρ : Env} {σ : L2.St} {O : Nat → List Addr} (s : Same F H) (R : Rel K ⟨H, F, B, c, l⟩ ρ σ F' H' O) : Same F' (ext F H H') := fun a o e => by
  unfold ext
  cases q : H a with
  | none => simpa using R.sub a o e
  | some u =>
    cases q2 : F a with
    | none =>
      rw [R.old a (ne_none q) q2] at e
      cases e
    | some o2 =>
      have := R.f0 a o2 q2
      rw [e] at this
      cases this
      simp
theorem run_len {N n : Nat} {g : Gs} {ds : List D} {d : D} (h : run N n g ds = some d) : ds.length = n := by
  unfold run at h
  split at h
  · assumption
  · cases h
theorem ok_P {x qual : Str} {st : Stmt} {f : Addr} {fd : FuncData} {N ps : List Str} {k : Nat} {g : Gs} (F : Fun K x qual st f fd) (S : FnScope N ps (defScope st))
    (h : ∀ (cdv : Value) (A : Around) (outer : List PySem.Env) (s : Shared) (H : Hp) (E : XK) (z : Z), Room k (A.deeper (envOfC qual (defScope st) s.heap.objs.size f cdv)) → PSs (cxOf CX0 P w K mg base N qual (defScope st) f cdv A outer s H E).nox (defBody st) (tS K z g)) :
    FnOk P w K mg base CX0 (k + 1) f fd ps (spP K (run N.length ps.length g)) := by
  refine F.ok S (fun vs H Q E h => ?_) (fun cdv A outer s H vs Q E hr q => ?_)
  · obtain ⟨F, ds, d, _, r, e, _⟩ := h
    rw [r.length]
    exact run_len e
  · obtain ⟨F, ds, d, ⟨s0, t0⟩, r, e, q⟩ := q
    refine ⟨_, h cdv A outer s H E ⟨H, F, fun _ => False, 0, []⟩ hr, ?_⟩
    unfold run at e
    split at e
    · obtain ⟨⟨fl, ρ'⟩, h1, h2⟩ := bind_some e
      refine ⟨_, F, _, fl, ρ', rel_start s0 t0 r, h1, ?_⟩
      cases fl with
      | nx =>
        cases h2
        exact fun σ F' H' O R s => q .non H' (fun a o h => R.keep a o h id) .non
      | bk => cases h2
      | ct => cases h2
      | ret d2 =>
        cases h2
        exact fun v σ F' H' O R s r => q v H' (fun a o h => R.keep a o h id) (r.mono (end_sub s0 R))
    · cases e
theorem rel_startR {N : List Str} {F H : Hp} {p : Addr} {ws vs : List V} {ds as : List D} (hN : 0 < N.length) (s : Same F H) (t : AllT F H) (hF : F p = none) (hp : H p = some (.lst ws)) (rw' : RepL K F ws ds) (r : RepL K F vs as) : Rel K ⟨H, F, fun a => a = p, 0, []⟩ (some (.row (.list ds)) :: ini (N.length - 1) as) (L2.start N (.ref p :: vs)) F H (fun i => if i = 0 then [p] else []) where
  len := by
    unfold ini L2.start
    simp only [List.length_append, List.length_map, List.length_replicate, List.length_cons, r.length]
    omega
  sub := s
  ent := fun i e h => by
    cases i with
    | zero =>
      cases h
      exact ⟨.ref p, rfl, p, rfl, rfl, rfl, ws, hp, rw'⟩
    | succ i =>
      have h : (ini (N.length - 1) as)[i]? = some (some e) := h
      obtain ⟨d, h1, h2⟩ := ini_get h
      subst h2
      obtain ⟨v, h3, h4⟩ := r.get h1
      exact ⟨v, start_get (by simpa using h3), rfl, h4⟩
  off := fun i a ha => by
    split at ha
    · rcases List.mem_cons.mp ha with e | e
      · subst e
        exact ⟨hF, ne_none hp⟩
      · cases e
    · cases ha
  apt := fun i j a hi hj => by
    split at hi
    · split at hj
      · omega
      · cases hj
    · cases hi
  old := fun a _ f => f
  oldH := fun a h => h
  keep := fun a o h _ => h
  f0 := Same.refl _
  tup := t
theorem runR_len {N n : Nat} {g : Gs} {ds as : List D} {r : D × List D} (h : runR N n g ds as = some r) : as.length + 1 = n := by
  unfold runR at h
  split at h
  · assumption
  · cases h
theorem ok_R {x qual : Str} {st : Stmt} {f : Addr} {fd : FuncData} {N ps : List Str} {k : Nat} {g : Gs} (F : Fun K x qual st f fd) (S : FnScope N ps (defScope st)) (hN : 0 < N.length)
    (h : ∀ (cdv : Value) (A : Around) (outer : List PySem.Env) (s : Shared) (H : Hp) (E : XK) (z : Z), Room k (A.deeper (envOfC qual (defScope st) s.heap.objs.size f cdv)) → PSs (cxOf CX0 P w K mg base N qual (defScope st) f cdv A outer s H E).nox (defBody st) (tS K z g)) :
    FnOk P w K mg base CX0 (k + 1) f fd ps (spR K (runR N.length ps.length g)) := by
  refine F.ok S (fun vs H Q E h => ?_) (fun cdv A outer s H vs Q E hr q => ?_)
  · obtain ⟨F, p, ws, ds, vs', as, d, ds', e1, _, _, _, _, r, e, _⟩ := h
    rw [e1, List.length_cons, r.length]
    exact runR_len e
  · obtain ⟨F, p, ws, ds, vs', as, d, ds', e1, ⟨s0, t0⟩, hF, hp, rw', r, e, q⟩ := q
    subst e1
    refine ⟨_, h cdv A outer s H E ⟨H, F, fun a => a = p, 0, []⟩ hr, ?_⟩
    unfold runR at e
    split at e
    · obtain ⟨⟨fl, ρ'⟩, h1, e⟩ := bind_some e
      obtain ⟨d', h2, e⟩ := bind_some e
      obtain ⟨ds2, h3, e⟩ := bind_some e
      cases e
      refine ⟨_, F, _, fl, ρ', rel_startR hN s0 t0 hF hp rw' r, h1, ?_⟩
      have go : ∀ {v : V} {σ : L2.St} {F' H' : Hp} {O : Nat → List Addr}, Rel K ⟨H, F, fun a => a = p, 0, []⟩ ρ' σ F' H' O → Rep K F' v d → Q v H' := fun {v σ F' H' O} R rv => by
        dsimp only at h3
        unfold rowL at h3
        split at h3
        · next hi =>
          cases h3
          obtain ⟨v2, _, p2, _, _, e3, ws', h4, h5⟩ := R.ent 0 _ hi
          have e3 : p2 = p := e3
          subst e3
          exact q v H' ws' (fun a o n ha => R.keep a o ha n) h4 (h5.mono (end_sub s0 R)) (rv.mono (end_sub s0 R))
        · cases h3
      cases fl with
      | nx =>
        cases h2
        exact fun σ F' H' O R s => go R .non
      | bk => cases h2
      | ct => cases h2
      | ret d2 =>
        cases h2
        exact fun v σ F' H' O R s r => go R r
    · cases e
/-- a def that may be called by its name -/
structure Cal (P : Program) (w : World) (K : PySem.W.Frag) (mg : Str → Option Value) (base : Heap) (k : Nat) (x : Str) (sp : Sp) : Prop where
  ex : ∃ (f : Addr) (fd : FuncData) (ps : List Str), FnOk P w K mg base CX0 k f fd ps sp ∧ mg x = some (.ref f) ∧ PySem.W.keepIn K (.ref f) = true ∧ Binds K fd ps []
theorem Cal.mono {j k : Nat} {x : Str} {sp : Sp} (c : Cal P w K mg base j x sp) (h : j ≤ k) : Cal P w K mg base k x sp := by
  obtain ⟨f, fd, ps, F, h1, h2, h3⟩ := c.ex
  exact ⟨f, fd, ps, F.mono h, h1, h2, h3⟩
end
section
variable {X : Cx} {z : Z} {x : Str} {k j : Nat} {p pos : Pos} {e : Expr} {es : List Expr}
theorem q_call {m : List D → Option D} {f : Env → Option (List D)} (c : Cal X.prog X.w X.K X.mg X.base k x (spP X.K m)) (hr : Room j X.A) (hk : k ≤ j) (hg : Gl X x) (ha : PA X (e :: es) (tPs X.K z f))
    (hdb : (x == ("__debug__" : Str)) = false := by decide) (he : starEach (e :: es) X.env = (false, eval e X.env) :: starEach es X.env := by rfl) (hpl : (backTo pos (starEach es X.env)).any (·.1) = false := by rfl) : PE X (.Call (.Name x p) (e :: es) [] pos) (tP X.K z (cN m f)) := by
  obtain ⟨g, fd, ps, F, h1, h2, h3⟩ := c.ex
  refine (pe_call (dvs := []) F (hr.mono hk) hg h1 h2 h3 .nil pass0 ha hdb he hpl).mono fun σ H Q ⟨ρ, F, O, d, R, e, q⟩ => ?_
  obtain ⟨ds, h4, h5⟩ := bind_some e
  refine ⟨ρ, F, O, ds, R, h4, fun vs H1 s1 r => ?_⟩
  show spP X.K m (vs ++ []) H1 Q E0
  rw [List.append_nil]
  refine ⟨_, ds, d, ⟨(R.grow s1).sub, (R.grow s1).tup⟩, r, h5, fun v H2 s2 r2 => ?_⟩
  rw [ext_ext s1 s2] at r2
  exact q v H2 (s1.trans s2) r2
theorem r_call {m : List D → Option D} {f : Env → Option (List D × Env)} (c : Cal X.prog X.w X.K X.mg X.base k x (spP X.K m)) (hr : Room j X.A) (hk : k ≤ j) (hg : Gl X x) (ha : PA X (e :: es) (tRs X.K z f))
    (hdb : (x == ("__debug__" : Str)) = false := by decide) (he : starEach (e :: es) X.env = (false, eval e X.env) :: starEach es X.env := by rfl) (hpl : (backTo pos (starEach es X.env)).any (·.1) = false := by rfl) : PE X (.Call (.Name x p) (e :: es) [] pos) (tR X.K z (rN m f)) := by
  obtain ⟨g, fd, ps, F, h1, h2, h3⟩ := c.ex
  refine (pe_call (dvs := []) F (hr.mono hk) hg h1 h2 h3 .nil pass0 ha hdb he hpl).mono fun σ H Q ⟨ρ, F, O, d, ρ', R, e, q⟩ => ?_
  obtain ⟨⟨ds, ρ1⟩, h4, e⟩ := bind_some e
  obtain ⟨d2, h5, e⟩ := map_some e
  cases e
  refine ⟨ρ, F, O, ds, ρ1, R, h4, fun vs F1 H1 R1 k1 r => ?_⟩
  show spP X.K m (vs ++ []) H1 Q E0
  rw [List.append_nil]
  exact ⟨_, ds, _, ⟨R1.sub, R1.tup⟩, r, h5, fun v H2 s2 r2 => q v _ H2 (R1.grow s2) (k1.trans (.of_same R1.sub s2)) r2⟩
def rRow (i : Nat) (m : List D → List D → Option (D × List D)) (f : Env → Option (List D × Env)) : Env → Option (D × Env) := fun ρ => (ownL ρ[i]?).bind fun _ => (f ρ).bind fun p => (ownL p.2[i]?).bind fun ds => (m ds p.1).bind fun q => some (q.1, putL i q.2 p.2)
theorem Rel.rowed {K : PySem.W.Frag} {ρ : Env} {σ : L2.St} {F H H' : Hp} {O : Nat → List Addr} {i : Nat} {ds ds' : List D} {p : Addr} {ws' : List V} (R : Rel K z ρ σ F H O) (h : ownL ρ[i]? = some ds) (hp : σ[i]? = some (some (.ref p))) (hk : ∀ a o, a ≠ p → H a = some o → H' a = some o) (hp' : H' p = some (.lst ws')) (r : RepL K (ext F H H') ws' ds') :
    Rel K z (DL.putL i ds' ρ) σ (ext F H H') H' O ∧ Kp F H (ext F H H') H' O := by
  obtain ⟨p', vs, s1, s2, s3, s4, s5, s6⟩ := ownL_of R h
  rw [s1] at hp
  cases hp
  have hm : p ∈ O i := by rw [s2]; exact List.mem_cons_self
  have eH : ∃ H1 : Hp, H1 = fun a => if a = p then H p else H' a := ⟨_, rfl⟩
  obtain ⟨H1, e1⟩ := eH
  have s01 : Same H H1 := fun a o ha => by
    rw [e1]
    dsimp only
    split
    · next q => rw [← q]; exact ha
    · next q => exact hk a o q ha
  have eF : ext F H H1 = ext F H H' := by
    funext a
    unfold ext
    cases q : H a with
    | some o => simp
    | none =>
      have n : a ≠ p := fun e => by
        rw [e, s3] at q
        cases q
      simp [e1, n]
  have R1 := R.grow s01
  rw [eF] at R1
  have R2 := R1.putL h s1 r
  have e2 : upd H1 p (.lst ws') = H' := by
    funext a
    by_cases q : a = p
    · rw [q, upd_same, hp']
    · rw [upd_ne q, e1]
      dsimp only
      rw [if_neg q]
  rw [e2] at R2
  refine ⟨R2, ⟨same_ext R.sub, fun a o ha n => hk a o (fun q => n i (by rw [q]; exact hm)) ha, fun a ha hF => ?_, fun a ha => ?_⟩⟩
  · obtain ⟨o, q⟩ := some_of ha
    unfold ext
    simp [q, hF]
  · obtain ⟨o, q⟩ := some_of ha
    by_cases n : a = p
    · rw [n]
      exact ne_none hp'
    · exact ne_none (hk a o n q)
theorem r_row (i : Nat) {y : Str} {py : Pos} {m : List D → List D → Option (D × List D)} {f : Env → Option (List D × Env)} (c : Cal X.prog X.w X.K X.mg X.base k x (spR X.K m)) (hr : Room j X.A) (hk : k ≤ j) (hg : Gl X x) (ha : PA X es (tRs X.K z f)) (hN : X.N[i]? = some y := by rfl)
    (hv : Vis X.env.scope y := by first | exact Or.inl rfl | exact Or.inr (Or.inl rfl) | exact Or.inr (Or.inr rfl)) (hd : (y == ("__debug__" : Str)) = false := by decide) (hcd : (y == ("__classdict__" : Str)) = false := by decide)
    (hdb : (x == ("__debug__" : Str)) = false := by decide) (he : starEach (.Name y py :: es) X.env = (false, eval (.Name y py) X.env) :: starEach es X.env := by rfl) (hpl : (backTo pos (starEach es X.env)).any (·.1) = false := by rfl) : PE X (.Call (.Name x p) (.Name y py :: es) [] pos) (tR X.K z (rRow i m f)) := by
  obtain ⟨g, fd, ps, F, h1, h2, h3⟩ := c.ex
  refine (pe_call (dvs := []) F (hr.mono hk) hg h1 h2 h3 .nil pass0 (pa_cons (pe_var hN hv hd hcd) ha he) hdb he hpl).mono fun σ H Q ⟨ρ, F, O, d, ρ', R, e, q⟩ => ?_
  obtain ⟨d0, h0, e⟩ := bind_some e
  obtain ⟨⟨as, ρ1⟩, h4, e⟩ := bind_some e
  obtain ⟨ds, h5, e⟩ := bind_some e
  obtain ⟨⟨d2, ds'⟩, h6, e⟩ := bind_some e
  cases e
  obtain ⟨p, vs0, s1, _⟩ := ownL_of R h0
  refine ⟨_, s1, ρ, F, O, as, ρ1, R, h4, fun vs F1 H1 R1 k1 r => ?_⟩
  obtain ⟨p', ws, t1, t2, t3, t4, t5, _⟩ := ownL_of R1 h5
  have e1 := s1.symm.trans t1
  cases e1
  show spR X.K m ((.ref p :: vs) ++ []) H1 Q E0
  rw [List.append_nil]
  have hm : p ∈ O i := by rw [t2]; exact List.mem_cons_self
  refine ⟨F1, p, ws, ds, vs, as, _, ds', rfl, ⟨R1.sub, R1.tup⟩, (R1.off i p hm).1, t3, t4, r, h6, fun v H2 ws' kp hp' r' rv => ?_⟩
  obtain ⟨R2, k2⟩ := R1.rowed h5 s1 kp hp' r'
  exact q v _ H2 R2 (k1.trans k2) rv
end
end DL

namespace DL
open PySem PySem.Spec PyProof.Rows L2

/-! ## sorted(set(xs)), xs a tuple of ints -/
def insS (x : Int) : List Int → List Int
  | [] => [x]
  | y :: r => if x < y then x :: y :: r else if x = y then y :: r else y :: insS x r
def sset : List Int → List Int
  | [] => []
  | x :: r => insS x (sset r)
theorem insS_mem {x k : Int} : ∀ {l : List Int}, k ∈ insS x l ↔ k = x ∨ k ∈ l
  | [] => by simp [insS]
  | y :: r => by
    unfold insS
    split
    · simp
    · split
      · next h =>
        subst h
        simp
      · rw [List.mem_cons, insS_mem, List.mem_cons]
        constructor
        · rintro (h | h | h)
          · exact .inr (.inl h)
          · exact .inl h
          · exact .inr (.inr h)
        · rintro (h | h | h)
          · exact .inr (.inl h)
          · exact .inl h
          · exact .inr (.inr h)
theorem sset_mem {k : Int} : ∀ {l : List Int}, k ∈ sset l ↔ k ∈ l
  | [] => Iff.rfl
  | x :: r => by
    unfold sset
    rw [insS_mem, sset_mem, List.mem_cons]
theorem insS_pw {x : Int} : ∀ {l : List Int}, l.Pairwise (· < ·) → (insS x l).Pairwise (· < ·)
  | [], _ => by simp [insS]
  | y :: r, h => by
    obtain ⟨h1, h2⟩ := List.pairwise_cons.mp h
    unfold insS
    split
    · next q =>
      refine List.pairwise_cons.mpr ⟨fun a ha => ?_, h⟩
      rcases List.mem_cons.mp ha with e | e
      · subst e
        exact q
      · have := h1 a e
        omega
    · split
      · exact h
      · refine List.pairwise_cons.mpr ⟨fun a ha => ?_, insS_pw h2⟩
        rcases insS_mem.mp ha with e | e
        · subst e
          omega
        · exact h1 a e
theorem sset_pw : ∀ l : List Int, (sset l).Pairwise (· < ·)
  | [] => .nil
  | x :: r => insS_pw (sset_pw r)
theorem pw_unique : ∀ {a b : List Int}, a.Pairwise (· < ·) → b.Pairwise (· < ·) → (∀ k, k ∈ a ↔ k ∈ b) → a = b
  | [], [], _, _, _ => rfl
  | [], y :: r, _, _, h => absurd ((h y).mpr List.mem_cons_self) (by simp)
  | x :: r, [], _, _, h => absurd ((h x).mp List.mem_cons_self) (by simp)
  | x :: r, y :: q, ha, hb, h => by
    obtain ⟨a1, a2⟩ := List.pairwise_cons.mp ha
    obtain ⟨b1, b2⟩ := List.pairwise_cons.mp hb
    have e : x = y := by
      have hx := (h x).mp List.mem_cons_self
      have hy := (h y).mpr List.mem_cons_self
      rcases List.mem_cons.mp hx with e | e
      · exact e
      · rcases List.mem_cons.mp hy with e2 | e2
        · exact e2.symm
        · have := b1 x e
          have := a1 y e2
          omega
    subst e
    rw [pw_unique a2 b2 fun k => ?_]
    constructor
    · intro hk
      rcases List.mem_cons.mp ((h k).mp (List.mem_cons_of_mem _ hk)) with e | e
      · have := a1 k hk
        omega
      · exact e
    · intro hk
      rcases List.mem_cons.mp ((h k).mpr (List.mem_cons_of_mem _ hk)) with e | e
      · have := b1 k hk
        omega
      · exact e
theorem bt_len : bootBuiltins "len" = some (.builtin "len") := by decide +kernel
theorem bt_abs : bootBuiltins "abs" = some (.builtin "abs") := by decide +kernel
theorem bt_sum : bootBuiltins "sum" = some (.builtin "sum") := by decide +kernel
theorem bt_min : bootBuiltins "min" = some (.builtin "min") := by decide +kernel
theorem bt_max : bootBuiltins "max" = some (.builtin "max") := by decide +kernel
theorem bt_sorted : bootBuiltins "sorted" = some (.builtin "sorted") := by decide +kernel
theorem bt_isinstance : bootBuiltins "isinstance" = some (.builtin "isinstance") := by decide +kernel
theorem bt_int : bootBuiltins "int" = some (.type "int") := by decide +kernel
theorem bt_list : bootBuiltins "list" = some (.type "list") := by decide +kernel
theorem bt_tuple : bootBuiltins "tuple" = some (.type "tuple") := by decide +kernel
theorem bt_set : bootBuiltins "set" = some (.type "set") := by decide +kernel
theorem bt_bool : bootBuiltins "bool" = some (.type "bool") := by decide +kernel
theorem bt_str : bootBuiltins "str" = some (.type "str") := by decide +kernel
def oSSet : D → Option D
  | .tuple ds => (intsOf ds).bind fun ns => if ns.length < 64 then some (.list ((sset ns).map .int)) else none
  | _ => none
section
variable {X : Cx} {z : Z}
def rSetTI (K : PySem.W.Frag) (w : World) : List V → Hp → VK → Prop := fun vs H Q => ∃ (l : Addr) (ns : List Int), vs = [V.ref l] ∧ SqT K H l (ns.map V.int) ∧ ns.length ≤ 4000 ∧ ∀ p c, c ≤ ns.length → H p = none → Q (.ref p) (upd H p (SetO w p (fun j => decide (j ∈ ns)) c))
theorem cr_setTI (hc : X.calm = true) : CallR X (.type "set") (rSetTI X.K X.w) := by
  intro pins s σ H xs us Q I r h
  obtain ⟨l, ns, rfl, hq, hl, q⟩ := h
  rw [Vals.ref1 r]
  obtain ⟨its, rv, pl, hz⟩ := I.tuple hq
  refine call_set_tupI (P := X.prog) ns (I.ok.hd hc) pl (by simpa using rv.ints) (by unfold scanBound; omega) fun h' tk c R hc' k => ?_
  have hn : H s.heap.objs.size = none := I.hok.fresh (Nat.le_refl _)
  exact ⟨.ref _, upd H s.heap.objs.size (SetO X.w s.heap.objs.size (fun j => decide (j ∈ ns)) c), I.laid (t' := tk) k (Nat.le_refl _) (setO_new R), rfl, q _ c hc' hn⟩
theorem q_sset {a : Expr} {f : Env → Option D} {p p2 q pos : Pos} (hc : X.calm = true) (hg : Gl X "sorted") (hm : X.mg "sorted" = none) (hg2 : Gl X "set") (hm2 : X.mg "set" = none) (ha : PE X a (tP X.K z f))
    (na : starEach [a] X.env = (false, eval a X.env) :: starEach [] X.env := by rfl) (nb : starEach [.Call (.Name "set" p2) [a] [] q] X.env = (false, eval (.Call (.Name "set" p2) [a] [] q) X.env) :: starEach [] X.env := by rfl) : PE X (.Call (.Name "sorted" p) [.Call (.Name "set" p2) [a] [] q] [] pos) (tP X.K z (c1 oSSet f)) :=
  (pe_callB (cr_sortedSet hc) hg hm bt_sorted (pa_cons (pe_callTy (cr_setTI hc) hg2 hm2 bt_set (pa_cons ha pa_nil na) (by decide) (by decide) na) pa_nil nb) (by decide) (by decide) nb).mono fun σ H Q ⟨ρ, F, O, d, R, e, q⟩ => by
    obtain ⟨d1, h1, h2⟩ := bind_some e
    unfold oSSet at h2
    split at h2
    · obtain ⟨ns, h3, h2⟩ := bind_some h2
      split at h2
      · next hl =>
        cases h2
        have e3 := intsOf_eq h3
        subst e3
        refine ⟨ρ, F, O, _, R, h1, fun v H1 s1 r1 => ?_⟩
        cases r1 with
        | tup ht t =>
          have et := t.ints
          subst et
          refine ⟨_, ns, rfl, sameT (R.grow s1).sub (sqT_of ht), by omega, fun p2 c hc hp2 => ⟨p2, _, c, rfl, upd_same, by omega, fun ms p3 hpw hmem hlen hp3 => ?_⟩⟩
          have s2 : Same H1 (upd (upd H1 p2 (SetO X.w p2 (fun j => decide (j ∈ ns)) c)) p3 (.lst (ms.map V.int))) := (same_new hp2).trans (same_new hp3)
          refine q _ _ (s1.trans s2) ?_
          have em : ms = sset ns := pw_unique hpw (sset_pw ns) fun k => by
            rw [hmem, sset_mem, decide_eq_true_eq]
          subst em
          have hH : H p3 = none := by
            cases q4 : H p3 with
            | none => rfl
            | some o =>
              rw [(s1.trans (same_new hp2)) _ _ q4] at hp3
              cases hp3
          refine .lst (.of ?_) (DpAll.of_ints _)
          unfold ext
          simp [hH, upd_same]
      · cases h2
    · cases h2
end
end DL

namespace DL
open PySem PySem.Spec PyProof.Rows L2

theorem hu64 {A : Around} {k : Nat} (hr : Room k A) : A.units + 64 < cLine := hr.units
theorem hu65 {A : Around} {k : Nat} (hr : Room k A) : A.units + 65 < cLine := by
  have := hr.un
  omega
section
variable {X : Cx} {z : Z}
theorem q_ty (T : Ty) {x : Str} {pos : Pos} (hg : Gl X x) (hm : X.mg x = none) (hb : bootBuiltins x = some (.type T.name)) (hn : x ≠ "__name__" := by decide) (hd : (x == ("__debug__" : Str)) = false := by decide) : PE X (.Name x pos) (tC (.ty T.name)) := pe_bltn hg hm hb rfl hn hd
theorem q_glob {x : Str} {i : Int} {pos : Pos} (hg : Gl X x) (h : ∃ t, X.mg x = some (.int i t)) (hd : (x == ("__debug__" : Str)) = false := by decide) : PE X (.Name x pos) (tP X.K z (cK (.int i))) := by
  obtain ⟨t, h⟩ := h
  exact q_globI hg h ⟨t, rfl⟩ hd
theorem q_globStr {x : Str} {i : Str} {pos : Pos} (hg : Gl X x) (h : ∃ t, X.mg x = some (.str i t)) (hd : (x == ("__debug__" : Str)) = false := by decide) : PE X (.Name x pos) (tP X.K z (cK (.str i))) := by
  obtain ⟨t, h⟩ := h
  exact q_globS hg h ⟨t, rfl⟩ hd
/-- a, b = x, y through a tuple (a name of them a cell) -/
theorem s_tup2 (i j : Nat) {x y : Str} {a b : Expr} {px py pt pos : Pos} {kt k2 pt2} {f g : Env → Option (E × Env)} (hc : X.calm = true) (hN : X.N.Nodup) (ha : PE X a (tW X.K z f)) (hb : PE X b (tW X.K z g)) (hi : X.N[i]? = some x := by rfl) (hj : X.N[j]? = some y := by rfl)
    (hx : Loc X.env.scope x := by first | exact Or.inl rfl | exact Or.inr rfl) (hy : Loc X.env.scope y := by first | exact Or.inl rfl | exact Or.inr rfl) (hfx : X.fn x = true ∨ X.env.scope.names.lookup x = some .local := by first | exact .inl rfl | exact .inr rfl) (hfy : X.fn y = true ∨ X.env.scope.names.lookup y = some .local := by first | exact .inl rfl | exact .inr rfl)
    (ha1 : starEach [a, b] X.env = (false, eval a X.env) :: starEach [b] X.env := by rfl) (hb1 : starEach [b] X.env = (false, eval b X.env) :: starEach [] X.env := by rfl)
    (hn : (assignEach [.Name x px, .Name y py] X.env).length = 2 := by rfl) (hst : (assignEach [.Name x px, .Name y py] X.env).findIdx? (·.1) = none := by rfl)
    (hm1 : (assignEach [.Name x px, .Name y py] X.env).map (·.2) = assign (.Name x px) X.env :: (assignEach [.Name y py] X.env).map (·.2) := by rfl) (hm2 : (assignEach [.Name y py] X.env).map (·.2) = assign (.Name y py) X.env :: (assignEach [] X.env).map (·.2) := by rfl)
    (hw : swappedStores [.Tuple [.Name x px, .Name y py] kt pt] (.Tuple [a, b] k2 pt2) X.env = pure none := by rfl)
    (hs : swapsWithSole [.Tuple [.Name x px, .Name y py] kt pt] (.Tuple [a, b] k2 pt2) pos.line X.env = pure false := by rfl)
    (h1 : (assignEach [.Tuple [.Name x px, .Name y py] kt pt] X.env).map (·.2) = [assign (.Tuple [.Name x px, .Name y py] kt pt) X.env] := by rfl) :
    PS X (.Assign [.Tuple [.Name x px, .Name y py] kt pt] (.Tuple [a, b] k2 pt2) pos) (tS X.K z (gPar2 i j f g)) :=
  (ps_asg (pe_tup (pa_cons ha (pa_cons hb pa_nil hb1) ha1)) (pg_tup hc (pgs_cons (pg_name hN hi hx hfx) (pgs_cons (pg_name hN hj hy hfy) pgs_nil hm2) hm1) hn hst) hs hw h1).mono fun D σ H ⟨ρ, F, O, fl, ρ', R, e, q⟩ => by
    obtain ⟨⟨e1, ρ1⟩, h1, e⟩ := bind_some e
    obtain ⟨⟨e2, ρ2⟩, h2, e⟩ := map_some e
    cases e
    refine ⟨ρ, F, O, e1, ρ1, R, h1, fun v1 F1 H1 as1 R1 k1 n1 f1 => ⟨ρ1, F1, O, e2, ρ2, R1, h2, fun v2 F2 H2 as2 R2 k2 n2 f2 => ⟨le1000 (by show 2 ≤ 1000; decide), fun p hp => ?_⟩⟩⟩
    refine ⟨p, [v1, v2], rfl, .of upd_same, rfl, v1, [v2], rfl, v2, [], rfl, rfl, ?_⟩
    obtain ⟨n1', f1'⟩ := keepW R k2 n1 f1
    have R3 := setE_new (i := i) (fun i a ha => (R.off i a ha).2) R2 n1' f1'
    have R4 := R3.setE (i := j) n2 fun a ha => ⟨(f2 a ha).2.1, (f2 a ha).2.2, fun l _ hl => by
      unfold setO at hl
      split at hl
      · exact (f1 a hl).2.2 (f2 a ha).1
      · exact (R1.off l a hl).2 (f2 a ha).1⟩
    exact q _ _ _ _ (R4.newS hp) ((k1.same.trans k2.same).trans (same_new (R4.sub.free hp)))
end
section
variable {P : Program} {w : World} {K : PySem.W.Frag} {mg : Str → Option Value} {base : Heap}
theorem okP {x qual : Str} {st : Stmt} {f : Addr} {fd : FuncData} {N ps : List Str} {k : Nat} {g : Gs} (a b : Nat) (F : Fun K x qual st f fd) (S : FnScope N ps (defScope st)) (ha : N.length = a) (hb : ps.length = b)
    (h : ∀ (cdv : Value) (A : Around) (outer : List PySem.Env) (s : Shared) (H : Hp) (E : XK) (z : Z), Room k (A.deeper (envOfC qual (defScope st) s.heap.objs.size f cdv)) → PSs (cxOf CX0 P w K mg base N qual (defScope st) f cdv A outer s H E).nox (defBody st) (tS K z g)) :
    FnOk P w K mg base CX0 (k + 1) f fd ps (spP K (run a b g)) := by
  subst ha hb
  exact ok_P F S h
theorem okR {x qual : Str} {st : Stmt} {f : Addr} {fd : FuncData} {N ps : List Str} {k : Nat} {g : Gs} (a b : Nat) (F : Fun K x qual st f fd) (S : FnScope N ps (defScope st)) (ha : N.length = a) (hb : ps.length = b) (hN : 0 < a)
    (h : ∀ (cdv : Value) (A : Around) (outer : List PySem.Env) (s : Shared) (H : Hp) (E : XK) (z : Z), Room k (A.deeper (envOfC qual (defScope st) s.heap.objs.size f cdv)) → PSs (cxOf CX0 P w K mg base N qual (defScope st) f cdv A outer s H E).nox (defBody st) (tS K z g)) :
    FnOk P w K mg base CX0 (k + 1) f fd ps (spR K (runR a b g)) := by
  subst ha hb
  exact ok_R F S hN h
/-- a promise that asks what never is -/
theorem ok_none {k : Nat} {f : Addr} {fd : FuncData} {ps : List Str} : FnOk P w K mg base CX0 k f fd ps (spP K fun _ => none) :=
  ⟨fun vs H Q E ⟨_, _, _, _, _, e, _⟩ => (by cases e), fun A outer s H args us vs Q E _ _ _ _ ⟨_, _, _, _, _, e, _⟩ => (by cases e)⟩
/-- the law's own promise -/
def spLaw (K : PySem.W.Frag) (n : Nat) : Sp := fun vs H Q _ => ∃ (a : Addr) (ns : List Int), vs = [.ref a] ∧ SqL K H a (ns.map V.int) ∧ ns.length ≤ n ∧ ∀ H', Q (.bl true) H'
theorem ok_law {k n : Nat} {f : Addr} {fd : FuncData} {ps : List Str} {m : List D → Option D} (F : FnOk P w K mg base CX0 k f fd ps (spP K m)) (h : ∀ ns : List Int, ns.length ≤ n → m [.list (ns.map .int)] = some (.bool true)) : FnOk P w K mg base CX0 k f fd ps (spLaw K n) :=
  F.imp fun vs H Q E ⟨a, ns, e, hS, hl, q⟩ => by
    subst e
    refine ⟨H, _, _, ⟨Same.refl _, AllT.refl _⟩, .cons (.lst hS (DpAll.of_ints ns)) .nil, h ns hl, fun v H' s r => ?_⟩
    cases r
    exact q H'
end
end DL

namespace DL
open PySem PySem.Spec PyProof.Rows L2

/-! ## sorted(xs), xs a tuple -/
section
variable {prog : Program} {w : World} {A : Around} {E : Value → Shared → Prop} {s : Shared}
theorem gatherT {l : Addr} {vs : List Value} {Q : List Value → Shared → Prop} (hl : s.heap.IsTuple l vs.toArray) (hz : vs.length ≤ sizeLine)
    (q : Q vs { s with heap := (s.heap.push (seqObj "list" #[] 0)).update s.heap.objs.size (Obj.mapSeq (· ++ vs.toArray)) }) : wpAny (model prog w) A (collect (.ref l)) Q E s := by
  obtain ⟨o, ho, hc, n, hd⟩ := hl
  have new : (s.heap.push (seqObj "list" #[] 0)).get? s.heap.objs.size = some (seqObj "list" #[] 0) := Heap.get?_push_size _ rfl
  have old : (s.heap.push (seqObj "list" #[] 0)).get? l = some o := Heap.get?_push_of_some _ ho
  unfold collect
  refine wpAny_bind (wpAny_runValue (codeAny_builtin entry_proto_collect' (wpAny_bind (wpAny_newList (wpAny_pure ⟨Code.quiet_builtin _ (by decide +kernel), codeAny_builtin entry_list_iadd' ?_⟩)))))
  change wpAny _ _ (Builtin.List.listExtendWith (.ref s.heap.objs.size) (.ref l) (.ref s.heap.objs.size)) _ _ { s with heap := s.heap.push (seqObj "list" #[] 0) }
  unfold Builtin.List.listExtendWith
  refine wpAny_bind (wpAny_typeOf (T := "tuple") ⟨o, old, hc⟩ ?_)
  have tt : (Value.type "tuple" == Value.type "tuple") = true := rfl
  rw [if_pos (by rw [tt, Bool.or_true])]
  refine wpAny_bind (listItems_at old hd (wpAny_bind (listItems_at (xs := #[]) (n := 0) new rfl ?_)))
  rw [if_neg (by simp)]
  refine wpAny_bind (listUpdate_at (xs := #[]) (n := 0) new rfl (wpAny_pure ?_) (Nat.zero_le _) (by show (#[] ++ vs.toArray).size ≤ sizeLine + 1; simp only [Array.size_append, List.size_toArray, List.length_nil]; omega))
  change wpAny (model prog w) A (do let o ← load s.heap.objs.size; match o.data with | .seq xs _ => pure xs.toList | _ => unsupported "internal:collect") Q E { s with heap := (s.heap.push (seqObj "list" #[] 0)).update s.heap.objs.size (Obj.mapSeq (· ++ vs.toArray)) }
  refine wpAny_bind (wpAny_load (get?_update_seq new _) ?_)
  have e : ((#[] : Array Value) ++ vs.toArray).toList = vs := by simp
  change wpAny _ _ (pure ((#[] : Array Value) ++ vs.toArray).toList) Q E _
  rw [e]
  exact wpAny_pure q
theorem sortT {β : Type} {R : Value → β → Prop} {enc : β → PyData} {vs : List Value} {bs : List β} {l : Addr} {Q : Value → Shared → Prop} (hl : s.heap.IsTuple l vs.toArray) (e : PySem.W.EachIs R vs bs) (er : PySem.W.EachIs (fun v b => ∃ as, PySem.Reads s.heap v (enc b) as) vs bs)
    (hal : PySem.W.AllAlike (bs.map enc)) (hk : PySem.W.Sortable (bs.map enc)) (hL : bs.length ≤ sizeLine) (hu : ∀ b, b ∈ bs → A.units + 2 + (enc b).depth < cLine)
    (q : ∀ out, out.length = bs.length → PySem.W.EachIs R out (bs.mergeSort (PySem.W.dataLe false enc)) → Q (.ref (s.heap.objs.size + 1)) { s with heap := sortedAll s.heap vs (List.toArray out) }) : wpAny (model prog w) A (call (.builtin "sorted") [.ref l]) Q E s := by
  have hz : vs.length ≤ sizeLine := by rw [e.length]; exact hL
  refine PySem.Calls.call_function_entry kind_sorted plain_sorted entry_sorted (args_sorted1 _) ?_
  unfold Builtin.«sorted»
  refine wpAny_bind (m := checkCount "sorted" 1 1 _) (wpAny_pure (wpAny_bind (gatherT hl hz (wpAny_bind (wpAny_newList ?_ hz)))))
  have sz : ((s.heap.push (seqObj "list" #[] 0)).update s.heap.objs.size (Obj.mapSeq (· ++ vs.toArray))).objs.size = s.heap.objs.size + 1 := by rw [Heap.size_update, size_push']
  change wpAny _ _ _ _ _ { s with heap := PySem.W.copyHeap s.heap vs }
  rw [sz]
  have er' : PySem.W.EachIs (fun v b => ∃ as, PySem.Reads (PySem.W.sortingHeap (PySem.W.copyHeap s.heap vs) (s.heap.objs.size + 1) vs) v (enc b) as) vs bs := er.mono fun _ _ ⟨as, r⟩ => ⟨as, PyProof.Rows.Reads.keeps (fun _ _ => PySem.W.sorting_copy_old) r⟩
  have S := PySem.W.SortsAt.data (prog := prog) (w := w) (A := A.in1.in1) (s := { s with heap := PySem.W.sortingHeap (PySem.W.copyHeap s.heap vs) (s.heap.objs.size + 1) vs }) (PySem.W.each_map (R := fun v d => ∃ as, PySem.Reads (PySem.W.sortingHeap (PySem.W.copyHeap s.heap vs) (s.heap.objs.size + 1) vs) v d as) enc er') hal hk (PySem.W.bound_map hu)
  refine wpAny_bind (wpAny_holding (wpAny_call_entry_kw slot_list_sort ⟨_, PySem.W.copyHeap_at s.heap vs, rfl⟩ entry_list_sort ?_ (args_list_sort _)))
  change wpAny (model prog w) A.in1.in1 (Builtin.«list.sort» ⟨[.ref (s.heap.objs.size + 1)], []⟩) _ _ _
  refine wpAny_mono (PySem.W.list_sort_vals (P := fun f s' => f = .done (.ret .none) ∧ Q (.ref (s.heap.objs.size + 1)) s') (s := { s with heap := PySem.W.copyHeap s.heap vs }) (PySem.W.copyHeap_at s.heap vs) S hz ⟨rfl, ?_⟩) (fun f s' hf => ?_) fun _ _ z => z
  · exact q _ (by rw [PySem.W.sortVals_length false rfl]; exact e.length) (PySem.W.sortVals_data false e er' hal)
  · obtain ⟨rfl, hq⟩ := hf
    exact ⟨_, rfl, wpAny_pure ⟨_, rfl, hq⟩⟩
end
def rSortedT2 (K : PySem.W.Frag) : List V → Hp → VK → Prop := fun xs H Q => ∃ (a : Addr) (vs : List V) (ds : List D) (Φ : V → D → Prop), xs = [V.ref a] ∧ SqT K H a vs ∧ DpAll K H vs ds ∧ PySem.W.EachIs Φ vs ds ∧ sortOk ds = true ∧
  ∀ vs' p, H p = none → PySem.W.EachIs Φ vs' (isort leD ds) → Q (.ref p) (upd H p (.lst vs'))
def rSortedA (K : PySem.W.Frag) : List V → Hp → VK → Prop := fun xs H Q => rSortedD K xs H Q ∨ rSortedT2 K xs H Q
def oSortedA : List D → Option D
  | [.list ds] => if sortOk ds then some (.list (isort leD ds)) else none
  | [.tuple ds] => if sortOk ds then some (.list (isort leD ds)) else none
  | _ => none
section
variable {X : Cx} {K : PySem.W.Frag}
theorem cr_sortedT2 (hu : X.A.units + 64 < cLine) : CallR X (.builtin "sorted") (rSortedT2 X.K) := by
  intro pins s σ H xs us Q I r h
  obtain ⟨a, vs, ds, Φ, rfl, hs, hd, hΦ, ok, q⟩ := h
  rw [Vals.ref1 r]
  obtain ⟨al, so, dp⟩ := sortOk_of ok
  obtain ⟨its, rv, hl, hz⟩ := I.tuple hs
  obtain ⟨as, hr⟩ := Dp.readsAll I _ _ its hd rv
  have l1 := hd.length
  have ms : ds.map (fun d => d) = ds := List.map_id' ds
  refine sortT (enc := fun d : PyData => d) (R := fun u d => ∃ v, RelV v u ∧ Φ v d) hl (each_vals rv hΦ) (PySem.W.readsAll_each (fun d => d) (by rw [ms]; exact hr)) (by rw [ms]; exact al) (by rw [ms]; exact so) (by omega) (fun d hd => ?_) fun out hlen he => ?_
  · have := depth_mem hd
    omega
  · obtain ⟨vs', rv', hv'⟩ := vals_each he
    obtain ⟨ep, he'⟩ := PyProof.Rows.sortedAll_at s.heap its out.toArray
    have e : ds.mergeSort (PySem.W.dataLe false fun d => d) = isort leD ds := (isort_eq leD_total ds).symm
    rw [e] at hv'
    have hlen' : vs'.length ≤ sizeLine := by
      rw [rv'.length, hlen]
      omega
    exact ⟨.ref _, upd H (s.heap.objs.size + 1) (.lst vs'), I.laid (t' := s.toks) (fun _ _ => PyProof.Rows.sortedAll_old) (Nat.le_succ _) ⟨hlen', out, ep, rv', he'⟩, rfl, q _ _ (I.hok.fresh (Nat.le_succ _)) hv'⟩
theorem cr_sortedA (hu : X.A.units + 64 < cLine) : CallR X (.builtin "sorted") (rSortedA X.K) := CallR.or (cr_sortedD hu) (cr_sortedT2 hu)
theorem w_sortedA : OpN K (rSortedA K) oSortedA := ⟨fun F H xs as d Q s ra e q => by
  unfold oSortedA at e
  split at e
  · split at e
    · next h =>
      cases e
      cases ra with
      | cons r t =>
        cases t
        cases r with
        | lst h1 t1 => exact .inl ⟨_, _, _, Rep K F, rfl, s.seq h1, t1.mono s, each_of t1, h, fun vs' p hp he => doneL s q (of_each he) hp⟩
    · cases e
  · split at e
    · next h =>
      cases e
      cases ra with
      | cons r t =>
        cases t
        cases r with
        | tup h1 t1 => exact .inr ⟨_, _, _, Rep K F, rfl, sameT s (sqT_of h1), t1.mono s, each_of t1, h, fun vs' p hp he => doneL s q (of_each he) hp⟩
    · cases e
  · cases e⟩
end
end DL

namespace DL
open PySem PySem.Spec PyProof.Rows L2

/-! ## comprehensions of two clauses -/
def lcO (ρ0 : Env) (b : D → Env → Option Env) (t : Env → Option Bool) (g : Env → Option (List D)) : List D → Option (List D)
  | [] => some []
  | d :: r => (b d ρ0).bind fun ρ1 => (t ρ1).bind fun k => if k = true then (g ρ1).bind fun es => (lcO ρ0 b t g r).bind fun fs => some (es ++ fs) else lcO ρ0 b t g r
def inner2 (vs1 : List Nat) (it1 : Env → Option (List D)) (b1 : D → Env → Option Env) (t1 : Env → Option Bool) (f : Env → Option D) : Env → Option (List D) := fun ρ1 => (it1 ρ1).bind fun ds => lcD (wipeE ρ1 vs1) b1 t1 f ds
def cLc2 (vs vs1 : List Nat) (it : Env → Option (List D)) (b : D → Env → Option Env) (t : Env → Option Bool) (it1 : Env → Option (List D)) (b1 : D → Env → Option Env) (t1 : Env → Option Bool) (f : Env → Option D) : Env → Option D := fun ρ =>
  (it ρ).bind fun ds => (lcO (wipeE ρ vs) b t (inner2 vs1 it1 b1 t1 f) ds).bind fun es => if es.length ≤ 1000 then some (.list es) else none
theorem lc2_in {K : PySem.W.Frag} {z : Z} {vs vs1 : List Nat} {it it1 : Env → Option (List D)} {b b1 : D → Env → Option Env} {t t1 : Env → Option Bool} {f : Env → Option D} {σ : L2.St} {H : Hp} {Q : VK} (hsub : ∀ i ∈ vs1, i ∈ vs) (h : tP K z (cLc2 vs vs1 it b t it1 b1 t1 f) σ H Q) :
    tLc2 (tIP K z it) (tG K z (ofJ vs) b) (tB K z t) (tIP K z it1) (tG K z (ofJ vs1) b1) (tB K z t1) (tP K z f) vs vs1 σ H Q := by
  obtain ⟨ρ, F, O, d, R, e, q⟩ := h
  obtain ⟨ds, h1, e⟩ := bind_some e
  obtain ⟨es, h2, e⟩ := bind_some e
  split at e
  · next hl =>
    cases e
    refine ⟨ρ, F, O, ds, R, h1, fun J H1 s1 y D hD => ?_⟩
    have R1 := (R.grow s1).wipe vs
    have hD0 : H D = none := by
      cases q2 : H D with
      | none => rfl
      | some o =>
        rw [s1 _ _ q2] at hD
        cases hD
    have hDO : ∀ i, D ∉ O i := fun i hi => (R.off i D hi).2 hD0
    have hDz := H0_of R hD0
    have hDF : ext F H H1 D = none := (R.grow s1).sub.free hD
    refine ⟨fun i m Hc => m = ds.length - i ∧ i ≤ ds.length ∧ ∃ F2 acc vacc rest, Rel K z (wipeE ρ vs) (wipe σ vs) F2 Hc O ∧ Same (ext F H H1) F2 ∧ Same F2 (ext F H Hc) ∧ Same H1 Hc ∧ F2 D = none ∧ Hc D = some (.lst vacc) ∧ RepL K F2 vacc acc ∧ lcO (wipeE ρ vs) b t (inner2 vs1 it1 b1 t1 f) (ds.drop i) = some rest ∧ acc ++ rest = es,
      ⟨ds.length, by simp, Nat.zero_le _, _, [], [], es, R1.other hDF hDO hDz, Same.refl _, ext_put (Same.refl _) hDF, same_new hD, hDF, upd_same, .nil, h2, rfl⟩, ?_⟩
    rintro i m Hc ⟨rfl, hi, F2, acc, vacc, rest, R2, sF, sE, sH, hF2, hDc, ra, hr, hes⟩
    by_cases hlt : i < ds.length
    · have ed : ds.drop i = ds[i] :: ds.drop (i + 1) := by rw [List.drop_eq_getElem_cons hlt]
      rw [ed] at hr
      obtain ⟨ρ3, e3, hr⟩ := bind_some hr
      obtain ⟨k, e4, hr⟩ := bind_some hr
      have sY : Same (ext F H H1) Hc := sF.trans R2.sub
      refine .inr ⟨y.go i Hc sY hlt, fun Hc => ∃ F2 acc vacc rest, Rel K z (wipeE ρ vs) (wipe σ vs) F2 Hc O ∧ Same (ext F H H1) F2 ∧ Same F2 (ext F H Hc) ∧ Same H1 Hc ∧ F2 D = none ∧ Hc D = some (.lst vacc) ∧ RepL K F2 vacc acc ∧ lcO (wipeE ρ vs) b t (inner2 vs1 it1 b1 t1 f) (ds.drop (i + 1)) = some rest ∧ acc ++ rest = es, fun H' n => ⟨ds.length - (i + 1), by omega, rfl, by omega, n⟩, fun x H' yx => ?_⟩
      obtain ⟨sx, rx⟩ := y.yld i F2 Hc x H' _ sF R2.sub R2.tup yx (List.getElem?_eq_getElem hlt)
      have R3 := R2.grow sx
      refine ⟨_, _, O, _, ρ3, R3, rx, e3, fun σ5 O5 R5 st => ⟨?_, ?_⟩⟩
      · rw [st.wp vs fun j hj => ofJ_mem hj, wipe_idem]
      refine ⟨ρ3, _, O5, k, R5, e4, fun H6 s6 => ?_⟩
      have sH0 : Same H Hc := s1.trans sH
      cases k with
      | true =>
        rw [if_pos rfl] at hr
        obtain ⟨es1, e5, hr⟩ := bind_some hr
        obtain ⟨rest', e6, hr⟩ := bind_some hr
        cases hr
        obtain ⟨ds1, e7, e8⟩ := bind_some e5
        refine ⟨ρ3, _, O5, ds1, R5.grow s6, e7, fun J1 H7 s7 y1 => ?_⟩
        have s67 := s6.trans s7
        have sx7 := sx.trans s67
        have hDO5 : ∀ i, D ∉ O5 i := fun i hi => hDO i (st.sub i D hi)
        have hF7 : ext F2 Hc H7 D = none := ext_none hF2 hDc
        have e9 : ext (ext (ext F2 Hc H') H' H6) H6 H7 = ext F2 Hc H7 := by rw [ext_ext s6 s7, ext_ext sx s67]
        rw [e9] at y1
        have R57 : Rel K z ρ3 σ5 (ext F2 Hc H7) H7 O5 := by
          have := R5.grow s67
          rwa [ext_ext sx s67] at this
        have R27 : Rel K z (wipeE ρ vs) (wipe σ vs) (ext F2 Hc H7) H7 O := R2.grow sx7
        refine ⟨fun j m Hd => m = ds1.length - j ∧ j ≤ ds1.length ∧ ∃ F3 acc1 vacc1 rest1, Rel K z (wipeE ρ3 vs1) (wipe σ5 vs1) F3 Hd O5 ∧ Rel K z (wipeE ρ vs) (wipe σ vs) F3 Hd O ∧ Same (ext F2 Hc H7) F3 ∧ Same F3 (ext F H Hd) ∧ Same H1 Hd ∧ F3 D = none ∧ Hd D = some (.lst vacc1) ∧ RepL K F3 vacc1 acc1 ∧ lcD (wipeE ρ3 vs1) b1 t1 f (ds1.drop j) = some rest1 ∧ acc1 ++ rest1 ++ rest' = es,
          ⟨ds1.length, by simp, Nat.zero_le _, ext F2 Hc H7, acc, vacc, es1, R57.wipe vs1, R27, Same.refl _, ext_step sE sH0 sx7, sH.trans sx7, hF7, sx7 _ _ hDc, ra.mono (same_ext R2.sub), e8, by rw [List.append_assoc]; exact hes⟩, ?_⟩
        rintro j m Hd ⟨rfl, hj, F3, acc1, vacc1, rest1, Q1, Q2, gF, gE, gH, hF3, hDd, rb, hr1, hes1⟩
        by_cases hlt1 : j < ds1.length
        · have ed1 : ds1.drop j = ds1[j] :: ds1.drop (j + 1) := by rw [List.drop_eq_getElem_cons hlt1]
          rw [ed1] at hr1
          obtain ⟨ρ5, f3, hr1⟩ := bind_some hr1
          obtain ⟨k1, f4, hr1⟩ := bind_some hr1
          have tY : Same (ext F2 Hc H7) Hd := gF.trans Q1.sub
          refine .inr ⟨y1.go j Hd tY hlt1, fun Hd => ∃ F3 acc1 vacc1 rest1, Rel K z (wipeE ρ3 vs1) (wipe σ5 vs1) F3 Hd O5 ∧ Rel K z (wipeE ρ vs) (wipe σ vs) F3 Hd O ∧ Same (ext F2 Hc H7) F3 ∧ Same F3 (ext F H Hd) ∧ Same H1 Hd ∧ F3 D = none ∧ Hd D = some (.lst vacc1) ∧ RepL K F3 vacc1 acc1 ∧ lcD (wipeE ρ3 vs1) b1 t1 f (ds1.drop (j + 1)) = some rest1 ∧ acc1 ++ rest1 ++ rest' = es, fun H' n => ⟨ds1.length - (j + 1), by omega, rfl, by omega, n⟩, fun x1 Hx yx1 => ?_⟩
          obtain ⟨tx, rx1⟩ := y1.yld j F3 Hd x1 Hx _ gF Q1.sub Q1.tup yx1 (List.getElem?_eq_getElem hlt1)
          have Q3 := Q1.grow tx
          refine ⟨_, _, O5, _, ρ5, Q3, rx1, f3, fun σ7 O7 R7 st1 => ⟨?_, ?_⟩⟩
          · rw [st1.wp vs1 fun j hj => ofJ_mem hj, wipe_idem]
          refine ⟨ρ5, _, O7, k1, R7, f4, fun H8 s8 => ?_⟩
          have gH0 : Same H Hd := s1.trans gH
          cases k1 with
          | true =>
            rw [if_pos rfl] at hr1
            obtain ⟨ev, f5, hr1⟩ := bind_some hr1
            obtain ⟨rest1', f6, hr1⟩ := bind_some hr1
            cases hr1
            refine ⟨ρ5, _, O7, ev, R7.grow s8, f5, fun yv H9 s9 r9 => ?_⟩
            have s89 := s8.trans s9
            have tx9 := tx.trans s89
            rw [ext_ext s8 s9, ext_ext tx s89] at r9
            have hF9 : ext F3 Hd H9 D = none := ext_none hF3 hDd
            have e10 : H9 D = some (.lst vacc1) := tx9 _ _ hDd
            have rb' : RepL K (ext F3 Hd H9) vacc1 acc1 := rb.mono (same_ext Q1.sub)
            refine ⟨vacc1, e10, ?_, ext F3 Hd H9, acc1 ++ [ev], vacc1 ++ [yv], rest1', (Q1.grow tx9).other hF9 hDO5 hDz, (Q2.grow tx9).other hF9 hDO hDz, gF.trans (same_ext Q1.sub), ext_put (ext_step gE gH0 tx9) hF9, ?_, hF9, upd_same, rb'.append (.cons r9 .nil), f6, by rw [← hes1]; simp⟩
            · have l1 := rb.length
              have l2 : acc1.length ≤ es.length := by rw [← hes1, List.length_append, List.length_append]; omega
              have := small1000 hl
              omega
            · intro a o ea
              have n : a ≠ D := fun q => by
                rw [q, hD] at ea
                cases ea
              rw [upd_ne n]
              exact tx9 _ _ (gH _ _ ea)
          | false =>
            rw [if_neg Bool.false_ne_true] at hr1
            have tx8 := tx.trans s8
            exact ⟨ext F3 Hd H8, acc1, vacc1, rest1, Q1.grow tx8, Q2.grow tx8, gF.trans (same_ext Q1.sub), ext_step gE gH0 tx8, gH.trans tx8, ext_none hF3 hDd, tx8 _ _ hDd, rb.mono (same_ext Q1.sub), hr1, hes1⟩
        · have ej : j = ds1.length := by omega
          subst ej
          rw [List.drop_length] at hr1
          cases hr1
          rw [List.append_nil] at hes1
          exact .inl ⟨y1.stop _ Hd (gF.trans Q1.sub) rfl, F3, acc1, vacc1, rest', Q2, (sF.trans (same_ext R2.sub)).trans gF, gE, gH, hF3, hDd, rb, e6, hes1⟩
      | false =>
        rw [if_neg Bool.false_ne_true] at hr
        have sx6 := sx.trans s6
        exact ⟨ext F2 Hc H6, acc, vacc, rest, R2.grow sx6, sF.trans (same_ext R2.sub), ext_step sE sH0 sx6, sH.trans sx6, ext_none hF2 hDc, sx6 _ _ hDc, ra.mono (same_ext R2.sub), hr, hes⟩
    · have ei : i = ds.length := by omega
      subst ei
      rw [List.drop_length] at hr
      cases hr
      rw [List.append_nil] at hes
      subst hes
      refine .inl ⟨y.stop _ Hc (sF.trans R2.sub) rfl, q _ Hc (s1.trans sH) (.lst (.of ?_) (ra.mono sE))⟩
      unfold ext
      simp [hD0, hDc]
  · cases e
section
variable {X : Cx} {z : Z} {elt tg iter tg1 iter1 : Expr} {ifs ifs1 : List Expr} {scope : Scope} {own : List (Str × Nat)} {vs1 : List Nat} {pos : Pos} {b b1 : D → Env → Option Env} {it it1 : Env → Option (List D)} {t t1 : Env → Option Bool} {f : Env → Option D}
theorem q_lc2 (hc : X.calm = true) (hN : X.N.Nodup) (ok : BlkOk X.N X.env.scope scope own) (hv : ∀ i ∈ vs1, i ∈ own.map (·.2)) (hi : PI X tg iter (tIP X.K z it))
    (hg : ∀ s H C cl fp, PG (blkE X scope s H C cl fp) tg (tG X.K z (ofJ (own.map (·.2))) b)) (ht : ∀ s H C cl fp, PTs (blkE X scope s H C cl fp) ifs (tB X.K z t))
    (hi1 : ∀ s H C cl fp, PI (blkE X scope s H C cl fp) tg1 iter1 (tIP X.K z it1)) (hg1 : ∀ s H C cl fp, PG (blkE X scope s H C cl fp) tg1 (tG X.K z (ofJ vs1) b1)) (ht1 : ∀ s H C cl fp, PTs (blkE X scope s H C cl fp) ifs1 (tB X.K z t1))
    (he : ∀ s H C cl fp, PE (blkE X scope s H C cl fp) elt (tP X.K z f)) (hs : ∀ x, foldedSetIterable iter X.env x = pure x := by intro _; rfl) (hs1 : ∀ env x, foldedSetIterable iter1 env x = pure x := by intro _ _; rfl) :
    PE X (.ListComp elt [⟨tg, iter, ifs, 0⟩, ⟨tg1, iter1, ifs1, 0⟩] scope pos) (tP X.K z (cLc2 (own.map (·.2)) vs1 it b t it1 b1 t1 f)) := (pe_lc2 hc hN hi ok hv hg ht hi1 hg1 ht1 he hs hs1).mono fun _ _ _ h => lc2_in hv h
theorem s_lc2 (i : Nat) {y : Str} {py spos : Pos} (hc : X.calm = true) (hN : X.N.Nodup) (ok : BlkOk X.N X.env.scope scope own) (hsw : swapsWith (.ListComp elt [⟨tg, iter, ifs, 0⟩, ⟨tg1, iter1, ifs1, 0⟩] scope pos) (some (.Name y py)) spos.line X.env = pure true) (hv : ∀ i ∈ vs1, i ∈ own.map (·.2)) (hi : PI X tg iter (tIP X.K z it))
    (hg : ∀ s H C cl fp, PG (blkE X scope s H C cl fp) tg (tG X.K z (ofJ (own.map (·.2))) b)) (ht : ∀ s H C cl fp, PTs (blkE X scope s H C cl fp) ifs (tB X.K z t))
    (hi1 : ∀ s H C cl fp, PI (blkE X scope s H C cl fp) tg1 iter1 (tIP X.K z it1)) (hg1 : ∀ s H C cl fp, PG (blkE X scope s H C cl fp) tg1 (tG X.K z (ofJ vs1) b1)) (ht1 : ∀ s H C cl fp, PTs (blkE X scope s H C cl fp) ifs1 (tB X.K z t1))
    (he : ∀ s H C cl fp, PE (blkE X scope s H C cl fp) elt (tP X.K z f)) (hy : X.N[i]? = some y := by rfl) (hyl : X.env.scope.names.lookup y = some .local := by rfl) (hs : ∀ x, foldedSetIterable iter X.env x = pure x := by intro _; rfl) (hs1 : ∀ env x, foldedSetIterable iter1 env x = pure x := by intro _ _; rfl) :
    PS X (.Assign [.Name y py] (.ListComp elt [⟨tg, iter, ifs, 0⟩, ⟨tg1, iter1, ifs1, 0⟩] scope pos) spos) (tS X.K z (gAsg (lf (cLc2 (own.map (·.2)) vs1 it b t it1 b1 t1 f)) (bNm i))) := (ps_setLc2 hc hN hy hyl hsw hi ok hv hg ht hi1 hg1 ht1 he hs hs1).mono fun _ _ _ h => lc2_in hv (tP_of_lf (asg_val h))
end

/-! ## l.index(x), l[::-1] -/
def findD (d : D) : List D → Nat → Option Nat
  | [], _ => none
  | e :: r, k => if PyData.eqv e d = true then some k else findD d r (k + 1)
theorem findD_of {d : D} : ∀ {ds : List D} {k j : Nat}, findD d ds k = some j → ∃ m z, j = k + m ∧ ds[m]? = some z ∧ PyData.eqv z d = true ∧ ∀ (n : Nat) (z' : D), n < m → ds[n]? = some z' → PyData.eqv z' d = false
  | [], _, _, h => by cases h
  | e :: r, k, j, h => by
    unfold findD at h
    split at h
    · next q =>
      cases h
      exact ⟨0, e, rfl, rfl, q, fun n _ h => absurd h (Nat.not_lt_zero _)⟩
    · next q =>
      obtain ⟨m, z, h1, h2, h3, h4⟩ := findD_of h
      refine ⟨m + 1, z, by omega, by simpa using h2, h3, fun n z' hn hz => ?_⟩
      cases n with
      | zero =>
        simp at hz
        subst hz
        simpa using q
      | succ n => exact h4 n z' (by omega) (by simpa using hz)
mutual
/-- no dict in it -/
def noDic : D → Bool
  | .list ds => noDics ds
  | .tuple ds => noDics ds
  | .dict _ => false
  | .none => true
  | .bool _ => true
  | .int _ => true
  | .str _ => true
def noDics : List D → Bool
  | [] => true
  | d :: r => noDic d && noDics r
end
mutual
theorem Dp.kit {K : PySem.W.Frag} {H : Hp} : ∀ {v : V} {d : D}, noDic d = true → Dp K H v d → L2.Dp K H v d
  | _, _, _, .non => .non
  | _, _, _, .bl b => .bl b
  | _, _, _, .int i => .int i
  | _, _, _, .str s => .str s
  | _, _, e, .dic _ _ _ => by unfold noDic at e; cases e
  | _, _, e, .lst h t => .lst h (DpAll.kit (by unfold noDic at e; exact e) t)
  | _, _, e, .tup h t => .tup (sqT_of h) (DpAll.kit (by unfold noDic at e; exact e) t)
theorem DpAll.kit {K : PySem.W.Frag} {H : Hp} : ∀ {vs : List V} {ds : List D}, noDics ds = true → DpAll K H vs ds → L2.DpAll K H vs ds
  | _, _, _, .nil => .nil
  | _, _, e, .cons h t => by
    unfold noDics at e
    rw [Bool.and_eq_true] at e
    exact .cons (Dp.kit e.1 h) (DpAll.kit e.2 t)
end
def oIndex : D → List D → Option D
  | .list ds, [d] => if okD (.list ds) && noDics ds then (if okD d && noDic d then (findD d ds 0).map fun j => .int (j : Nat) else none) else none
  | _, _ => none
def oRev : D → Option D
  | .list ds => some (.list ds.reverse)
  | _ => none
def cM (o : D → List D → Option D) (f : Env → Option D) (g : Env → Option (List D)) : Env → Option D := fun ρ => (f ρ).bind fun a => (g ρ).bind fun as => o a as
section
variable {X : Cx} {z : Z}
theorem q_index {o e : Expr} {apos cpos : Pos} {f : Env → Option D} {g : Env → Option (List D)} (hu : X.A.units + 65 < cLine) (ho : PE X o (tP X.K z f)) (ha : PA X [e] (tPs X.K z g))
    (hbase : attributeBase o "index" X.env (eval o X.env) = eval o X.env := by rfl)
    (hfew : ((backTo cpos (starEach [e] X.env)).all (fun x => !x.1) && (backToKw cpos (keywordEach [] X.env)).all (fun x => x.1.isSome)
      && decide ([e].length + ([] : List Keyword).length + (if ([] : List Keyword).isEmpty then 0 else 1) < 30)) = true := by rfl)
    (hline : (apos.endLine == cpos.line) = true := by rfl) (hs : starEach [e] X.env = (false, eval e X.env) :: starEach [] X.env := by rfl) (hpl : (backTo cpos (starEach [] X.env)).any (·.1) = false := by rfl) :
    PE X (.Call (.Attribute o "index" apos) [e] [] cpos) (tP X.K z (cM oIndex f g)) :=
  (pe_bm PySem.F.plainAttrs_list PySem.F.slot_list_index PySem.F.type_list_index (mt_indexD hu) ho ha hbase hfew hline hs hpl).mono fun σ H Q ⟨ρ, F, O, d, R, e, q⟩ => by
    obtain ⟨a, h1, e⟩ := bind_some e
    obtain ⟨as, h2, e⟩ := bind_some e
    unfold oIndex at e
    split at e
    · split at e
      · next k1 =>
        split at e
        · next k2 =>
          obtain ⟨j, h3, e⟩ := map_some e
          cases e
          rw [Bool.and_eq_true] at k1 k2
          obtain ⟨m, zz, m1, m2, m3, m4⟩ := findD_of h3
          rw [Nat.zero_add] at m1
          subst m1
          refine ⟨ρ, F, O, _, R, h1, fun v H1 s1 r1 => ?_⟩
          cases r1 with
          | lst hs t =>
            refine ⟨.inl ⟨rfl, _, (R.grow s1).sub.seq hs⟩, ρ, _, O, _, R.grow s1, h2, fun ws H2 s2 r2 => ?_⟩
            cases r2 with
            | cons r2 t2 =>
              cases t2
              have R2 := (R.grow s1).grow s2
              have r1' := ((Dp.lst hs t).mono (same_ext (H' := H2) (R.grow s1).sub)).mono R2.sub
              exact ⟨_, _, _, _, j, zz, rfl, rfl, r1'.kit (by unfold noDic; exact k1.2), (r2.mono R2.sub).kit k2.2, k1.1, k2.1, m2, m3, m4, q _ H2 (s1.trans s2) (.int _)⟩
        · cases e
      · cases e
    · cases e
theorem q_rev {e : Expr} {k : Nat} {p1 p2 p3 pos : Pos} {f : Env → Option D} (he : PE X e (tP X.K z f)) : PE X (.Subscript e (.Slice none none (some (.UnaryOp .USub (.Constant (.int 1) k p1) p2)) p3) pos) (tP X.K z (c1 oRev f)) :=
  (pe_revL he).mono fun σ H Q ⟨ρ, F, O, d, R, e, q⟩ => by
    obtain ⟨a, h1, e⟩ := bind_some e
    unfold oRev at e
    split at e
    · cases e
      refine ⟨ρ, F, O, _, R, h1, fun v H1 s1 r1 => ?_⟩
      cases r1 with
      | lst hs t =>
        have R1 := R.grow s1
        refine ⟨_, _, rfl, R1.sub.seq hs, fun p hp => q _ _ (s1.trans (same_new hp)) ?_⟩
        rw [← ext_ext s1 (same_new hp), ext_new R1.sub hp]
        exact .lst (.of upd_same) (t.reverse.mono (same_new (R1.sub.free hp)))
    · cases e
end
end DL

namespace DL
open PySem PySem.Spec PyProof.Rows L2

/-! ## sorted(set(xs)), xs a list of tuples of small whole numbers -/
def tupsI : List D → Option (List (List Int))
  | [] => some []
  | .tuple ds :: r => (intsOf ds).bind fun k => (tupsI r).bind fun ks => some (k :: ks)
  | _ => none
def topI : List Int → Int
  | [] => 0
  | x :: r => max x (topI r)
def topT : List (List Int) → Int
  | [] => 0
  | k :: r => max (topI k) (topT r)
def fitT (B : Int) (d : Nat) (ks : List (List Int)) : Bool := ks.all fun k => decide (k.length = d) && k.all fun x => decide (0 ≤ x) && decide (x < B)
def decT (B : Int) (ks : List (List Int)) (c : Int) : List Int := (ks.find? fun k => TS.code B k == c).getD []
def ssetT (B : Int) (ks : List (List Int)) : List (List Int) := (sset (ks.map (TS.code B))).map (decT B ks)
def oSSetT : D → Option D
  | .list ds => (tupsI ds).bind fun ks => (ks.head?).bind fun k0 => if ks.length < 64 then (if 1 ≤ k0.length then (if fitT (topT ks + 1) k0.length ks then some (.list ((ssetT (topT ks + 1) ks).map fun k => .tuple (k.map .int))) else none) else none) else none
  | _ => none
theorem code_eq {B : Int} : ∀ {r q : List Int}, r.length = q.length → TS.Bd B r → TS.Bd B q → TS.code B r = TS.code B q → r = q
  | [], [], _, _, _, _ => rfl
  | d :: r, e :: q, hl, hr, hq, h => by
    have hl' : r.length = q.length := by simpa using hl
    have br : TS.Bd B r := fun m hm => hr m (List.mem_cons_of_mem _ hm)
    have bq : TS.Bd B q := fun m hm => hq m (List.mem_cons_of_mem _ hm)
    rcases Int.lt_trichotomy d e with c | c | c
    · have := TS.code_lt hl' br bq c
      omega
    · subst c
      have h1 := TS.code_same (B := B) (d := d) hl'
      have h2 := TS.code_same (B := B) (d := d) hl'.symm
      have e : TS.code B r = TS.code B q := by
        rcases Int.lt_trichotomy (TS.code B r) (TS.code B q) with x | x | x
        · have := h1.mpr x
          omega
        · exact x
        · have := h2.mpr x
          omega
      rw [code_eq hl' br bq e]
    · have := TS.code_lt hl'.symm bq br c
      omega
theorem fitT_of {B : Int} {d : Nat} {ks : List (List Int)} (h : fitT B d ks = true) : ∀ k ∈ ks, k.length = d ∧ TS.Bd B k := fun k hk => by
  have := List.all_eq_true.mp h k hk
  rw [Bool.and_eq_true, decide_eq_true_eq] at this
  refine ⟨this.1, fun m hm => ?_⟩
  have := List.all_eq_true.mp this.2 m hm
  rw [Bool.and_eq_true, decide_eq_true_eq, decide_eq_true_eq] at this
  exact this
theorem decT_of {B : Int} {d : Nat} {ks : List (List Int)} (h : ∀ k ∈ ks, k.length = d ∧ TS.Bd B k) {k : List Int} (hk : k ∈ ks) : decT B ks (TS.code B k) = k := by
  unfold decT
  cases e : ks.find? fun x => TS.code B x == TS.code B k with
  | none =>
    have := List.find?_eq_none.mp e k hk
    simp at this
  | some x =>
    have h1 := List.find?_some e
    have h2 := List.mem_of_find?_eq_some e
    obtain ⟨l1, b1⟩ := h x h2
    obtain ⟨l2, b2⟩ := h k hk
    show x = k
    exact code_eq (by rw [l1, l2]) b1 b2 (beq_iff_eq.mp h1)
theorem tups_rep {K : PySem.W.Frag} {F : Hp} : ∀ {vs : List V} {ds : List D} {ks : List (List Int)}, tupsI ds = some ks → RepL K F vs ds → ∃ L : List (Addr × List Int), vs = L.map (fun p => V.ref p.1) ∧ ks = L.map (·.2) ∧ ∀ p ∈ L, F p.1 = some (.tup (p.2.map V.int))
  | _, [], _, h, r => by
    cases h
    cases r
    exact ⟨[], rfl, rfl, fun p hp => by cases hp⟩
  | _, d :: ds, ks, h, r => by
    unfold tupsI at h
    split at h
    · rename_i heq
      cases heq
    · rename_i heq
      cases heq
      obtain ⟨k, h1, h⟩ := bind_some h
      obtain ⟨ks', h2, h⟩ := bind_some h
      cases h
      cases r with
      | cons r t =>
        obtain ⟨L, e1, e2, e3⟩ := tups_rep h2 t
        have e4 := intsOf_eq h1
        subst e4
        cases r with
        | tup hs t2 =>
          have e5 := t2.ints
          subst e5 e1 e2
          refine ⟨(_, k) :: L, rfl, rfl, fun p hp => ?_⟩
          rcases List.mem_cons.mp hp with e | hp
          · subst e
            exact hs
          · exact e3 p hp
    · cases h
theorem rep_tups {K : PySem.W.Frag} {F : Hp} : ∀ {L : List (Addr × List Int)}, (∀ p ∈ L, F p.1 = some (.tup (p.2.map V.int))) → RepL K F (L.map fun p => V.ref p.1) (L.map fun p => PyData.tuple (p.2.map .int))
  | [], _ => .nil
  | p :: L, h => .cons (.tup (h p List.mem_cons_self) (DpAll.of_ints p.2)) (rep_tups fun q hq => h q (List.mem_cons_of_mem _ hq))
theorem ssetT_of {B : Int} {d : Nat} {ks : List (List Int)} {L : List (Addr × List Int)} (hB : ∀ k ∈ ks, k.length = d ∧ TS.Bd B k) (hm : ∀ k, k ∈ L.map (·.2) ↔ k ∈ ks) (nd : (L.map (·.2)).Nodup) (pw : L.Pairwise fun q r => TS.code B q.2 ≤ TS.code B r.2) : L.map (·.2) = ssetT B ks := by
  have e1 : (L.map (·.2)).map (TS.code B) = sset (ks.map (TS.code B)) := by
    refine pw_unique ?_ (sset_pw _) fun c => ?_
    · rw [List.pairwise_map, List.pairwise_map]
      have nd' := List.pairwise_map.mp nd
      refine (List.Pairwise.and pw nd').imp_of_mem fun {a b} ha hb h => ?_
      have ka := (hm a.2).mp (List.mem_map.mpr ⟨a, ha, rfl⟩)
      have kb := (hm b.2).mp (List.mem_map.mpr ⟨b, hb, rfl⟩)
      obtain ⟨l1, b1⟩ := hB _ ka
      obtain ⟨l2, b2⟩ := hB _ kb
      have : TS.code B a.2 ≠ TS.code B b.2 := fun e => h.2 (code_eq (by rw [l1, l2]) b1 b2 e)
      have := h.1
      omega
    · rw [sset_mem, List.mem_map, List.mem_map]
      constructor
      · rintro ⟨k, hk, e⟩
        exact ⟨k, (hm k).mp hk, e⟩
      · rintro ⟨k, hk, e⟩
        exact ⟨k, (hm k).mpr hk, e⟩
  unfold ssetT
  rw [← e1, List.map_map]
  have : ∀ k ∈ L.map (·.2), (decT B ks ∘ TS.code B) k = k := fun k hk => decT_of hB ((hm k).mp hk)
  exact ((List.map_congr_left this).trans (List.map_id' _)).symm
section
variable {X : Cx} {z : Z}
theorem q_ssetT {a : Expr} {f : Env → Option D} {p p2 q pos : Pos} (hc : X.calm = true) (hu : X.A.units + 64 < cLine) (hg : Gl X "sorted") (hm : X.mg "sorted" = none) (hg2 : Gl X "set") (hm2 : X.mg "set" = none) (ha : PE X a (tP X.K z f))
    (na : starEach [a] X.env = (false, eval a X.env) :: starEach [] X.env := by rfl) (nb : starEach [.Call (.Name "set" p2) [a] [] q] X.env = (false, eval (.Call (.Name "set" p2) [a] [] q) X.env) :: starEach [] X.env := by rfl) : PE X (.Call (.Name "sorted" p) [.Call (.Name "set" p2) [a] [] q] [] pos) (tP X.K z (c1 oSSetT f)) :=
  (pe_callB (cr_sortedT hc) hg hm bt_sorted (pa_cons (pe_callTy (cr_setOfT hc hu) hg2 hm2 bt_set (pa_cons ha pa_nil na) (by decide) (by decide) na) pa_nil nb) (by decide) (by decide) nb).mono fun σ H Q ⟨ρ, F, O, d, R, e, q⟩ => by
    obtain ⟨d1, h1, h2⟩ := bind_some e
    unfold oSSetT at h2
    split at h2
    · obtain ⟨ks, h3, h2⟩ := bind_some h2
      obtain ⟨k0, h4, h2⟩ := bind_some h2
      split at h2
      · next hl =>
        split at h2
        · next hd =>
          split at h2
          · next hf =>
            cases h2
            have hB := fitT_of hf
            refine ⟨ρ, F, O, _, R, h1, fun v H1 s1 r1 => ?_⟩
            have R1 := R.grow s1
            cases r1 with
            | lst hs t =>
              obtain ⟨L0, e1, e2, e3⟩ := tups_rep h3 t
              subst e1 e2
              refine ⟨_, L0, rfl, R1.sub.seq hs, fun p hp => sqT_of (R1.sub _ _ (e3 p hp)), by simpa using hl, fun a L ha h5 h6 => ?_⟩
              refine ⟨a, L, k0.length, topT (L0.map (·.2)) + 1, rfl, upd_same, fun p hp => sqT_of ((R1.sub.trans (same_new ha)) _ _ (e3 p (h5 p hp))), hd, fun p hp => hB _ (List.mem_map.mpr ⟨p, h5 p hp, rfl⟩), fun L' p3 pm nd hlt pw hp3 => ?_⟩
              have s2 : Same H1 (upd (upd H1 a (SetTO X.prog X.w a L)) p3 (.lst (L'.map fun q => V.ref q.1))) := (same_new ha).trans (same_new hp3)
              refine q _ _ (s1.trans s2) ?_
              have hL' : ∀ p ∈ L', ext F H H1 p.1 = some (.tup (p.2.map V.int)) := fun p hp => e3 p (h5 p (pm.mem_iff.mp hp))
              have em : L'.map (·.2) = ssetT (topT (L0.map (·.2)) + 1) (L0.map (·.2)) := ssetT_of hB (fun k => by
                constructor
                · intro hk
                  obtain ⟨p, hp, e⟩ := List.mem_map.mp hk
                  exact List.mem_map.mpr ⟨p, h5 p (pm.mem_iff.mp hp), e⟩
                · intro hk
                  obtain ⟨p, hp, e⟩ := List.mem_map.mp hk
                  subst e
                  obtain ⟨p', hp', e'⟩ := List.mem_map.mp (h6 p hp)
                  exact List.mem_map.mpr ⟨p', pm.mem_iff.mpr hp', e'⟩) nd pw
              have hH : H p3 = none := by
                cases q4 : H p3 with
                | none => rfl
                | some o =>
                  rw [(s1.trans (same_new ha)) _ _ q4] at hp3
                  cases hp3
              have rr := rep_tups (K := X.K) hL'
              have ee : (L'.map fun p => PyData.tuple (p.2.map .int)) = (ssetT (topT (L0.map (·.2)) + 1) (L0.map (·.2))).map fun k => .tuple (k.map .int) := by
                rw [← em, List.map_map]
                rfl
              rw [ee] at rr
              refine .lst (.of (xs := L'.map fun q => V.ref q.1) ?_) (rr.mono ?_)
              · unfold ext
                simp [hH, upd_same]
              · rw [← ext_ext s1 s2]
                exact same_ext R1.sub
          · cases h2
        · cases h2
      · cases h2
    · cases h2
end
end DL

namespace DL
open PySem PySem.Spec PyProof.Rows L2

/-! ## sorted(xs, key=len), the items lists or tuples -/
def lenD : D → Nat
  | .list ds => ds.length
  | .tuple ds => ds.length
  | _ => 0
def seqD : D → Bool
  | .list ds => decide (ds.length ≤ 1000)
  | .tuple ds => decide (ds.length ≤ 1000)
  | _ => false
def leLen (a b : D) : Bool := decide ((lenD a : Int) ≤ lenD b)
theorem leLen_total : PySem.W.TotalLe leLen := by
  have h := PySem.W.sortLe_total (PyProof.Rows.listOrd PyProof.Rows.itemOrd) false fun d : D => PySem.W.keyToks (.int (lenD d))
  have e : PySem.W.dataLe false (fun d : D => .int (lenD d)) = leLen := PySem.W.dataLe_int (fun d : D => (lenD d : Int))
  rw [← e]
  exact h
def oSortLen : List D → Option D
  | [.list ds] => if ds.all seqD then (if ds.length ≤ 100000 then some (.list (isort leLen ds)) else none) else none
  | _ => none
def LenAt (h : Heap) (u : Value) (d : D) : Prop := ∃ a its, u = .ref a ∧ (h.IsList a its ∨ h.IsTuple a its) ∧ its.size = lenD d ∧ its.size ≤ 1000
section
variable {X : Cx} {z : Z}
theorem lenAt_of {pins : List (Addr × Obj)} {s : Shared} {σ : L2.St} {H : Hp} (I : Inv X pins σ H s) {v : V} {u : Value} {d : D} (r : RelV v u) (h : Dp X.K H v d) (k : seqD d = true) : LenAt s.heap u d := by
  cases h with
  | lst hs t =>
    cases r
    obtain ⟨its, rv, pl, _⟩ := I.list hs
    have k := of_decide_eq_true k
    have e1 := rv.length
    have e2 := t.length
    exact ⟨_, its.toArray, rfl, .inl pl.isList, by rw [List.size_toArray, ← e1, e2]; rfl, by rw [List.size_toArray, ← e1, e2]; exact k⟩
  | tup hs t =>
    cases r
    obtain ⟨its, rv, pl, _⟩ := I.tuple (sqT_of hs)
    have k := of_decide_eq_true k
    have e1 := rv.length
    have e2 := t.length
    exact ⟨_, its.toArray, rfl, .inr pl, by rw [List.size_toArray, ← e1, e2]; rfl, by rw [List.size_toArray, ← e1, e2]; exact k⟩
  | _ => cases k
theorem each_and {α β : Type} {R S : α → β → Prop} : ∀ {a : List α} {b : List β}, PySem.W.EachIs R a b → PySem.W.EachIs S a b → PySem.W.EachIs (fun x y => R x y ∧ S x y) a b
  | _, _, .nil, _ => .nil
  | _, _, .cons h t, .cons h' t' => .cons ⟨h, h'⟩ (each_and t t')
theorem each_lenAt {pins : List (Addr × Obj)} {s : Shared} {σ : L2.St} {H : Hp} (I : Inv X pins σ H s) : ∀ {vs : List V} {us : List Value} {ds : List D}, Vals vs us → DpAll X.K H vs ds → ds.all seqD = true → PySem.W.EachIs (LenAt s.heap) us ds
  | _, _, _, .nil, .nil, _ => .nil
  | _, _, _, .cons r rs, .cons h t, k => by
    rw [List.all_cons, Bool.and_eq_true] at k
    exact .cons (lenAt_of I r h k.1) (each_lenAt I rs t k.2)
def rSortLen (K : PySem.W.Frag) : List V → Hp → VK → Prop := fun xs H Q => ∃ (a : Addr) (vs : List V) (ds : List D) (Φ : V → D → Prop), xs = [V.ref a] ∧ SqL K H a vs ∧ DpAll K H vs ds ∧ PySem.W.EachIs Φ vs ds ∧ ds.all seqD = true ∧ ds.length ≤ 100000 ∧
  ∀ vs' p, H p = none → PySem.W.EachIs Φ vs' (isort leLen ds) → Q (.ref p) (upd H p (.lst vs'))
theorem run_sortLen (hu : X.A.units + 64 < cLine) {pins : List (Addr × Obj)} {s : Shared} {σ : L2.St} {H : Hp} {xs : List V} {us : List Value} {Q : VK} (I : Inv X pins σ H s) (r : Vals xs us) (h : rSortLen X.K xs H Q) :
    wpAny (model X.prog X.w) X.A (call (.builtin "sorted") us [(Str.ofString "key", .builtin "len")]) (EP X pins σ Q) X.xe s := by
  obtain ⟨a, vs, ds, Φ, rfl, hs, hd, hΦ, ok, hl1, q⟩ := h
  rw [Vals.ref1 r]
  obtain ⟨its, rv, hl, hz⟩ := I.list hs
  have l1 := hd.length
  have el := each_lenAt I rv hd ok
  refine PySem.W.sorted_key_data (k := fun d : D => .int (lenD d)) (R := fun u d => (∃ v, RelV v u ∧ Φ v d) ∧ LenAt s.heap u d) (b := false) hl.isList (each_and (each_vals rv hΦ) el) (.of fun b b' => rfl) (.others fun b => ⟨(fun z => nomatch z), (fun xs z => nomatch z)⟩) (by rw [sizeLine_eq]; omega) (fun x _ => by
    show X.A.units + 2 + 0 < cLine
    omega) (PyProof.Rows.ksk_s1 _ _) (fun _ => PyProof.Rows.ksk_l1 _ _) (fun x => PyProof.Rows.ksk_t4 "len" x) ?_ ?_
  · rintro v x ⟨_, b, items, rfl, hb, e1, e2⟩ _ h tk hk
    have fin : ∀ t n, PySem.W.KeyPure (.int (lenD x)) { s with heap := h, toks := tk } (.int items.size t) { s with heap := h, toks := n } := fun t n => ⟨h, n, rfl, fun _ _ e => e, by rw [e1]; exact .int _ _⟩
    rcases hb with ⟨o, ho, r⟩ | ⟨o, ho, r⟩
    · exact Calls.call_len_list ⟨o, hk _ _ ho, r⟩ (by omega) (fin _ _)
    · exact len_tuple ⟨o, hk _ _ ho, r⟩ (by omega) (fin _ _)
  · intro out c h' tk hk hn he hlen hE
    have e : ds.mergeSort (PySem.W.dataLe false fun d : D => .int (lenD d)) = isort leLen ds := by
      rw [PySem.W.dataLe_int (fun d : D => (lenD d : Int))]
      exact (isort_eq leLen_total ds).symm
    rw [e] at hE
    have hE' : PySem.W.EachIs (fun u d => ∃ v, RelV v u ∧ Φ v d) out (isort leLen ds) := hE.mono fun _ _ h => h.1
    obtain ⟨vs', rv', hv'⟩ := vals_each hE'
    have hlen' : vs'.length ≤ sizeLine := by
      rw [rv'.length, hlen, sizeLine_eq]
      omega
    exact ⟨.ref _, upd H (s.heap.objs.size + 1) (.lst vs'), I.laid (t' := tk) hk (Nat.le_succ _) ⟨hlen', out, c, rv', he⟩, rfl, q _ _ (I.hok.fresh (Nat.le_succ _)) hv'⟩
theorem q_sortLen {e : Expr} {p p2 kpos pos : Pos} {f : Env → Option (List D)} (hu : X.A.units + 64 < cLine) (hg : Gl X "sorted") (hm : X.mg "sorted" = none) (hg2 : Gl X "len") (hm2 : X.mg "len" = none) (ha : PA X [e] (tPs X.K z f))
    (he : backTo pos (starEach [e] X.env) = (false, eval e X.env) :: backTo pos (starEach [] X.env) := by rfl) (hpl : (backTo pos (starEach [e] X.env)).any (·.1) = false := by rfl)
    (hkw : backToKw pos (keywordEach [⟨some "key", .Name "len" p2, kpos⟩] X.env) = [(some (Str.ofString "key"), do let v ← eval (.Name "len" p2) X.env; standAt pos; pure v)] := by rfl)
    (hall : (backToKw pos (keywordEach [⟨some "key", .Name "len" p2, kpos⟩] X.env)).all (·.1.isSome) = true := by rfl) (hnone : (backToKw pos (keywordEach [⟨some "key", .Name "len" p2, kpos⟩] X.env)).any (·.1.isNone) = false := by rfl) :
    PE X (.Call (.Name "sorted" p) [e] [⟨some "key", .Name "len" p2, kpos⟩] pos) (tP X.K z (cN oSortLen f)) := by
  refine ⟨fun pins s σ H Q I ⟨ρ, F, O, d, R, e, q⟩ => ?_⟩
  obtain ⟨as, h1, h2⟩ := bind_some e
  refine wpAny_Call_Name_kw (ld_blt I hg hm bt_sorted ?_ (by decide) (by decide))
  refine PyProof.Rows.callWith_kw (thn (ha.run pos pins s σ H (fun vs H1 => rSortLen X.K vs H1 Q) I ⟨ρ, F, O, as, R, h1, fun vs H1 s1 r1 => ?_⟩) fun us s1 ⟨vs, H1, I1, r1, q1⟩ => ?_) he hpl hall hnone
  · unfold oSortLen at h2
    split at h2
    · split at h2
      · next hk =>
        split at h2
        · next hl =>
          cases h2
          cases r1 with
          | cons r t =>
            cases t
            cases r with
            | lst hs t =>
              have R1 := R.grow s1
              exact ⟨_, _, _, Rep X.K (ext F H H1), rfl, R1.sub.seq hs, t.mono R1.sub, each_of t, hk, hl, fun vs' p hp hE => doneL R1.sub (fun v H' s' r' => q v H' (s1.trans s') (by rwa [ext_ext s1 s'] at r')) (of_each hE) hp⟩
        · cases h2
      · cases h2
    · cases h2
  · rw [hkw]
    refine wpAny_evalAll_cons (wpAny_bind (ld_blt I1 hg2 hm2 bt_len (wpAny_bind (wpAny_standAt (wpAny_pure (wpAny_evalAll_nil ?_)))) (by decide) (by decide)))
    exact run_sortLen hu I1 r1 q1
end
end DL

namespace DL
open PySem PySem.Spec PyProof.Rows L2

/-! ## zip of three -/
def ItZ3 (K : PySem.W.Frag) (k l m : Bool) (a b c : Addr) : It :=
  ⟨fun i H => ∃ (xs ys zs : List V) (x y w : V), Sq K H k a xs ∧ Sq K H l b ys ∧ Sq K H m c zs ∧ xs[i]? = some x ∧ ys[i]? = some y ∧ zs[i]? = some w,
    fun i H v H' => ∃ T x y w, v = .ref T ∧ H T = none ∧ H' = upd H T (.tup [x, y, w]) ∧ (∀ xs, Sq K H k a xs → xs[i]? = some x) ∧ (∀ ys, Sq K H l b ys → ys[i]? = some y) ∧ ∀ zs, Sq K H m c zs → zs[i]? = some w,
    fun i H => ∃ xs ys zs : List V, Sq K H k a xs ∧ Sq K H l b ys ∧ Sq K H m c zs ∧ i ≤ xs.length ∧ i ≤ ys.length ∧ i ≤ zs.length ∧ (i = xs.length ∨ i = ys.length ∨ i = zs.length)⟩
structure Z3Apart (z TI TO i1 i2 i3 a b c : Addr) : Prop where
  S : ZipSep3 z TI TO i1 i2 i3 [i1, a] [i2, b] [i3, c]
  a1 : a ≠ i1
  b2 : b ≠ i2
  c3 : c ≠ i3
theorem got {α : Type} {l : List α} {i : Nat} {x y : α} (h : l[i]? = some x) (h' : l.toArray[i]? = some y) : y = x := by
  have h2 : l[i]? = some y := by simpa using h'
  rw [h] at h2
  exact (Option.some.inj h2).symm
theorem turn_zip3 {P : Program} {w : World} {K : PySem.W.Frag} {elts : List Expr} {kk : Nat} {tpos : Pos} {k l m : Bool} {a b c z TI TO i1 i2 i3 : Addr} (D : Z3Apart z TI TO i1 i2 i3 a b c) :
    Turn P w K (.Tuple elts kk tpos) (ItZ3 K k l m a b c) [z, TI, TO, i1, i2, i3] z (fun i h => IsZip h z TI TO .none ∧ IsTupOf3 h TI (.ref i1) (.ref i2) (.ref i3) ∧ (∃ x y u, IsTupOf3 h TO x y u) ∧ ItAt k h i1 a i ∧ ItAt l h i2 b i ∧ ItAt m h i3 c i) where
  mem := by simp
  obj := fun i h st d hd => by
    obtain ⟨hz, hTI, ⟨x, y, u, hTO⟩, h1, h2, h3⟩ := st
    have e' : d = z ∨ d = TI ∨ d = TO ∨ d = i1 ∨ d = i2 ∨ d = i3 := by simpa using hd
    rcases e' with q | q | q | q | q | q
    · rw [q]; exact ⟨_, hz, fun v q => nomatch q⟩
    · rw [q]; exact ⟨_, hTI, fun v q => nomatch q⟩
    · rw [q]; exact ⟨_, hTO, fun v q => nomatch q⟩
    · rw [q]; exact h1.ob
    · rw [q]; exact h2.ob
    · rw [q]; exact h3.ob
  keep := fun i h h' st k => by
    obtain ⟨hz, hTI, ⟨x, y, u, hTO⟩, h1, h2, h3⟩ := st
    exact ⟨k z (by simp) _ hz, k TI (by simp) _ hTI, ⟨x, y, u, k TO (by simp) _ hTO⟩, h1.at fun o q => k i1 (by simp) o q, h2.at fun o q => k i2 (by simp) o q, h3.at fun o q => k i3 (by simp) o q⟩
  item := by
    intro X hP hw hK hc i pins s σ H E I hf st hg
    subst hP hw hK
    obtain ⟨hz, hTI, ⟨x0, y0, u0, hTO⟩, h1, h2, h3⟩ := st
    obtain ⟨xs, ys, zs, x, y, v, hqx, hqy, hqz, hx, hy, hv⟩ := hg
    obtain ⟨its, rv, p⟩ := invSq I hqx
    obtain ⟨its2, rv2, p2⟩ := invSq I hqy
    obtain ⟨its3, rv3, p3⟩ := invSq I hqz
    obtain ⟨u, hu, ru⟩ := rv.get hx
    obtain ⟨u2, hu2, ru2⟩ := rv2.get hy
    obtain ⟨u3, hu3, ru3⟩ := rv3.get hv
    have lt : ∀ {l : List Value} {x : Value}, l[i]? = some x → i < l.toArray.size := fun h => by
      have := (List.getElem?_eq_some_iff.mp h).1
      simpa using this
    have hzl : z < s.heap.objs.size := Heap.lt_size hz
    have D1 := draws k (prog := X.prog) (w := X.w) (A := X.A.in1) (I.ok.hd hc) i1 a D.a1 its.toArray
    have D2 := draws l (prog := X.prog) (w := X.w) (A := X.A.in1) (I.ok.hd hc) i2 b D.b2 its2.toArray
    have D3 := draws m (prog := X.prog) (w := X.w) (A := X.A.in1) (I.ok.hd hc) i3 c D.c3 its3.toArray
    refine wpAny_pyNext_zipD3_item D.S D1 D2 D3 hz hTI hTO ⟨h1, p⟩ ⟨h2, p2⟩ ⟨h3, p3⟩ (lt hu) (lt hu2) (lt hu3) fun x1 x2 x3 h' tk hP1 hP2 hP3 z' TO' h1' h2' h3' hT hsz hk => ?_
    have e1 := got hu hP1
    have e2 := got hu2 hP2
    have e3 := got hu3 hP3
    subst e1 e2 e3
    refine ⟨_, rfl, wpAny_letOwnedTupleGo_zip (s := { s with heap := h', toks := tk }) z' fun h'' z'' sb => ?_⟩
    have hT2 : h''.get? s.heap.objs.size = some { cls := .type "tuple", data := .seq #[x1, x2, x3] } := (sb.2 _ (Nat.ne_of_gt hzl)).trans hT
    have new : ObjOk X.prog X.w (upd H s.heap.objs.size (.tup [x, y, v])) h'' s.heap.objs.size (.tup [x, y, v]) :=
      ⟨by show 3 ≤ sizeLine; decide, [x1, x2, x3], .cons ru (.cons ru2 (.cons ru3 .nil)), ⟨_, hT2, rfl, _, rfl⟩⟩
    have I1 : Inv X pins σ (upd H s.heap.objs.size (.tup [x, y, v])) { s with heap := h'', toks := tk } :=
      I.turnedNew (t' := tk) (ch := [z, TI, TO, i1, i2, i3]) (fun d o hb q => (sb.2 d (fun q' => hb (by simp [q']))).trans (hk d o (fun q' => hb (by simp [q'])) (fun q' => hb (by simp [q'])) (fun q' => hb (by simp [q'])) (fun q' => hb (by simp [q'])) (fun q' => hb (by simp [q'])) q)) hf (Nat.le_refl _) new
    refine ⟨.ref s.heap.objs.size, _, I1, rfl, ⟨_, x, y, v, rfl, I.hok.fresh (Nat.le_refl _), rfl, fun l hl => by rw [invSq_inj I hl hqx]; exact hx, fun l hl => by rw [invSq_inj I hl hqy]; exact hy, fun l hl => by rw [invSq_inj I hl hqz]; exact hv⟩, ⟨z'', ?_, ⟨x1, x2, x3, ?_⟩, ?_, ?_, ?_⟩, fun d hdm => ?_⟩
    · exact (sb.2 _ D.S.TIz).trans (hk _ _ D.S.TIz D.S.TITO D.S.TIi1 D.S.TIi2 D.S.TIi3 hTI)
    · exact (sb.2 _ D.S.TOz).trans TO'
    · exact h1'.1.at fun o q => (sb.2 _ D.S.zi1.symm).trans q
    · exact h2'.1.at fun o q => (sb.2 _ D.S.zi2.symm).trans q
    · exact h3'.1.at fun o q => (sb.2 _ D.S.zi3.symm).trans q
    · have hlt : d < s.heap.objs.size := by
        have e' : d = z ∨ d = TI ∨ d = TO ∨ d = i1 ∨ d = i2 ∨ d = i3 := by simpa using hdm
        rcases e' with q | q | q | q | q | q
        · rw [q]; exact hzl
        · rw [q]; exact Heap.lt_size hTI
        · rw [q]; exact Heap.lt_size hTO
        · rw [q]; obtain ⟨_, e1, _⟩ := h1.ob; exact Heap.lt_size e1
        · rw [q]; obtain ⟨_, e2, _⟩ := h2.ob; exact Heap.lt_size e2
        · rw [q]; obtain ⟨_, e3, _⟩ := h3.ob; exact Heap.lt_size e3
      rw [upd_ne (Nat.ne_of_lt hlt)]
      exact (hf d hdm).1
  done := by
    intro X hP hw hK hc i pins s σ H E I hf st hg
    subst hP hw hK
    obtain ⟨hz, hTI, ⟨x0, y0, u0, hTO⟩, h1, h2, h3⟩ := st
    obtain ⟨xs, ys, zs, hqx, hqy, hqz, hl1, hl2, hl3, hend⟩ := hg
    obtain ⟨its, rv, p⟩ := invSq I hqx
    obtain ⟨its2, rv2, p2⟩ := invSq I hqy
    obtain ⟨its3, rv3, p3⟩ := invSq I hqz
    have l1 := rv.length
    have l2 := rv2.length
    have l3 := rv3.length
    have D1 := draws k (prog := X.prog) (w := X.w) (A := X.A.in1) (I.ok.hd hc) i1 a D.a1 its.toArray
    have D2 := draws l (prog := X.prog) (w := X.w) (A := X.A.in1) (I.ok.hd hc) i2 b D.b2 its2.toArray
    have D3 := draws m (prog := X.prog) (w := X.w) (A := X.A.in1) (I.ok.hd hc) i3 c D.c3 its3.toArray
    exact wpAny_pyNext_zipD3_end D.S D1 D2 D3 hz hTI hTO ⟨h1, p⟩ ⟨h2, p2⟩ ⟨h3, p3⟩ (by rw [List.size_toArray]; omega) (by rw [List.size_toArray]; omega) (by rw [List.size_toArray]; omega) (by rw [List.size_toArray, List.size_toArray, List.size_toArray]; omega) fun h' tk hk => ⟨rfl, I.turnedL (t' := tk) (ch := [z, TI, TO, i1, i2, i3]) (fun d o hb q =>
      hk d o (fun q' => hb (by simp [q'])) (fun q' => hb (by simp [q'])) (fun q' => hb (by simp [q'])) (fun q' => hb (by simp [q'])) (fun q' => hb (by simp [q'])) q) hf⟩
  self := fun A i s Q E st h => wpAny_pyIter_zip st.1 h
def iZip3 (K : PySem.W.Frag) (k l m : Bool) (ta : TA) : TI := fun σ H R => ta σ H fun vs H1 => ∃ a b c xs ys zs, vs = [.ref a, .ref b, .ref c] ∧ Sq K H1 k a xs ∧ Sq K H1 l b ys ∧ Sq K H1 m c zs ∧ R (ItZ3 K k l m a b c) H1
theorem pi_zip3 {X : Cx} {e e2 e3 : Expr} {ta : TA} {p pos tpos : Pos} {elts : List Expr} {kk : Nat} {k l m : Bool} (hg : Gl X "zip") (hm : X.mg "zip" = none) (ha : PA X [e, e2, e3] ta)
    (hs : starEach [e, e2, e3] X.env = (false, eval e X.env) :: starEach [e2, e3] X.env := by rfl) (hpl : (backTo pos (starEach [e2, e3] X.env)).any (·.1) = false := by rfl) :
    PI X (.Tuple elts kk tpos) (.Call (.Name "zip" p) [e, e2, e3] [] pos) (iZip3 X.K k l m ta) := by
  refine ⟨fun pins s σ H R I h => ?_⟩
  refine Call_ (ld_blt I hg hm PyProof.Rows.boot_zip (PyProof.Rows.callWith_type1 (thn (ha.run pos pins s σ H _ I h) fun us s1 ⟨vs, H1, I1, r1, q1⟩ => ?_) hs hpl))
  obtain ⟨a, b, c, xs, ys, zs, ex, hqx, hqy, hqz, q⟩ := q1
  subst ex
  cases r1 with
  | cons r rr =>
    cases rr with
    | cons r' rr =>
      cases rr with
      | cons r'' rr =>
        cases rr
        cases r
        cases r'
        cases r''
        obtain ⟨its, rv, p1⟩ := invSq I1 hqx
        obtain ⟨its2, rv2, p2⟩ := invSq I1 hqy
        obtain ⟨its3, rv3, p3⟩ := invSq I1 hqz
        have la : a < s1.heap.objs.size := p1.lt
        have lb : b < s1.heap.objs.size := p2.lt
        have lc : c < s1.heap.objs.size := p3.lt
        refine zip_begins3 (begins k a its.toArray) (begins l b its2.toArray) (begins m c its3.toArray) p1 p2 p3 fun h' hz hTI hTO h1 h2 h3 hsz hk => wpAny_pyIter_zip hz ?_
        have I2 : Inv X pins σ H1 { s1 with heap := h' } := I1.kept (t' := s1.toks) hk
        have S := zip_sep3 (N := s1.heap.objs.size) (fp1 := [a]) (fp2 := [b]) (fp3 := [c]) (fun d hd => by rw [List.mem_singleton.mp hd]; exact la) (fun d hd => by rw [List.mem_singleton.mp hd]; exact lb) (fun d hd => by rw [List.mem_singleton.mp hd]; exact lc)
        have lc2 : c < s1.heap.objs.size + 2 := Nat.lt_trans lc (Nat.lt_succ_of_lt (Nat.lt_succ_self _))
        refine ⟨s1.heap.objs.size + 5, [s1.heap.objs.size + 5, s1.heap.objs.size + 3, s1.heap.objs.size + 4, s1.heap.objs.size, s1.heap.objs.size + 1, s1.heap.objs.size + 2], _, _, H1, rfl, I2, turn_zip3 ⟨S, Nat.ne_of_lt la, Nat.ne_of_lt (Nat.lt_succ_of_lt lb), Nat.ne_of_lt lc2⟩, ⟨hz, hTI, ⟨_, _, _, hTO⟩, itObj_at h1, itObj_at h2, itObj_at h3⟩, fun d hdm => ?_, q⟩
        have e' : d = s1.heap.objs.size + 5 ∨ d = s1.heap.objs.size + 3 ∨ d = s1.heap.objs.size + 4 ∨ d = s1.heap.objs.size ∨ d = s1.heap.objs.size + 1 ∨ d = s1.heap.objs.size + 2 := by simpa using hdm
        have hle : s1.heap.objs.size ≤ d := by
          rcases e' with z | z | z | z | z | z
          · rw [z]; exact Nat.le_add_right _ _
          · rw [z]; exact Nat.le_add_right _ _
          · rw [z]; exact Nat.le_add_right _ _
          · rw [z]; exact Nat.le_refl _
          · rw [z]; exact Nat.le_add_right _ _
          · rw [z]; exact Nat.le_add_right _ _
        exact I1.fpOk hle (I1.hok.fresh hle)
def zip3D : List D → List D → List D → List D
  | a :: r, b :: q, c :: t => .tuple [a, b, c] :: zip3D r q t
  | _, _, _ => []
theorem zip3D_len : ∀ (xs ys zs : List D), (zip3D xs ys zs).length = min xs.length (min ys.length zs.length)
  | [], _, _ => by simp [zip3D]
  | _ :: _, [], _ => by simp [zip3D]
  | _ :: _, _ :: _, [] => by simp [zip3D]
  | a :: r, b :: q, c :: t => by
    show (zip3D r q t).length + 1 = _
    rw [zip3D_len r q t, List.length_cons, List.length_cons, List.length_cons]
    omega
theorem zip3D_get : ∀ (xs ys zs : List D) (i : Nat) (x : D), (zip3D xs ys zs)[i]? = some x → ∃ a b c, xs[i]? = some a ∧ ys[i]? = some b ∧ zs[i]? = some c ∧ x = .tuple [a, b, c]
  | [], _, _, i, x, h => by simp [zip3D] at h
  | _ :: _, [], _, i, x, h => by simp [zip3D] at h
  | _ :: _, _ :: _, [], i, x, h => by simp [zip3D] at h
  | a :: r, b :: q, c :: t, 0, x, h => by
    cases h
    exact ⟨a, b, c, rfl, rfl, rfl, rfl⟩
  | a :: r, b :: q, c :: t, i + 1, x, h => zip3D_get r q t i x h
theorem yld_zip30 {K : PySem.W.Frag} {F : Hp} {k l m : Bool} {a b c : Addr} {vs ws us : List V} {ds es fs : List D} (h : Sq K F k a vs) (t : RepL K F vs ds) (h' : Sq K F l b ws) (t' : RepL K F ws es) (h'' : Sq K F m c us) (t'' : RepL K F us fs) : Yld0 K (ItZ3 K k l m a b c) F (zip3D ds es fs) where
  go := fun i H s hi => by
    have hl := t.length
    have hl' := t'.length
    have hl'' := t''.length
    rw [zip3D_len] at hi
    exact ⟨vs, ws, us, vs[i]'(by omega), ws[i]'(by omega), us[i]'(by omega), h.mono s, h'.mono s, h''.mono s, List.getElem?_eq_getElem _, List.getElem?_eq_getElem _, List.getElem?_eq_getElem _⟩
  yld := fun i H x H' d s ⟨T, y, y', y'', e1, hT, e2, hy, hy', hy''⟩ hd => by
    subst e1 e2
    obtain ⟨d1, d2, d3, h1, h2, h3, h4⟩ := zip3D_get ds es fs i d hd
    obtain ⟨v, q1, r1⟩ := t.get h1
    obtain ⟨v', q2, r2⟩ := t'.get h2
    obtain ⟨v'', q3, r3⟩ := t''.get h3
    rw [hy _ (h.mono s)] at q1
    rw [hy' _ (h'.mono s)] at q2
    rw [hy'' _ (h''.mono s)] at q3
    cases q1
    cases q2
    cases q3
    refine ⟨same_new hT, ?_⟩
    have sn := same_new (o := HO.tup [y, y', y'']) (s.free hT)
    rw [ext_new s hT, h4]
    exact .tup upd_same (.cons (r1.mono sn) (.cons (r2.mono sn) (.cons (r3.mono sn) .nil)))
  stop := fun i H s hi => by
    have hl := t.length
    have hl' := t'.length
    have hl'' := t''.length
    rw [zip3D_len] at hi
    exact ⟨vs, ws, us, h.mono s, h'.mono s, h''.mono s, by omega, by omega, by omega, by omega⟩
theorem yld_zip3 {K : PySem.W.Frag} {F : Hp} {k l m : Bool} {a b c : Addr} {vs ws us : List V} {ds es fs : List D} (h : Sq K F k a vs) (t : RepL K F vs ds) (h' : Sq K F l b ws) (t' : RepL K F ws es) (h'' : Sq K F m c us) (t'' : RepL K F us fs) : Yld K (ItZ3 K k l m a b c) F (zip3D ds es fs) := (yld_zip30 h t h' t' h'' t'').of
def zp3 : List D → Option (List D)
  | [a, b, c] => (seqOf a).bind fun xs => (seqOf b).bind fun ys => (seqOf c).bind fun zs => some (zip3D xs ys zs)
  | _ => none
theorem seqB {d : D} {ds : List D} (h : seqOf d = some ds) : ∃ k : Bool, d = if k then .list ds else .tuple ds := by
  rcases seqOf_of h with k | k
  · exact ⟨true, k⟩
  · exact ⟨false, k⟩
theorem zp3_of {as ds : List D} (h : zp3 as = some ds) : ∃ (k l m : Bool) (xs ys zs : List D), as = [if k then .list xs else .tuple xs, if l then .list ys else .tuple ys, if m then .list zs else .tuple zs] ∧ ds = zip3D xs ys zs := by
  unfold zp3 at h
  split at h
  · obtain ⟨xs, h1, h⟩ := bind_some h
    obtain ⟨ys, h2, h⟩ := bind_some h
    obtain ⟨zs, h3, h⟩ := bind_some h
    cases h
    obtain ⟨k, e1⟩ := seqB h1
    obtain ⟨l, e2⟩ := seqB h2
    obtain ⟨m, e3⟩ := seqB h3
    exact ⟨k, l, m, xs, ys, zs, by rw [e1, e2, e3], rfl⟩
  · cases h
theorem i_zip3 {X : Cx} {z : Z} {e e2 e3 : Expr} {f : Env → Option (List D)} {p pos tpos : Pos} {elts : List Expr} {kk : Nat} (hg : Gl X "zip") (hm : X.mg "zip" = none) (ha : PA X [e, e2, e3] (tPs X.K z f))
    (hs : starEach [e, e2, e3] X.env = (false, eval e X.env) :: starEach [e2, e3] X.env := by rfl) (hpl : (backTo pos (starEach [e2, e3] X.env)).any (·.1) = false := by rfl) :
    PI X (.Tuple elts kk tpos) (.Call (.Name "zip" p) [e, e2, e3] [] pos) (tIP X.K z (iN zp3 f)) := by
  refine ⟨fun pins s σ H Rr I ⟨ρ, F, O, ds, R, e, q⟩ => ?_⟩
  obtain ⟨as, h1, h2⟩ := bind_some e
  obtain ⟨k, l, m, xs, ys, zs, e1, e2⟩ := zp3_of h2
  subst e1 e2
  refine (pi_zip3 (k := k) (l := l) (m := m) hg hm ha hs hpl).run pins s σ H Rr I ⟨ρ, F, O, _, R, h1, fun vs H' s r => ?_⟩
  cases r with
  | cons r t =>
    cases t with
    | cons r' t =>
      cases t with
      | cons r'' t =>
        cases t
        obtain ⟨a, ws, e3, h3, h4⟩ := Sq.of_rep r
        obtain ⟨b, ws', e5, h5, h6⟩ := Sq.of_rep r'
        obtain ⟨c, ws'', e7, h7, h8⟩ := Sq.of_rep r''
        subst e3 e5 e7
        exact ⟨a, b, c, ws, ws', ws'', rfl, h3.mono (R.grow s).sub, h5.mono (R.grow s).sub, h7.mono (R.grow s).sub, q _ H' s (yld_zip3 h3 h4 h5 h6 h7 h8)⟩
end DL

namespace DL
open PySem PySem.Spec PyProof.Rows L2
section
variable {X : Cx} {z : Z}
/-- a, b, c = x, y, w through a tuple (a name of them a cell) -/
theorem s_tup3 (i j l : Nat) {x y w : Str} {a b c : Expr} {px py pw pt pos : Pos} {kt k2 pt2} {f g h : Env → Option (E × Env)} (hc : X.calm = true) (hN : X.N.Nodup) (ha : PE X a (tW X.K z f)) (hb : PE X b (tW X.K z g)) (hcc : PE X c (tW X.K z h)) (hi : X.N[i]? = some x := by rfl) (hj : X.N[j]? = some y := by rfl) (hl : X.N[l]? = some w := by rfl)
    (hx : Loc X.env.scope x := by first | exact Or.inl rfl | exact Or.inr rfl) (hy : Loc X.env.scope y := by first | exact Or.inl rfl | exact Or.inr rfl) (hw0 : Loc X.env.scope w := by first | exact Or.inl rfl | exact Or.inr rfl) (hfx : X.fn x = true ∨ X.env.scope.names.lookup x = some .local := by first | exact .inl rfl | exact .inr rfl) (hfy : X.fn y = true ∨ X.env.scope.names.lookup y = some .local := by first | exact .inl rfl | exact .inr rfl) (hfw : X.fn w = true ∨ X.env.scope.names.lookup w = some .local := by first | exact .inl rfl | exact .inr rfl)
    (ha1 : starEach [a, b, c] X.env = (false, eval a X.env) :: starEach [b, c] X.env := by rfl) (hb1 : starEach [b, c] X.env = (false, eval b X.env) :: starEach [c] X.env := by rfl) (hc1 : starEach [c] X.env = (false, eval c X.env) :: starEach [] X.env := by rfl)
    (hn : (assignEach [.Name x px, .Name y py, .Name w pw] X.env).length = 3 := by rfl) (hst : (assignEach [.Name x px, .Name y py, .Name w pw] X.env).findIdx? (·.1) = none := by rfl)
    (hm1 : (assignEach [.Name x px, .Name y py, .Name w pw] X.env).map (·.2) = assign (.Name x px) X.env :: (assignEach [.Name y py, .Name w pw] X.env).map (·.2) := by rfl) (hm2 : (assignEach [.Name y py, .Name w pw] X.env).map (·.2) = assign (.Name y py) X.env :: (assignEach [.Name w pw] X.env).map (·.2) := by rfl) (hm3 : (assignEach [.Name w pw] X.env).map (·.2) = assign (.Name w pw) X.env :: (assignEach [] X.env).map (·.2) := by rfl)
    (hw : swappedStores [.Tuple [.Name x px, .Name y py, .Name w pw] kt pt] (.Tuple [a, b, c] k2 pt2) X.env = pure none := by rfl)
    (hs : swapsWithSole [.Tuple [.Name x px, .Name y py, .Name w pw] kt pt] (.Tuple [a, b, c] k2 pt2) pos.line X.env = pure false := by rfl)
    (h1 : (assignEach [.Tuple [.Name x px, .Name y py, .Name w pw] kt pt] X.env).map (·.2) = [assign (.Tuple [.Name x px, .Name y py, .Name w pw] kt pt) X.env] := by rfl) :
    PS X (.Assign [.Tuple [.Name x px, .Name y py, .Name w pw] kt pt] (.Tuple [a, b, c] k2 pt2) pos) (tS X.K z (gPar3 i j l f g h)) :=
  (ps_asg (pe_tup (pa_cons ha (pa_cons hb (pa_cons hcc pa_nil hc1) hb1) ha1)) (pg_tup hc (pgs_cons (pg_name hN hi hx hfx) (pgs_cons (pg_name hN hj hy hfy) (pgs_cons (pg_name hN hl hw0 hfw) pgs_nil hm3) hm2) hm1) hn hst) hs hw h1).mono fun D σ H ⟨ρ, F, O, fl, ρ', R, e, q⟩ => by
    obtain ⟨⟨e1, ρ1⟩, h1, e⟩ := bind_some e
    obtain ⟨⟨e2, ρ2⟩, h2, e⟩ := bind_some e
    obtain ⟨⟨e3, ρ3⟩, h3, e⟩ := map_some e
    cases e
    refine ⟨ρ, F, O, e1, ρ1, R, h1, fun v1 F1 H1 as1 R1 k1 n1 f1 => ⟨ρ1, F1, O, e2, ρ2, R1, h2, fun v2 F2 H2 as2 R2 k2 n2 f2 => ⟨ρ2, F2, O, e3, ρ3, R2, h3, fun v3 F3 H3 as3 R3 k3 n3 f3 => ⟨le1000 (by show 3 ≤ 1000; decide), fun p hp => ?_⟩⟩⟩⟩
    refine ⟨p, [v1, v2, v3], rfl, .of upd_same, rfl, v1, [v2, v3], rfl, v2, [v3], rfl, v3, [], rfl, rfl, ?_⟩
    obtain ⟨n1', f1'⟩ := keepW R (k2.trans k3) n1 f1
    obtain ⟨n2', f2'⟩ := keepW R1 k3 n2 f2
    have S1 := setE_new (i := i) (fun i a ha => (R.off i a ha).2) R3 n1' f1'
    have S2 := S1.setE (i := j) n2' fun a ha => ⟨(f2' a ha).2.1, (f2' a ha).2.2, fun m _ hm => by
      unfold setO at hm
      split at hm
      · exact (f1 a hm).2.2 (f2 a ha).1
      · exact (R1.off m a hm).2 (f2 a ha).1⟩
    have S3 := S2.setE (i := l) n3 fun a ha => ⟨(f3 a ha).2.1, (f3 a ha).2.2, fun m _ hm => by
      unfold setO at hm
      split at hm
      · exact (f2 a hm).2.2 (f3 a ha).1
      · split at hm
        · exact (k2.dom a (f1 a hm).2.2) (f3 a ha).1
        · exact (R2.off m a hm).2 (f3 a ha).1⟩
    exact q _ _ _ _ (S3.newS hp) (((k1.same.trans k2.same).trans k3.same).trans (same_new (S3.sub.free hp)))
end
end DL

namespace DL
open PySem PySem.Spec PyProof.Rows L2
section
variable {X : Cx} {z : Z}
/-- sorted(set(xs)) where xs has effects -/
theorem r_sset {a : Expr} {f : Env → Option (D × Env)} {p p2 q pos : Pos} (hc : X.calm = true) (hg : Gl X "sorted") (hm : X.mg "sorted" = none) (hg2 : Gl X "set") (hm2 : X.mg "set" = none) (ha : PE X a (tR X.K z f))
    (na : starEach [a] X.env = (false, eval a X.env) :: starEach [] X.env := by rfl) (nb : starEach [.Call (.Name "set" p2) [a] [] q] X.env = (false, eval (.Call (.Name "set" p2) [a] [] q) X.env) :: starEach [] X.env := by rfl) : PE X (.Call (.Name "sorted" p) [.Call (.Name "set" p2) [a] [] q] [] pos) (tR X.K z (r1 oSSet f)) :=
  (pe_callB (cr_sortedSet hc) hg hm bt_sorted (pa_cons (pe_callTy (cr_setTI hc) hg2 hm2 bt_set (pa_cons ha pa_nil na) (by decide) (by decide) na) pa_nil nb) (by decide) (by decide) nb).mono fun σ H Q ⟨ρ, F, O, d, ρ', R, e, q⟩ => by
    obtain ⟨⟨d1, ρ1⟩, h1, e⟩ := bind_some e
    obtain ⟨d2, h2, e⟩ := map_some e
    cases e
    have h2 : oSSet d1 = some _ := h2
    unfold oSSet at h2
    split at h2
    · obtain ⟨ns, h3, h2⟩ := bind_some h2
      split at h2
      · next hl =>
        cases h2
        have e3 := intsOf_eq h3
        subst e3
        refine ⟨ρ, F, O, _, ρ1, R, h1, fun v F1 H1 R1 k1 r1 => ?_⟩
        cases r1 with
        | tup ht t =>
          have et := t.ints
          subst et
          refine ⟨_, ns, rfl, sameT R1.sub (sqT_of ht), by omega, fun p2 c hc hp2 => ⟨p2, _, c, rfl, upd_same, by omega, fun ms p3 hpw hmem hlen hp3 => ?_⟩⟩
          have s2 : Same H1 (upd (upd H1 p2 (SetO X.w p2 (fun j => decide (j ∈ ns)) c)) p3 (.lst (ms.map V.int))) := (same_new hp2).trans (same_new hp3)
          refine q _ _ _ (R1.grow s2) (k1.trans (.of_same R1.sub s2)) ?_
          have em : ms = sset ns := pw_unique hpw (sset_pw ns) fun k => by
            rw [hmem, sset_mem, decide_eq_true_eq]
          subst em
          have hH : H1 p3 = none := by
            cases q4 : H1 p3 with
            | none => rfl
            | some o =>
              rw [(same_new hp2) _ _ q4] at hp3
              cases hp3
          refine .lst (.of ?_) (DpAll.of_ints _)
          unfold ext
          simp [hH, upd_same]
      · cases h2
    · cases h2
end
end DL

namespace L2
open PySem PySem.Spec PyProof.Rows
/-! ### a set made of a list of ints -/
abbrev noneYet (w : World) : Obj := { cls := .type "set", dict := none, data := .set #[] 0 (.fresh 0 0 (!w.params.followText "set-order")) }
abbrev overList (l : Addr) : Obj := { cls := .type "list_iterator", data := .fields #[.ref l, .int 0 0] }
section
variable {P : Program} {w : World} {A : Around} {E : Value → Shared → Prop} {s : Shared}
set_option maxHeartbeats 3200000 in
theorem setMade {l : Addr} {its : Array Value} (ns : List Int) {Q : Value → Shared → Prop} (h0 : A.handled = none) (hl : s.heap.IsList l its) (hi : IntsAre its.toList ns) (hb : ns.length + 1 < scanBound)
    (k : ∀ (H' : Heap) (t c : Nat), SetR w H' s.heap.objs.size (fun j => decide (j ∈ ns)) c → c ≤ ns.length → (∀ b o, s.heap.get? b = some o → H'.get? b = some o) → Q (.ref s.heap.objs.size) { s with heap := H', toks := t }) :
    wpAny (model P w) A (call (.type "set") [.ref l]) Q E s := by
  have hz : its.size = ns.length := by have := IntsAre.length hi; rwa [Array.length_toList] at this
  obtain ⟨kc, kt, km⟩ := F.called_set.mro; have made := F.called_set.made; have sub := F.called_set.sub
  refine wpAny_call (codeAny_of_tree ?_); show wpAny _ _ (callAny (.type "set") _) _ _ _
  refine wpAny_pure ⟨Code.quiet_builtin _ (by decide +kernel), codeAny_builtin F.entry_type_call ?_⟩; rw [Around.under_plain (weight_type_call_type "set" [.ref l] []) rfl]
  have c1 := F.called_set.notType; have c2 := F.called_set.canCreate; have c3 := F.typeCall_set_1 (.ref l)
  repeat (any_goals (first | assumption | wp_step))
  refine codeAny_mono (code_set_led1 (.ref l) (E := E) (Q₁ := fun v t => v = .ref s.heap.objs.size ∧ t = { s with heap := s.heap.push (noneYet w) }) ⟨rfl, rfl⟩) fun r t hr => ?_
  cases r with
  | error e => exact hr
  | ok fl =>
    cases fl with
    | ret v =>
      obtain ⟨rfl, rfl⟩ := hr
      have g0 : (s.heap.push (noneYet w)).get? s.heap.objs.size = some (noneYet w) := Heap.get?_push_size _ rfl
      have gT : Shared.TypeIs { s with heap := s.heap.push (noneYet w) } (.ref s.heap.objs.size) "set" := ⟨_, g0, rfl⟩
      have look := F.called_set.init.lookup; have bind := F.called_set.init.bind (.ref s.heap.objs.size)
      repeat (any_goals (first | assumption | wp_step))
      refine codeAny_mono (codeAny_call_builtin (R := wants (fun r u => r = .none ∧ ∃ H' t c, u = { s with heap := H', toks := t } ∧ SetR w H' s.heap.objs.size (fun j => decide (j ∈ ns)) c ∧ c ≤ ns.length ∧ (∀ b o, s.heap.get? b = some o → H'.get? b = some o)) E) F.called_set.init.plain F.entry_set_init (check_set_init_1 gT ?_)) fun r u hr => ?_
      · obtain ⟨ol, hol, hcl, nl, hdl⟩ := hl
        obtain ⟨oc, od, oda, osl⟩ := ol
        simp only at hcl hdl; subst hcl; subst hdl
        have hol' : (s.heap.push (noneYet w)).get? l = some { cls := .type "list", dict := od, data := .seq its nl, slots := osl } := Heap.get?_push_of_some _ hol
        have q1 := F.sub_list_set; have q2 := F.sub_list_frozenset
        have q3 : (Value.type "list" == Value.type "dict") = false := by decide
        have hl1 : (s.heap.push (noneYet w)).IsList l its := ⟨_, hol', rfl, nl, rfl⟩
        unfold Builtin.«set.__init__» noKeywords Builtin.Frozenset.updateFrom; generalize hPI : pyIter = PI; wp_walk; subst hPI
        refine wpAny_pyIter_list hl1 (wpAny_bind (wpAny_runValue ?_))
        have lt : l < s.heap.objs.size := Heap.lt_size hol
        have h3 : A.in1.in1.in1.handled = none := by simp [h0]
        have z1 : (s.heap.push (noneYet w)).objs.size = s.heap.objs.size + 1 := Heap.size_push ..
        have neI : l ≠ (s.heap.push (noneYet w)).objs.size := by rw [z1] <;> exact Nat.ne_of_lt (Nat.lt_succ_of_lt lt)
        have fr : s.heap.objs.size ∉ [(s.heap.push (noneYet w)).objs.size, l] := fun hm => by
          rcases List.mem_cons.mp hm with q | q
          · exact absurd (q.trans z1) (Nat.ne_of_lt (Nat.lt_succ_self _))
          · exact absurd (List.mem_singleton.mp q) (Nat.ne_of_gt lt)
        have val : ∀ (i : Nat) (v : Value), its[i]? = some v → ∃ k t, ns[i]? = some k ∧ v = .int k t := fun i v hv => by
          have lti : i < ns.length := by rw [← hz]; exact (Array.getElem?_eq_some_iff.mp hv).1
          obtain ⟨t, e⟩ := PyProof.Rows.IntsAre.int_at hi i v (by rwa [Array.getElem?_toList])
          exact ⟨ns[i], t, List.getElem?_eq_getElem lti, by rw [e, List.getD_eq_getElem?_getD, List.getElem?_eq_getElem lti] <;> rfl⟩
        refine set_update_ints ((Walks.list h3 _ l neI its).toS) s.heap.objs.size fr ns hz hb val (its.size - 0) 0 _ (by omega) (Nat.zero_le _) ⟨⟨_, Heap.get?_push_size _ rfl, rfl, rfl⟩, (hl1.push _)⟩ ?start ?done
        case start =>
          have : ((s.heap.push (noneYet w)).push (overList l)).get? s.heap.objs.size = some (noneYet w) := Heap.get?_push_of_some _ g0
          exact ⟨0, Nat.le_refl 0, setR_new_at this⟩
        case done =>
          intro u c mv hc hS
          obtain ⟨H', g2, d2, t2, o2⟩ := u
          obtain rfl : g2 = s.gens := mv.gens
          obtain rfl : d2 = s.drawn := mv.drawn
          obtain rfl : o2 = s.os := mv.os
          show wpAny _ _ _ _ _ _; refine wpAny_pure ?_; show wpAny _ _ (ret Value.none) _ _ _
          rw [hz] at hc
          refine wpAny_pure ⟨rfl, H', t2, c, rfl, hS, hc, fun b o e => ?_⟩
          have b0 : b < s.heap.objs.size := Heap.lt_size e
          refine mv.heap b o (fun hm => ?_) (Heap.get?_push_of_some _ (Heap.get?_push_of_some _ e))
          rcases List.mem_cons.mp hm with q | q
          · exact absurd q (Nat.ne_of_lt b0)
          · exact absurd ((List.mem_singleton.mp q).trans z1) (Nat.ne_of_lt (Nat.lt_succ_of_lt b0))
      · cases r with
        | error e => exact hr
        | ok fl =>
          cases fl with
          | ret r =>
            obtain ⟨rfl, H', t, c, rfl, hS, hc, hk⟩ := hr
            repeat (any_goals (first | assumption | wp_step))
            exact k _ _ _ hS hc hk
          | _ => exact hr.elim
    | _ => exact hr.elim
end
end L2

namespace DL
open PySem PySem.Spec PyProof.Rows L2
/-! ## sorted(set(xs)), xs a list of ints -/
theorem nodupI_len : ∀ (p l : List Int), p.Nodup → (∀ x ∈ p, x ∈ l) → p.length ≤ l.length
  | [], _, _, _ => Nat.zero_le _
  | x :: p, l, h, k => by
    rw [List.nodup_cons] at h
    have hx := k x List.mem_cons_self
    have ih := nodupI_len p (l.erase x) h.2 fun y hy => (List.mem_erase_of_ne fun e => h.1 (by rw [← e]; exact hy)).mpr (k y (List.mem_cons_of_mem _ hy))
    rw [List.length_erase_of_mem hx] at ih
    have := List.length_pos_of_mem hx
    rw [List.length_cons]
    omega
def oSSetL : D → Option D
  | .list ds => (intsOf ds).bind fun ns => if (sset ns).length < 64 ∧ ns.length ≤ 4000 then some (.list ((sset ns).map .int)) else none
  | _ => none
section
variable {X : Cx} {z : Z}
def rSetLI (K : PySem.W.Frag) (w : World) : List V → Hp → VK → Prop := fun vs H Q => ∃ (l : Addr) (ns : List Int), vs = [V.ref l] ∧ SqL K H l (ns.map V.int) ∧ ns.length ≤ 4000 ∧ ∀ p c, c ≤ (sset ns).length → H p = none → Q (.ref p) (upd H p (SetO w p (fun j => decide (j ∈ ns)) c))
theorem cr_setLI (hc : X.calm = true) : CallR X (.type "set") (rSetLI X.K X.w) := by
  intro pins s σ H xs us Q I r h
  obtain ⟨l, ns, rfl, hq, hl, q⟩ := h
  rw [Vals.ref1 r]
  obtain ⟨its, rv, pl, hz⟩ := I.list hq
  refine setMade (P := X.prog) ns (I.ok.hd hc) pl.isList (by simpa using rv.ints) (by unfold scanBound; omega) fun h' tk c R hc' k => ?_
  have hn : H s.heap.objs.size = none := I.hok.fresh (Nat.le_refl _)
  have hcs : c ≤ (sset ns).length := by
    obtain ⟨o, es, ep, t, _, _, _, _, nd, mem, _, _, sz, _⟩ := R
    have := nodupI_len _ (sset ns) nd fun k hk => sset_mem.mpr (of_decide_eq_true ((mem k).mpr hk))
    rw [List.length_map, Array.length_toList, sz] at this
    exact this
  exact ⟨.ref _, upd H s.heap.objs.size (SetO X.w s.heap.objs.size (fun j => decide (j ∈ ns)) c), I.laid (t' := tk) k (Nat.le_refl _) (setO_new R), rfl, q _ c hcs hn⟩
theorem q_ssetL {a : Expr} {f : Env → Option D} {p p2 q pos : Pos} (hc : X.calm = true) (hg : Gl X "sorted") (hm : X.mg "sorted" = none) (hg2 : Gl X "set") (hm2 : X.mg "set" = none) (ha : PE X a (tP X.K z f))
    (na : starEach [a] X.env = (false, eval a X.env) :: starEach [] X.env := by rfl) (nb : starEach [.Call (.Name "set" p2) [a] [] q] X.env = (false, eval (.Call (.Name "set" p2) [a] [] q) X.env) :: starEach [] X.env := by rfl) : PE X (.Call (.Name "sorted" p) [.Call (.Name "set" p2) [a] [] q] [] pos) (tP X.K z (c1 oSSetL f)) :=
  (pe_callB (cr_sortedSet hc) hg hm bt_sorted (pa_cons (pe_callTy (cr_setLI hc) hg2 hm2 bt_set (pa_cons ha pa_nil na) (by decide) (by decide) na) pa_nil nb) (by decide) (by decide) nb).mono fun σ H Q ⟨ρ, F, O, d, R, e, q⟩ => by
    obtain ⟨d1, h1, h2⟩ := bind_some e
    unfold oSSetL at h2
    split at h2
    · obtain ⟨ns, h3, h2⟩ := bind_some h2
      split at h2
      · next hl =>
        cases h2
        have e3 := intsOf_eq h3
        subst e3
        refine ⟨ρ, F, O, _, R, h1, fun v H1 s1 r1 => ?_⟩
        cases r1 with
        | lst ht t =>
          have et := t.ints
          subst et
          refine ⟨_, ns, rfl, (R.grow s1).sub.seq ht, hl.2, fun p2 c hc hp2 => ⟨p2, _, c, rfl, upd_same, by omega, fun ms p3 hpw hmem hlen hp3 => ?_⟩⟩
          have s2 : Same H1 (upd (upd H1 p2 (SetO X.w p2 (fun j => decide (j ∈ ns)) c)) p3 (.lst (ms.map V.int))) := (same_new hp2).trans (same_new hp3)
          refine q _ _ (s1.trans s2) ?_
          have em : ms = sset ns := pw_unique hpw (sset_pw ns) fun k => by
            rw [hmem, sset_mem, decide_eq_true_eq]
          subst em
          have hH : H p3 = none := by
            cases q4 : H p3 with
            | none => rfl
            | some o =>
              rw [(s1.trans (same_new hp2)) _ _ q4] at hp3
              cases hp3
          refine .lst (.of ?_) (DpAll.of_ints _)
          unfold ext
          simp [hH, upd_same]
      · cases h2
    · cases h2
end
end DL

namespace DL
open PySem PySem.Spec PyProof.Rows L2
/-! ## [x, ..] * n, as a value -/
def cRep (f : Env → Option (List D)) (g : Env → Option D) : Env → Option D := fun ρ => (f ρ).bind fun ds => (g ρ).bind fun b => match b with
  | .int k => if ds.length ≤ 1000 then (if k ≤ 1000 then (if -1000 ≤ k then some (.list (List.replicate k.toNat ds).flatten) else none) else none) else none
  | _ => none
section
variable {X : Cx} {z : Z}
theorem q_rep {es : List Expr} {b : Expr} {lpos pos : Pos} {f : Env → Option (List D)} {g : Env → Option D} (h : PA X es (tPs X.K z f)) (hb : PE X b (tP X.K z g)) : PE X (.BinOp (.List es lpos) .Mult b pos) (tP X.K z (cRep f g)) := by
  refine (pe_op op_rep (pe_lst h) hb).mono fun σ H Q ⟨ρ, F, O, d, R, e, q⟩ => ?_
  obtain ⟨ds, ea, e⟩ := bind_some e
  obtain ⟨n, eb, e⟩ := bind_some e
  split at e
  · next k =>
    split at e
    · next hl =>
      split at e
      · next h1k =>
        split at e
        · next h2k =>
          cases e
          refine ⟨ρ, F, O, ds, R, ea, fun vs H1 s1 r1 => ⟨le1000 (by rw [r1.length]; exact hl), fun l hl' => ?_⟩⟩
          have sn := s1.trans (same_new (o := .lst vs) hl')
          refine ⟨ρ, _, O, _, R.grow sn, eb, fun v2 H2 s2 r2 => ?_⟩
          cases r2
          have hl2 : H2 l = some (.lst vs) := s2 _ _ upd_same
          have s12 := sn.trans s2
          have a1 : vs.length ≤ 1000 := by rw [r1.length]; exact hl
          have a2 : k.toNat ≤ 1000 := by omega
          have a3 : vs.length * k.toNat ≤ 1000 * 1000 := Nat.mul_le_mul a1 a2
          refine ⟨l, _, vs, rfl, rfl, hl2, by omega, by omega, leM (by omega), fun p hp => ?_⟩
          refine q _ _ (s12.trans (same_new hp)) ?_
          rw [← ext_ext s12 (same_new hp), ext_new (ext_sub R.sub s12) hp]
          refine .lst (.of upd_same) (DpAll.mono (same_new ((ext_sub R.sub s12).free hp)) ((DpAll.mono ?_ r1).rep _))
          have s01 := (same_new (o := .lst vs) hl').trans s2
          have := same_ext (H' := H2) (ext_sub R.sub s1)
          rw [ext_ext s1 s01] at this
          exact this
        · cases e
      · cases e
    · cases e
  · cases e
end
end DL

namespace DL
open PySem PySem.Spec PyProof.Rows L2
/-! ## a part of what an effect gives -/
def rSl (f : Env → Option (D × Env)) (l h : Env → Option (Option Int)) : Env → Option (D × Env) := fun ρ => (f ρ).bind fun p => (l p.2).bind fun lo => (h p.2).bind fun hi => (oSl p.1 lo hi).map fun d => (d, p.2)
theorem cut_all {K : PySem.W.Frag} {F : Hp} {vs : List V} {ds : List D} {li hi : Option Int} (t1 : RepL K F vs ds) (z1 : HT.sIx vs.length 0 li = 0) (z2 : HT.sIx vs.length vs.length hi = vs.length) : cutD ds li hi = ds := by
  unfold cutD
  rw [← t1.length, z1, z2, t1.length]
  simp
section
variable {X : Cx} {z : Z}
theorem r_slice {e : Expr} {lo hi : Option Expr} {pos p2 : Pos} {f : Env → Option (D × Env)} {l h : Env → Option (Option Int)} (he : PE X e (tR X.K z f)) (hl : PO X lo (tO X.K z l)) (hh : PO X hi (tO X.K z h)) : PE X (.Subscript e (.Slice lo hi none p2) pos) (tR X.K z (rSl f l h)) := by
  refine (pe_slice (r := rSlAll X.K) (SlR.or sl_list sl_tupA) he hl hh).mono fun σ H Q ⟨ρ, F, O, d, ρ', R, e, q⟩ => ?_
  obtain ⟨⟨a, ρ1⟩, ea, g1⟩ := bind_some e
  clear e
  obtain ⟨li, el, g2⟩ := bind_some g1
  clear g1
  obtain ⟨hi, eh, g3⟩ := bind_some g2
  clear g2
  obtain ⟨d2, g4, ed⟩ := map_some g3
  clear g3
  cases ed
  have e : oSl a li hi = some d := g4
  clear g4
  refine ⟨ρ, F, O, a, ρ1, R, ea, fun v1 F1 H1 R1 k1 r1 => ?_⟩
  refine ⟨ρ1, F1, O, li, R1, el, fun H2 s2 => ?_⟩
  refine ⟨ρ1, _, O, hi, R1.grow s2, eh, fun H3 s3 => ?_⟩
  have s13 := s2.trans s3
  have R3 := R1.grow s13
  have r3 : Rep X.K (ext F1 H1 H3) v1 a := r1.mono (same_ext R1.sub)
  have q3 : ∀ v H', Same H3 H' → Rep X.K (ext (ext F1 H1 H3) H3 H') v d → Q v H' := fun v H' s' r' => q v _ H' (R1.grow (s13.trans s')) (k1.trans (.of_same R1.sub (s13.trans s'))) (by
    rw [ext_ext s13 s'] at r'
    exact r')
  unfold oSl at e
  split at e
  · cases e
    cases r3 with
    | lst h1 t1 => exact .inl ⟨_, _, rfl, R3.sub.seq h1, fun p hp => doneL R3.sub q3 (cutV_rep t1 li hi) hp⟩
  · cases e
    cases r3 with
    | tup h1 t1 =>
      refine .inr ⟨_, _, rfl, sameT R3.sub (sqT_of h1), fun ⟨z1, z2⟩ => ?_, fun _ p hp => doneT R3.sub q3 (cutV_rep t1 li hi) hp⟩
      refine done R3.sub q3 ?_
      rw [cut_all t1 z1 z2]
      exact .tup h1 t1
  · cases e
  · cases e
end
end DL

namespace DL
open PySem PySem.Spec PyProof.Rows L2
/-! ## dicts -/
def keyOf : D → Option Key
  | .int i => some (.inl i)
  | .str x => some (.inr x)
  | _ => none
def keysOf : List D → Option (List Key)
  | [] => some []
  | d :: r => (keyOf d).bind fun k => (keysOf r).map fun t => k :: t
def tkeyOf : D → Option (List Key)
  | .tuple ds => keysOf ds
  | _ => none
section
variable {κ : Type} [DecidableEq κ]
def dval (ks : List (κ × D)) (k : κ) : Option D := (ks.find? fun p => decide (p.1 = k)).map fun p => p.2
def dput (ks : List (κ × D)) (k : κ) (d : D) : List (κ × D) := if ks.any (fun p => decide (p.1 = k)) then ks.map (fun p => if p.1 = k then (p.1, d) else p) else ks ++ [(k, d)]
variable {K : PySem.W.Frag} {F : Hp}
theorem dval_rep {k : κ} : ∀ {kvs : List (κ × V)} {ks : List (κ × D)}, kvs.map (·.1) = ks.map (·.1) → RepL K F (kvs.map (·.2)) (ks.map (·.2)) → (∀ d, dval ks k = some d → ∃ v, valV kvs k = some v ∧ Rep K F v d) ∧ (dval ks k = none → valV kvs k = none)
  | [], [], _, _ => ⟨fun d e => (nomatch (e : (none : Option D) = some d)), fun _ => rfl⟩
  | [], _ :: _, e, _ => by cases e
  | _ :: _, [], e, _ => by cases e
  | p :: kvs, q :: ks, e, t => by
    cases t with
    | cons r t =>
      have e1 : p.1 = q.1 := (List.cons.inj e).1
      obtain ⟨i1, i2⟩ := dval_rep (k := k) (List.cons.inj e).2 t
      by_cases c : q.1 = k
      · have a1 : dval (q :: ks) k = some q.2 := by unfold dval; rw [List.find?_cons, decide_eq_true c]; rfl
        have a2 : valV (p :: kvs) k = some p.2 := valV_pos (e1.trans c)
        rw [a1, a2]
        exact ⟨fun d e => by cases e; exact ⟨_, rfl, r⟩, fun e => by cases e⟩
      · have a1 : dval (q :: ks) k = dval ks k := by unfold dval; rw [List.find?_cons, decide_eq_false c]
        have a2 : valV (p :: kvs) k = valV kvs k := valV_neg (by rw [e1]; exact c)
        rw [a1, a2]
        exact ⟨i1, i2⟩
theorem dput_any {k : κ} : ∀ {kvs : List (κ × V)} {ks : List (κ × D)}, kvs.map (·.1) = ks.map (·.1) → (kvs.any fun p => decide (p.1 = k)) = ks.any fun p => decide (p.1 = k)
  | [], [], _ => rfl
  | [], _ :: _, e => by cases e
  | _ :: _, [], e => by cases e
  | p :: kvs, q :: ks, e => by
    have e1 : p.1 = q.1 := (List.cons.inj e).1
    rw [List.any_cons, List.any_cons, dput_any (List.cons.inj e).2, e1]
theorem dput_in {k : κ} {v : V} {d : D} (r : Rep K F v d) : ∀ {kvs : List (κ × V)} {ks : List (κ × D)}, kvs.map (·.1) = ks.map (·.1) → RepL K F (kvs.map (·.2)) (ks.map (·.2)) →
    (kvs.map fun p => if p.1 = k then (p.1, v) else p).map (·.1) = (ks.map fun p => if p.1 = k then (p.1, d) else p).map (·.1) ∧ RepL K F ((kvs.map fun p => if p.1 = k then (p.1, v) else p).map (·.2)) ((ks.map fun p => if p.1 = k then (p.1, d) else p).map (·.2))
  | [], [], _, _ => ⟨rfl, .nil⟩
  | [], _ :: _, e, _ => by cases e
  | _ :: _, [], e, _ => by cases e
  | p :: kvs, q :: ks, e, t => by
    cases t with
    | cons r' t =>
      have e1 : p.1 = q.1 := (List.cons.inj e).1
      obtain ⟨i1, i2⟩ := dput_in (k := k) r (List.cons.inj e).2 t
      simp only [List.map_cons]
      rw [i1]
      by_cases c : q.1 = k
      · rw [if_pos c, if_pos (e1.trans c)]
        exact ⟨by rw [e1], .cons r i2⟩
      · rw [if_neg c, if_neg (by rw [e1]; exact c)]
        exact ⟨by rw [e1], .cons r' i2⟩
theorem dput_rep {k : κ} {v : V} {d : D} (r : Rep K F v d) {kvs : List (κ × V)} {ks : List (κ × D)} (e : kvs.map (·.1) = ks.map (·.1)) (t : RepL K F (kvs.map (·.2)) (ks.map (·.2))) :
    (putK kvs k v).map (·.1) = (dput ks k d).map (·.1) ∧ RepL K F ((putK kvs k v).map (·.2)) ((dput ks k d).map (·.2)) := by
  unfold putK dput
  rw [dput_any e]
  by_cases c : (ks.any fun p => decide (p.1 = k)) = true
  · rw [if_pos c, if_pos c]
    exact dput_in r e t
  · rw [if_neg c, if_neg c, List.map_append, List.map_append, List.map_append, List.map_append, e]
    exact ⟨rfl, t.append (.cons r .nil)⟩
end
section
variable {K : PySem.W.Frag} {F : Hp}
theorem keyOf_rep {d : D} {k : Key} {v : V} (e : keyOf d = some k) (r : Rep K F v d) : v = kV k := by
  unfold keyOf at e
  split at e
  · cases e
    cases r
    rfl
  · cases e
    cases r
    rfl
  · cases e
theorem keysOf_rep : ∀ {ds : List D} {k : List Key} {vs : List V}, keysOf ds = some k → RepL K F vs ds → vs = k.map kV
  | [], _, _, e, .nil => by cases e; rfl
  | d :: ds, _, _, e, .cons r t => by
    obtain ⟨k, h1, e⟩ := bind_some e
    obtain ⟨ks, h2, e⟩ := map_some e
    cases e
    rw [keyOf_rep h1 r, keysOf_rep h2 t]
    rfl
theorem tkeyOf_rep {d : D} {k : List Key} {v : V} (e : tkeyOf d = some k) (r : Rep K F v d) : ∃ b, v = .ref b ∧ F b = some (.tup (k.map kV)) := by
  unfold tkeyOf at e
  split at e
  · cases r with
    | tup h t =>
      rw [keysOf_rep e t] at h
      exact ⟨_, rfl, h⟩
  · cases e
end
/-- a dict's own slot (or a locked one) is read -/
def dGet (e : Option (Option E)) (k : D) : Option (Option D) := match e with
  | some (some (.dk _ ks)) => (keyOf k).map fun k => dval ks k
  | some (some (.dt _ ks)) => (tkeyOf k).map fun k => dval ks k
  | _ => none
section
variable {X : Cx} {z : Z}
theorem LkO.rd {F H : Hp} {p : Addr} {u : HO} {l : Bool} {as : List Addr} (s : Same F H) (h : LkO z F H p u l as) : Rd H p u := by
  rcases h with ⟨_, _, _, h⟩ | ⟨_, _, o, h⟩
  · exact .of h
  · exact .inr ⟨o, s _ _ h⟩
theorem dGet_of {K : PySem.W.Frag} {ρ : Env} {σ : L2.St} {F H : Hp} {O : Nat → List Addr} {i : Nat} {k : D} {o : Option D} (R : Rel K z ρ σ F H O) (h : dGet ρ[i]? k = some o) :
    ∃ p, σ[i]? = some (some (.ref p)) ∧ ∀ (F1 H1 : Hp) (y : V), Same H H1 → Same F1 H1 → Rep K F1 y k → (∀ d, o = some d → ∃ v, DGet H1 p y (some v) ∧ Rep K F v d) ∧ (o = none → DGet H1 p y none) := by
  unfold dGet at h
  split at h
  · next hi =>
    obtain ⟨kk, h1, h⟩ := map_some h
    obtain ⟨v, hv, p, kvs, e1, e2, e3, lk⟩ := R.ent i _ hi
    subst e1
    refine ⟨p, hv, fun F1 H1 y s s1 r => ?_⟩
    have hd := rdMono s (lk.rd R.sub)
    rw [keyOf_rep h1 r]
    obtain ⟨q1, q2⟩ := dval_rep (k := kk) e2 e3
    subst h
    exact ⟨fun d e => by obtain ⟨v, a, b⟩ := q1 d e; exact ⟨v, .inl ⟨kvs, kk, hd, rfl, a.symm⟩, b⟩, fun e => .inl ⟨kvs, kk, hd, rfl, (q2 e).symm⟩⟩
  · next hi =>
    obtain ⟨kk, h1, h⟩ := map_some h
    obtain ⟨v, hv, p, kvs, e1, e2, e3, lk⟩ := R.ent i _ hi
    subst e1
    refine ⟨p, hv, fun F1 H1 y s s1 r => ?_⟩
    have hd := rdMono s (lk.rd R.sub)
    obtain ⟨b, eb, hb⟩ := tkeyOf_rep h1 r
    subst eb
    obtain ⟨q1, q2⟩ := dval_rep (k := kk) e2 e3
    subst h
    exact ⟨fun d e => by obtain ⟨v, a, c⟩ := q1 d e; exact ⟨v, .inr ⟨kvs, kk, b, hd, rfl, s1 _ _ hb, a.symm⟩, c⟩, fun e => .inr ⟨kvs, kk, b, hd, rfl, s1 _ _ hb, (q2 e).symm⟩⟩
  · cases h
/-- x[k], x a dict of one's own -/
def cDg (i : Nat) (g : Env → Option D) : Env → Option D := fun ρ => (g ρ).bind fun k => (dGet ρ[i]? k).bind fun o => o
theorem q_dg (i : Nat) {x : Str} {e : Expr} {pos p2 : Pos} {g : Env → Option D} (hu : X.A.units + 64 < cLine) (he : PE X e (tP X.K z g)) (hN : X.N[i]? = some x := by rfl) (hv : Vis X.env.scope x := by first | exact Or.inl rfl | exact Or.inr (Or.inl rfl) | exact Or.inr (Or.inr rfl)) (hd : (x == ("__debug__" : Str)) = false := by decide)
    (hcd : (x == ("__classdict__" : Str)) = false := by decide) (hs : NoSl e := by intro _ _; rfl) : PE X (.Subscript (.Name x pos) e p2) (tP X.K z (cDg i g)) :=
  (pe_dget (by omega) (pe_var hN hv hd hcd) he hs).mono fun σ H Q ⟨ρ, F, O, d, R, e, q⟩ => by
    obtain ⟨k, h1, e⟩ := bind_some e
    obtain ⟨o, h2, e⟩ := bind_some e
    obtain ⟨p, s1, h3⟩ := dGet_of R h2
    refine ⟨_, s1, ρ, F, O, k, R, h1, fun y H1 sm r => ?_⟩
    obtain ⟨v, h4, h5⟩ := (h3 _ H1 y sm (R.grow sm).sub r).1 d e
    exact ⟨p, v, rfl, h4, q v H1 sm (h5.mono (same_ext R.sub))⟩
/-- e[k], e a shared dict -/
def oDx : D → D → Option D
  | .dict ks, k => (keyOf k).bind fun k => (ks.find? fun p => decide (keyOf p.1 = some k)).map fun p => p.2
  | _, _ => none
theorem kD_key : ∀ k : Key, keyOf (kD k) = some k
  | .inl _ => rfl
  | .inr _ => rfl
theorem kD_inj : ∀ {a b : Key}, kD a = kD b → a = b
  | .inl _, .inl _, e => by cases e; rfl
  | .inr _, .inr _, e => by cases e; rfl
  | .inl _, .inr _, e => by cases e
  | .inr _, .inl _, e => by cases e
theorem oDx_at {K : PySem.W.Frag} {F : Hp} {k : Key} {d : D} : ∀ {kvs : List (Key × V)} {ks : List (D × D)}, ks.map (·.1) = kvs.map (fun p => kD p.1) → RepL K F (kvs.map (·.2)) (ks.map (·.2)) → (ks.find? fun p => decide (keyOf p.1 = some k)).map (fun p => p.2) = some d → ∃ v, valV kvs k = some v ∧ Rep K F v d
  | [], [], _, _, h => by cases h
  | [], _ :: _, e, _, _ => by cases e
  | _ :: _, [], e, _, _ => by cases e
  | p :: kvs, q :: ks, e, t, h => by
    cases t with
    | cons r t =>
      have e1 : q.1 = kD p.1 := (List.cons.inj e).1
      by_cases c : p.1 = k
      · rw [List.find?_cons, decide_eq_true (show keyOf q.1 = some k by rw [e1, c, kD_key])] at h
        cases h
        exact ⟨_, valV_pos c, r⟩
      · rw [List.find?_cons, decide_eq_false (show ¬ keyOf q.1 = some k by rw [e1, kD_key]; exact fun z => c (Option.some.inj z))] at h
        rw [valV_neg c]
        exact oDx_at (List.cons.inj e).2 t h
theorem q_dx {a b : Expr} {pos : Pos} {f g : Env → Option D} (hu : X.A.units + 64 < cLine) (ha : PE X a (tP X.K z f)) (hb : PE X b (tP X.K z g)) (hs : NoSl b := by intro _ _; rfl) : PE X (.Subscript a b pos) (tP X.K z (c2 oDx f g)) :=
  (pe_dget (by omega) ha hb hs).mono fun σ H Q ⟨ρ, F, O, d, R, e, q⟩ => by
    obtain ⟨a, h1, e⟩ := bind_some e
    obtain ⟨b, h2, e⟩ := bind_some e
    refine ⟨ρ, F, O, a, R, h1, fun x H1 s1 r1 => ⟨ρ, _, O, b, R.grow s1, h2, fun y H2 s2 r2 => ?_⟩⟩
    have R1 := R.grow s1
    have R2 := R1.grow s2
    unfold oDx at e
    split at e
    · obtain ⟨k, h3, h4⟩ := bind_some e
      rw [ext_ext s1 s2] at r2
      cases r1 with
      | dic hd ek t =>
        obtain ⟨v, h5, h6⟩ := oDx_at ek t h4
        rw [keyOf_rep h3 r2]
        refine ⟨_, v, rfl, .inl ⟨_, k, rdMono R1.sub hd |> rdMono s2, rfl, h5.symm⟩, q v H2 (s1.trans s2) ?_⟩
        rw [← ext_ext s1 s2]
        exact h6.mono (same_ext R1.sub)
    · cases e
/-! ### new dicts -/
def wDk : Env → Option (E × Env) := fun ρ => some (.dk false [], ρ)
def wDt : Env → Option (E × Env) := fun ρ => some (.dt false [], ρ)
theorem w_dk {pos : Pos} : PE X (.Dict [] [] pos) (tW X.K z wDk) :=
  pe_dnewK.mono fun σ H Q ⟨ρ, F, O, en, ρ', R, e, q⟩ => fun p hp => by
    cases e
    exact q _ F _ [p] (R.newW hp) (newW_kp R.sub hp) ⟨p, [], rfl, rfl, .nil, .inl ⟨rfl, rfl, H0_of R hp, upd_same⟩⟩ fun a ha => by
      rcases List.mem_cons.mp ha with e | e
      · subst e
        exact ⟨hp, R.sub.free hp, by rw [upd_same]; exact fun z => nomatch z⟩
      · cases e
theorem w_dt {pos : Pos} : PE X (.Dict [] [] pos) (tW X.K z wDt) :=
  pe_dnewT.mono fun σ H Q ⟨ρ, F, O, en, ρ', R, e, q⟩ => fun p hp => by
    cases e
    exact q _ F _ [p] (R.newW hp) (newW_kp R.sub hp) ⟨p, [], rfl, rfl, .nil, .inl ⟨rfl, rfl, H0_of R hp, upd_same⟩⟩ fun a ha => by
      rcases List.mem_cons.mp ha with e | e
      · subst e
        exact ⟨hp, R.sub.free hp, by rw [upd_same]; exact fun z => nomatch z⟩
      · cases e
end
end DL

namespace DL
open PySem PySem.Spec PyProof.Rows L2
section
variable {X : Cx} {z : Z}
/-! ### x[k] = v -/
def isDic : Option (Option E) → Bool
  | some (some (.dk false _)) => true
  | some (some (.dt false _)) => true
  | _ => false
def dPut (i : Nat) (k d : D) (ρ : Env) : Option Env := match ρ[i]? with
  | some (some (.dk false ks)) => (keyOf k).bind fun k => if ks.length ≤ 1000 then some (ρ.set i (some (.dk false (dput ks k d)))) else none
  | some (some (.dt false ks)) => (tkeyOf k).bind fun k => if ks.length ≤ 1000 then some (ρ.set i (some (.dt false (dput ks k d)))) else none
  | _ => none
theorem isDic_of {K : PySem.W.Frag} {ρ : Env} {σ : L2.St} {F H : Hp} {O : Nat → List Addr} {i : Nat} (R : Rel K z ρ σ F H O) (h : isDic ρ[i]? = true) : ∃ p, σ[i]? = some (some (.ref p)) := by
  unfold isDic at h
  split at h
  · next hi =>
    obtain ⟨v, hv, p, kvs, e1, _⟩ := R.ent i _ hi
    exact ⟨p, by rw [hv, e1]⟩
  · next hi =>
    obtain ⟨v, hv, p, kvs, e1, _⟩ := R.ent i _ hi
    exact ⟨p, by rw [hv, e1]⟩
  · cases h
theorem dPut_of {K : PySem.W.Frag} {ρ ρ' : Env} {σ : L2.St} {F H : Hp} {O : Nat → List Addr} {i : Nat} {k d : D} {y v : V} {p : Addr} (R : Rel K z ρ σ F H O) (hp : σ[i]? = some (some (.ref p))) (h : dPut i k d ρ = some ρ') (rk : Rep K F y k) (rv : Rep K F v d) :
    ∃ H', DPut H p y v H' ∧ Rel K z ρ' σ F H' O ∧ ∃ o, H' = upd H p o ∧ p ∈ O i := by
  unfold dPut at h
  split at h
  · next hi =>
    obtain ⟨kk, h1, h⟩ := bind_some h
    split at h
    · next hl =>
      cases h
      obtain ⟨v', hv, p', kvs, e1, e2, e3, lk⟩ := R.ent i _ hi
      subst e1
      rw [hp] at hv
      cases hv
      rcases lk with ⟨_, l1, l2, l3⟩ | ⟨l1, _⟩
      · have hl2 : kvs.length < sizeLine := by
          have := congrArg List.length e2
          rw [List.length_map, List.length_map] at this
          have := small1000 hl
          omega
        obtain ⟨q1, q2⟩ := dput_rep (k := kk) rv e2 e3
        rw [keyOf_rep h1 rk]
        have hm : p ∈ O i := by rw [l1]; exact List.mem_cons_self
        exact ⟨_, .inl ⟨kvs, kk, l3, rfl, hl2, rfl⟩, R.mut hm (.inl l2) hp ⟨p, _, rfl, q1, q2, .inl ⟨rfl, l1, l2, upd_same⟩⟩, _, rfl, hm⟩
      · cases l1
    · cases h
  · next hi =>
    obtain ⟨kk, h1, h⟩ := bind_some h
    split at h
    · next hl =>
      cases h
      obtain ⟨v', hv, p', kvs, e1, e2, e3, lk⟩ := R.ent i _ hi
      subst e1
      rw [hp] at hv
      cases hv
      rcases lk with ⟨_, l1, l2, l3⟩ | ⟨l1, _⟩
      · have hl2 : kvs.length < sizeLine := by
          have := congrArg List.length e2
          rw [List.length_map, List.length_map] at this
          have := small1000 hl
          omega
        obtain ⟨q1, q2⟩ := dput_rep (k := kk) rv e2 e3
        obtain ⟨b, eb, hb⟩ := tkeyOf_rep h1 rk
        subst eb
        have hm : p ∈ O i := by rw [l1]; exact List.mem_cons_self
        exact ⟨_, .inr ⟨kvs, kk, b, l3, rfl, R.sub _ _ hb, hl2, rfl⟩, R.mut hm (.inl l2) hp ⟨p, _, rfl, q1, q2, .inl ⟨rfl, l1, l2, upd_same⟩⟩, _, rfl, hm⟩
      · cases l1
    · cases h
  · cases h
def gSetD (i : Nat) (f g : Env → Option (D × Env)) : Gs := fun ρ => (f ρ).bind fun p => if isDic p.2[i]? then (g p.2).bind fun q => (dPut i q.1 p.1 q.2).map fun ρ' => (.nx, ρ') else none
theorem s_setD (i : Nat) {x : Str} {e b : Expr} {f g : Env → Option (D × Env)} {p1 p2 pos : Pos} (hu : X.A.units + 64 < cLine) (he : PE X e (tR X.K z f)) (hb : PE X b (tR X.K z g)) (hN : X.N[i]? = some x := by rfl) (hv : Vis X.env.scope x := by first | exact Or.inl rfl | exact Or.inr (Or.inl rfl) | exact Or.inr (Or.inr rfl)) (hd : (x == ("__debug__" : Str)) = false := by decide)
    (hcd : (x == ("__classdict__" : Str)) = false := by decide)
    (ha : ∀ v, assign (.Subscript (.Name x p1) b p2) X.env v = (do
      let ov ← holding [v] (eval (.Name x p1) X.env)
      let iv ← holding [v, ov] (eval b X.env)
      standAt p2
      holding [v, ov, iv] (setItem ov iv v)
      release [v, ov, iv] []) := by intro _; rfl)
    (hs : swapsWithSole [.Subscript (.Name x p1) b p2] e pos.line X.env = pure false := by rfl) (hw : swappedStores [.Subscript (.Name x p1) b p2] e X.env = pure none := by rfl)
    (h1 : (assignEach [.Subscript (.Name x p1) b p2] X.env).map (·.2) = [assign (.Subscript (.Name x p1) b p2) X.env] := by rfl) :
    PS X (.Assign [.Subscript (.Name x p1) b p2] e pos) (tS X.K z (gSetD i f g)) :=
  (ps_asg he (pg_sub (pe_var hN hv hd hcd) hb (set_dict (by omega)) ha) hs hw h1).mono fun D σ H ⟨ρ, F, O, fl, ρ', R, e, q⟩ => by
    obtain ⟨⟨d, ρ1⟩, h1, e⟩ := bind_some e
    dsimp only at e
    split at e
    · next h0 =>
      obtain ⟨⟨k, ρ2⟩, h2, e⟩ := bind_some e
      obtain ⟨ρ3, h3, e⟩ := map_some e
      cases e
      refine ⟨ρ, F, O, d, ρ1, R, h1, fun v F1 H1 R1 k1 r1 => ?_⟩
      obtain ⟨p, s1⟩ := isDic_of R1 h0
      refine ⟨_, s1, ρ1, F1, O, _, ρ2, R1, h2, fun w F2 H2 R2 k2 r2 => ?_⟩
      obtain ⟨H', d1, R3, _⟩ := dPut_of R2 s1 h3 r2 (r1.mono k2.same)
      exact ⟨p, H', rfl, d1, q σ F2 H' O R3 (k1.same.trans k2.same)⟩
    · cases e
end
end DL

namespace DL
open PySem PySem.Spec PyProof.Rows L2
section
variable {X : Cx} {z : Z}
/-! ### {k: v} -/
def wDisp (g f : Env → Option D) : Env → Option (E × Env) := fun ρ => (g ρ).bind fun k => (f ρ).bind fun d => (keyOf k).map fun k => (.dk false [(k, d)], ρ)
theorem disp_in {K : PySem.W.Frag} {ρ : Env} {σ : L2.St} {F H : Hp} {O : Nat → List Addr} {Q : VK} {k d : D} {kk : Key} {f g : Env → Option D} (R : Rel K z ρ σ F H O) (h1 : g ρ = some k) (h2 : f ρ = some d) (h3 : keyOf k = some kk)
    (q : ∀ p v H2, H p = none → Same (upd H p (.dK [])) H2 → Rep K (ext F (upd H p (.dK [])) H2) v d → Rel K z ρ σ (ext F (upd H p (.dK [])) H2) H2 O → Q (.ref p) (upd H2 p (.dK [(kk, v)]))) : tDisp [(tP K z g, tP K z f)] σ H Q := fun p hp => by
  have R0 : Rel K z ρ σ F (upd H p (.dK [])) O := R.newW hp
  refine ⟨ρ, F, O, k, R0, h1, fun x H1 s1 r1 => ⟨ρ, _, O, d, R0.grow s1, h2, fun y H2 s2 r2 => ?_⟩⟩
  have s := s1.trans s2
  rw [ext_ext s1 s2] at r2
  refine ⟨s _ _ upd_same, [(kk, y)], by rw [keyOf_rep h3 r1]; rfl, Nat.le_of_ble_eq_true rfl, ?_⟩
  exact q p y H2 hp s r2 (R0.grow s)
theorem w_disp {a b : Expr} {pos : Pos} {f g : Env → Option D} (hk : PE X a (tP X.K z g)) (hv : PE X b (tP X.K z f)) : PE X (.Dict [some a] [b] pos) (tW X.K z (wDisp g f)) :=
  (pe_disp (pps_cons hk hv pps_nil) rfl rfl (by simp) (Nat.le_of_ble_eq_true rfl)).mono fun σ H Q ⟨ρ, F, O, en, ρ', R, e, q⟩ => by
    obtain ⟨k, h1, e⟩ := bind_some e
    obtain ⟨d, h2, e⟩ := bind_some e
    obtain ⟨kk, h3, e⟩ := map_some e
    cases e
    refine disp_in R h1 h2 h3 fun p v H2 hp s r R2 => ?_
    have fp : (ext F (upd H p (.dK [])) H2) p = none := by
      unfold ext
      rw [upd_same]
      exact R.sub.free hp
    have op : ∀ i, p ∉ O i := fun i hi => (R.off i p hi).2 hp
    have R3 : Rel X.K z ρ σ (ext F (upd H p (.dK [])) H2) (upd H2 p (.dK [(kk, v)])) O := R2.other fp op (H0_of R hp)
    refine q _ _ _ [p] R3 ?_ ⟨p, [(kk, v)], rfl, rfl, .cons r .nil, .inl ⟨rfl, rfl, H0_of R hp, upd_same⟩⟩ fun a ha => by
      rcases List.mem_cons.mp ha with e | e
      · subst e
        exact ⟨hp, fp, by rw [upd_same]; exact fun z => nomatch z⟩
      · cases e
    have k1 : Kp F H (ext F (upd H p (.dK [])) H2) H2 O := (newW_kp R.sub hp).trans (.of_same (R.newW hp).sub s)
    exact ⟨k1.same, fun a o h n => by
      rw [upd_ne (ne_of_none h hp)]
      exact k1.keep a o h n, k1.out, fun a h => by
      by_cases e : a = p
      · rw [e, upd_same]
        exact fun z => nomatch z
      · rw [upd_ne e]
        exact k1.dom a h⟩
def cDisp (g f : Env → Option D) : Env → Option D := fun ρ => (g ρ).bind fun k => (f ρ).bind fun d => (keyOf k).map fun k => .dict [(kD k, d)]
theorem q_disp {a b : Expr} {pos : Pos} {f g : Env → Option D} (hk : PE X a (tP X.K z g)) (hv : PE X b (tP X.K z f)) : PE X (.Dict [some a] [b] pos) (tP X.K z (cDisp g f)) :=
  (pe_disp (pps_cons hk hv pps_nil) rfl rfl (by simp) (Nat.le_of_ble_eq_true rfl)).mono fun σ H Q ⟨ρ, F, O, en, R, e, q⟩ => by
    obtain ⟨k, h1, e⟩ := bind_some e
    obtain ⟨d, h2, e⟩ := bind_some e
    obtain ⟨kk, h3, e⟩ := map_some e
    cases e
    refine disp_in R h1 h2 h3 fun p v H2 hp s r R2 => ?_
    have e : ext F H (upd H2 p (.dK [(kk, v)])) = upd (ext F (upd H p (.dK [])) H2) p (.dK [(kk, v)]) := by
      funext a
      unfold ext
      by_cases c : a = p
      · subst c
        rw [upd_same, upd_same, hp]
        rfl
      · rw [upd_ne c, upd_ne c, upd_ne c]
    have fp : (ext F (upd H p (.dK [])) H2) p = none := by
      unfold ext
      rw [upd_same]
      exact R.sub.free hp
    refine q _ _ (fun a o h => ?_) (by rw [e]; exact .dic (kvs := [(kk, v)]) (.of upd_same) rfl (.cons (r.mono (same_new fp)) .nil))
    have ne := ne_of_none h hp
    rw [upd_ne ne]
    exact s _ _ (by rw [upd_ne ne]; exact h)
end
end DL

namespace DL
open PySem PySem.Spec PyProof.Rows L2
/-! ### a dict is locked while an expression walks it -/
def DicU (u : HO) : Prop := (∃ kvs, u = .dK kvs) ∨ ∃ kvs, u = .dT kvs
section
variable {K : PySem.W.Frag} {G G' : Hp} {p : Addr} {o : Obj} {u : HO}
theorem sqL_out (hu : DicU u) (hp : G p = some (.frz o u)) (he : ∀ a, a ≠ p → G' a = G a) {a : Addr} {xs : List V} (h : SqL K G a xs) : SqL K G' a xs := by
  rcases h with (h | ⟨o', h⟩) | h
  · have ne : a ≠ p := fun e => by
      rw [e, hp] at h
      cases h
    exact .inl (.inl ((he a ne).trans h))
  · have ne : a ≠ p := fun e => by
      rw [e, hp] at h
      cases h
      rcases hu with ⟨_, q⟩ | ⟨_, q⟩ <;> cases q
    exact .inl (.inr ⟨o', (he a ne).trans h⟩)
  · exact .inr h
mutual
theorem Dp.out (hu : DicU u) (hp : G p = some (.frz o u)) (he : ∀ a, a ≠ p → G' a = G a) : ∀ {v : V} {d : D}, noDic d = true → Dp K G v d → Dp K G' v d
  | _, _, _, .non => .non
  | _, _, _, .bl b => .bl b
  | _, _, _, .int i => .int i
  | _, _, _, .str s => .str s
  | _, _, e, .dic _ _ _ => by unfold noDic at e; cases e
  | _, _, e, .lst h t => .lst (sqL_out hu hp he h) (DpAll.out hu hp he (by unfold noDic at e; exact e) t)
  | _, _, e, .tup h t => .tup ((he _ fun q => by rw [q, hp] at h; cases h).trans h) (DpAll.out hu hp he (by unfold noDic at e; exact e) t)
theorem DpAll.out (hu : DicU u) (hp : G p = some (.frz o u)) (he : ∀ a, a ≠ p → G' a = G a) : ∀ {vs : List V} {ds : List D}, noDics ds = true → DpAll K G vs ds → DpAll K G' vs ds
  | _, _, _, .nil => .nil
  | _, _, e, .cons h t => by
    unfold noDics at e
    rw [Bool.and_eq_true] at e
    exact .cons (Dp.out hu hp he e.1 h) (DpAll.out hu hp he e.2 t)
end
end
section
variable {X : Cx} {z : Z}
theorem Rel.lock {K : PySem.W.Frag} {ρ : Env} {σ : L2.St} {F H : Hp} {O : Nat → List Addr} {i : Nat} {e' : E} {p : Addr} {o : HO} (R : Rel K z ρ σ F H O) (hv : σ[i]? = some (some (.ref p))) (hO : O i = [p]) (h0 : z.H0 p = none) (hE : Ent K z (upd F p o) (upd H p o) (.ref p) e' []) :
    Rel K z (ρ.set i (some e')) σ (upd F p o) (upd H p o) (setO O i []) := by
  have hm : p ∈ O i := by rw [hO]; exact List.mem_cons_self
  have hF := (R.off i p hm).1
  have hH := (R.off i p hm).2
  have ne : ∀ {j a}, j ≠ i → a ∈ O j → a ≠ p := fun hj ha q => hj (R.apt _ i _ ha (by rw [q]; exact hm))
  refine ⟨by rw [List.length_set, R.len], ?_, ?_, ?_, ?_, ?_, ?_, ?_, R.f0.trans (same_new hF), fun a vs e => by
    by_cases c : a = p
    · rw [c] at e ⊢
      rw [upd_same] at e ⊢
      exact e
    · rw [upd_ne c] at e ⊢
      exact R.tup a vs e⟩
  · intro a x e
    by_cases c : a = p
    · rw [c, upd_same] at e ⊢
      exact e
    · rw [upd_ne c] at e ⊢
      exact R.sub a x e
  · intro j x hj
    unfold setO
    by_cases c : j = i
    · subst c
      have hl : j < ρ.length := by
        have := (List.getElem?_eq_some_iff.mp hj).1
        rw [List.length_set] at this
        exact this
      rw [List.getElem?_set_self hl] at hj
      cases hj
      rw [if_pos rfl]
      exact ⟨_, hv, hE⟩
    · rw [List.getElem?_set_ne (Ne.symm c)] at hj
      rw [if_neg c]
      obtain ⟨w, h1, h2⟩ := R.ent j x hj
      exact ⟨w, h1, h2.mono (same_new hF) fun a ha => upd_ne (ne c ha)⟩
  · intro j a ha
    unfold setO at ha
    split at ha
    · cases ha
    · next c =>
      rw [upd_ne (ne c ha), upd_ne (ne c ha)]
      exact R.off j a ha
  · intro j k a hj hk
    unfold setO at hj hk
    split at hj
    · cases hj
    · split at hk
      · cases hk
      · exact R.apt j k a hj hk
  · intro a h1 h2
    by_cases c : a = p
    · rw [c] at h1
      exact absurd h0 h1
    · rw [upd_ne c]
      exact R.old a h1 h2
  · intro a h
    by_cases c : a = p
    · rw [c, upd_same]
      exact fun z => nomatch z
    · rw [upd_ne c]
      exact R.oldH a h
  · intro a x h nb
    by_cases c : a = p
    · rw [c, h0] at h
      cases h
    · rw [upd_ne c]
      exact R.keep a x h nb
def lkE : Option (Option E) → Option E
  | some (some (.dk false ks)) => some (.dk true ks)
  | some (some (.dt false ks)) => some (.dt true ks)
  | _ => none
def cLkD (i : Nat) (f : Env → Option D) : Env → Option D := fun ρ => (lkE ρ[i]?).bind fun e => (f (ρ.set i (some e))).bind fun d => if noDic d then some d else none
theorem lkE_of {K : PySem.W.Frag} {ρ : Env} {σ : L2.St} {F H : Hp} {O : Nat → List Addr} {i : Nat} {e' : E} (R : Rel K z ρ σ F H O) (h : lkE ρ[i]? = some e') :
    ∃ p u, σ[i]? = some (some (.ref p)) ∧ O i = [p] ∧ z.H0 p = none ∧ H p = some u ∧ F p = none ∧ DicU u ∧ ∀ od, Rel K z (ρ.set i (some e')) σ (upd F p (.frz od u)) (upd H p (.frz od u)) (setO O i []) := by
  unfold lkE at h
  split at h
  · next hi =>
    cases h
    obtain ⟨v, hv, p, kvs, e1, e2, e3, lk⟩ := R.ent i _ hi
    subst e1
    rcases lk with ⟨_, l1, l2, l3⟩ | ⟨l1, _⟩
    · have hF := (R.off i p (by rw [l1]; exact List.mem_cons_self)).1
      exact ⟨p, _, hv, l1, l2, l3, hF, .inl ⟨_, rfl⟩, fun od => R.lock hv l1 l2 ⟨p, kvs, rfl, e2, e3.mono (same_new hF), .inr ⟨rfl, rfl, od, upd_same⟩⟩⟩
    · cases l1
  · next hi =>
    cases h
    obtain ⟨v, hv, p, kvs, e1, e2, e3, lk⟩ := R.ent i _ hi
    subst e1
    rcases lk with ⟨_, l1, l2, l3⟩ | ⟨l1, _⟩
    · have hF := (R.off i p (by rw [l1]; exact List.mem_cons_self)).1
      exact ⟨p, _, hv, l1, l2, l3, hF, .inr ⟨_, rfl⟩, fun od => R.lock hv l1 l2 ⟨p, kvs, rfl, e2, e3.mono (same_new hF), .inr ⟨rfl, rfl, od, upd_same⟩⟩⟩
    · cases l1
  · cases h
theorem DicU.mut {u : HO} (h : DicU u) : Mut (some u) := by
  rcases h with ⟨_, h⟩ | ⟨_, h⟩ <;> (subst h; exact True.intro)
theorem q_lkD (i : Nat) {e : Expr} {f : Env → Option D} (h : PE X e (tP X.K z f)) : PE X e (tP X.K z (cLkD i f)) :=
  (pe_lock h).mono fun σ H Q ⟨ρ, F, O, d, R, e, q⟩ => by
    obtain ⟨e', h1, e⟩ := bind_some e
    obtain ⟨d', h2, e⟩ := bind_some e
    split at e
    · next hd =>
      cases e
      obtain ⟨p, u, s1, s2, s3, s4, s5, hu, R2⟩ := lkE_of R h1
      refine ⟨p, u, s4, hu.mut, fun od => ⟨_, _, _, _, R2 od, h2, fun v H' s r => ⟨s _ _ upd_same, ?_⟩⟩⟩
      refine q v _ (fun a x ha => ?_) (Dp.out (p := p) (o := od) hu ?_ (fun a c => ?_) hd r)
      · by_cases c : a = p
        · rw [c, upd_same]
          rw [c, s4] at ha
          exact ha
        · rw [upd_ne c]
          exact s a x (by rw [upd_ne c]; exact ha)
      · unfold ext
        rw [upd_same, upd_same]
        rfl
      · unfold ext
        rw [upd_ne c, upd_ne c, upd_ne c]
    · cases e
/-! ### walks over the keys of a locked dict -/
def iD (i : Nat) : Env → Option (List D) := fun ρ => match ρ[i]? with
  | some (some (.dk true ks)) => some (ks.map fun p => kD p.1)
  | _ => none
theorem rep_key {K : PySem.W.Frag} {F : Hp} (k : Key) : Rep K F (kV k) (kD k) := by
  cases k with
  | inl i => exact .int i
  | inr x => exact .str x
theorem yld_keys0 {K : PySem.W.Frag} {F : Hp} {d : Addr} {o : Obj} {kvs : List (Key × V)} {ks : List (Key × D)} (hf : F d = some (.frz o (.dK kvs))) (e : kvs.map (·.1) = ks.map (·.1)) : Yld0 K (Itk d o kvs) F (ks.map fun p => kD p.1) := by
  have el : kvs.length = ks.length := by
    have := congrArg List.length e
    rwa [List.length_map, List.length_map] at this
  refine ⟨fun i H s hi => ⟨s _ _ hf, ?_⟩, fun i H x H' dd s hy hd => ?_, fun i H s hi => ⟨s _ _ hf, ?_⟩⟩
  · rw [List.length_map] at hi
    omega
  · obtain ⟨e1, k, v, e2, e3⟩ := hy
    subst e1 e3
    refine ⟨Same.refl _, ?_⟩
    have e4 : (kvs.map (·.1))[i]? = some k := by rw [List.getElem?_map, e2]; rfl
    have e5 : ks.map (fun p => kD p.1) = (kvs.map (·.1)).map kD := by rw [e, List.map_map]; rfl
    rw [e5, List.getElem?_map, e4] at hd
    cases hd
    exact rep_key k
  · rw [List.length_map] at hi
    omega
theorem yld_keys {K : PySem.W.Frag} {F : Hp} {d : Addr} {o : Obj} {kvs : List (Key × V)} {ks : List (Key × D)} (hf : F d = some (.frz o (.dK kvs))) (e : kvs.map (·.1) = ks.map (·.1)) : Yld K (Itk d o kvs) F (ks.map fun p => kD p.1) := (yld_keys0 hf e).of
theorem iD_of {K : PySem.W.Frag} {ρ : Env} {σ : L2.St} {F H : Hp} {O : Nat → List Addr} {i : Nat} {ds : List D} (R : Rel K z ρ σ F H O) (h : iD i ρ = some ds) : ∃ p o kvs, σ[i]? = some (some (.ref p)) ∧ F p = some (.frz o (.dK kvs)) ∧ Yld K (Itk p o kvs) F ds := by
  unfold iD at h
  split at h
  · next hi =>
    cases h
    obtain ⟨v, hv, p, kvs, e1, e2, e3, lk⟩ := R.ent i _ hi
    subst e1
    rcases lk with ⟨l1, _⟩ | ⟨_, _, o, l2⟩
    · cases l1
    · exact ⟨p, o, kvs, hv, l2, yld_keys l2 e2⟩
  · cases h
theorem i_dk (i : Nat) {tg : Expr} {x : Str} {pos : Pos} (hN : X.N[i]? = some x := by rfl) (hv : Vis X.env.scope x := by first | exact Or.inl rfl | exact Or.inr (Or.inl rfl) | exact Or.inr (Or.inr rfl)) (hd : (x == ("__debug__" : Str)) = false := by decide)
    (hcd : (x == ("__classdict__" : Str)) = false := by decide) : PI X tg (.Name x pos) (tIP X.K z (iD i)) := by
  refine ⟨fun pins s σ H Rr I ⟨ρ, F, O, ds, R, e, q⟩ => ?_⟩
  obtain ⟨p, o, kvs, s1, s2, s3⟩ := iD_of R e
  exact (pi_keys (pe_var hN hv hd hcd)).run pins s σ H Rr I ⟨_, s1, p, o, rfl, .inl ⟨kvs, R.sub _ _ s2, q _ H (Same.refl _) (by rw [ext_self R.sub]; exact s3)⟩⟩
theorem i_dkM (i : Nat) {tg : Expr} {x : Str} {pos apos cpos : Pos} (hN : X.N[i]? = some x := by rfl) (hv : Vis X.env.scope x := by first | exact Or.inl rfl | exact Or.inr (Or.inl rfl) | exact Or.inr (Or.inr rfl)) (hd : (x == ("__debug__" : Str)) = false := by decide)
    (hcd : (x == ("__classdict__" : Str)) = false := by decide) (hb : attributeBase (.Name x pos) "keys" X.env (eval (.Name x pos) X.env) = eval (.Name x pos) X.env := by rfl) (hl : (apos.endLine == cpos.line) = true := by rfl) : PI X tg (.Call (.Attribute (.Name x pos) "keys" apos) [] [] cpos) (tIP X.K z (iD i)) := by
  refine ⟨fun pins s σ H Rr I ⟨ρ, F, O, ds, R, e, q⟩ => ?_⟩
  obtain ⟨p, o, kvs, s1, s2, s3⟩ := iD_of R e
  exact (pi_keysM (pe_var hN hv hd hcd) hb hl).run pins s σ H Rr I ⟨_, s1, p, o, kvs, rfl, R.sub _ _ s2, q _ H (Same.refl _) (by rw [ext_self R.sub]; exact s3)⟩
end
end DL

namespace DL
open PySem PySem.Spec PyProof.Rows L2
/-! ### sorted(d.keys()) -/
section
variable {prog : Program} {w : World} {A : Around} {E : Value → Shared → Prop} {s : Shared}
def IntIs (v : Value) (d : PyData) : Prop := ∃ b t, d = .int b ∧ v = .int b t
theorem each_at {R : Value → PyData → Prop} : ∀ {vs : List Value} {ds : List PyData}, vs.length = ds.length → (∀ (i : Nat) (v : Value), vs[i]? = some v → ∃ d, ds[i]? = some d ∧ R v d) → PySem.W.EachIs R vs ds
  | [], [], _, _ => .nil
  | [], _ :: _, e, _ => by cases e
  | _ :: _, [], e, _ => by cases e
  | v :: vs, d :: ds, e, h => by
    obtain ⟨d', e1, r⟩ := h 0 v rfl
    cases e1
    exact .cons r (each_at (Nat.succ.inj e) fun i u hu => h (i + 1) u hu)
theorem gatherKv {T : String} {r d : Addr} {n : Nat} {P : Nat → Value → Prop} {OK : Heap → Prop} {R : List Value → Shared → Prop} (K : PySem.W.KdlSrc prog w T r d n P OK) (nh : A.handled = none) (ok : OK s.heap) (small : n ≤ sizeLine)
    (post : ∀ (g : Heap) (tk : Nat) (ys : Array Value), (∀ b o, s.heap.get? b = some o → g.get? b = some o) → s.heap.objs.size ≤ g.objs.size → ItemsOf P ys n → R ys.toList { s with heap := g, toks := tk }) : wpAny (model prog w) A (collect (.ref r)) R E s := by
  have th := K.there _ ok
  obtain ⟨S, hS⟩ : ∃ S, S = s.heap.objs.size := ⟨_, rfl⟩
  unfold collect
  refine wpAny_bind (wpAny_runValue (codeAny_builtin entry_proto_collect' ?_))
  rw [Around.under_plainId PySem.F.plain_proto_collect _]
  change wpAny _ A.in1 (newList [] >>= fun x => again (.builtin "list.__iadd__" ⟨[x, .ref r], []⟩)) _ _ s
  refine wpAny_bind (wpAny_newObj_type (wpAny_pure ⟨plainId_quiet PySem.F.plain_list_iadd _, codeAny_builtin entry_list_iadd' ?_⟩))
  rw [Around.under_plainId PySem.F.plain_list_iadd _, ← hS]
  have at1 : (s.heap.push { cls := .type "list", data := .seq ([] : List Value).toArray }).get? S = some { cls := .type "list", data := .seq #[] } := by rw [hS]; exact Heap.get?_push_size _ rfl
  change wpAny _ A.in1 (Builtin.List.listExtendWith (.ref S) (.ref r) (.ref S)) _ _ _
  have ext := PySem.W.kdl_extend (A := A) (s := { s with heap := s.heap.push { cls := .type "list", data := .seq ([] : List Value).toArray } })
    (R := fun (f : Result) (s' : Shared) => ∃ (g : Heap) (tk : Nat) (ys : Array Value) (c : Nat), f = .ok (.ret (.ref S)) ∧ s' = { s with heap := g, toks := tk } ∧
      (∀ b o, s.heap.get? b = some o → g.get? b = some o) ∧ g.get? S = some { cls := .type "list", dict := none, data := .seq ys c, slots := #[] } ∧ ItemsOf P ys n)
    K nh (K.keep _ _ ok fun b _ o e => Heap.get?_push_of_some _ e) S (by rw [hS]; exact Nat.ne_of_gt th.1) (by rw [hS]; exact Nat.ne_of_gt th.2) (.ref S) 0 at1
    (fun g tk ys c k1 k2 k3 => ⟨g, tk, ys, c, rfl, rfl, fun b o e => k1 b o (by rw [hS]; exact Nat.ne_of_lt (Heap.lt_size e)) (Heap.get?_push_of_some _ e), k2, k3⟩) small
  have fin : ∀ (g : Heap) (tk : Nat) (ys : Array Value) (c : Nat), (∀ b o, s.heap.get? b = some o → g.get? b = some o) → g.get? S = some { cls := .type "list", dict := none, data := .seq ys c, slots := #[] } → ItemsOf P ys n → R ys.toList { s with heap := g, toks := tk } := fun g tk ys c k1 k2 k3 => post g tk ys k1 (by rw [← hS]; exact Nat.le_of_lt (Heap.lt_size k2)) k3
  refine wpAny_mono ext (fun x s' y => ?_) fun x s' y => ?_
  · cases x with
    | done f =>
      obtain ⟨g, tk, ys, c, e, rfl, k1, k2, k3⟩ := y
      cases e
      change wpAny _ A (load S >>= _) _ _ _
      exact wpAny_bind (wpAny_load k2 (wpAny_pure (fin g tk ys c k1 k2 k3)))
    | again f =>
      refine ⟨y.1, codeAny_mono y.2 fun x s2 y => ?_⟩
      obtain ⟨g, tk, ys, c, rfl, rfl, k1, k2, k3⟩ := y
      change wpAny _ A (load S >>= _) _ _ _
      exact wpAny_bind (wpAny_load k2 (wpAny_pure (fin g tk ys c k1 k2 k3)))
  · obtain ⟨_, _, _, _, e, _⟩ := y
    cases e
theorem sortKv {T : String} {r d : Addr} {n : Nat} {P : Nat → Value → Prop} {OK : Heap → Prop} {Q : Value → Shared → Prop} (K : PySem.W.KdlSrc prog w T r d n P OK) (hh : A.handled = none) (hok : OK s.heap) (hn : n ≤ sizeLine) (ds : List PyData) (hl : ds.length = n)
    (hP : ∀ i v, P i v → ∃ d, ds[i]? = some d ∧ IntIs v d) (hal : PySem.W.AllAlike ds) (hs : PySem.W.Sortable ds) (hu : ∀ b, b ∈ ds → A.units + 2 + b.depth < cLine)
    (q : ∀ (h' : Heap) (tk : Nat) (D : Addr) (out : List Value) (e : Nat), (∀ b o, s.heap.get? b = some o → h'.get? b = some o) → s.heap.objs.size ≤ D → h'.get? D = some (seqObj "list" out.toArray e) → out.length = n → PySem.W.EachIs IntIs out (ds.mergeSort (PySem.W.dataLe false fun d => d)) → Q (.ref D) { s with heap := h', toks := tk }) :
    wpAny (model prog w) A (call (.builtin "sorted") [.ref r]) Q E s := by
  refine PySem.Calls.call_function_entry kind_sorted plain_sorted entry_sorted (args_sorted1 _) ?_
  unfold Builtin.«sorted»
  refine wpAny_bind (m := checkCount "sorted" 1 1 _) (wpAny_pure (wpAny_bind (gatherKv (A := A.in1) K hh hok hn fun h' tk acc hk le hacc => ?_)))
  have hlen : acc.toList.length = n := by rw [Array.length_toList]; exact hacc.1
  have ev : PySem.W.EachIs IntIs acc.toList ds := each_at (by rw [hlen, hl]) fun i v hv => hP i v (hacc.2 i v (by rw [← Array.getElem?_toList]; exact hv))
  obtain ⟨vs, hvs⟩ : ∃ vs, vs = acc.toList := ⟨_, rfl⟩
  rw [← hvs] at hlen ev ⊢
  refine wpAny_bind (wpAny_newList ?_ (by rw [hlen]; exact hn))
  have at0 : (h'.push { cls := .type "list", data := .seq vs.toArray }).get? h'.objs.size = some (seqObj "list" vs.toArray 0) := Heap.get?_push_size _ rfl
  have er : ∀ g : Heap, PySem.W.EachIs (fun v b => ∃ as, PySem.Reads g v b as) vs ds := fun g => ev.mono fun v b ⟨x, t, e1, e2⟩ => ⟨[], by rw [e1, e2]; exact .int x t⟩
  have S := PySem.W.SortsAt.data (prog := prog) (w := w) (A := A.in1.in1) (s := { s with heap := PySem.W.sortingHeap (h'.push { cls := .type "list", data := .seq vs.toArray }) h'.objs.size vs, toks := tk }) (er _) hal hs hu
  refine wpAny_bind (wpAny_holding (wpAny_call_entry_kw slot_list_sort ⟨_, at0, rfl⟩ entry_list_sort ?_ (args_list_sort _)))
  change wpAny (model prog w) A.in1.in1 (Builtin.«list.sort» ⟨[.ref h'.objs.size], []⟩) _ _ _
  refine wpAny_mono (PySem.W.list_sort_vals (P := fun f s' => f = .done (.ret .none) ∧ Q (.ref h'.objs.size) s') (s := { s with heap := h'.push { cls := .type "list", data := .seq vs.toArray }, toks := tk }) at0 S (by rw [hlen]; exact hn) ⟨rfl, ?_⟩) (fun f s' hf => ?_) fun _ _ z => z
  · obtain ⟨e, he⟩ := sortedHeap_at (out := (PySem.W.sortVals (PySem.W.dataKind (PySem.W.sortingHeap (h'.push { cls := .type "list", data := .seq vs.toArray }) h'.objs.size vs) ds) false vs vs).toArray) at0
    have lt : ∀ {b o}, s.heap.get? b = some o → b < s.heap.objs.size := fun h => Heap.lt_size h
    refine q _ _ _ _ e (fun b o h => ?_) le he (by rw [PySem.W.sortVals_length false rfl]; exact hlen) ?_
    · have h1 := hk b o h
      have l1 := Heap.lt_size h1
      have h2 := Heap.get?_push_of_some { cls := .type "list", data := .seq vs.toArray } h1
      rw [sortedHeap_old (Nat.ne_of_lt l1) (Heap.lt_size h2)]
      exact h2
    · have := PySem.W.sortVals_data (R := IntIs) (enc := fun d => d) (bs := ds) false ev (er (PySem.W.sortingHeap (h'.push { cls := .type "list", data := .seq vs.toArray }) h'.objs.size vs)) (by rw [List.map_id']; exact hal)
      rw [List.map_id'] at this
      exact this
  · obtain ⟨rfl, hq⟩ := hf
    exact ⟨_, rfl, wpAny_pure ⟨_, rfl, hq⟩⟩
end
end DL

namespace DL
open PySem PySem.Spec PyProof.Rows L2
def kvObj (a : Addr) : Obj := { cls := .type "dict_keys", data := .fields #[.ref a] }
def kvO (p a : Addr) : HO := .ext fun h => h.get? p = some (kvObj a)
theorem kvO_ok {P : Program} {w : World} {H : Hp} {h : Heap} {p a : Addr} (e : h.get? p = some (kvObj a)) : ObjOk P w H h p (kvO p a) := ⟨e, ⟨_, e⟩, fun _ _ x k => k _ x⟩
def tKv (td : TE) : TE := fun σ H Q => td σ H fun x H1 => ∃ a kvs, x = .ref a ∧ Rd H1 a (.dK kvs) ∧ ∀ p, H1 p = none → Q (.ref p) (upd H1 p (kvO p a))
section
variable {X : Cx} {z : Z}
theorem pe_kv {e : Expr} {td : TE} {apos cpos : Pos} (he : PE X e td) (hb : attributeBase e "keys" X.env (eval e X.env) = eval e X.env := by rfl) (hl : (apos.endLine == cpos.line) = true := by rfl) : PE X (.Call (.Attribute e "keys" apos) [] [] cpos) (tKv td) := by
  refine ⟨fun pins s σ H Q I h => wpAny_Call_method (T := "dict") (id := "dict.keys") hb rfl hl F.plainAttrs_dict F.slot_dict_keys F.type_dict_keys (thn (he.run pins s σ H _ I h) fun u s1 ⟨x, H1, I1, rx, a, kvs, ex, hd, q⟩ => ?_)⟩
  subst ex
  obtain rfl : u = Value.ref a := rx
  obtain ⟨_, hs, vs, _, dd⟩ := dk_rd I1.hok hd
  refine ⟨dd.typeIs, dd.mapOf.noDict, ?_⟩
  change wpAny _ _ (callWith cpos (.builtin "dict.keys") [.ref a] [] []) _ X.xe s1
  refine method_meetsIn F.slot_dict_keys F.entry_dict_keys rfl (PySem.evalArgs_none ⟨rfl, dd.typeIs, F.args_dict_keys_1 _, _, PySem.W.kdl_meets_keys (mixKind X.prog X.w) a hs, ⟨vs, dd⟩, ?_⟩)
  exact ⟨.ref _, _, I1.laid (t' := s1.toks) (fun b o q => Heap.get?_push_of_some _ q) (Nat.le_refl _) (kvO_ok (Heap.get?_push_size _ rfl)), rfl, q _ (I1.hok.fresh (Nat.le_refl _))⟩
def rSortKv : List V → Hp → VK → Prop := fun xs H Q => ∃ (p a : Addr) (kvs : List (Key × V)), xs = [.ref p] ∧ H p = some (kvO p a) ∧ Rd H a (.dK kvs) ∧ (∀ k, k ∈ kvs → ∃ i, k.1 = .inl i) ∧ sortOk (kvs.map fun p => kD p.1) = true ∧
  ∀ vs q, H q = none → PySem.W.EachIs (fun v d => ∃ i, v = V.int i ∧ d = PyData.int i) vs (isort leD (kvs.map fun p => kD p.1)) → Q (.ref q) (upd H q (.lst vs))
theorem ints_each : ∀ {us : List Value} {ds : List D}, PySem.W.EachIs IntIs us ds → ∃ vs, Vals vs us ∧ PySem.W.EachIs (fun v d => ∃ i, v = V.int i ∧ d = PyData.int i) vs ds
  | _, _, .nil => ⟨[], .nil, .nil⟩
  | _, _, .cons ⟨i, t, e1, e2⟩ r => by
    obtain ⟨vs, h1, h2⟩ := ints_each r
    exact ⟨.int i :: vs, .cons ⟨t, e2⟩ h1, .cons ⟨i, rfl, e1⟩ h2⟩
theorem kv_keys : ∀ {kvs : List (Key × V)} {zs : List (Key × Value)}, KV kvs zs → kvs.map (·.1) = zs.map (·.1)
  | _, _, .nil => rfl
  | _, _, .cons r t => by rw [List.map_cons, List.map_cons, r.1, kv_keys t]
theorem cr_sortKv (hc : X.calm = true) (hu : X.A.units + 64 < cLine) : CallR X (.builtin "sorted") rSortKv := by
  intro pins s σ H xs us Q I r h
  obtain ⟨p, a, kvs, rfl, hp, hd, hi, ok, q⟩ := h
  obtain rfl := Vals.ref1 r
  have view : s.heap.get? p = some (kvObj a) := (show ObjOk X.prog X.w H s.heap p (kvO p a) from I.hok p _ hp).1
  obtain ⟨hz, hs, vs, rel, dd⟩ := dk_rd I.hok hd
  obtain ⟨ep, hat⟩ := dd.dictAt
  obtain ⟨al, so, dp⟩ := sortOk_of ok
  have ek := kv_keys rel
  have el : kvs.length = vs.length := by
    have := congrArg List.length ek
    rwa [List.length_map, List.length_map] at this
  refine sortKv (PySem.W.kdl_keys (knd := mixKind X.prog X.w) (kvs := vs) (ep := ep)) (I.ok.hd hc) ⟨⟨_, view, rfl, rfl⟩, hat⟩ (by rw [← el]; exact hz) (kvs.map fun p => kD p.1) (by rw [List.length_map, el]) (fun i v hv => ?_) al so (fun b hb => ?_) fun h' tk D out e hk le at' hl hv => ?_
  · obtain ⟨k, x, h1, h2⟩ := hv
    have h3 : (kvs.map (·.1))[i]? = some k := by rw [ek, List.getElem?_map, h1]; rfl
    rw [List.getElem?_map] at h3
    obtain ⟨pr, h4, h5⟩ := map_some h3
    obtain ⟨n, h6⟩ := hi pr (List.mem_of_getElem? h4)
    have h2 : keyIs k v = true := h2
    rw [← h5, h6] at h2
    rcases keyIs_shape h2 with ⟨m, t, e1, e2⟩ | ⟨m, t, e1, e2⟩
    · refine ⟨.int n, by rw [List.getElem?_map, h4, Option.map_some, h6]; rfl, n, t, rfl, ?_⟩
      have := Sum.inl.inj e1
      rw [e2, this]
    · cases e1
  · have := depth_mem hb
    omega
  · obtain ⟨ws, w1, w2⟩ := ints_each hv
    have em : (kvs.map fun p => kD p.1).mergeSort (PySem.W.dataLe false fun d => d) = isort leD (kvs.map fun p => kD p.1) := (isort_eq leD_total _).symm
    rw [em] at w2
    have hlen : ws.length ≤ sizeLine := by rw [w1.length, hl, ← el]; exact hz
    exact ⟨.ref D, upd H D (.lst ws), I.laid (t' := tk) hk le ⟨hlen, out, e, w1, at'⟩, rfl, q _ _ (I.hok.fresh le) w2⟩
/-- the keys of a shared dict, sorted -/
def oSk : D → Option D
  | .dict ks => if ks.all (fun p => match p.1 with | .int _ => true | _ => false) && sortOk (ks.map fun p => p.1) then some (.list (isort leD (ks.map fun p => p.1))) else none
  | _ => none
theorem ints_rep {K : PySem.W.Frag} {F : Hp} : ∀ {vs : List V} {ds : List D}, PySem.W.EachIs (fun v d => ∃ i, v = V.int i ∧ d = PyData.int i) vs ds → RepL K F vs ds
  | _, _, .nil => .nil
  | _, _, .cons ⟨i, e1, e2⟩ t => by
    rw [e1, e2]
    exact .cons (.int i) (ints_rep t)
theorem sk_in {K : PySem.W.Frag} {F H : Hp} {Q : VK} {a : Addr} {kvs : List (Key × V)} {ks : List (D × D)} (s0 : Same F H) (hd : Rd H a (.dK kvs)) (ek : ks.map (·.1) = kvs.map (fun p => kD p.1)) (h : (ks.all fun p => match p.1 with | .int _ => true | _ => false) = true) (ok : sortOk (ks.map fun p => p.1) = true)
    (q : ∀ v H', Same H H' → Rep K (ext F H H') v (.list (isort leD (ks.map fun p => p.1))) → Q v H') : ∃ a' kvs', V.ref a = .ref a' ∧ Rd H a' (.dK kvs') ∧ ∀ p, H p = none → rSortKv [.ref p] (upd H p (kvO p a')) Q := by
  refine ⟨a, kvs, rfl, hd, fun p hp => ⟨p, a, kvs, rfl, upd_same, rdMono (same_new hp) hd, fun k hk => ?_, by rw [← ek]; exact ok, fun vs q' hq ev => ?_⟩⟩
  · have hm : kD k.1 ∈ ks.map (·.1) := by rw [ek]; exact List.mem_map.mpr ⟨k, hk, rfl⟩
    obtain ⟨pr, h1, h2⟩ := List.mem_map.mp hm
    have h3 := List.all_eq_true.mp h pr h1
    cases e : k.1 with
    | inl i => exact ⟨i, rfl⟩
    | inr x =>
      rw [e] at h2
      have h2 : pr.1 = .str x := h2
      rw [h2] at h3
      cases h3
  · rw [← ek] at ev
    have s : Same H (upd (upd H p (kvO p a)) q' (.lst vs)) := (same_new hp).trans (same_new hq)
    refine q _ _ s (.lst (.of ?_) (ints_rep ev))
    have hH : H q' = none := by
      by_cases c : q' = p
      · rw [c, upd_same] at hq
        cases hq
      · rw [upd_ne c] at hq
        exact hq
    unfold ext
    rw [hH, upd_same]
    rfl
theorem q_sk {a : Expr} {f : Env → Option D} {p p2 q pos : Pos} (hc : X.calm = true) (hu : X.A.units + 64 < cLine) (hg : Gl X "sorted") (hm : X.mg "sorted" = none) (ha : PE X a (tP X.K z f))
    (nb : starEach [.Call (.Attribute a "keys" p2) [] [] q] X.env = (false, eval (.Call (.Attribute a "keys" p2) [] [] q) X.env) :: starEach [] X.env := by rfl) (hb : attributeBase a "keys" X.env (eval a X.env) = eval a X.env := by rfl) (hl : (p2.endLine == q.line) = true := by rfl) :
    PE X (.Call (.Name "sorted" p) [.Call (.Attribute a "keys" p2) [] [] q] [] pos) (tP X.K z (c1 oSk f)) :=
  (pe_callB (cr_sortKv hc hu) hg hm bt_sorted (pa_cons (pe_kv ha hb hl) pa_nil nb) (by decide) (by decide) nb).mono fun σ H Q ⟨ρ, F, O, d, R, e, q⟩ => by
    obtain ⟨d1, h1, h2⟩ := bind_some e
    unfold oSk at h2
    split at h2
    · split at h2
      · next hh =>
        cases h2
        rw [Bool.and_eq_true] at hh
        refine ⟨ρ, F, O, _, R, h1, fun v H1 s1 r1 => ?_⟩
        have R1 := R.grow s1
        cases r1 with
        | dic hd ek t =>
          exact sk_in R1.sub (rdMono R1.sub hd) ek hh.1 hh.2 fun v H' s r => q v H' (s1.trans s) (by rw [ext_ext s1 s] at r; exact r)
      · cases h2
    · cases h2
/-- .. of a dict of one's own -/
def cSkO (i : Nat) : Env → Option D := fun ρ => match ρ[i]? with
  | some (some (.dk l ks)) => oSk (frzE (.dk l ks))
  | _ => none
theorem q_skO (i : Nat) {x : Str} {p p2 p3 q pos : Pos} (hc : X.calm = true) (hu : X.A.units + 64 < cLine) (hg : Gl X "sorted") (hm : X.mg "sorted" = none) (hN : X.N[i]? = some x := by rfl) (hv : Vis X.env.scope x := by first | exact Or.inl rfl | exact Or.inr (Or.inl rfl) | exact Or.inr (Or.inr rfl)) (hd : (x == ("__debug__" : Str)) = false := by decide)
    (hcd : (x == ("__classdict__" : Str)) = false := by decide)
    (nb : starEach [.Call (.Attribute (.Name x p3) "keys" p2) [] [] q] X.env = (false, eval (.Call (.Attribute (.Name x p3) "keys" p2) [] [] q) X.env) :: starEach [] X.env := by rfl) (hb : attributeBase (.Name x p3) "keys" X.env (eval (.Name x p3) X.env) = eval (.Name x p3) X.env := by rfl) (hl : (p2.endLine == q.line) = true := by rfl) :
    PE X (.Call (.Name "sorted" p) [.Call (.Attribute (.Name x p3) "keys" p2) [] [] q] [] pos) (tP X.K z (cSkO i)) :=
  (pe_callB (cr_sortKv hc hu) hg hm bt_sorted (pa_cons (pe_kv (pe_var hN hv hd hcd) hb hl) pa_nil nb) (by decide) (by decide) nb).mono fun σ H Q ⟨ρ, F, O, d, R, e, q⟩ => by
    unfold cSkO at e
    split at e
    · next l ks hi =>
      unfold oSk frzE at e
      dsimp only at e
      split at e
      · next hh =>
        cases e
        rw [Bool.and_eq_true] at hh
        obtain ⟨v, hv, p, kvs, e1, e2, e3, lk⟩ := R.ent i _ hi
        subst e1
        refine ⟨_, hv, ?_⟩
        have ek : (ks.map fun p => (kD p.1, p.2)).map (·.1) = kvs.map (fun p => kD p.1) := by
          have := congrArg (List.map kD) e2
          rw [List.map_map, List.map_map] at this
          rw [List.map_map]
          exact this.symm
        exact sk_in R.sub (lk.rd R.sub) ek hh.1 hh.2 q
      · cases e
    · cases e
end
end DL

namespace DL
open PySem PySem.Spec PyProof.Rows L2
section
variable {X : Cx} {z : Z}
theorem lkD_in {K : PySem.W.Frag} {i : Nat} {f : Env → Option D} {σ : L2.St} {H : Hp} {Q : VK} (h : tP K z (cLkD i f) σ H Q) : tLockE (tP K z f) σ H Q := by
  obtain ⟨ρ, F, O, d, R, e, q⟩ := h
  obtain ⟨e', h1, e⟩ := bind_some e
  obtain ⟨d', h2, e⟩ := bind_some e
  split at e
  · next hd =>
    cases e
    obtain ⟨p, u, s1, s2, s3, s4, s5, hu, R2⟩ := lkE_of R h1
    refine ⟨p, u, s4, hu.mut, fun od => ⟨_, _, _, _, R2 od, h2, fun v H' s r => ⟨s _ _ upd_same, ?_⟩⟩⟩
    refine q v _ (fun a x ha => ?_) (Dp.out (p := p) (o := od) hu ?_ (fun a c => ?_) hd r)
    · by_cases c : a = p
      · rw [c, upd_same]
        rw [c, s4] at ha
        exact ha
      · rw [upd_ne c]
        exact s a x (by rw [upd_ne c]; exact ha)
    · unfold ext
      rw [upd_same, upd_same]
      rfl
    · unfold ext
      rw [upd_ne c, upd_ne c, upd_ne c]
  · cases e
variable {elt iter tg : Expr} {ifs : List Expr} {scope : Scope} {pos : Pos} {own : List (Str × Nat)} {b : D → Env → Option Env}
theorem s_lcLk (k i : Nat) {y : Str} {py spos : Pos} {it : Env → Option (List D)} {t : Env → Option Bool} {f : Env → Option D} (hc : X.calm = true) (hN : X.N.Nodup) (ok : BlkOk X.N X.env.scope scope own)
    (hsw : swapsWith (.ListComp elt [⟨tg, iter, ifs, 0⟩] scope pos) (some (.Name y py)) spos.line X.env = pure true) (hi : PI X tg iter (tIP X.K z it))
    (hg : ∀ s H C cl fp, PG (blkE X scope s H C cl fp) tg (tG X.K z (ofJ (own.map (·.2))) b)) (ht : ∀ s H C cl fp, PTs (blkE X scope s H C cl fp) ifs (tB X.K z t))
    (he : ∀ s H C cl fp, PE (blkE X scope s H C cl fp) elt (tP X.K z f)) (hy : X.N[i]? = some y := by rfl) (hyl : X.env.scope.names.lookup y = some .local := by rfl) (hs : ∀ x, foldedSetIterable iter X.env x = pure x := by intro _; rfl) :
    PS X (.Assign [.Name y py] (.ListComp elt [⟨tg, iter, ifs, 0⟩] scope pos) spos) (tS X.K z (gAsg (lf (cLkD k (cLc (own.map (·.2)) it b t f))) (bNm i))) :=
  (ps_lock (ps_setLc hc hN hy hyl hsw hi ok hg ht he hs)).mono fun D σ H h => by
    obtain ⟨d, u, h1, h2, h3⟩ := lkD_in (tP_of_lf (asg_val h))
    exact ⟨d, u, h1, h2, fun od => lc_in (h3 od)⟩
end
end DL

namespace DL
open PySem PySem.Spec PyProof.Rows L2
/-! ### a tuple read backwards -/
section
variable {prog : Program} {w : World} {A : Around} {E : Value → Shared → Prop} {s : Shared}
theorem adjust_back (n : Nat) : Builtin.Slice.sliceAdjust none none (-1) (n : Int) = ((n : Int) - 1, -1) := rfl
theorem places_back (n : Nat) : Builtin.Slice.slicePlaces ((n : Int) - 1) (-1) (-1) = n := by
  unfold Builtin.Slice.slicePlaces
  rw [if_neg (by decide)]
  by_cases c : (n : Int) - 1 > -1
  · rw [if_pos c]
    have : ((n : Int) - 1 - -1 - 1) / (-(-1)) + 1 = n := by
      rw [show (-(-1) : Int) = 1 from rfl, Int.ediv_one]
      omega
    rw [this]
    rfl
  · rw [if_neg c]
    show (0 : Nat) = n
    omega
theorem applied_back {sl : Addr} {n : Nat} {vs : Value} {Q : Int × Int × Nat → Shared → Prop} (hs : s.heap.IsSliceOf sl .none .none vs) (pv : IsPart vs (some (-1))) (h : Q ((n : Int) - 1, -1, n) s) : wpAny (model prog w) A (Builtin.Slice.sliceApplied (.ref sl) (pure (n : Int))) Q E s := by
  obtain ⟨os, k1, k2, k3⟩ := id hs
  unfold Builtin.Slice.sliceApplied Builtin.Slice.sliceFields
  refine wpAny_bind (wpAny_bind (wpAny_field k1 k3 (x := .none) rfl (wpAny_bind (wpAny_field k1 k3 (x := .none) rfl (wpAny_bind (wpAny_field k1 k3 (x := vs) rfl (wpAny_pure ?_)))))))
  refine wpAny_bind (HT.slicePart_ pv ?_)
  change wpAny _ _ (if ((-1 : Int) == 0) = true then _ else _) _ _ s
  rw [if_neg (by decide)]
  refine wpAny_bind (HT.slicePart_ .none (wpAny_bind (HT.slicePart_ .none (wpAny_bind (wpAny_pure ?_)))))
  change wpAny _ _ (pure ((n : Int) - 1, (-1 : Int), Builtin.Slice.slicePlaces ((n : Int) - 1) (-1) (-1))) _ _ s
  rw [places_back]
  exact wpAny_pure h
theorem pick_back (xs : Array Value) : ((List.range xs.size).filterMap fun (k : Nat) => xs[((xs.size : Int) - 1 + (k : Int) * (-1)).toNat]?) = xs.toList.reverse := by
  have e : ∀ k ∈ List.range xs.size, xs[((xs.size : Int) - 1 + (k : Int) * (-1)).toNat]? = some (xs.toList.getD (xs.size - 1 - k) .none) := fun k hk => by
    have hk := List.mem_range.mp hk
    rw [show ((xs.size : Int) - 1 + (k : Int) * (-1)).toNat = xs.size - 1 - k by omega, ← Array.getElem?_toList, List.getD_eq_getElem?_getD, List.getElem?_eq_getElem (by rw [Array.length_toList]; omega)]
    rfl
  have e2 : ((List.range xs.size).filterMap fun (k : Nat) => xs[((xs.size : Int) - 1 + (k : Int) * (-1)).toNat]?) = (List.range xs.size).map fun k => xs.toList.getD (xs.size - 1 - k) .none := by
    have key : ∀ (l : List Nat), (∀ k ∈ l, k ∈ List.range xs.size) → (l.filterMap fun (k : Nat) => xs[((xs.size : Int) - 1 + (k : Int) * (-1)).toNat]?) = l.map fun k => xs.toList.getD (xs.size - 1 - k) .none := by
      intro l
      induction l with
      | nil => intro _; rfl
      | cons a l ih =>
        intro hl
        rw [List.filterMap_cons, e a (hl a List.mem_cons_self), List.map_cons, ih fun k hk => hl k (List.mem_cons_of_mem _ hk)]
    exact key _ fun _ h => h
  rw [e2]
  refine List.ext_getElem (by simp) fun i h1 h2 => ?_
  rw [List.getElem_map, List.getElem_range, List.getElem_reverse, List.getD_eq_getElem?_getD]
  have hi : i < xs.size := by simpa using h1
  rw [List.getElem?_eq_getElem (by rw [Array.length_toList]; omega), Option.getD_some]
  simp only [Array.length_toList]
theorem item_back {t sl : Addr} {xs : Array Value} {vs : Value} {Q : Value → Shared → Prop} (ht : IsTup s.heap t xs) (hs : s.heap.IsSliceOf sl .none .none vs) (pv : IsPart vs (some (-1)))
    (h : Q (.ref s.heap.objs.size) { s with heap := s.heap.push { cls := .type "tuple", data := .seq xs.toList.reverse.toArray } }) (hz : xs.size ≤ sizeLine) : wpAny (model prog w) A (getItem (.ref t) (.ref sl)) Q E s := by
  have ok : sizeOk (.seq xs.toList.reverse.toArray) := by
    change xs.toList.reverse.toArray.size ≤ sizeLine
    rw [List.size_toArray, List.length_reverse, Array.length_toList]
    exact hz
  obtain ⟨os, k1, k2, k3⟩ := id hs
  have ts : s.TypeIs (.ref sl) "slice" := ⟨os, k1, k2⟩
  unfold getItem
  refine wpAny_holding ?_
  refine wpAny_bind (wpAny_sequenceKey ht.typeIs (by decide) (wpAny_bind (wpAny_callSpecial?_slot (name := Str.ofString "__getitem__") ht.typeIs PyProof.Rows.slot_tuple_getitem
    (wpAny_call_entry PyProof.Rows.slot_tuple_getitem ht.typeIs entry_tuple_getitem ?_ (args_tuple_getitem _ _)))))
  change wpAny _ _ (Builtin.Tuple.tupleItemsOf (.ref t) >>= _) _ _ s
  refine wpAny_bind (PyProof.Rows.tupleItemsOf_ ht (wpAny_bind (wpAny_typeOf ts ?_)))
  rw [if_pos (by decide)]
  refine wpAny_bind (applied_back hs pv ?_)
  have no : ¬ ((((xs.size : Int) - 1) == 0 && (-1 : Int) == 1 && xs.size == xs.size) = true) := by
    rw [show ((-1 : Int) == 1) = false from rfl, Bool.and_false, Bool.false_and]
    decide
  change wpAny _ _ (if (((xs.size : Int) - 1) == 0 && (-1 : Int) == 1 && xs.size == xs.size) = true then _ else _) _ _ s
  rw [if_neg no, pick_back]
  first
    | exact wpAny_bind (m := Builtin.Tuple.tupleExact _) (wpAny_newObj_type (wpAny_pure ⟨_, rfl, wpAny_pure h⟩) ok)
    | exact wpAny_bind (m := Builtin.Tuple.tupleExact _) (wpAny_newObj_type (wpAny_bind (wpAny_pure (wpAny_pure ⟨_, rfl, wpAny_pure h⟩))) ok)
    | exact wpAny_bind (wpAny_bind (m := Builtin.Tuple.tupleExact _) (wpAny_newObj_type (wpAny_pure (wpAny_pure ⟨_, rfl, wpAny_pure h⟩)) ok))
    | exact wpAny_bind (wpAny_bind (m := Builtin.Tuple.tupleExact _) (wpAny_newObj_type (wpAny_pure ⟨_, rfl, wpAny_pure h⟩) ok))
end
def tBack (K : PySem.W.Frag) (te : TE) : TE := fun σ H Q => te σ H fun x H1 => ∃ a xs, x = .ref a ∧ SqT K H1 a xs ∧ ∀ p, H1 p = none → Q (.ref p) (upd H1 p (.tup xs.reverse))
section
variable {X : Cx} {z : Z}
theorem pe_back {e : Expr} {te : TE} {k : Nat} {p1 p2 p3 pos : Pos} (he : PE X e te) : PE X (.Subscript e (.Slice none none (some (.UnaryOp .USub (.Constant (.int 1) k p1) p2)) p3) pos) (tBack X.K te) := by
  refine ⟨fun pins s σ H Q I h => Subscript_ (thn (he.run pins s σ H _ I h) fun v s1 ⟨x, H1, I1, r1, a, xs, ex, hx, q⟩ => ?_)⟩
  subst ex
  cases r1
  have st : PO X (some (.UnaryOp .USub (.Constant (.int 1) k p1) p2)) (tPart (tUn (rU fun i => .int (-i)) (tC (.int 1)))) := po_some (pe_un un_neg pe_int)
  refine wpAny_Slice (thn (po_none.run pins s1 σ H1 (fun o K2 => o = none ∧ K2 = H1) I1 ⟨rfl, rfl⟩) fun vl s2 ⟨l, H2, I2, pl, el, e2⟩ => ?_)
  subst el e2
  refine thn (po_none.run pins s2 σ H2 (fun o K3 => o = none ∧ K3 = H2) I2 ⟨rfl, rfl⟩) fun vu s3 ⟨u, H3, I3, pu, eu, e3⟩ => ?_
  subst eu e3
  refine thn (st.run pins s3 σ H3 (fun o K4 => o = some (-1) ∧ K4 = H3) I3 ⟨1, rfl, -1, rfl, rfl, rfl⟩) fun vs s4 ⟨o, H4, I4, ps, eo, e4⟩ => ?_
  subst eo e4
  have J : Inv X pins σ H4 { s4 with heap := s4.heap.push { cls := .type "slice", data := .fields #[vl, vu, vs] } } := I4.kept (t' := s4.toks) fun b ob q => Heap.get?_push_of_some _ q
  obtain ⟨its, r, ht, hz⟩ := J.tuple hx
  have hlen := r.length
  cases pl
  cases pu
  change wpAny (model X.prog X.w) X.A (subscriptTail e (.Slice none none (some (.UnaryOp .USub (.Constant (.int 1) k p1) p2)) p3) (.ref a) (.ref s4.heap.objs.size)) (EP X pins σ Q) X.xe { s4 with heap := s4.heap.push { cls := .type "slice", data := .fields #[.none, .none, vs] } }
  refine tail_any (ops := [.ref a, .ref s4.heap.objs.size]) ht.typeIs PyProof.Rows.slot_tuple_getitem.lookup ?_ (by with_unfolding_all rfl)
  refine item_back ht (Heap.IsSliceOf.new _ .none .none vs) ps ?_ (by rw [List.size_toArray]; omega)
  refine ⟨.ref _, _, J.laid (t' := s4.toks) (o := .tup xs.reverse) (fun b ob q => Heap.get?_push_of_some _ q) (Nat.le_refl _) ?_, rfl, q _ (J.hok.fresh (Nat.le_refl _))⟩
  refine ⟨by rw [List.length_reverse]; exact hz, its.reverse, r.reverse, ?_⟩
  exact ⟨_, Heap.get?_push_size _ rfl, rfl, 0, rfl⟩
def oBack : D → Option D
  | .tuple ds => some (.tuple ds.reverse)
  | _ => none
theorem q_back {e : Expr} {k : Nat} {p1 p2 p3 pos : Pos} {f : Env → Option D} (he : PE X e (tP X.K z f)) : PE X (.Subscript e (.Slice none none (some (.UnaryOp .USub (.Constant (.int 1) k p1) p2)) p3) pos) (tP X.K z (c1 oBack f)) :=
  (pe_back he).mono fun σ H Q ⟨ρ, F, O, d, R, e, q⟩ => by
    obtain ⟨a, h1, e⟩ := bind_some e
    unfold oBack at e
    split at e
    · cases e
      refine ⟨ρ, F, O, _, R, h1, fun v H1 s1 r1 => ?_⟩
      cases r1 with
      | tup hs t =>
        have R1 := R.grow s1
        refine ⟨_, _, rfl, sqT_of (R1.sub _ _ hs), fun p hp => q _ _ (s1.trans (same_new hp)) ?_⟩
        rw [← ext_ext s1 (same_new hp), ext_new R1.sub hp]
        exact .tup upd_same (t.reverse.mono (same_new (R1.sub.free hp)))
    · cases e
end
end DL

namespace DL
open PySem PySem.Spec PyProof.Rows L2
/-! ### x.get(k, d), x a dict of one's own -/
section
variable {X : Cx} {z : Z}
theorem dGet_isD {K : PySem.W.Frag} {ρ : Env} {σ : L2.St} {F H : Hp} {O : Nat → List Addr} {i : Nat} {k : D} {o : Option D} {p : Addr} (R : Rel K z ρ σ F H O) (h : dGet ρ[i]? k = some o) (s1 : σ[i]? = some (some (.ref p))) : IsD H p := by
  unfold dGet at h
  split at h
  · next hi =>
    obtain ⟨v, hv, p', kvs, e1, e2, e3, lk⟩ := R.ent i _ hi
    subst e1
    have := s1.symm.trans hv
    cases this
    exact .inl ⟨kvs, lk.rd R.sub⟩
  · next hi =>
    obtain ⟨v, hv, p', kvs, e1, e2, e3, lk⟩ := R.ent i _ hi
    subst e1
    have := s1.symm.trans hv
    cases this
    exact .inr ⟨kvs, lk.rd R.sub⟩
  · cases h
def cDg2 (i : Nat) (g f : Env → Option D) : Env → Option D := fun ρ => (g ρ).bind fun k => (f ρ).bind fun d => (dGet ρ[i]? k).map fun o => o.getD d
theorem q_dg2 (i : Nat) {x : Str} {e f : Expr} {pos apos cpos : Pos} {g h : Env → Option D} (hu : X.A.units + 64 < cLine) (he : PE X e (tP X.K z g)) (hf : PE X f (tP X.K z h)) (hN : X.N[i]? = some x := by rfl) (hv : Vis X.env.scope x := by first | exact Or.inl rfl | exact Or.inr (Or.inl rfl) | exact Or.inr (Or.inr rfl)) (hd : (x == ("__debug__" : Str)) = false := by decide)
    (hcd : (x == ("__classdict__" : Str)) = false := by decide) (m : M2 X (.Name x pos) "get" apos e f cpos := by exact ⟨by rfl, by rfl, by rfl, by rfl⟩) : PE X (.Call (.Attribute (.Name x pos) "get" apos) [e, f] [] cpos) (tP X.K z (cDg2 i g h)) :=
  (pe_dget2 (by omega) (pe_var hN hv hd hcd) he hf m).mono fun σ H Q ⟨ρ, F, O, d, R, e, q⟩ => by
    obtain ⟨k, h1, e⟩ := bind_some e
    obtain ⟨d0, h0, e⟩ := bind_some e
    obtain ⟨o, h2, e⟩ := map_some e
    obtain ⟨p, s1, h3⟩ := dGet_of R h2
    refine ⟨_, s1, p, rfl, dGet_isD R h2 s1, ρ, F, O, k, R, h1, fun y H1 sm r => ⟨ρ, _, O, d0, R.grow sm, h0, fun w H2 s2 r2 => ?_⟩⟩
    have h4 := h3 _ H2 y (sm.trans s2) ((R.grow sm).sub.trans s2) r
    rw [ext_ext sm s2] at r2
    cases o with
    | some d1 =>
      cases e
      obtain ⟨v, a1, a2⟩ := h4.1 _ rfl
      exact ⟨_, a1, q v H2 (sm.trans s2) (a2.mono (same_ext R.sub))⟩
    | none =>
      cases e
      exact ⟨_, h4.2 rfl, q w H2 (sm.trans s2) r2⟩
end
end DL

namespace DL
open PySem PySem.Spec PyProof.Rows L2
/-! ### x[a], x[b] = a pair -/
def twoD : D → Option (D × D)
  | .tuple [a, b] => some (a, b)
  | _ => none
def intD : D → Option Int
  | .int k => some k
  | _ => none
def gSet2 (i : Nat) (f : Env → Option (D × Env)) (g1 g2 : Env → Option D) : Gs := fun ρ => (f ρ).bind fun p => (twoD p.1).bind fun ab => (ownL p.2[i]?).bind fun ds => (g1 p.2).bind fun k1 => (intD k1).bind fun k => (ixN ds.length k).bind fun j =>
  (g2 (putL i (ds.set j ab.1) p.2)).bind fun k2 => (intD k2).bind fun k' => (ownL (putL i (ds.set j ab.1) p.2)[i]?).bind fun es => (ixN es.length k').map fun j' => (.nx, putL i (es.set j' ab.2) (putL i (ds.set j ab.1) p.2))
theorem twoD_of {d a b : D} (h : twoD d = some (a, b)) : d = .tuple [a, b] := by
  unfold twoD at h
  split at h
  · cases h
    rfl
  · cases h
theorem intD_of {d : D} {k : Int} (h : intD d = some k) : d = .int k := by
  unfold intD at h
  split at h
  · cases h
    rfl
  · cases h
theorem s_set2 (i : Nat) {X : Cx} {z : Z} {x : Str} {e b1 b2 : Expr} {f : Env → Option (D × Env)} {g1 g2 : Env → Option D} {p1 p2 p3 p4 pos pt : Pos} {kt} (hc : X.calm = true) (he : PE X e (tR X.K z f)) (hb1 : PE X b1 (tP X.K z g1)) (hb2 : PE X b2 (tP X.K z g2)) (hN : X.N[i]? = some x := by rfl) (hv : Vis X.env.scope x := by first | exact Or.inl rfl | exact Or.inr (Or.inl rfl) | exact Or.inr (Or.inr rfl)) (hd : (x == ("__debug__" : Str)) = false := by decide)
    (hcd : (x == ("__classdict__" : Str)) = false := by decide)
    (ha1 : ∀ v, assign (.Subscript (.Name x p1) b1 p2) X.env v = (do
      let ov ← holding [v] (eval (.Name x p1) X.env)
      let iv ← holding [v, ov] (eval b1 X.env)
      standAt p2
      holding [v, ov, iv] (setItem ov iv v)
      release [v, ov, iv] []) := by intro _; rfl)
    (ha2 : ∀ v, assign (.Subscript (.Name x p3) b2 p4) X.env v = (do
      let ov ← holding [v] (eval (.Name x p3) X.env)
      let iv ← holding [v, ov] (eval b2 X.env)
      standAt p4
      holding [v, ov, iv] (setItem ov iv v)
      release [v, ov, iv] []) := by intro _; rfl)
    (hn : (assignEach [.Subscript (.Name x p1) b1 p2, .Subscript (.Name x p3) b2 p4] X.env).length = 2 := by rfl)
    (hst : (assignEach [.Subscript (.Name x p1) b1 p2, .Subscript (.Name x p3) b2 p4] X.env).findIdx? (·.1) = none := by rfl)
    (hs1 : (assignEach [.Subscript (.Name x p1) b1 p2, .Subscript (.Name x p3) b2 p4] X.env).map (·.2) = assign (.Subscript (.Name x p1) b1 p2) X.env :: (assignEach [.Subscript (.Name x p3) b2 p4] X.env).map (·.2) := by rfl)
    (hs2 : (assignEach [.Subscript (.Name x p3) b2 p4] X.env).map (·.2) = assign (.Subscript (.Name x p3) b2 p4) X.env :: (assignEach [] X.env).map (·.2) := by rfl)
    (hs : swapsWithSole [.Tuple [.Subscript (.Name x p1) b1 p2, .Subscript (.Name x p3) b2 p4] kt pt] e pos.line X.env = pure false := by rfl) (hw : swappedStores [.Tuple [.Subscript (.Name x p1) b1 p2, .Subscript (.Name x p3) b2 p4] kt pt] e X.env = pure none := by rfl)
    (h1 : (assignEach [.Tuple [.Subscript (.Name x p1) b1 p2, .Subscript (.Name x p3) b2 p4] kt pt] X.env).map (·.2) = [assign (.Tuple [.Subscript (.Name x p1) b1 p2, .Subscript (.Name x p3) b2 p4] kt pt) X.env] := by rfl) :
    PS X (.Assign [.Tuple [.Subscript (.Name x p1) b1 p2, .Subscript (.Name x p3) b2 p4] kt pt] e pos) (tS X.K z (gSet2 i f g1 g2)) :=
  (ps_asg he (pg_tup hc (pgs_cons (pg_sub (pe_var hN hv hd hcd) hb1 set_list ha1) (pgs_cons (pg_sub (pe_var hN hv hd hcd) hb2 set_list ha2) pgs_nil hs2) hs1) hn hst) hs hw h1).mono fun D σ H ⟨ρ, F, O, fl, ρ', R, e, q⟩ => by
    obtain ⟨⟨d, ρ1⟩, h1, e⟩ := bind_some e
    obtain ⟨⟨a, b⟩, h0, e⟩ := bind_some e
    obtain ⟨ds, h3, e⟩ := bind_some e
    obtain ⟨k1, h4, e⟩ := bind_some e
    obtain ⟨k, h5, e⟩ := bind_some e
    obtain ⟨j, h6, e⟩ := bind_some e
    obtain ⟨k2, h7, e⟩ := bind_some e
    obtain ⟨k', h8, e⟩ := bind_some e
    obtain ⟨es, h9, e⟩ := bind_some e
    obtain ⟨j', h10, e⟩ := map_some e
    cases e
    have h0 := twoD_of h0
    have h5 := intD_of h5
    have h8 := intD_of h8
    subst h5
    subst h8
    refine ⟨ρ, F, O, d, ρ1, R, h1, fun v F1 H1 R1 s1 r1 => ?_⟩
    have h0 : d = .tuple [a, b] := h0
    subst h0
    cases r1 with
    | tup hq t =>
      cases t with
      | cons ra t =>
        cases t with
        | cons rb t =>
          cases t
          obtain ⟨p, vs, v1, _⟩ := ownL_of R1 h3
          refine ⟨_, _, rfl, sameT R1.sub (sqT_of hq), rfl, _, _, rfl, ?_⟩
          refine ⟨_, v1, ρ1, F1, O, _, R1, h4, fun w H2 sm r2 => ?_⟩
          cases r2
          have R2 := R1.grow sm
          obtain ⟨p', vs', t1, t2, t3, t4, _⟩ := ownL_of R2 h3
          have e1 := v1.symm.trans t1
          cases e1
          have R3 := R2.putL h3 v1 (t4.set j (ra.mono (same_ext R1.sub)))
          refine ⟨p, vs', _, j, rfl, rfl, t3, by rw [t4.length]; exact h6, _, _, rfl, ?_⟩
          refine ⟨_, v1, _, _, O, _, R3, h7, fun w2 H3 sm3 r3 => ?_⟩
          cases r3
          have R4 := R3.grow sm3
          obtain ⟨p', vs3, t1, t2, t3, t4, _⟩ := ownL_of R4 h9
          have e1 := v1.symm.trans t1
          cases e1
          have m3 := (same_ext (F := F1) R1.sub (H' := H2)).trans (same_ext R3.sub (H' := H3))
          exact ⟨p, vs3, _, j', rfl, rfl, t3, by rw [t4.length]; exact h10, rfl, q σ _ _ O (R4.putL h9 v1 (t4.set j' (rb.mono m3))) (s1.same.trans m3)⟩
end DL

namespace DL
open PySem PySem.Spec PyProof.Rows L2
/-! ### x + e, x a list of one's own: a new list of one's own -/
def wCatE (ds : List D) : D → Option (List D)
  | .list es => if ds.length + es.length ≤ 1000000 then some (ds ++ es) else none
  | _ => none
def wCatO (i : Nat) (f : Env → Option (D × Env)) : Env → Option (E × Env) := fun ρ => (ownL ρ[i]?).bind fun _ => (f ρ).bind fun q => (ownL q.2[i]?).bind fun ds => (wCatE ds q.1).map fun es => (.own (.list es), q.2)
theorem w_catO (i : Nat) {X : Cx} {z : Z} {x : Str} {b : Expr} {f : Env → Option (D × Env)} {p pos : Pos} (hb : PE X b (tR X.K z f)) (hN : X.N[i]? = some x := by rfl) (hv : Vis X.env.scope x := by first | exact Or.inl rfl | exact Or.inr (Or.inl rfl) | exact Or.inr (Or.inr rfl)) (hd : (x == ("__debug__" : Str)) = false := by decide)
    (hcd : (x == ("__classdict__" : Str)) = false := by decide) : PE X (.BinOp (.Name x p) .Add b pos) (tW X.K z (wCatO i f)) :=
  (pe_op op_catL (pe_var hN hv hd hcd) hb).mono fun σ H Q ⟨ρ, F, O, en, ρ', R, e, q⟩ => by
    obtain ⟨d0, h0, e⟩ := bind_some e
    obtain ⟨⟨d, ρ1⟩, h1, e⟩ := bind_some e
    obtain ⟨ds, h2, e⟩ := bind_some e
    obtain ⟨es, h3, e⟩ := map_some e
    cases e
    obtain ⟨p, vs, s1, _⟩ := ownL_of R h0
    refine ⟨_, s1, ρ, F, O, d, ρ1, R, h1, fun y F1 H1 R1 k1 r1 => ?_⟩
    obtain ⟨p', vs', t1, t2, t3, t4, _⟩ := ownL_of R1 h2
    have e1 := s1.symm.trans t1
    cases e1
    have h3 : wCatE ds d = some es := h3
    unfold wCatE at h3
    split at h3
    · split at h3
      · next hl =>
        cases h3
        cases r1 with
        | lst h t =>
          have l1 := t4.length
          have l2 := t.length
          exact ⟨p, _, vs', _, rfl, rfl, SqL.of t3, R1.sub.seq h, leM (by omega), fun p2 hp => fin_own R1 k1 q (t4.append t) hp⟩
      · cases h3
    · cases h3
end DL

namespace DL
open PySem PySem.Spec PyProof.Rows L2
/-! ### str(i) -/
def oStr : List D → Option D
  | [.int i] => if i.natAbs.log2 < 1920 then some (.str (Str.ofString (toString i))) else none
  | _ => none
def rStrI : List V → Hp → VK → Prop := fun xs H Q => ∃ i, xs = [.int i] ∧ i.natAbs.log2 < 1920 ∧ Q (.str (Str.ofString (toString i))) H
theorem w_str {K : PySem.W.Frag} : OpN K rStrI oStr := ⟨fun F H xs as d Q s ra e q => by
  unfold oStr at e
  split at e
  · split at e
    · next hl =>
      cases e
      cases ra with
      | cons r t =>
        cases t
        cases r
        exact ⟨_, rfl, hl, done s q (.str _)⟩
    · cases e
  · cases e⟩
theorem call_strI {X : Cx} : CallR X (.type "str") rStrI := call_str_int
end DL

namespace DL
open PySem PySem.Spec PyProof.Rows L2
/-! ### for work, value in [(def, e), ..]: a local that holds a def -/
inductive FnAll (K : PySem.W.Frag) (F : Hp) : List V → List Addr → List D → Prop
  | nil : FnAll K F [] [] []
  | cons {p a : Addr} {w : V} {vs : List V} {as : List Addr} {d : D} {ds : List D} : F p = some (.tup [.ref a, w]) → Rep K F w d → FnAll K F vs as ds → FnAll K F (.ref p :: vs) (a :: as) (d :: ds)
theorem FnAll.mono {K : PySem.W.Frag} {F F' : Hp} (s : Same F F') : ∀ {vs : List V} {as : List Addr} {ds : List D}, FnAll K F vs as ds → FnAll K F' vs as ds
  | _, _, _, .nil => .nil
  | _, _, _, .cons h r t => .cons (s _ _ h) (r.mono s) (t.mono s)
theorem FnAll.len {K : PySem.W.Frag} {F : Hp} : ∀ {vs : List V} {as : List Addr} {ds : List D}, FnAll K F vs as ds → vs.length = ds.length ∧ as.length = ds.length
  | _, _, _, .nil => ⟨rfl, rfl⟩
  | _, _, _, .cons _ _ t => ⟨congrArg (· + 1) t.len.1, congrArg (· + 1) t.len.2⟩
theorem FnAll.get {K : PySem.W.Frag} {F : Hp} : ∀ {vs : List V} {as : List Addr} {ds : List D} {i : Nat} {v : V}, FnAll K F vs as ds → vs[i]? = some v → ∃ p a w d, v = .ref p ∧ as[i]? = some a ∧ ds[i]? = some d ∧ F p = some (.tup [.ref a, w]) ∧ Rep K F w d
  | _, _, _, _, _, .nil, e => by simp at e
  | _, _, _, 0, _, .cons h r t, e => by
    simp at e
    subst e
    exact ⟨_, _, _, _, rfl, rfl, rfl, h, r⟩
  | _, _, _, i + 1, _, .cons _ _ t, e => by
    obtain ⟨p, a, w, d, h1, h2, h3, h4⟩ := FnAll.get (i := i) t (by simpa using e)
    exact ⟨p, a, w, d, h1, by simpa using h2, by simpa using h3, h4⟩
def tFs (K : PySem.W.Frag) (z : Z) (as : List Addr) (f : Env → Option (List D)) : TA := fun σ H Q => ∃ ρ F O ds, Rel K z ρ σ F H O ∧ f ρ = some ds ∧ ∀ vs H', Same H H' → FnAll K (ext F H H') vs as ds → Q vs H'
def gLoopF (i k : Nat) (g : Gs) : Nat → List Addr → List D → Gs
  | j, a :: as, d :: ds, ρ => (g ((ρ.set i (some (.fn j a))).set k (some (.sh d)))).bind fun p => match p.1 with
    | .nx => gLoopF i k g (j + 1) as ds p.2
    | .ct => gLoopF i k g (j + 1) as ds p.2
    | .bk => some (.nx, p.2)
    | .ret d => some (.ret d, p.2)
  | _, _, _, ρ => some (.nx, ρ)
def gForF (i k : Nat) (as : List Addr) (f : Env → Option (List D)) (g : Gs) : Gs := fun ρ => (f ρ).bind fun ds => if ds.length ≤ 1000 then gLoopF i k g 0 as ds ρ else none
section
variable {X : Cx} {z : Z}
theorem f_nil : PA X [] (tFs X.K z [] cNil) := pa_nil.mono fun σ H Q ⟨ρ, F, O, ds, R, e, q⟩ => by
  cases e
  exact q [] H (Same.refl _) .nil
theorem f_cons {x : Str} {a : Addr} {p pos : Pos} {k} {e : Expr} {es : List Expr} {as : List Addr} {f : Env → Option D} {g : Env → Option (List D)} (hg : Gl X x) (hm : X.mg x = some (.ref a)) (he : PE X e (tP X.K z f)) (h : PA X es (tFs X.K z as g)) (hd : (x == ("__debug__" : Str)) = false := by decide)
    (h1 : starEach [.Name x p, e] X.env = (false, eval (.Name x p) X.env) :: starEach [e] X.env := by rfl) (h2 : starEach [e] X.env = (false, eval e X.env) :: starEach [] X.env := by rfl)
    (hs : starEach (.Tuple [.Name x p, e] k pos :: es) X.env = (false, eval (.Tuple [.Name x p, e] k pos) X.env) :: starEach es X.env := by rfl) : PA X (.Tuple [.Name x p, e] k pos :: es) (tFs X.K z (a :: as) (cCons f g)) :=
  (pa_cons (pe_tup (pa_cons (pe_glob (v := .ref a) hg hm rfl hd) (pa_cons he pa_nil h2) h1)) h hs).mono fun σ H Q ⟨ρ, F, O, ds, R, e, q⟩ => by
    obtain ⟨d, h1, e⟩ := bind_some e
    obtain ⟨dr, h2, e⟩ := bind_some e
    cases e
    refine ⟨ρ, F, O, d, R, h1, fun w H1 s1 r1 => ⟨le1000 (by show 2 ≤ 1000; decide), fun p hp => ?_⟩⟩
    have R1 := R.grow s1
    have sp := same_new (o := .tup [.ref a, w]) hp
    have R2 := R1.grow sp
    refine ⟨ρ, _, O, dr, R2, h2, fun vs H2 s2 t => q _ H2 ((s1.trans sp).trans s2) ?_⟩
    have s12 := s1.trans sp
    rw [ext_ext s1 sp, ext_ext s12 s2] at t
    have hF : ext F H H2 p = some (.tup [.ref a, w]) := by
      unfold ext
      have hH : H p = none := by
        cases c : H p with
        | none => rfl
        | some o =>
          have := s1 _ _ c
          rw [hp] at this
          cases this
      rw [hH]
      exact s2 _ _ upd_same
    refine .cons hF ?_ t
    have m := r1.mono (F' := ext F H H2) (by
      rw [← ext_ext s1 (sp.trans s2)]
      exact same_ext R1.sub)
    exact m
theorem s_forF (i k : Nat) {x y : Str} {px py pt pos p2 : Pos} {kt} {es : List Expr} {body : List Stmt} {as : List Addr} {f : Env → Option (List D)} {g : Gs} (hc : X.calm = true) (hN : X.N.Nodup) (h : PA X es (tFs X.K z as f)) (hb : PSs X body (tS X.K z g)) (hp : PassesOwn (model X.prog X.w) X.A X.env X.xe) (hi : X.N[i]? = some x := by rfl) (hj : X.N[k]? = some y := by rfl)
    (hx : Loc X.env.scope x := by first | exact Or.inl rfl | exact Or.inr rfl) (hy : Loc X.env.scope y := by first | exact Or.inl rfl | exact Or.inr rfl) (hfx : X.fn x = true ∨ X.env.scope.names.lookup x = some .local := by first | exact .inl rfl | exact .inr rfl) (hfy : X.fn y = true ∨ X.env.scope.names.lookup y = some .local := by first | exact .inl rfl | exact .inr rfl)
    (hn : (assignEach [.Name x px, .Name y py] X.env).length = 2 := by rfl) (hst : (assignEach [.Name x px, .Name y py] X.env).findIdx? (·.1) = none := by rfl)
    (hm1 : (assignEach [.Name x px, .Name y py] X.env).map (·.2) = assign (.Name x px) X.env :: (assignEach [.Name y py] X.env).map (·.2) := by rfl) (hm2 : (assignEach [.Name y py] X.env).map (·.2) = assign (.Name y py) X.env :: (assignEach [] X.env).map (·.2) := by rfl)
    (hs : ∀ x, foldedSetIterable (.List es p2) X.env x = pure x := by intro _; rfl) : PS X (.For (.Tuple [.Name x px, .Name y py] kt pt) (.List es p2) body [] pos) (tS X.K z (gForF i k as f g)) :=
  (ps_for hp hc (pi_list (pe_lst h)) (pg_tup hc (pgs_cons (pg_name hN hi hx hfx) (pgs_cons (pg_name hN hj hy hfy) pgs_nil hm2) hm1) hn hst) hb hs).mono fun D σ H ⟨ρ, F, O, fl, ρ', R, e, q⟩ => by
    obtain ⟨ds, h1, h2⟩ := bind_some e
    by_cases hl : ds.length ≤ 1000
    case neg =>
      rw [if_neg hl] at h2
      cases h2
    rw [if_pos hl] at h2
    refine ⟨ρ, F, O, ds, R, h1, fun vs H1 s1 t => ⟨le1000 (by rw [t.len.1]; exact hl), fun p hp => ?_⟩⟩
    have R1 := R.grow s1
    have sp := same_new (o := .lst vs) hp
    have R2 := R1.grow sp
    have t := t.mono (same_ext R1.sub (H' := upd H1 p (.lst vs)))
    obtain ⟨F1, hF1⟩ : ∃ F1, F1 = ext (ext F H H1) H1 (upd H1 p (.lst vs)) := ⟨_, rfl⟩
    rw [← hF1] at R2 t
    have sF : Same F F1 := by
      rw [hF1]
      exact (same_ext R.sub).trans (same_ext R1.sub)
    have hS : SqL X.K F1 p vs := by
      rw [hF1, ext_new R1.sub hp]
      exact .of upd_same
    obtain ⟨l1, l2⟩ := t.len
    refine ⟨p, rfl, ⟨vs, R2.sub.seq hS⟩, fun j m σ H => m = ds.length - j ∧ j ≤ ds.length ∧ ∃ ρ2 F2 O2, Rel X.K z ρ2 σ F2 H O2 ∧ Same F1 F2 ∧ gLoopF i k g j (as.drop j) (ds.drop j) ρ2 = some (fl, ρ'), ⟨ds.length, by simp, Nat.zero_le _, ρ, F1, O, R2, Same.refl _, h2⟩, ?_⟩
    rintro j m σ2 H2 ⟨rfl, hj, ρ2, F2, O2, R3, s3, e2⟩
    by_cases hlt : j < ds.length
    · have ed : ds.drop j = ds[j] :: ds.drop (j + 1) := by rw [List.drop_eq_getElem_cons hlt]
      have ea : as.drop j = (as[j]'(by omega)) :: as.drop (j + 1) := by rw [List.drop_eq_getElem_cons (by omega)]
      rw [ed, ea] at e2
      obtain ⟨⟨fl4, ρ4⟩, e5, e6⟩ := bind_some e2
      have hv : vs[j]? = some (vs[j]'(by omega)) := List.getElem?_eq_getElem _
      refine .inr ⟨⟨vs, _, (R3.sub).seq (s3.seq hS), hv⟩, fun σ' H' => ∃ ρ2 F2 O2, Rel X.K z ρ2 σ' F2 H' O2 ∧ Same F1 F2 ∧ gLoopF i k g (j + 1) (as.drop (j + 1)) (ds.drop (j + 1)) ρ2 = some (fl, ρ'), fun σ' H' n => ⟨ds.length - (j + 1), by omega, rfl, by omega, n⟩, fun x H' ⟨ex, yx⟩ => ?_⟩
      subst ex
      have yx := yx vs ((R3.sub).seq (s3.seq hS))
      obtain ⟨pp, a, w, d, g1, g2, g3, g4, g5⟩ := (t.mono s3).get yx
      have ga : as[j]'(by omega) = a := by
        rw [List.getElem?_eq_getElem (by omega)] at g2
        exact Option.some.inj g2
      have gd : ds[j] = d := by
        rw [List.getElem?_eq_getElem hlt] at g3
        exact Option.some.inj g3
      rw [ga, gd] at e5
      subst g1
      have R4 := R3.setE (i := i) (e := .fn j a) (v := .ref a) (as := []) ⟨rfl, rfl⟩ fun a ha => (nomatch ha)
      have R5 := R4.setD (i := k) g5
      refine ⟨pp, [.ref a, w], rfl, sameT R3.sub (sqT_of g4), rfl, .ref a, [w], rfl, w, [], rfl, rfl, ?_⟩
      refine ⟨_, F2, _, fl4, ρ4, R5, e5, ?_⟩
      cases fl4 with
      | nx => exact fun σ6 F6 H6 O6 R6 s6 => ⟨ρ4, F6, O6, R6, s3.trans s6, e6⟩
      | ct => exact fun σ6 F6 H6 O6 R6 s6 => ⟨ρ4, F6, O6, R6, s3.trans s6, e6⟩
      | bk =>
        cases e6
        exact fun σ6 F6 H6 O6 R6 s6 => q σ6 F6 H6 O6 R6 ((sF.trans s3).trans s6)
      | ret d =>
        cases e6
        exact fun v σ6 F6 H6 O6 R6 s6 r => q v σ6 F6 H6 O6 R6 ((sF.trans s3).trans s6) r
    · have ei : j = ds.length := by omega
      subst ei
      rw [List.drop_length] at e2
      have e2 : some (Fl.nx, ρ2) = some (fl, ρ') := by
        cases ca : as.drop ds.length with
        | nil =>
          rw [ca] at e2
          exact e2
        | cons a r =>
          rw [ca] at e2
          exact e2
      cases e2
      exact .inl ⟨⟨vs, R3.sub.seq (s3.seq hS), by omega⟩, q σ2 F2 H2 O2 R3 (sF.trans s3)⟩
/-! ### for work in [def, def, ..] -/
def gLoopN (i : Nat) (g : Gs) : Nat → List Addr → Gs
  | _, [], ρ => some (.nx, ρ)
  | j, a :: as, ρ => (g (ρ.set i (some (.fn j a)))).bind fun p => match p.1 with
    | .nx => gLoopN i g (j + 1) as p.2
    | .ct => gLoopN i g (j + 1) as p.2
    | .bk => some (.nx, p.2)
    | .ret d => some (.ret d, p.2)
def gForN (i : Nat) (as : List Addr) (g : Gs) : Gs := fun ρ => if as.length ≤ 1000 then gLoopN i g 0 as ρ else none
def tNs (as : List Addr) : TA := fun _ H Q => Q (as.map V.ref) H
theorem n_nil : PA X [] (tNs []) := pa_nil.mono fun σ H Q q => q
theorem n_cons {x : Str} {a : Addr} {p : Pos} {es : List Expr} {as : List Addr} (hg : Gl X x) (hm : X.mg x = some (.ref a)) (h : PA X es (tNs as)) (hd : (x == ("__debug__" : Str)) = false := by decide)
    (hs : starEach (.Name x p :: es) X.env = (false, eval (.Name x p) X.env) :: starEach es X.env := by rfl) : PA X (.Name x p :: es) (tNs (a :: as)) :=
  (pa_cons (pe_glob (v := .ref a) hg hm rfl hd) h hs).mono fun σ H Q q => q
theorem s_forN (i : Nat) {x : Str} {px pos p2 : Pos} {es : List Expr} {body : List Stmt} {as : List Addr} {g : Gs} (hc : X.calm = true) (hN : X.N.Nodup) (h : PA X es (tNs as)) (hb : PSs X body (tS X.K z g)) (hp : PassesOwn (model X.prog X.w) X.A X.env X.xe) (hi : X.N[i]? = some x := by rfl)
    (hx : Loc X.env.scope x := by first | exact Or.inl rfl | exact Or.inr rfl) (hfx : X.fn x = true ∨ X.env.scope.names.lookup x = some .local := by first | exact .inl rfl | exact .inr rfl)
    (hs : ∀ x, foldedSetIterable (.List es p2) X.env x = pure x := by intro _; rfl) : PS X (.For (.Name x px) (.List es p2) body [] pos) (tS X.K z (gForN i as g)) :=
  (ps_for hp hc (pi_list (pe_lst h)) (pg_name hN hi hx hfx) hb hs).mono fun D σ H ⟨ρ, F, O, fl, ρ', R, e, q⟩ => by
    have h2 : (if as.length ≤ 1000 then gLoopN i g 0 as ρ else none) = some (fl, ρ') := e
    by_cases hl : as.length ≤ 1000
    case neg =>
      rw [if_neg hl] at h2
      cases h2
    rw [if_pos hl] at h2
    refine ⟨le1000 (by rw [List.length_map]; exact hl), fun p hp => ?_⟩
    have sp := same_new (o := .lst (as.map V.ref)) hp
    have R2 := R.grow sp
    obtain ⟨F1, hF1⟩ : ∃ F1, F1 = ext F H (upd H p (.lst (as.map V.ref))) := ⟨_, rfl⟩
    rw [← hF1] at R2
    have sF : Same F F1 := by
      rw [hF1]
      exact same_ext R.sub
    have hS : SqL X.K F1 p (as.map V.ref) := by
      rw [hF1, ext_new R.sub hp]
      exact .of upd_same
    refine ⟨p, rfl, ⟨_, R2.sub.seq hS⟩, fun j m σ H => m = as.length - j ∧ j ≤ as.length ∧ ∃ ρ2 F2 O2, Rel X.K z ρ2 σ F2 H O2 ∧ Same F1 F2 ∧ gLoopN i g j (as.drop j) ρ2 = some (fl, ρ'), ⟨as.length, by simp, Nat.zero_le _, ρ, F1, O, R2, Same.refl _, h2⟩, ?_⟩
    rintro j m σ2 H2 ⟨rfl, hj, ρ2, F2, O2, R3, s3, e2⟩
    by_cases hlt : j < as.length
    · have ea : as.drop j = as[j] :: as.drop (j + 1) := by rw [List.drop_eq_getElem_cons hlt]
      rw [ea] at e2
      obtain ⟨⟨fl4, ρ4⟩, e5, e6⟩ := bind_some e2
      have hv : (as.map V.ref)[j]? = some (.ref as[j]) := by
        rw [List.getElem?_map, List.getElem?_eq_getElem hlt]
        rfl
      refine .inr ⟨⟨_, _, (R3.sub).seq (s3.seq hS), hv⟩, fun σ' H' => ∃ ρ2 F2 O2, Rel X.K z ρ2 σ' F2 H' O2 ∧ Same F1 F2 ∧ gLoopN i g (j + 1) (as.drop (j + 1)) ρ2 = some (fl, ρ'), fun σ' H' n => ⟨as.length - (j + 1), by omega, rfl, by omega, n⟩, fun x H' ⟨ex, yx⟩ => ?_⟩
      subst ex
      have yx := yx _ ((R3.sub).seq (s3.seq hS))
      rw [hv] at yx
      have yx := Option.some.inj yx
      subst yx
      have R4 := R3.setE (i := i) (e := .fn j as[j]) (v := .ref as[j]) (as := []) ⟨rfl, rfl⟩ fun a ha => (nomatch ha)
      refine ⟨_, F2, _, fl4, ρ4, R4, e5, ?_⟩
      cases fl4 with
      | nx => exact fun σ6 F6 H6 O6 R6 s6 => ⟨ρ4, F6, O6, R6, s3.trans s6, e6⟩
      | ct => exact fun σ6 F6 H6 O6 R6 s6 => ⟨ρ4, F6, O6, R6, s3.trans s6, e6⟩
      | bk =>
        cases e6
        exact fun σ6 F6 H6 O6 R6 s6 => q σ6 F6 H6 O6 R6 ((sF.trans s3).trans s6)
      | ret d =>
        cases e6
        exact fun v σ6 F6 H6 O6 R6 s6 r => q v σ6 F6 H6 O6 R6 ((sF.trans s3).trans s6) r
    · have ei : j = as.length := by omega
      subst ei
      rw [List.drop_length] at e2
      cases e2
      exact .inl ⟨⟨_, R3.sub.seq (s3.seq hS), by rw [List.length_map]; exact Nat.le_refl _⟩, q σ2 F2 H2 O2 R3 (sF.trans s3)⟩
/-! ### work(e, ..) -/
def cCf (i : Nat) (ms : List (Addr × (List D → Option D))) (f : Env → Option (List D)) : Env → Option D := fun ρ => match ρ[i]? with
  | some (some (.fn j a)) => match ms[j]? with
    | some p => if p.1 = a then (f ρ).bind p.2 else none
    | none => none
  | _ => none
/-- a def at an address -/
def HeldP (P : Program) (w : World) (K : PySem.W.Frag) (mg : Str → Option Value) (base : Heap) (k : Nat) (x : Str) (p : Addr × (List D → Option D)) : Prop := ∃ (fd : FuncData) (ps : List Str), FnOk P w K mg base CX0 k p.1 fd ps (spP K p.2) ∧ mg x = some (.ref p.1) ∧ PySem.W.keepIn K (.ref p.1) = true ∧ Binds K fd ps []
theorem Cal.held {P : Program} {w : World} {K : PySem.W.Frag} {mg : Str → Option Value} {base : Heap} {k : Nat} {x : Str} {m : List D → Option D} (c : Cal P w K mg base k x (spP K m)) : ∃ a, HeldP P w K mg base k x (a, m) := by
  obtain ⟨f, fd, ps, h⟩ := c.ex
  exact ⟨f, fd, ps, h⟩
theorem HeldP.mg {P : Program} {w : World} {K : PySem.W.Frag} {mg : Str → Option Value} {base : Heap} {k : Nat} {x : Str} {p : Addr × (List D → Option D)} (c : HeldP P w K mg base k x p) : mg x = some (.ref p.1) := by
  obtain ⟨_, _, _, h, _⟩ := c
  exact h
theorem HeldP.le {P : Program} {w : World} {K : PySem.W.Frag} {mg : Str → Option Value} {base : Heap} {j k : Nat} {x : Str} {p : Addr × (List D → Option D)} (c : HeldP P w K mg base j x p) (h : j ≤ k) : HeldP P w K mg base k x p := by
  obtain ⟨fd, ps, F, r⟩ := c
  exact ⟨fd, ps, F.mono h, r⟩
theorem held_nil {P : Program} {w : World} {K : PySem.W.Frag} {mg : Str → Option Value} {base : Heap} {k : Nat} : ∀ q ∈ ([] : List (Addr × (List D → Option D))), ∃ y, HeldP P w K mg base k y q := fun _ h => nomatch h
theorem held_cons {P : Program} {w : World} {K : PySem.W.Frag} {mg : Str → Option Value} {base : Heap} {j k : Nat} {x : Str} {p : Addr × (List D → Option D)} {ms : List (Addr × (List D → Option D))} (c : HeldP P w K mg base j x p) (h : j ≤ k) (t : ∀ q ∈ ms, ∃ y, HeldP P w K mg base k y q) : ∀ q ∈ p :: ms, ∃ y, HeldP P w K mg base k y q := fun q hq => by
  rcases List.mem_cons.mp hq with e | hq
  · subst e
    exact ⟨x, c.le h⟩
  · exact t q hq
theorem q_callF {k i : Nat} {x : Str} {p pos : Pos} {e : Expr} {es : List Expr} {ms : List (Addr × (List D → Option D))} {f : Env → Option (List D)} (c : ∀ q ∈ ms, ∃ y, HeldP X.prog X.w X.K X.mg X.base k y q) (hr : Room k X.A) (ha : PA X (e :: es) (tPs X.K z f)) (hN : X.N[i]? = some x := by rfl)
    (hv : Vis X.env.scope x := by first | exact Or.inl rfl | exact Or.inr (Or.inl rfl) | exact Or.inr (Or.inr rfl)) (hdb : (x == ("__debug__" : Str)) = false := by decide) (hcd : (x == ("__classdict__" : Str)) = false := by decide)
    (he : starEach (e :: es) X.env = (false, eval e X.env) :: starEach es X.env := by rfl) (hpl : (backTo pos (starEach es X.env)).any (·.1) = false := by rfl) : PE X (.Call (.Name x p) (e :: es) [] pos) (tP X.K z (cCf i ms f)) := by
  refine ⟨fun pins s σ H Q I ⟨ρ, F, O, d, R, e, q⟩ => ?_⟩
  unfold cCf at e
  split at e
  · next j a hi =>
    split at e
    · next m hm =>
      split at e
      · next ea =>
        obtain ⟨ds, h4, h5⟩ := bind_some e
        obtain ⟨y, fd, ps, G, h1, h2, h3⟩ := c m (List.mem_of_getElem? hm)
        obtain ⟨v, e1, e2, e3⟩ := R.ent i _ hi
        subst e3 ea
        refine (pe_callL (i := i) (dvs := []) G hr hN hv h2 h3 .nil pass0 ha hdb hcd he hpl).run pins s σ H Q I ⟨e1, ρ, F, O, ds, R, h4, fun vs H1 s1 r => ?_⟩
        show spP X.K m.2 (vs ++ []) H1 Q E0
        rw [List.append_nil]
        refine ⟨_, ds, d, ⟨(R.grow s1).sub, (R.grow s1).tup⟩, r, h5, fun v H2 s2 r2 => ?_⟩
        rw [ext_ext s1 s2] at r2
        exact q v H2 (s1.trans s2) r2
      · cases e
    · cases e
  · cases e
end
end DL

namespace DL
open PySem PySem.Spec PyProof.Rows L2
/-! ### len(set(xs)), xs a list or a tuple of ints -/
def oLenS : D → Option D := fun d => (seqOf d).bind fun ds => (intsOf ds).bind fun ns => if ns.length ≤ 4000 then some (.int ((sset ns).length : Nat)) else none
section
variable {X : Cx} {z : Z}
theorem setR_len {w : World} {h : Heap} {a : Addr} {ns : List Int} {c : Nat} (R : SetR w h a (fun j => decide (j ∈ ns)) c) : c = (sset ns).length := by
  obtain ⟨o, es, ep, t, _, _, _, _, nd, mem, _, _, sz, _⟩ := R
  have a1 := nodupI_len _ (sset ns) nd fun k hk => sset_mem.mpr (of_decide_eq_true ((mem k).mpr hk))
  have a2 := nodupI_len (sset ns) _ ((sset_pw ns).imp fun {a b} q => by omega) fun k hk => (mem k).mp (decide_eq_true (sset_mem.mp hk))
  rw [List.length_map, Array.length_toList, sz] at a1
  have e0 : (es.toList.map L2.keyOf).length = c := by rw [List.length_map, Array.length_toList, sz]
  rw [e0] at a2
  omega
theorem sset_len (ns : List Int) : (sset ns).length ≤ ns.length := nodupI_len (sset ns) ns ((sset_pw ns).imp fun {a b} q => by omega) fun k hk => sset_mem.mp hk
def tLenSN (K : PySem.W.Frag) (ta : TE) : TE := fun σ H Q => ta σ H fun x H1 => ∃ (l : Addr) (ns : List Int), x = .ref l ∧ (SqL K H1 l (ns.map V.int) ∨ SqT K H1 l (ns.map V.int)) ∧ ns.length ≤ 4000 ∧ Q (.int ((sset ns).length : Nat)) H1
theorem pe_lenSN {a : Expr} {ta : TE} {p p2 q pos : Pos} (hc : X.calm = true) (hg : Gl X "len") (hm : X.mg "len" = none) (hg2 : Gl X "set") (hm2 : X.mg "set" = none) (ha : PE X a ta)
    (na : starEach [a] X.env = (false, eval a X.env) :: starEach [] X.env := by rfl) : PE X (.Call (.Name "len" p) [.Call (.Name "set" p2) [a] [] q] [] pos) (tLenSN X.K ta) := by
  refine ⟨fun pins s σ H Q I h => ?_⟩
  refine Call_ (ld_blt I hg hm PySem.boot_len ?_)
  refine PyProof.Rows.callWith_builtin1 (PyProof.Rows.args_cons ?_ rfl) rfl rfl
  refine Call_ (ld_blt I hg2 hm2 PyProof.Rows.boot_set ?_)
  refine PyProof.Rows.callWith_type1 (PyProof.Rows.args_cons (thn (ha.run pins s σ H _ I h) fun v s1 ⟨x, H1, I1, r1, q1⟩ => PyProof.Rows.args_nil ?_) na) na rfl
  obtain ⟨l, ns, rfl, hq, h1, q1⟩ := q1
  cases r1
  have sl := sset_len ns
  have fin : ∀ (h' : Heap) (tk c : Nat), SetR X.w h' s1.heap.objs.size (fun j => decide (j ∈ ns)) c → (∀ b o, s1.heap.get? b = some o → h'.get? b = some o) →
      wpAny (model X.prog X.w) X.A (spliced (backTo pos (starEach [] X.env))) (fun vs s₂ => wpAny (model X.prog X.w) X.A (call (.builtin "len") (Value.ref s1.heap.objs.size :: vs)) (EP X pins σ Q) X.xe s₂) X.xe { s1 with heap := h', toks := tk } := fun h' tk c R hk => by
    refine PyProof.Rows.args_nil ?_
    have hn := setR_len R
    obtain ⟨o, es, ep, t, ho, hex, hd, _, _, _, _, hf, sz, _⟩ := R
    have I2 : Inv X pins σ H1 { s1 with heap := h', toks := tk } := I1.kept hk
    have e0 : es.size = (sset ns).length := sz.trans hn
    exact call_len_set ho hex hd hf (by omega) ⟨.int ((sset ns).length : Nat), H1, I2.tok _, ⟨_, by rw [e0]⟩, q1⟩
  rcases hq with hq | hq
  · obtain ⟨its, rv, pl, hz⟩ := I1.list hq
    exact setMade (P := X.prog) ns (I1.ok.hd hc) pl.isList (by simpa using rv.ints) (by unfold scanBound; omega) fun h' tk c R _ k => fin h' tk c R k
  · obtain ⟨its, rv, pl, hz⟩ := I1.tuple hq
    exact call_set_tupI (P := X.prog) ns (I1.ok.hd hc) pl (by simpa using rv.ints) (by unfold scanBound; omega) fun h' tk c R _ k => fin h' tk c R k
theorem q_lenS {a : Expr} {f : Env → Option D} {p p2 q pos : Pos} (hc : X.calm = true) (hg : Gl X "len") (hm : X.mg "len" = none) (hg2 : Gl X "set") (hm2 : X.mg "set" = none) (ha : PE X a (tP X.K z f))
    (na : starEach [a] X.env = (false, eval a X.env) :: starEach [] X.env := by rfl) : PE X (.Call (.Name "len" p) [.Call (.Name "set" p2) [a] [] q] [] pos) (tP X.K z (c1 oLenS f)) :=
  (pe_lenSN hc hg hm hg2 hm2 ha na).mono fun σ H Q ⟨ρ, F, O, d, R, e, q⟩ => by
    obtain ⟨d1, h1, h2⟩ := bind_some e
    obtain ⟨ds, h3, h2⟩ := bind_some h2
    obtain ⟨ns, h4, h2⟩ := bind_some h2
    split at h2
    · next hl =>
      cases h2
      have e3 := intsOf_eq h4
      subst e3
      refine ⟨ρ, F, O, d1, R, h1, fun v H1 s1 r1 => ?_⟩
      rcases seqOf_of h3 with k | k
      · subst k
        cases r1 with
        | lst ht t =>
          have et := t.ints
          subst et
          exact ⟨_, ns, rfl, .inl ((R.grow s1).sub.seq ht), hl, q _ H1 s1 (.int _)⟩
      · subst k
        cases r1 with
        | tup ht t =>
          have et := t.ints
          subst et
          exact ⟨_, ns, rfl, .inr (sameT (R.grow s1).sub (sqT_of ht)), hl, q _ H1 s1 (.int _)⟩
    · cases h2
end
end DL

namespace DL
open PySem PySem.Spec PyProof.Rows L2
/-! ### an own list is read by an expression whose result is another list of ints -/
def iv : D → Option Int
  | .int i => some i
  | _ => none
def isIntD : D → Bool
  | .int _ => true
  | _ => false
/-- a list of ints, not that one -/
def othL (es : List D) : D → Bool
  | .list ds => ds.all isIntD && decide (es.map iv ≠ ds.map iv)
  | _ => false
def ownLs (e : Option (Option E)) : Option (List D) := match e with
  | some (some (.own (.list es))) => some es
  | _ => none
def cBorL (i : Nat) (f : Env → Option D) : Env → Option D := fun ρ => (ownLs ρ[i]?).bind fun es => (f (ρ.set i (some (.sh (.list es))))).bind fun d => if othL es d then some d else none
section
variable {X : Cx} {z : Z}
theorem Rel.freezeC {K : PySem.W.Frag} {ρ : Env} {σ : L2.St} {F H : Hp} {O : Nat → List Addr} {i : Nat} {es : List D} (R : Rel K z ρ σ F H O) (h : ρ[i]? = some (some (.own (.list es)))) : ∃ p vs F', σ[i]? = some (some (.ref p)) ∧ H p = some (.lst vs) ∧ RepL K F vs es ∧ Same F F' ∧ (∀ a, a ≠ p → F' a = F a) ∧ Rel K z (ρ.set i (some (.sh (.list es)))) σ F' H (setO O i []) := by
  obtain ⟨v, hv, hE⟩ := R.ent i _ h
  obtain ⟨p, e1, e2, e3, vs, h1, h2⟩ := id hE
  subst e1
  have hF := (R.off i p (by rw [e2]; exact List.mem_cons_self)).1
  have s : Same F (upd F p (.lst vs)) := same_new hF
  have r : Rep K (upd F p (.lst vs)) (.ref p) (.list es) := .lst (.of (upd_same)) (h2.mono s)
  refine ⟨p, vs, upd F p (.lst vs), hv, h1, h2, s, fun a c => upd_ne c, ?_⟩
  refine ⟨by rw [List.length_set, R.len], ?_, ?_, ?_, ?_, ?_, R.oldH, R.keep, R.f0.trans s, fun a ws e => by
    by_cases q : a = p
    · rw [q, h1] at e
      cases e
    · rw [upd_ne q]
      exact R.tup a ws e⟩
  · intro a o ea
    by_cases q : a = p
    · rw [q, upd_same] at ea
      rw [q, h1]
      exact ea
    · rw [upd_ne q] at ea
      exact R.sub a o ea
  · intro j e' hj
    unfold setO
    by_cases q : j = i
    · subst q
      have hl : j < ρ.length := (List.getElem?_eq_some_iff.mp h).1
      rw [List.getElem?_set_self hl] at hj
      cases hj
      rw [if_pos rfl]
      exact ⟨_, hv, rfl, r⟩
    · rw [List.getElem?_set_ne (Ne.symm q)] at hj
      rw [if_neg q]
      obtain ⟨w, g1, g2⟩ := R.ent j e' hj
      exact ⟨w, g1, g2.mono s fun _ _ => rfl⟩
  · intro j a ha
    unfold setO at ha
    split at ha
    · cases ha
    · next q =>
      refine ⟨?_, (R.off j a ha).2⟩
      have ne : a ≠ p := fun x => q (R.apt j i a ha (by rw [e2, x]; exact List.mem_cons_self))
      rw [upd_ne ne]
      exact (R.off j a ha).1
  · intro j k a hj hk
    unfold setO at hj hk
    split at hj
    · cases hj
    · split at hk
      · cases hk
      · exact R.apt j k a hj hk
  · intro a g1 g2
    by_cases q : a = p
    · rw [q] at g1
      exact absurd e3 g1
    · rw [upd_ne q]
      exact R.old a g1 g2
theorem rep_ints {K : PySem.W.Frag} {G G' : Hp} : ∀ (vs : List V) (ds : List D), ds.all isIntD = true → RepL K G vs ds → RepL K G' vs ds
  | vs, [], _, h => by
    cases h
    exact .nil
  | vs, d :: ds, e, h => by
    rw [List.all_cons, Bool.and_eq_true] at e
    cases h with
    | cons h t =>
      cases d with
      | int i =>
        cases h
        exact .cons (.int i) (rep_ints _ _ e.2 t)
      | _ => exact nomatch e.1
theorem rep_iv {K : PySem.W.Frag} {G G' : Hp} : ∀ (vs : List V) (ds es : List D), ds.all isIntD = true → RepL K G vs ds → RepL K G' vs es → es.map iv = ds.map iv
  | vs, [], es, _, h, h' => by
    cases h
    cases h'
    rfl
  | vs, d :: ds, es, e, h, h' => by
    rw [List.all_cons, Bool.and_eq_true] at e
    cases h with
    | cons h t =>
      cases h' with
      | cons h' t' =>
        cases d with
        | int i =>
          cases h
          cases h'
          rw [List.map_cons, List.map_cons, rep_iv _ _ _ e.2 t t']
        | _ => exact nomatch e.1
theorem othL_rep {K : PySem.W.Frag} {F F' H H' : Hp} {p : Addr} {vs : List V} {es : List D} {v : V} {d : D} (h1 : H p = some (.lst vs)) (h2 : RepL K F vs es) (c : ∀ a, a ≠ p → F' a = F a) (sub : Same F' H) (ho : othL es d = true) (r : Rep K (ext F' H H') v d) : Rep K (ext F H H') v d := by
  cases d with
  | list ds =>
    unfold othL at ho
    rw [Bool.and_eq_true, decide_eq_true_eq] at ho
    cases r with
    | @lst a xs ds hs t =>
      have no : ∀ u : HO, Rd (ext F' H H') a u → u = .lst xs → Rd (ext F H H') a u := fun u hr eu => by
        by_cases q : a = p
        · subst q
          exfalso
          have ea : ext F' H H' a = F' a := by
            unfold ext
            rw [h1]
            rfl
          have e1 : F' a = some (.lst xs) := by
            rcases hr with hr | ⟨o, hr⟩
            · rw [← ea, hr, eu]
            · rw [ea] at hr
              have := sub _ _ hr
              rw [h1] at this
              cases this
          have e2 := sub _ _ e1
          rw [h1] at e2
          cases e2
          exact ho.2 (rep_iv _ _ _ ho.1 t h2)
        · have e : ext F' H H' a = ext F H H' a := by
            unfold ext
            rw [c a q]
          unfold Rd at hr ⊢
          rw [← e]
          exact hr
      refine .lst ?_ (rep_ints _ _ ho.1 t)
      rcases hs with hs | hs
      · exact .inl (no _ hs rfl)
      · exact .inr hs
  | _ => exact nomatch ho
theorem q_borL (i : Nat) {e : Expr} {f : Env → Option D} (h : PE X e (tP X.K z f)) : PE X e (tP X.K z (cBorL i f)) :=
  h.mono fun σ H Q ⟨ρ, F, O, d, R, e, q⟩ => by
    obtain ⟨es, e1, e⟩ := bind_some e
    obtain ⟨d', e2, e⟩ := bind_some e
    split at e
    · next ho =>
      cases e
      unfold ownLs at e1
      split at e1
      · next hi =>
        cases e1
        obtain ⟨p, vs, F', s1, s2, s3, s4, s5, R'⟩ := R.freezeC hi
        exact ⟨_, F', _, _, R', e2, fun v H' sm r => q v H' sm (othL_rep s2 s3 s5 R'.sub ho r)⟩
      · cases e1
    · cases e
end
end DL

namespace DL
open PySem PySem.Spec PyProof.Rows L2
/-! ### walks over the keys of a locked dict whose keys are tuples -/
def iDT (i : Nat) : Env → Option (List D) := fun ρ => match ρ[i]? with
  | some (some (.dt true ks)) => some (ks.map fun p => .tuple (p.1.map kD))
  | _ => none
section
variable {X : Cx} {z : Z}
theorem rep_keyL {K : PySem.W.Frag} {F : Hp} : ∀ k : List Key, RepL K F (k.map kV) (k.map kD)
  | [] => .nil
  | a :: k => .cons (rep_key a) (rep_keyL k)
theorem yld_tkeys {K : PySem.W.Frag} {F : Hp} {d : Addr} {o : Obj} {kvs : List (List Key × V)} {ks : List (List Key × D)} (hf : F d = some (.frz o (.dT kvs))) (e : kvs.map (·.1) = ks.map (·.1)) : Yld K (Itkt d o kvs) F (ks.map fun p => .tuple (p.1.map kD)) := by
  have el : kvs.length = ks.length := by
    have := congrArg List.length e
    rwa [List.length_map, List.length_map] at this
  refine ⟨fun i H s hi => ⟨s _ _ hf, ?_⟩, fun i F' H x H' dd s1 s2 t hy hd => ?_, fun i H s hi => ⟨s _ _ hf, ?_⟩⟩
  · rw [List.length_map] at hi
    omega
  · obtain ⟨e1, k, v, q, e2, e3, e4⟩ := hy
    subst e1 e3
    refine ⟨Same.refl _, ?_⟩
    rw [ext_self s2]
    have e5 : (kvs.map (·.1))[i]? = some k := by rw [List.getElem?_map, e2]; rfl
    have e6 : ks.map (fun p => PyData.tuple (p.1.map kD)) = (kvs.map (·.1)).map fun k => .tuple (k.map kD) := by rw [e, List.map_map]; rfl
    rw [e6, List.getElem?_map, e5] at hd
    cases hd
    exact .tup (t _ _ e4) (rep_keyL k)
  · rw [List.length_map] at hi
    omega
theorem iDT_of {K : PySem.W.Frag} {ρ : Env} {σ : L2.St} {F H : Hp} {O : Nat → List Addr} {i : Nat} {ds : List D} (R : Rel K z ρ σ F H O) (h : iDT i ρ = some ds) : ∃ p o kvs, σ[i]? = some (some (.ref p)) ∧ F p = some (.frz o (.dT kvs)) ∧ Yld K (Itkt p o kvs) F ds := by
  unfold iDT at h
  split at h
  · next hi =>
    cases h
    obtain ⟨v, hv, p, kvs, e1, e2, e3, lk⟩ := R.ent i _ hi
    subst e1
    rcases lk with ⟨l1, _⟩ | ⟨_, _, o, l2⟩
    · cases l1
    · exact ⟨p, o, kvs, hv, l2, yld_tkeys l2 e2⟩
  · cases h
theorem i_dt (i : Nat) {tg : Expr} {x : Str} {pos : Pos} (hN : X.N[i]? = some x := by rfl) (hv : Vis X.env.scope x := by first | exact Or.inl rfl | exact Or.inr (Or.inl rfl) | exact Or.inr (Or.inr rfl)) (hd : (x == ("__debug__" : Str)) = false := by decide)
    (hcd : (x == ("__classdict__" : Str)) = false := by decide) : PI X tg (.Name x pos) (tIP X.K z (iDT i)) := by
  refine ⟨fun pins s σ H Rr I ⟨ρ, F, O, ds, R, e, q⟩ => ?_⟩
  obtain ⟨p, o, kvs, s1, s2, s3⟩ := iDT_of R e
  exact (pi_keys (pe_var hN hv hd hcd)).run pins s σ H Rr I ⟨_, s1, p, o, rfl, .inr ⟨kvs, R.sub _ _ s2, q _ H (Same.refl _) (by rw [ext_self R.sub]; exact s3)⟩⟩
end
end DL

namespace DL
open PySem PySem.Spec PyProof.Rows L2
/-! ### list(d.values()), the keys tuples -/
def vvObj (a : Addr) : Obj := { cls := .type "dict_values", data := .fields #[.ref a] }
def vvO (p a : Addr) : HO := .ext fun h => h.get? p = some (vvObj a)
theorem vvO_ok {P : Program} {w : World} {H : Hp} {h : Heap} {p a : Addr} (e : h.get? p = some (vvObj a)) : ObjOk P w H h p (vvO p a) := ⟨e, ⟨_, e⟩, fun _ _ x k => k _ x⟩
def tVv (td : TE) : TE := fun σ H Q => td σ H fun x H1 => ∃ a kvs, x = .ref a ∧ Rd H1 a (.dT kvs) ∧ ∀ p, H1 p = none → Q (.ref p) (upd H1 p (vvO p a))
section
variable {X : Cx} {z : Z}
theorem pe_vv {e : Expr} {td : TE} {apos cpos : Pos} (he : PE X e td) (hb : attributeBase e "values" X.env (eval e X.env) = eval e X.env := by rfl) (hl : (apos.endLine == cpos.line) = true := by rfl) : PE X (.Call (.Attribute e "values" apos) [] [] cpos) (tVv td) := by
  refine ⟨fun pins s σ H Q I h => wpAny_Call_method (T := "dict") (id := "dict.values") hb rfl hl F.plainAttrs_dict F.slot_dict_values F.type_dict_values (thn (he.run pins s σ H _ I h) fun u s1 ⟨x, H1, I1, rx, a, kvs, ex, hd, q⟩ => ?_)⟩
  subst ex
  obtain rfl : u = Value.ref a := rx
  obtain ⟨z, hs, ks, pr, o, es, ep, ho, hx, hdt, he', hn⟩ := (show ObjOk X.prog X.w H1 s1.heap a (.dT kvs) from hd.ok I1.hok)
  refine ⟨⟨o, ho, hx.1⟩, fun b e => ?_, ?_⟩
  · cases e
    exact ⟨o, ho, hx.2.1⟩
  change wpAny _ _ (callWith cpos (.builtin "dict.values") [.ref a] [] []) _ X.xe s1
  refine method_meetsIn F.slot_dict_values F.entry_dict_values rfl (PySem.evalArgs_none ⟨rfl, ⟨o, ho, hx.1⟩, F.args_dict_values_1 _, _, meets_dict_values_raw a hs, ⟨es, ep, o, ho, hx, hdt⟩, ?_⟩)
  exact ⟨.ref _, _, I1.laid (t' := s1.toks) (fun b o q => Heap.get?_push_of_some _ q) (Nat.le_refl _) (vvO_ok (Heap.get?_push_size _ rfl)), rfl, q _ (I1.hok.fresh (Nat.le_refl _))⟩
def rListVv : List V → Hp → VK → Prop := fun xs H Q => ∃ (p a : Addr) (kvs : List (List Key × V)), xs = [.ref p] ∧ H p = some (vvO p a) ∧ Rd H a (.dT kvs) ∧ ∀ q, H q = none → Q (.ref q) (upd H q (.lst (kvs.map (·.2))))
theorem cr_listVv (hc : X.calm = true) : CallR X (.type "list") rListVv := by
  intro pins s σ H xs us Q I r h
  obtain ⟨p, a, kvs, rfl, hp, hd, q⟩ := h
  obtain rfl := Vals.ref1 r
  have view : s.heap.get? p = some (vvObj a) := (show ObjOk X.prog X.w H s.heap p (vvO p a) from I.hok p _ hp).1
  obtain ⟨hz, hs, ks, pr, o, es, ep, ho, hx, hdt, he, hn⟩ := (show ObjOk X.prog X.w H s.heap a (.dT kvs) from hd.ok I.hok)
  have l1 : es.size = ks.length := size_of_entries he
  have l2 : kvs.length = ks.length := Paired.length pr
  refine PySem.W.kdl_call (KdlSrc.rawValues (es := es) (ep := ep)) (I.ok.hd hc) ⟨⟨_, view, rfl, rfl⟩, o, ho, hx, hdt⟩ (by omega) fun h' tk acc' c' kp e it => ?_
  have rv : Vals (kvs.map (·.2)) acc'.toList := by
    refine vals_of_at (by
    have e0 : acc'.toList.length = acc'.size := by simp
    rw [List.length_map, e0, it.1]
    omega) fun j x u h1 h2 => ?_
    obtain ⟨hi, hv⟩ := it.2 j u (by rw [← Array.getElem?_toList]; exact h2)
    rw [List.getElem?_map] at h1
    obtain ⟨kv, h3, h4⟩ := map_some h1
    obtain ⟨b, hb, e1, e2, e3⟩ := paired_get pr h3
    have qe := entry_at he j
    rw [hb] at qe
    have qe : es[j]? = some (entryOfKey (tupleKind (mixKind X.prog X.w)) b) := qe
    rw [Array.getElem?_eq_getElem hi] at qe
    rw [hv, Option.some.inj qe, ← h4]
    exact e3
  exact ⟨.ref s.heap.objs.size, _, I.laid (t' := tk) (o := .lst (kvs.map (·.2))) kp (Nat.le_refl _) ⟨by rw [List.length_map]; omega, acc'.toList, c', rv, by rw [Array.toArray_toList]; exact e⟩, rfl, q _ (I.hok.fresh (Nat.le_refl _))⟩
def cVls (i : Nat) : Env → Option D := fun ρ => match ρ[i]? with
  | some (some (.dt _ ks)) => some (.list (ks.map (·.2)))
  | _ => none
theorem q_vls (i : Nat) {x : Str} {p p2 p3 q pos : Pos} (hc : X.calm = true) (hg : Gl X "list") (hm : X.mg "list" = none) (hN : X.N[i]? = some x := by rfl) (hv : Vis X.env.scope x := by first | exact Or.inl rfl | exact Or.inr (Or.inl rfl) | exact Or.inr (Or.inr rfl)) (hd : (x == ("__debug__" : Str)) = false := by decide)
    (hcd : (x == ("__classdict__" : Str)) = false := by decide)
    (nb : starEach [.Call (.Attribute (.Name x p3) "values" p2) [] [] q] X.env = (false, eval (.Call (.Attribute (.Name x p3) "values" p2) [] [] q) X.env) :: starEach [] X.env := by rfl) (hb : attributeBase (.Name x p3) "values" X.env (eval (.Name x p3) X.env) = eval (.Name x p3) X.env := by rfl) (hl : (p2.endLine == q.line) = true := by rfl) :
    PE X (.Call (.Name "list" p) [.Call (.Attribute (.Name x p3) "values" p2) [] [] q] [] pos) (tP X.K z (cVls i)) :=
  (pe_callTy (cr_listVv hc) hg hm bt_list (pa_cons (pe_vv (pe_var hN hv hd hcd) hb hl) pa_nil nb) (by decide) (by decide) nb).mono fun σ H Q ⟨ρ, F, O, d, R, e, q⟩ => by
    unfold cVls at e
    split at e
    · next l ks hi =>
      cases e
      obtain ⟨v, hv, p, kvs, e1, e2, e3, lk⟩ := R.ent i _ hi
      subst e1
      refine ⟨_, hv, p, kvs, rfl, lk.rd R.sub, fun p' hp => ⟨p', p, kvs, rfl, upd_same, rdMono (same_new hp) (lk.rd R.sub), fun q' hq => ?_⟩⟩
      have s : Same H (upd (upd H p' (vvO p' p)) q' (.lst (kvs.map (·.2)))) := (same_new hp).trans (same_new hq)
      refine q _ _ s (.lst (.of ?_) (e3.mono (same_ext R.sub)))
      have hH : H q' = none := by
        by_cases c : q' = p'
        · rw [c, upd_same] at hq
          cases hq
        · rw [upd_ne c] at hq
          exact hq
      unfold ext
      rw [hH, upd_same]
      rfl
    · cases e
end
end DL

namespace DL
open PySem PySem.Spec PyProof.Rows L2

/-! ### enumerate(zip(a, b)) -/
section
open Sem (wp)
/-- a zip: what it has handed out, whether it was found alive -/
abbrev IsZipG (h : Heap) (z TI TO : Addr) (f0 : Value) (fl : Bool) : Prop :=
  h.get? z = some { cls := .type "zip", dict := none, data := .fields #[f0, .bool fl, .bool false, .ref TI, .ref TO], slots := #[] }
/-- what a zip may have handed out -/
def Hand (f0 : Value) : Prop := f0 = .none ∨ ∃ T : Addr, f0 = rawInt T
section
variable {prog : Program} {w : World} {A : Around} {E : Value → Shared → Prop} {s : Shared} {z TI TO i1 i2 : Addr} {fp1 fp2 : List Addr} {n1 n2 i : Nat} {P1 P2 : Nat → Value → Prop} {St1 St2 : Nat → Heap → Prop} {a1 a2 : Value}
theorem wpAny_loadIfAlive {M : Model} {a : Addr} {Q : Option Obj → Shared → Prop} (h : Q (s.heap.get? a) s) : wpAny M A (loadIfAlive a) Q E s := fun _ _ _ => h
theorem zipG_free {fl : Bool} {f0 : Value} {Q : Bool → Shared → Prop} (hz : IsZipG s.heap z TI TO f0 fl) (hf : Hand f0)
    (h1 : Q true s) (h2 : ∀ h', IsZipG h' z TI TO f0 true → Heap.SameBut z s.heap h' → Q false { s with heap := h' }) :
    wpAny (model prog w) A (Builtin.SmallTypes.ownedTupleIsFree (.ref z)) Q E s := by
  obtain ⟨hp, g, d, tk0, os⟩ := s
  unfold Builtin.SmallTypes.ownedTupleIsFree
  rcases hf with hf | ⟨T, hf⟩
  · subst hf
    exact wpAny_bind (wpAny_field hz rfl (x := .none) rfl (wpAny_pure h1))
  · subst hf
    refine wpAny_bind (wpAny_field hz rfl (x := rawInt T) rfl ?_)
    show wpAny _ _ (loadIfAlive (Int.toNat (T : Nat)) >>= _) _ _ _
    rw [Int.toNat_natCast]
    refine wpAny_bind (wpAny_loadIfAlive ?_)
    cases q : (Shared.heap ⟨hp, g, d, tk0, os⟩).get? T with
    | none => exact wpAny_pure h1
    | some o =>
      simp only [Option.isNone_some, Bool.false_eq_true, if_false]
      refine wpAny_bind (wpAny_field hz rfl (x := .bool fl) rfl ?_)
      cases fl with
      | true =>
        exact wpAny_bind (wpAny_pure (wpAny_pure (h2 hp hz ⟨rfl, fun _ _ => rfl⟩)))
      | false =>
        refine wpAny_bind (wpAny_setField_rec hz (by simp) fun g0 hz0 hs0 => wpAny_pure (h2 g0 hz0 hs0))
theorem zipG_next_item {fl : Bool} {f0 : Value} {Q : Value → Shared → Prop} (S : ZipSep2 z TI TO i1 i2 fp1 fp2) (D1 : Draws prog w A i1 fp1 n1 P1 St1) (D2 : Draws prog w A i2 fp2 n2 P2 St2)
    (hz : IsZipG s.heap z TI TO f0 fl) (hf : Hand f0) (hTI : IsTupOf2 s.heap TI (.ref i1) (.ref i2)) (hTO : IsTupOf2 s.heap TO a1 a2) (st1 : St1 i s.heap) (st2 : St2 i s.heap) (hlt1 : i < n1) (hlt2 : i < n2)
    (hQ : ∀ x1 x2 h' tk f0' fl', P1 i x1 → P2 i x2 → Hand f0' → IsZipG h' z TI TO f0' fl' → (∃ a1 a2, IsTupOf2 h' TO a1 a2) → St1 (i + 1) h' → St2 (i + 1) h' → IsTupOf2 h' s.heap.objs.size x1 x2 → h'.objs.size = s.heap.objs.size + 1 →
      (∀ c o, c ≠ z → c ≠ TO → c ≠ i1 → c ≠ i2 → s.heap.get? c = some o → h'.get? c = some o) → Q (.ref s.heap.objs.size) { s with heap := h', toks := tk }) :
    wpAny (model prog w) A (Builtin.«zip.__next__» ⟨[.ref z], []⟩) (fun fin s' => ∃ v, fin = .done (.ret v) ∧ Q v s') E s := by
  obtain ⟨hp, g, d, tk0, os⟩ := s
  show wpAny _ _ (field (.ref z) 2 >>= _) _ _ _
  refine wpAny_bind (wpAny_field hz rfl (x := .bool false) rfl ?_)
  show wpAny _ _ (field (.ref z) 3 >>= _) _ _ _
  refine wpAny_bind (wpAny_field hz rfl (x := .ref TI) rfl ?_)
  refine wpAny_bind (wpAny_seqItems hTI rfl ?_)
  show wpAny _ _ (Builtin.SmallTypes.ownedTupleIsFree (.ref z) >>= _) _ _ _
  refine wpAny_bind (zipG_free hz hf ?_ fun hh hz' hs' => ?_)
  · simp only [if_true]
    refine wpAny_bind (wpAny_rule ?_)
    refine wpAny_bind (wpAny_field hz rfl (x := .ref TO) rfl ?_)
    refine wpAny_bind (wpAny_setField_rec hz (by simp) fun g0 hz0 hs0 => ?_)
    replace hz0 : IsZipG g0 z TI TO .ellipsis fl := hz0
    replace hs0 : Heap.SameBut z hp g0 := hs0
    refine wpAny_bind ?_
    simp only [List.zipIdx_cons, List.zipIdx_nil, List.forIn_cons, List.forIn_nil]
    refine wpAny_bind (wpAny_bind (wpAny_onRaise ?_))
    show wpAny _ _ (Builtin.SmallTypes.nextOf (.ref i1) >>= _) _ _ ⟨g0, g, d, tk0, os⟩
    refine wpAny_bind (D1.item i _ _ _ hlt1 (D1.over st1 hs0 S.zf1) fun x1 p1 tk1 hx1 sn1 hp1 => wpAny_pure ?_)
    replace hp1 : Heap.SameBut i1 g0 p1 := hp1
    have hU1 : IsTupOf2 p1 TO a1 a2 := hp1.extBut _ _ S.Ti1 (hs0.extBut _ _ S.TOz hTO)
    refine wpAny_bind (wpAny_seqItems (s := ⟨p1, g, d, tk1, os⟩) hU1 rfl ?_)
    refine wpAny_bind (updateSeq_IsTupOf2 (s := ⟨p1, g, d, tk1, os⟩) hU1 fun g1 hT1 hs1 => ?_)
    replace hT1 : IsTupOf2 g1 TO x1 a2 := hT1
    replace hs1 : Heap.SameBut TO p1 g1 := hs1
    refine wpAny_bind (wpAny_letGo (wpAny_pure ?_))
    refine wpAny_bind (wpAny_bind (wpAny_onRaise ?_))
    show wpAny _ _ (Builtin.SmallTypes.nextOf (.ref i2) >>= _) _ _ ⟨g1, g, d, tk1, os⟩
    refine wpAny_bind (D2.item i _ _ _ hlt2 (D2.over (D2.over (D2.over st2 hs0 S.zf2) hp1 S.sep1_2) hs1 S.Tf2) fun x2 p2 tk2 hx2 sn2 hp2 => wpAny_pure ?_)
    replace hp2 : Heap.SameBut i2 g1 p2 := hp2
    have hU2 : IsTupOf2 p2 TO x1 a2 := hp2.extBut _ _ S.Ti2 hT1
    refine wpAny_bind (wpAny_seqItems (s := ⟨p2, g, d, tk2, os⟩) hU2 rfl ?_)
    refine wpAny_bind (updateSeq_IsTupOf2 (s := ⟨p2, g, d, tk2, os⟩) hU2 fun g2 hT2 hs2 => ?_)
    replace hT2 : IsTupOf2 g2 TO x1 x2 := hT2
    replace hs2 : Heap.SameBut TO p2 g2 := hs2
    refine wpAny_bind (wpAny_letGo (wpAny_pure (wpAny_pure ?_)))
    refine wpAny_bind (wpAny_seqItems (s := ⟨g2, g, d, tk2, os⟩) hT2 rfl ?_)
    refine wpAny_bind (wpAny_newTuple ?_)
    have hsz : g2.objs.size = hp.objs.size := by rw [hs2.1, hp2.1, hs1.1, hp1.1, hs0.1]
    have hzz : IsZipG g2 z TI TO .ellipsis fl := (hs2.extBut _ _ S.TOz.symm (hp2.extBut _ _ S.zi2 (hs1.extBut _ _ S.TOz.symm (hp1.extBut _ _ S.zi1 hz0))))
    have hkk : ∀ c o, c ≠ z → c ≠ TO → c ≠ i1 → c ≠ i2 → hp.get? c = some o → g2.get? c = some o := fun c o cz cT c1 c2 e =>
      (hs2.extBut _ _ cT (hp2.extBut _ _ c2 (hs1.extBut _ _ cT (hp1.extBut _ _ c1 (hs0.extBut _ _ cz e)))))
    have hj1 : St1 (i + 1) g2 := (D1.over (D1.over (D1.over sn1 hs1 S.Tf1) hp2 S.sep2_1) hs2 S.Tf1)
    have hj2 : St2 (i + 1) g2 := (D2.over sn2 hs2 S.Tf2)
    have hzlt : z < g2.objs.size := Heap.lt_size hzz
    show wpAny _ _ (Builtin.SmallTypes.ownedTupleHandOut (.ref z) (.ref g2.objs.size) >>= _) _ _ ⟨g2.push { cls := .type "tuple", data := .seq #[x1, x2] }, g, d, tk2, os⟩
    refine wpAny_bind ?_
    unfold Builtin.SmallTypes.ownedTupleHandOut
    have hz₆ : IsZipG (g2.push { cls := .type "tuple", data := .seq #[x1, x2] }) z TI TO .ellipsis fl := Heap.get?_push_of_some _ hzz
    refine wpAny_bind (wpAny_setField_rec hz₆ (by simp) fun h₇ hz₇ hs₇ => ?_)
    replace hz₇ : IsZipG h₇ z TI TO (rawInt g2.objs.size) fl := hz₇
    refine wpAny_setField_rec hz₇ (by simp) fun h₈ hz₈ hs₈ => ?_
    replace hz₈ : IsZipG h₈ z TI TO (rawInt g2.objs.size) false := hz₈
    replace hs₇ : Heap.SameBut z (g2.push { cls := .type "tuple", data := .seq #[x1, x2] }) h₇ := hs₇
    replace hs₈ : Heap.SameBut z h₇ h₈ := hs₈
    have up : ∀ c o, c ≠ z → g2.get? c = some o → h₈.get? c = some o := fun c o c1 e => hs₈.extBut _ _ c1 (hs₇.extBut _ _ c1 (Heap.get?_push_of_some _ e))
    have hT₈ : IsTupOf2 h₈ g2.objs.size x1 x2 := hs₈.extBut _ _ (Nat.ne_of_gt hzlt) (hs₇.extBut _ _ (Nat.ne_of_gt hzlt) (Heap.get?_push_size _ rfl))
    have hz8 : h₈.objs.size = g2.objs.size + 1 := by rw [hs₈.1, hs₇.1, Heap.size_push]
    rw [hsz] at hz₈ hT₈ hz8
    refine wpAny_pure ⟨_, rfl, ?_⟩
    show Q (.ref g2.objs.size) ⟨h₈, g, d, tk2, os⟩
    rw [hsz]
    exact hQ x1 x2 h₈ tk2 _ _ hx1 hx2 (.inr ⟨_, rfl⟩) hz₈ ⟨_, _, up _ _ S.TOz hT2⟩ (D1.frame _ _ _ hj1 fun b hb o e => up b o (fun q => S.zf1 (q ▸ hb)) e) (D2.frame _ _ _ hj2 fun b hb o e => up b o (fun q => S.zf2 (q ▸ hb)) e) hT₈ hz8 fun c o cz cT c1 c2 e => up c o cz (hkk c o cz cT c1 c2 e)
  · replace hs' : Heap.SameBut z hp hh := hs'
    simp only [Bool.false_eq_true, if_false]
    refine wpAny_bind ?_
    simp only [← Array.forIn_toList, List.forIn_cons, List.forIn_nil]
    refine wpAny_bind (wpAny_bind (wpAny_holding ?_))
    show wpAny _ _ (Builtin.SmallTypes.nextOf (.ref i1) >>= _) _ _ ⟨hh, g, d, tk0, os⟩
    refine wpAny_bind (D1.item i _ _ _ hlt1 (D1.over st1 hs' S.zf1) fun x1 p1 tk1 hx1 sn1 hp1 => wpAny_pure (wpAny_pure ?_))
    replace hp1 : Heap.SameBut i1 hh p1 := hp1
    refine wpAny_bind (wpAny_bind (wpAny_holding ?_))
    show wpAny _ _ (Builtin.SmallTypes.nextOf (.ref i2) >>= _) _ _ ⟨p1, g, d, tk1, os⟩
    refine wpAny_bind (D2.item i _ _ _ hlt2 (D2.over (D2.over st2 hs' S.zf2) hp1 S.sep1_2) fun x2 p2 tk2 hx2 sn2 hp2 => wpAny_pure (wpAny_pure (wpAny_pure ?_)))
    replace hp2 : Heap.SameBut i2 p1 p2 := hp2
    show wpAny _ _ (newTuple [x1, x2] >>= _) _ _ ⟨p2, g, d, tk2, os⟩
    refine wpAny_bind (wpAny_newTuple ?_)
    have hsz : p2.objs.size = hp.objs.size := by rw [hp2.1, hp1.1, hs'.1]
    have hz2 : IsZipG p2 z TI TO f0 true := hp2.extBut _ _ S.zi2 (hp1.extBut _ _ S.zi1 hz')
    refine wpAny_pure ⟨_, rfl, ?_⟩
    show Q (.ref p2.objs.size) ⟨p2.push { cls := .type "tuple", data := .seq #[x1, x2] }, g, d, tk2, os⟩
    have up : ∀ c o, p2.get? c = some o → (p2.push { cls := .type "tuple", data := .seq #[x1, x2] }).get? c = some o := fun c o e => Heap.get?_push_of_some _ e
    have hTn : IsTupOf2 (p2.push { cls := .type "tuple", data := .seq #[x1, x2] }) hp.objs.size x1 x2 := by
      rw [← hsz]
      exact Heap.get?_push_size _ rfl
    have hszn : (p2.push { cls := .type "tuple", data := .seq #[x1, x2] }).objs.size = hp.objs.size + 1 := by rw [Heap.size_push, hsz]
    rw [hsz]
    exact hQ x1 x2 _ tk2 f0 true hx1 hx2 hf (up _ _ hz2) ⟨a1, a2, up _ _ (hp2.extBut _ _ S.Ti2 (hp1.extBut _ _ S.Ti1 (hs'.extBut _ _ S.TOz hTO)))⟩
      (D1.frame _ _ _ (D1.over sn1 hp2 S.sep2_1) fun b hb o e => up b o e) (D2.frame _ _ _ sn2 fun b hb o e => up b o e) hTn hszn
      fun c o cz cT c1 c2 e => up c o (hp2.extBut _ _ c2 (hp1.extBut _ _ c1 (hs'.extBut _ _ cz e)))
theorem zipG_next_end {fl : Bool} {f0 : Value} {Q : Fin → Shared → Prop} (S : ZipSep2 z TI TO i1 i2 fp1 fp2) (D1 : Draws prog w A i1 fp1 n1 P1 St1) (D2 : Draws prog w A i2 fp2 n2 P2 St2)
    (hz : IsZipG s.heap z TI TO f0 fl) (hf : Hand f0) (hTI : IsTupOf2 s.heap TI (.ref i1) (.ref i2)) (hTO : IsTupOf2 s.heap TO a1 a2) (st1 : St1 i s.heap) (st2 : St2 i s.heap) (hle1 : i ≤ n1) (hle2 : i ≤ n2) (hend : i = n1 ∨ i = n2)
    (hE : ∀ h' tk e, (∀ c o, c ≠ z → c ≠ TO → c ≠ i1 → c ≠ i2 → s.heap.get? c = some o → h'.get? c = some o) → (∃ o, h'.get? e = some o ∧ o.cls = .type "StopIteration") → E (.ref e) { s with heap := h', toks := tk }) :
    wpAny (model prog w) A (Builtin.«zip.__next__» ⟨[.ref z], []⟩) Q E s := by
  obtain ⟨hp, g, d, tk0, os⟩ := s
  show wpAny _ _ (field (.ref z) 2 >>= _) _ _ _
  refine wpAny_bind (wpAny_field hz rfl (x := .bool false) rfl ?_)
  show wpAny _ _ (field (.ref z) 3 >>= _) _ _ _
  refine wpAny_bind (wpAny_field hz rfl (x := .ref TI) rfl ?_)
  refine wpAny_bind (wpAny_seqItems hTI rfl ?_)
  show wpAny _ _ (Builtin.SmallTypes.ownedTupleIsFree (.ref z) >>= _) _ _ _
  refine wpAny_bind (zipG_free hz hf ?_ fun hh hz' hs' => ?_)
  · simp only [if_true]
    refine wpAny_bind (wpAny_rule ?_)
    refine wpAny_bind (wpAny_field hz rfl (x := .ref TO) rfl ?_)
    refine wpAny_bind (wpAny_setField_rec hz (by simp) fun g0 hz0 hs0 => ?_)
    replace hz0 : IsZipG g0 z TI TO .ellipsis fl := hz0
    replace hs0 : Heap.SameBut z hp g0 := hs0
    refine wpAny_bind ?_
    simp only [List.zipIdx_cons, List.zipIdx_nil, List.forIn_cons, List.forIn_nil]
    refine wpAny_bind (wpAny_bind (wpAny_onRaise ?_))
    show wpAny _ _ (Builtin.SmallTypes.nextOf (.ref i1) >>= _) _ _ ⟨g0, g, d, tk0, os⟩
    by_cases hlt1 : i < n1
    · refine wpAny_bind (D1.item i _ _ _ hlt1 (D1.over st1 hs0 S.zf1) fun x1 p1 tk1 hx1 sn1 hp1 => wpAny_pure ?_)
      replace hp1 : Heap.SameBut i1 g0 p1 := hp1
      have hU1 : IsTupOf2 p1 TO a1 a2 := hp1.extBut _ _ S.Ti1 (hs0.extBut _ _ S.TOz hTO)
      refine wpAny_bind (wpAny_seqItems (s := ⟨p1, g, d, tk1, os⟩) hU1 rfl ?_)
      refine wpAny_bind (updateSeq_IsTupOf2 (s := ⟨p1, g, d, tk1, os⟩) hU1 fun g1 hT1 hs1 => ?_)
      replace hT1 : IsTupOf2 g1 TO x1 a2 := hT1
      replace hs1 : Heap.SameBut TO p1 g1 := hs1
      refine wpAny_bind (wpAny_letGo (wpAny_pure ?_))
      have hi2 : i = n2 := by omega
      refine wpAny_bind (wpAny_bind (wpAny_onRaise ?_))
      show wpAny _ _ (Builtin.SmallTypes.nextOf (.ref i2) >>= _) _ _ ⟨g1, g, d, tk1, os⟩
      refine wpAny_bind (D2.done ⟨g1, g, d, tk1, os⟩ _ _ (by rw [← hi2]; exact (D2.over (D2.over (D2.over st2 hs0 S.zf2) hp1 S.sep1_2) hs1 S.Tf2)) fun q e hq he => ?_)
      replace hq : Heap.ExtBut i2 g1 q := hq
      obtain ⟨oe, hoe, hce⟩ := he
      replace hoe : q.get? e = some oe := hoe
      have hzq : IsZipG q z TI TO .ellipsis fl := hq _ _ S.zi2 (hs1.extBut _ _ S.TOz.symm (hp1.extBut _ _ S.zi1 hz0))
      have hez : e ≠ z := fun x => by subst x; rw [hzq] at hoe; cases hoe; simp at hce
      refine wpAny_setField_rec (s := ⟨q, g, d, tk1, os⟩) hzq (by simp) fun q' _ hq' => ?_
      replace hq' : Heap.SameBut z q q' := hq'
      exact hE q' tk1 e (fun c o cz cT c1 c2 x => hq'.extBut _ _ cz (hq _ _ c2 (hs1.extBut _ _ cT (hp1.extBut _ _ c1 (hs0.extBut _ _ cz x))))) ⟨oe, hq'.extBut _ _ hez hoe, hce⟩
    · have hi1 : i = n1 := by omega
      refine wpAny_bind (D1.done ⟨g0, g, d, tk0, os⟩ _ _ (by rw [← hi1]; exact (D1.over st1 hs0 S.zf1)) fun q e hq he => ?_)
      replace hq : Heap.ExtBut i1 g0 q := hq
      obtain ⟨oe, hoe, hce⟩ := he
      replace hoe : q.get? e = some oe := hoe
      have hzq : IsZipG q z TI TO .ellipsis fl := hq _ _ S.zi1 hz0
      have hez : e ≠ z := fun x => by subst x; rw [hzq] at hoe; cases hoe; simp at hce
      refine wpAny_setField_rec (s := ⟨q, g, d, tk0, os⟩) hzq (by simp) fun q' _ hq' => ?_
      replace hq' : Heap.SameBut z q q' := hq'
      exact hE q' tk0 e (fun c o cz cT c1 c2 x => hq'.extBut _ _ cz (hq _ _ c1 (hs0.extBut _ _ cz x))) ⟨oe, hq'.extBut _ _ hez hoe, hce⟩
  · replace hs' : Heap.SameBut z hp hh := hs'
    simp only [Bool.false_eq_true, if_false]
    refine wpAny_bind ?_
    simp only [← Array.forIn_toList, List.forIn_cons, List.forIn_nil]
    refine wpAny_bind (wpAny_bind (wpAny_holding ?_))
    show wpAny _ _ (Builtin.SmallTypes.nextOf (.ref i1) >>= _) _ _ ⟨hh, g, d, tk0, os⟩
    by_cases hlt1 : i < n1
    · refine wpAny_bind (D1.item i _ _ _ hlt1 (D1.over st1 hs' S.zf1) fun x1 p1 tk1 hx1 sn1 hp1 => wpAny_pure (wpAny_pure ?_))
      replace hp1 : Heap.SameBut i1 hh p1 := hp1
      have hi2 : i = n2 := by omega
      refine wpAny_bind (wpAny_bind (wpAny_holding ?_))
      show wpAny _ _ (Builtin.SmallTypes.nextOf (.ref i2) >>= _) _ _ ⟨p1, g, d, tk1, os⟩
      refine wpAny_bind (D2.done ⟨p1, g, d, tk1, os⟩ _ _ (by rw [← hi2]; exact (D2.over (D2.over st2 hs' S.zf2) hp1 S.sep1_2)) fun q e hq he => ?_)
      replace hq : Heap.ExtBut i2 p1 q := hq
      exact hE q tk1 e (fun c o cz cT c1 c2 x => hq _ _ c2 (hp1.extBut _ _ c1 (hs'.extBut _ _ cz x))) he
    · have hi1 : i = n1 := by omega
      refine wpAny_bind (D1.done ⟨hh, g, d, tk0, os⟩ _ _ (by rw [← hi1]; exact (D1.over st1 hs' S.zf1)) fun q e hq he => ?_)
      replace hq : Heap.ExtBut i1 hh q := hq
      exact hE q tk0 e (fun c o cz cT c1 c2 x => hq _ _ c1 (hs'.extBut _ _ cz x)) he
/-- enumerate over an inner iterator that may lay new objects: what its next leaves is told by R -/
theorem enumG_next_item {e it : Addr} {c : Int} {old : Value} {R : Value → Heap → Nat → Prop} {Q : Value → Shared → Prop} (he : IsEnum s.heap e it c old)
    (hn : ∀ (Q1 : Value → Shared → Prop), (∀ x h' tk, R x h' tk → h'.get? e = s.heap.get? e → Q1 x { s with heap := h', toks := tk }) → wpAny (model prog w) A (Builtin.SmallTypes.nextOf (.ref it)) Q1 E s)
    (hQ : ∀ x h1 tk h', R x h1 tk → h1.get? e = s.heap.get? e → IsEnumOut h' e it (c + 1) x h1.objs.size → h'.get? h1.objs.size = some { cls := .type "tuple", data := .seq #[.int c tk, x] } → h'.objs.size = h1.objs.size + 1 →
      (∀ b o, b ≠ e → h1.get? b = some o → h'.get? b = some o) → Q (.ref h1.objs.size) { s with heap := h', toks := tk + 1 }) :
    wpAny (model prog w) A (Builtin.«enumerate.__next__» ⟨[.ref e], []⟩) (fun fin s' => ∃ v, fin = .done (.ret v) ∧ Q v s') E s := by
  obtain ⟨hp, g, d, tk₀, os⟩ := s
  show wpAny _ _ (field (.ref e) 2 >>= _) _ _ _
  refine wpAny_bind (wpAny_field he rfl (x := .ref it) rfl ?_)
  refine wpAny_bind (hn _ fun x h₁ tk hR hee => ?_)
  replace hee : h₁.get? e = hp.get? e := hee
  have he₁ : IsEnum h₁ e it c old := hee.trans he
  show wpAny _ _ (field (.ref e) 3 >>= _) _ _ ⟨h₁, g, d, tk, os⟩
  refine wpAny_bind (wpAny_field he₁ rfl (x := rawInt c) rfl ?_)
  show wpAny _ _ (field (.ref e) 4 >>= _) _ _ ⟨h₁, g, d, tk, os⟩
  refine wpAny_bind (wpAny_field he₁ rfl (x := .none) rfl ?_)
  show wpAny _ _ (mkInt c >>= _) _ _ ⟨h₁, g, d, tk, os⟩
  refine wpAny_bind (wpAny_mkInt ?_)
  show wpAny _ _ (setField (.ref e) 3 (rawInt (c + 1)) >>= _) _ _ ⟨h₁, g, d, tk + 1, os⟩
  refine wpAny_bind (wpAny_setField_rec he₁ (by simp) fun h₂ he₂ hs₂ => ?_)
  replace hs₂ : Heap.SameBut e h₁ h₂ := hs₂
  replace he₂ : IsEnum h₂ e it (c + 1) old := he₂
  show wpAny _ _ (setField (.ref e) 4 .none >>= _) _ _ ⟨h₂, g, d, tk + 1, os⟩
  refine wpAny_bind (wpAny_setField_rec he₂ (by simp) fun h₃ he₃ hs₃ => ?_)
  replace hs₃ : Heap.SameBut e h₂ h₃ := hs₃
  replace he₃ : IsEnum h₃ e it (c + 1) old := he₃
  show wpAny _ _ (newTuple [.int c tk, x] >>= _) _ _ ⟨h₃, g, d, tk + 1, os⟩
  refine wpAny_bind (wpAny_newTuple ?_)
  have he₄ : IsEnum (h₃.push { cls := .type "tuple", data := .seq #[.int c tk, x] }) e it (c + 1) old := Heap.get?_push_of_some _ he₃
  generalize hh₄ : h₃.push { cls := .type "tuple", data := .seq #[.int c tk, x] } = h₄ at he₄
  have hsz : h₃.objs.size = h₁.objs.size := by rw [hs₃.1, hs₂.1]
  have hel : e < h₁.objs.size := Heap.lt_size he₁
  have ht₄ : h₄.get? h₁.objs.size = some { cls := .type "tuple", data := .seq #[.int c tk, x] } := by rw [← hh₄, ← hsz]; exact Heap.get?_push_size _ rfl
  have hz₄ : h₄.objs.size = h₁.objs.size + 1 := by rw [← hh₄, Heap.size_push, hsz]
  have hk₄ : ∀ b o, b ≠ e → h₁.get? b = some o → h₄.get? b = some o := fun b o hbe hb => by
    rw [← hh₄]; exact Heap.get?_push_of_some _ (hs₃.extBut b o hbe (hs₂.extBut b o hbe hb))
  show wpAny _ _ (Builtin.SmallTypes.ownedTupleIsFree (.ref e) >>= _) _ _ ⟨h₄, g, d, tk + 1, os⟩
  rw [hsz]
  clear hh₄ he₃ hs₃ he₂ hs₂ hsz
  refine wpAny_bind ?_
  · unfold Builtin.SmallTypes.ownedTupleIsFree
    refine wpAny_bind (wpAny_field he₄ rfl (x := .none) rfl (wpAny_pure ?_))
    simp only [if_true]
    refine wpAny_bind (wpAny_rule ?_)
    refine wpAny_bind (wpAny_field he₄ rfl (x := old) rfl ?_)
    refine wpAny_bind (wpAny_setField_rec he₄ (by simp) fun h₅ he₅ hs₅ => ?_)
    replace hs₅ : Heap.SameBut e h₄ h₅ := hs₅
    replace he₅ : IsEnum h₅ e it (c + 1) x := he₅
    show wpAny _ _ (Builtin.SmallTypes.ownedTupleHandOut (.ref e) (.ref h₁.objs.size) >>= _) _ _ ⟨h₅, g, d, tk + 1, os⟩
    refine wpAny_bind ?_
    · unfold Builtin.SmallTypes.ownedTupleHandOut
      refine wpAny_bind (wpAny_setField_rec he₅ (by simp) fun h₆ he₆ hs₆ => ?_)
      replace hs₆ : Heap.SameBut e h₅ h₆ := hs₆
      replace he₆ : IsEnumOut h₆ e it (c + 1) x h₁.objs.size := he₆
      refine wpAny_setField_rec he₆ (by simp) fun h₇ he₇ hs₇ => ?_
      replace hs₇ : Heap.SameBut e h₆ h₇ := hs₇
      replace he₇ : IsEnumOut h₇ e it (c + 1) x h₁.objs.size := he₇
      refine wpAny_bind (wpAny_letGo (wpAny_pure ⟨_, rfl, hQ x h₁ tk h₇ hR hee he₇ ?_ ?_ ?_⟩))
      · exact hs₇.extBut _ _ (Nat.ne_of_gt hel) (hs₆.extBut _ _ (Nat.ne_of_gt hel) (hs₅.extBut _ _ (Nat.ne_of_gt hel) ht₄))
      · rw [hs₇.1, hs₆.1, hs₅.1, hz₄]
      · exact fun b o hbe hb => hs₇.extBut b o hbe (hs₆.extBut b o hbe (hs₅.extBut b o hbe (hk₄ b o hbe hb)))
theorem nextOf_zip {Q1 : Value → Shared → Prop} {f0 : Value} {fl : Bool} (hz : IsZipG s.heap z TI TO f0 fl)
    (h : wpAny (model prog w) A.in1 (Builtin.«zip.__next__» ⟨[.ref z], []⟩) (fun fin s' => ∃ v, fin = .done (.ret v) ∧ Q1 v s') E s) : wpAny (model prog w) A (Builtin.SmallTypes.nextOf (.ref z)) Q1 E s := by
  have hT : s.TypeIs (.ref z) "zip" := ⟨_, hz, rfl⟩
  unfold Builtin.SmallTypes.nextOf
  refine wpAny_bind (wpAny_callSpecial?_slot (name := Str.ofString "__next__") hT F.slot_zip_next (wpAny_call_entry F.slot_zip_next hT F.entry_zip_next (wpAny_mono h (fun fin s' h' => ?_) fun _ _ x => x) (F.args_zip_next_1 _)))
  obtain ⟨v, e, q⟩ := h'
  exact ⟨v, e, wpAny_pure q⟩
/-- the next of an enumerate over a zip -/
theorem pyNext_enumZip {e : Addr} {f0 : Value} {fl : Bool} {c : Int} {old : Value} {Q : Option Value → Shared → Prop} (S : ZipSep2 z TI TO i1 i2 fp1 fp2) (D1 : Draws prog w A.in1.in1 i1 fp1 n1 P1 St1) (D2 : Draws prog w A.in1.in1 i2 fp2 n2 P2 St2)
    (he : IsEnum s.heap e z c old) (ne : e ≠ z ∧ e ≠ TO ∧ e ≠ i1 ∧ e ≠ i2)
    (hz : IsZipG s.heap z TI TO f0 fl) (hf : Hand f0) (hTI : IsTupOf2 s.heap TI (.ref i1) (.ref i2)) (hTO : IsTupOf2 s.heap TO a1 a2) (st1 : St1 i s.heap) (st2 : St2 i s.heap) (hlt1 : i < n1) (hlt2 : i < n2)
    (hQ : ∀ x1 x2 h1 tk f0' fl' h', P1 i x1 → P2 i x2 → Hand f0' → IsZipG h1 z TI TO f0' fl' → (∃ a1 a2, IsTupOf2 h1 TO a1 a2) → St1 (i + 1) h1 → St2 (i + 1) h1 → IsTupOf2 h1 s.heap.objs.size x1 x2 → h1.objs.size = s.heap.objs.size + 1 →
      (∀ b o, b ≠ z → b ≠ TO → b ≠ i1 → b ≠ i2 → s.heap.get? b = some o → h1.get? b = some o) → IsEnumOut h' e z (c + 1) (.ref s.heap.objs.size) (s.heap.objs.size + 1) →
      h'.get? (s.heap.objs.size + 1) = some { cls := .type "tuple", data := .seq #[.int c tk, .ref s.heap.objs.size] } → h'.objs.size = s.heap.objs.size + 2 →
      (∀ b o, b ≠ e → h1.get? b = some o → h'.get? b = some o) → Q (some (.ref (s.heap.objs.size + 1))) { s with heap := h', toks := tk + 1 }) :
    wpAny (model prog w) A (pyNext (.ref e)) Q E s := by
  have hT : s.TypeIs (.ref e) "enumerate" := ⟨_, he, rfl⟩
  unfold pyNext
  refine wpAny_bind (wpAny_attempt (wpAny_callSpecial?_slot (name := Str.ofString "__next__") hT F.slot_enumerate_next
    (wpAny_call_entry F.slot_enumerate_next hT F.entry_enumerate_next
      (enumG_next_item (R := fun v h1 tk => v = .ref s.heap.objs.size ∧ h1.objs.size = s.heap.objs.size + 1 ∧ ∃ x1 x2 f0' fl', P1 i x1 ∧ P2 i x2 ∧ Hand f0' ∧ IsZipG h1 z TI TO f0' fl' ∧ (∃ a1 a2, IsTupOf2 h1 TO a1 a2) ∧ St1 (i + 1) h1 ∧ St2 (i + 1) h1 ∧ IsTupOf2 h1 s.heap.objs.size x1 x2 ∧
        (∀ b o, b ≠ z → b ≠ TO → b ≠ i1 → b ≠ i2 → s.heap.get? b = some o → h1.get? b = some o)) he (fun Q1 hq => ?_) fun x h1 tk h' hR hee ho ht hsz hk => ?_) (F.args_enumerate_next_1 _))))
  · refine nextOf_zip hz (zipG_next_item S D1 D2 hz hf hTI hTO st1 st2 hlt1 hlt2 fun x1 x2 h' tk f0' fl' y1 y2 b0 b1 b2 d1 d2 b5 b6 b7 => ?_)
    exact hq _ h' tk ⟨rfl, b6, x1, x2, f0', fl', y1, y2, b0, b1, b2, d1, d2, b5, b7⟩ ((b7 e _ ne.1 ne.2.1 ne.2.2.1 ne.2.2.2 he).trans he.symm)
  · obtain ⟨e1, e2, x1, x2, f0', fl', y1, y2, b0, b1, b2, d1, d2, b5, b7⟩ := hR
    subst e1
    rw [e2] at ho ht hsz ⊢
    exact wpAny_pure (hQ x1 x2 h1 tk f0' fl' h' y1 y2 b0 b1 b2 d1 d2 b5 e2 b7 ho ht hsz hk)
theorem pyNext_enumZip_end {e : Addr} {f0 : Value} {fl : Bool} {c : Int} {old : Value} {Q : Option Value → Shared → Prop} (S : ZipSep2 z TI TO i1 i2 fp1 fp2) (D1 : Draws prog w A.in1.in1 i1 fp1 n1 P1 St1) (D2 : Draws prog w A.in1.in1 i2 fp2 n2 P2 St2)
    (he : IsEnum s.heap e z c old)
    (hz : IsZipG s.heap z TI TO f0 fl) (hf : Hand f0) (hTI : IsTupOf2 s.heap TI (.ref i1) (.ref i2)) (hTO : IsTupOf2 s.heap TO a1 a2) (st1 : St1 i s.heap) (st2 : St2 i s.heap) (hle1 : i ≤ n1) (hle2 : i ≤ n2) (hend : i = n1 ∨ i = n2)
    (hQ : ∀ h' tk, (∀ c o, c ≠ z → c ≠ TO → c ≠ i1 → c ≠ i2 → s.heap.get? c = some o → h'.get? c = some o) → Q none { s with heap := h', toks := tk }) : wpAny (model prog w) A (pyNext (.ref e)) Q E s := by
  have hT : s.TypeIs (.ref e) "enumerate" := ⟨_, he, rfl⟩
  unfold pyNext
  refine wpAny_bind (wpAny_attempt (wpAny_callSpecial?_slot (name := Str.ofString "__next__") hT F.slot_enumerate_next
    (wpAny_call_entry F.slot_enumerate_next hT F.entry_enumerate_next ?_ (F.args_enumerate_next_1 _))))
  show wpAny _ _ (field (.ref e) 2 >>= _) _ _ _
  refine wpAny_bind (wpAny_field he rfl (x := .ref z) rfl ?_)
  refine wpAny_bind (nextOf_zip hz (zipG_next_end S D1 D2 hz hf hTI hTO st1 st2 hle1 hle2 hend fun h' tk x hk hx => ?_))
  obtain ⟨o, ho, hc⟩ := hx
  refine wpAny_bind (wpAny_isInstance (T := "StopIteration") (b := true) ⟨o, ho, hc⟩ isSubtype_stop ?_)
  exact wpAny_pure (hQ _ _ hk)
set_option maxHeartbeats 1000000 in
theorem meets_enumZ {z TI TO : Addr} {f0 : Value} :
    Meets (Builtin.«enumerate.__new__» ⟨[.type "enumerate", .ref z], []⟩) (fun _ R s => IsZip s.heap z TI TO f0 ∧
      R (.ok (.ret (.ref s.heap.objs.size))) { s with heap := s.heap.push { cls := .type "enumerate", data := .fields #[.none, .bool false, .ref z, rawInt 0, .none, .none] } }) :=
  .of_wp fun prog w A R s h => by
    obtain ⟨hp, g, d, tk, os⟩ := s; obtain ⟨h1, h⟩ := h
    have hsub := sub_enumerate
    have q1 : ∀ {A' : Around} {E : Value → Shared → Prop} {Q : Value → Shared → Prop}, Q (.ref z) ⟨hp, g, d, tk, os⟩ → wpAny (model prog w) A' (pyIter (.ref z)) Q E ⟨hp, g, d, tk, os⟩ :=
      fun q => by
        exact wpAny_pyIter_zip (s := ⟨hp, g, d, tk, os⟩) h1 q
    wp_walk using q1
    refine wpAny_stack_any fun st => wpAny_pure ?_
    split
    · rename_i c _ _ _ _ _
      cases (c == Value.type "enumerate")
      · wp_walk using q1
        exact ⟨_, rfl, h⟩
      · wp_walk using q1
        exact ⟨_, rfl, h⟩
    · wp_walk using q1
      exact ⟨_, rfl, h⟩
theorem enum_beginsZ {z TI TO : Addr} {f0 : Value} {Q : Value → Shared → Prop} (h1 : IsZip s.heap z TI TO f0)
    (h : ∀ h', IsEnum h' s.heap.objs.size z 0 .none → h'.objs.size = s.heap.objs.size + 1 → (∀ b o, s.heap.get? b = some o → h'.get? b = some o) → Q (.ref s.heap.objs.size) { s with heap := h' }) :
    wpAny (model prog w) A (call (.type "enumerate") [.ref z]) Q E s := by
  refine callType_new F.called_enumerate (by decide) (F.typeCall_enumerate_1 _) (F.newCall_enumerate_1 _) (fun obj => F.args_object_init_2 obj _) F.entry_enumerate_new
    meets_enumZ ⟨h1, ?_⟩
  have he : IsEnum (s.heap.push { cls := .type "enumerate", data := .fields #[.none, .bool false, .ref z, rawInt 0, .none, .none] }) s.heap.objs.size z 0 .none := Heap.get?_push_size s.heap rfl
  exact ⟨⟨_, he, rfl⟩, h _ he (Heap.size_push ..) fun b o x => Heap.get?_push_of_some _ x⟩
end
end
/-- enumerate over a zip: each pair in a new pair -/
def ItEZ (K : PySem.W.Frag) (k l : Bool) (a b : Addr) : It :=
  ⟨fun i H => ∃ (xs ys : List V) (x y : V), Sq K H k a xs ∧ Sq K H l b ys ∧ xs[i]? = some x ∧ ys[i]? = some y,
    fun i H v H' => ∃ T T2 x y, v = .ref T ∧ H T2 = none ∧ upd H T2 (.tup [x, y]) T = none ∧ H' = upd (upd H T2 (.tup [x, y])) T (.tup [.int (i : Nat), .ref T2]) ∧ (∀ xs, Sq K H k a xs → xs[i]? = some x) ∧ ∀ ys, Sq K H l b ys → ys[i]? = some y,
    fun i H => ∃ xs ys : List V, Sq K H k a xs ∧ Sq K H l b ys ∧ i ≤ xs.length ∧ i ≤ ys.length ∧ (i = xs.length ∨ i = ys.length)⟩
/-- the cells of an enumerate over a zip -/
structure EZApart (e z TI TO i1 i2 a b : Addr) : Prop extends ZApart z TI TO i1 i2 a b where
  ez : e ≠ z
  eTI : e ≠ TI
  eTO : e ≠ TO
  e1 : e ≠ i1
  e2 : e ≠ i2
theorem turn_enumZ {P : Program} {w : World} {K : PySem.W.Frag} {elts : List Expr} {kk : Nat} {tpos : Pos} {k l : Bool} {a b e z TI TO i1 i2 : Addr} (D : EZApart e z TI TO i1 i2 a b) :
    Turn P w K (.Tuple elts kk tpos) (ItEZ K k l a b) [e, z, TI, TO, i1, i2] e (fun i h => (∃ old, IsEnum h e z ((i : Nat) : Int) old) ∧ (∃ f0 fl, Hand f0 ∧ IsZipG h z TI TO f0 fl) ∧ IsTupOf2 h TI (.ref i1) (.ref i2) ∧ (∃ x y, IsTupOf2 h TO x y) ∧ ItAt k h i1 a i ∧ ItAt l h i2 b i) where
  mem := by simp
  obj := fun i h st c hc => by
    obtain ⟨⟨old, he⟩, ⟨f0, fl, _, hz⟩, hTI, ⟨x, y, hTO⟩, h1, h2⟩ := st
    have e' : c = e ∨ c = z ∨ c = TI ∨ c = TO ∨ c = i1 ∨ c = i2 := by simpa using hc
    rcases e' with q | q | q | q | q | q
    · rw [q]; exact ⟨_, he, fun v q => nomatch q⟩
    · rw [q]; exact ⟨_, hz, fun v q => nomatch q⟩
    · rw [q]; exact ⟨_, hTI, fun v q => nomatch q⟩
    · rw [q]; exact ⟨_, hTO, fun v q => nomatch q⟩
    · rw [q]; exact h1.ob
    · rw [q]; exact h2.ob
  keep := fun i h h' st k => by
    obtain ⟨⟨old, he⟩, ⟨f0, fl, hh, hz⟩, hTI, ⟨x, y, hTO⟩, h1, h2⟩ := st
    exact ⟨⟨old, k e (by simp) _ he⟩, ⟨f0, fl, hh, k z (by simp) _ hz⟩, k TI (by simp) _ hTI, ⟨x, y, k TO (by simp) _ hTO⟩, h1.at fun o q => k i1 (by simp) o q, h2.at fun o q => k i2 (by simp) o q⟩
  item := by
    intro X hP hw hK hc i pins s σ H E I hf st hg
    subst hP hw hK
    obtain ⟨⟨old, he⟩, ⟨f0, fl, hh, hz⟩, hTI, ⟨x0, y0, hTO⟩, h1, h2⟩ := st
    obtain ⟨xs, ys, x, y, hqx, hqy, hx, hy⟩ := hg
    obtain ⟨its, rv, p⟩ := invSq I hqx
    obtain ⟨its2, rv2, p2⟩ := invSq I hqy
    obtain ⟨u, hu, ru⟩ := rv.get hx
    obtain ⟨u2, hu2, ru2⟩ := rv2.get hy
    have hlt : i < its.toArray.size := by
      have := (List.getElem?_eq_some_iff.mp hu).1
      simpa using this
    have hlt2 : i < its2.toArray.size := by
      have := (List.getElem?_eq_some_iff.mp hu2).1
      simpa using this
    have hel : e < s.heap.objs.size := Heap.lt_size he
    have hzl : z < s.heap.objs.size := Heap.lt_size hz
    have D1 := draws k (prog := X.prog) (w := X.w) (A := X.A.in1.in1) (I.ok.hd hc) i1 a D.a1 its.toArray
    have D2 := draws l (prog := X.prog) (w := X.w) (A := X.A.in1.in1) (I.ok.hd hc) i2 b D.b2 its2.toArray
    refine pyNext_enumZip D.S D1 D2 he ⟨D.ez, D.eTO, D.e1, D.e2⟩ hz hh hTI hTO ⟨h1, p⟩ ⟨h2, p2⟩ hlt hlt2 fun x1 x2 g1 tk f0' fl' h' hP1 hP2 hh' z' TO' h1' h2' hT hsz hk eo ht hsz2 hk2 => ?_
    have e1 : x1 = u := by
      have hP' : its[i]? = some x1 := by simpa using hP1
      rw [hu] at hP'
      exact (Option.some.inj hP').symm
    have e2 : x2 = u2 := by
      have hP' : its2[i]? = some x2 := by simpa using hP2
      rw [hu2] at hP'
      exact (Option.some.inj hP').symm
    subst e1 e2
    refine ⟨_, rfl, wpAny_letOwnedTupleGo_enum (s := { s with heap := h', toks := tk + 1 }) eo fun h'' he'' sb => ?_⟩
    have up : ∀ c o, c ≠ e → g1.get? c = some o → h''.get? c = some o := fun c o n q => (sb.2 c n).trans (hk2 c o n q)
    have new : ObjOk X.prog X.w (upd H s.heap.objs.size (.tup [x, y])) g1 s.heap.objs.size (.tup [x, y]) :=
      ⟨by show 2 ≤ sizeLine; decide, [x1, x2], .cons ru (.cons ru2 .nil), ⟨_, hT, rfl, _, rfl⟩⟩
    have I1 : Inv X pins σ (upd H s.heap.objs.size (.tup [x, y])) { s with heap := g1, toks := tk } :=
      I.turnedNew (t' := tk) (ch := [e, z, TI, TO, i1, i2]) (fun c o hb q => hk c o (fun q' => hb (by simp [q'])) (fun q' => hb (by simp [q'])) (fun q' => hb (by simp [q'])) (fun q' => hb (by simp [q'])) q) hf (Nat.le_refl _) new
    have hlts : ∀ c ∈ [e, z, TI, TO, i1, i2], c < s.heap.objs.size := fun c hcm => by
      have e' : c = e ∨ c = z ∨ c = TI ∨ c = TO ∨ c = i1 ∨ c = i2 := by simpa using hcm
      rcases e' with q | q | q | q | q | q
      · rw [q]; exact hel
      · rw [q]; exact hzl
      · rw [q]; exact Heap.lt_size hTI
      · rw [q]; exact Heap.lt_size hTO
      · rw [q]; obtain ⟨_, e1, _⟩ := h1.ob; exact Heap.lt_size e1
      · rw [q]; obtain ⟨_, e2, _⟩ := h2.ob; exact Heap.lt_size e2
    have hf1 : ∀ c ∈ [e, z, TI, TO, i1, i2], FpOk X pins (upd H s.heap.objs.size (.tup [x, y])) c := fun c hcm => by
      obtain ⟨q1, q2, q3, q4, q5, q6⟩ := hf c hcm
      exact ⟨by rw [upd_ne (Nat.ne_of_lt (hlts c hcm))]; exact q1, q2, q3, q4, q5, q6⟩
    have hT2 : h''.get? (s.heap.objs.size + 1) = some { cls := .type "tuple", data := .seq #[.int i tk, .ref s.heap.objs.size] } := (sb.2 _ (Nat.ne_of_gt (Nat.lt_succ_of_lt hel))).trans ht
    have new2 : ObjOk X.prog X.w (upd (upd H s.heap.objs.size (.tup [x, y])) (s.heap.objs.size + 1) (.tup [.int (i : Nat), .ref s.heap.objs.size])) h'' (s.heap.objs.size + 1) (.tup [.int (i : Nat), .ref s.heap.objs.size]) :=
      ⟨by show 2 ≤ sizeLine; decide, [.int i tk, .ref s.heap.objs.size], .cons ⟨_, rfl⟩ (.cons rfl .nil), ⟨_, hT2, rfl, _, rfl⟩⟩
    have I2 : Inv X pins σ (upd (upd H s.heap.objs.size (.tup [x, y])) (s.heap.objs.size + 1) (.tup [.int (i : Nat), .ref s.heap.objs.size])) { s with heap := h'', toks := tk + 1 } :=
      I1.turnedNew (t' := tk + 1) (ch := [e, z, TI, TO, i1, i2]) (fun c o hb q => up c o (fun q' => hb (by simp [q'])) q) hf1 (Nat.le_of_eq hsz) new2
    refine ⟨.ref (s.heap.objs.size + 1), _, I2, rfl, ⟨_, _, x, y, rfl, I.hok.fresh (Nat.le_refl _), I1.hok.fresh (Nat.le_of_eq hsz), rfl, fun l hl => by rw [invSq_inj I hl hqx]; exact hx, fun l hl => by rw [invSq_inj I hl hqy]; exact hy⟩, ⟨⟨.ref s.heap.objs.size, ?_⟩, ⟨f0', fl', hh', ?_⟩, ?_, ?_, ?_, ?_⟩, fun c hcm => ?_⟩
    · have e1 : ((i + 1 : Nat) : Int) = (i : Int) + 1 := by omega
      rw [e1]; exact he''
    · exact up _ _ D.ez.symm z'
    · exact up _ _ D.eTI.symm (hk _ _ D.S.TIz D.S.TITO D.S.TIi1 D.S.TIi2 hTI)
    · obtain ⟨q1, q2, q3⟩ := TO'
      exact ⟨q1, q2, up _ _ D.eTO.symm q3⟩
    · exact h1'.1.at fun o q => up _ _ D.e1.symm q
    · exact h2'.1.at fun o q => up _ _ D.e2.symm q
    · rw [upd_ne (Nat.ne_of_lt (Nat.lt_succ_of_lt (hlts c hcm))), upd_ne (Nat.ne_of_lt (hlts c hcm))]
      exact (hf c hcm).1
  done := by
    intro X hP hw hK hc i pins s σ H E I hf st hg
    subst hP hw hK
    obtain ⟨⟨old, he⟩, ⟨f0, fl, hh, hz⟩, hTI, ⟨x0, y0, hTO⟩, h1, h2⟩ := st
    obtain ⟨xs, ys, hqx, hqy, hl1, hl2, hend⟩ := hg
    obtain ⟨its, rv, p⟩ := invSq I hqx
    obtain ⟨its2, rv2, p2⟩ := invSq I hqy
    have l1 := rv.length
    have l2 := rv2.length
    have D1 := draws k (prog := X.prog) (w := X.w) (A := X.A.in1.in1) (I.ok.hd hc) i1 a D.a1 its.toArray
    have D2 := draws l (prog := X.prog) (w := X.w) (A := X.A.in1.in1) (I.ok.hd hc) i2 b D.b2 its2.toArray
    exact pyNext_enumZip_end D.S D1 D2 he hz hh hTI hTO ⟨h1, p⟩ ⟨h2, p2⟩ (by rw [List.size_toArray]; omega) (by rw [List.size_toArray]; omega) (by rw [List.size_toArray, List.size_toArray]; omega) fun h' tk hk => ⟨rfl, I.turnedL (t' := tk) (ch := [e, z, TI, TO, i1, i2]) (fun c o hb q =>
      hk c o (fun q' => hb (by simp [q'])) (fun q' => hb (by simp [q'])) (fun q' => hb (by simp [q'])) (fun q' => hb (by simp [q'])) q) hf⟩
  self := fun A i s Q E st h => let ⟨⟨_, he⟩, _⟩ := st; wpAny_pyIter_enum he h
def iEnumZ (K : PySem.W.Frag) (k l : Bool) (ta : TA) : TI := fun σ H R => ta σ H fun vs H1 => ∃ a b xs ys, vs = [.ref a, .ref b] ∧ Sq K H1 k a xs ∧ Sq K H1 l b ys ∧ R (ItEZ K k l a b) H1
theorem pi_enumZ {X : Cx} {e e2 : Expr} {ta : TA} {p pos p2 pos2 tpos : Pos} {elts : List Expr} {kk : Nat} {k l : Bool} (hg : Gl X "enumerate") (hm : X.mg "enumerate" = none) (hgz : Gl X "zip") (hmz : X.mg "zip" = none) (ha : PA X [e, e2] ta)
    (hs : starEach [e, e2] X.env = (false, eval e X.env) :: starEach [e2] X.env := by rfl) (hpl : (backTo pos2 (starEach [e2] X.env)).any (·.1) = false := by rfl)
    (hs1 : starEach [.Call (.Name "zip" p2) [e, e2] [] pos2] X.env = [(false, eval (.Call (.Name "zip" p2) [e, e2] [] pos2) X.env)] := by rfl) :
    PI X (.Tuple elts kk tpos) (.Call (.Name "enumerate" p) [.Call (.Name "zip" p2) [e, e2] [] pos2] [] pos) (iEnumZ X.K k l ta) := by
  refine ⟨fun pins s σ H R I h => ?_⟩
  refine Call_ (ld_blt I hg hm boot_enumerate (PyProof.Rows.callWith_type1 ?_ hs1 rfl))
  rw [hs1]
  show wpAny _ _ (spliced ((false, eval (.Call (.Name "zip" p2) [e, e2] [] pos2) X.env) :: backTo pos [])) _ _ s
  refine Calls.spliced_cons (Call_ (ld_blt I hgz hmz PyProof.Rows.boot_zip (PyProof.Rows.callWith_type1 (thn (ha.run pos2 pins s σ H _ I h) fun us s1 ⟨vs, H1, I1, r1, q1⟩ => ?_) hs hpl)))
  obtain ⟨a, b, xs, ys, ex, hqx, hqy, q⟩ := q1
  subst ex
  cases r1 with
  | cons r rr =>
    cases rr with
    | cons r' rr =>
      cases rr
      cases r
      cases r'
      obtain ⟨its, rv, p1⟩ := invSq I1 hqx
      obtain ⟨its2, rv2, p2⟩ := invSq I1 hqy
      have la : a < s1.heap.objs.size := p1.lt
      have lb : b < s1.heap.objs.size := p2.lt
      refine zip_begins2 (begins k a its.toArray) (begins l b its2.toArray) p1 p2 fun h' hz hTI hTO h1 h2 hsz hk => Calls.spliced_nil ?_
      refine enum_beginsZ (s := { s1 with heap := h' }) hz fun h'' he hsz2 hk2 => wpAny_pyIter_enum he ?_
      replace he : IsEnum h'' h'.objs.size (s1.heap.objs.size + 4) 0 .none := he
      replace hsz2 : h''.objs.size = h'.objs.size + 1 := hsz2
      replace hk2 : ∀ b o, h'.get? b = some o → h''.get? b = some o := hk2
      have I2 : Inv X pins σ H1 { s1 with heap := h'' } := I1.kept (t' := s1.toks) fun b o q => hk2 b o (hk b o q)
      have S := zip_sep2 (N := s1.heap.objs.size) (fp1 := [a]) (fp2 := [b]) (fun c hc => by rw [List.mem_singleton.mp hc]; exact la) (fun c hc => by rw [List.mem_singleton.mp hc]; exact lb)
      refine ⟨h'.objs.size, [h'.objs.size, s1.heap.objs.size + 4, s1.heap.objs.size + 2, s1.heap.objs.size + 3, s1.heap.objs.size, s1.heap.objs.size + 1], _, _, H1, rfl, I2, turn_enumZ ⟨⟨S, Nat.ne_of_lt la, Nat.ne_of_lt (Nat.lt_succ_of_lt lb)⟩, ?_, ?_, ?_, ?_, ?_⟩, ⟨⟨.none, he⟩, ⟨.none, false, .inl rfl, hk2 _ _ hz⟩, hk2 _ _ hTI, ⟨_, _, hk2 _ _ hTO⟩, itObj_at (hk2 _ _ h1), itObj_at (hk2 _ _ h2)⟩, fun c hcm => ?_, q⟩
      · exact Nat.ne_of_gt (by rw [hsz]; omega)
      · exact Nat.ne_of_gt (by rw [hsz]; omega)
      · exact Nat.ne_of_gt (by rw [hsz]; omega)
      · exact Nat.ne_of_gt (by rw [hsz]; omega)
      · exact Nat.ne_of_gt (by rw [hsz]; omega)
      have e' : c = h'.objs.size ∨ c = s1.heap.objs.size + 4 ∨ c = s1.heap.objs.size + 2 ∨ c = s1.heap.objs.size + 3 ∨ c = s1.heap.objs.size ∨ c = s1.heap.objs.size + 1 := by simpa using hcm
      have hle : s1.heap.objs.size ≤ c := by
        rcases e' with z | z | z | z | z | z
        · rw [z, hsz]; exact Nat.le_add_right _ _
        · rw [z]; exact Nat.le_add_right _ _
        · rw [z]; exact Nat.le_add_right _ _
        · rw [z]; exact Nat.le_add_right _ _
        · rw [z]; exact Nat.le_refl _
        · rw [z]; exact Nat.le_add_right _ _
      exact I1.fpOk hle (I1.hok.fresh hle)
theorem yld_enumZ0 {K : PySem.W.Frag} {F : Hp} {k l : Bool} {a b : Addr} {vs ws : List V} {ds es : List D} (h : Sq K F k a vs) (t : RepL K F vs ds) (h' : Sq K F l b ws) (t' : RepL K F ws es) : Yld0 K (ItEZ K k l a b) F (enumD 0 (zipD ds es)) where
  go := fun i H s hi => by
    have hl := t.length
    have hl' := t'.length
    rw [enumD_len, zipD_len] at hi
    exact ⟨vs, ws, vs[i]'(by omega), ws[i]'(by omega), h.mono s, h'.mono s, List.getElem?_eq_getElem _, List.getElem?_eq_getElem _⟩
  yld := fun i H x H' d s ⟨T, T2, y, y', e1, hT2, hT, e2, hy, hy'⟩ hd => by
    subst e1 e2
    obtain ⟨d', h1, h2⟩ := enumD_get 0 _ i d hd
    obtain ⟨d1, d2, h3, h4, h5⟩ := zipD_get ds es i d' h1
    obtain ⟨v, h6, h7⟩ := t.get h3
    obtain ⟨v', h8, h9⟩ := t'.get h4
    rw [hy _ (h.mono s)] at h6
    rw [hy' _ (h'.mono s)] at h8
    cases h6
    cases h8
    have s1 := same_new (o := .tup [y, y']) hT2
    have s2 := same_new (o := .tup [.int (i : Nat), .ref T2]) hT
    refine ⟨s1.trans s2, ?_⟩
    have ee : ext F H (upd (upd H T2 (.tup [y, y'])) T (.tup [.int (i : Nat), .ref T2])) = upd (upd F T2 (.tup [y, y'])) T (.tup [.int (i : Nat), .ref T2]) := by
      rw [← ext_ext s1 s2, ext_new s hT2, ext_new (by rw [← ext_new s hT2]; exact ext_sub s s1) hT]
    have hF2 : F T2 = none := s.free hT2
    have hF : upd F T2 (.tup [y, y']) T = none := (by rw [← ext_new s hT2]; exact ext_sub s s1 : Same (upd F T2 (.tup [y, y'])) (upd H T2 (.tup [y, y']))).free hT
    have sF : Same F (upd (upd F T2 (.tup [y, y'])) T (.tup [.int (i : Nat), .ref T2])) := (same_new hF2).trans (same_new hF)
    rw [ee, h2, h5, Nat.zero_add]
    refine .tup upd_same (.cons (.int _) (.cons (.tup (same_new hF _ _ upd_same) (.cons (h7.mono sF) (.cons (h9.mono sF) .nil))) .nil))
  stop := fun i H s hi => by
    have hl := t.length
    have hl' := t'.length
    rw [enumD_len, zipD_len] at hi
    exact ⟨vs, ws, h.mono s, h'.mono s, by omega, by omega, by omega⟩
def ez2 (as : List D) : Option (List D) := (zp2 as).map (enumD 0)
theorem i_enzip {X : Cx} {z : Z} {e e2 : Expr} {f : Env → Option (List D)} {p pos p2 pos2 tpos : Pos} {elts : List Expr} {kk : Nat} (hg : Gl X "enumerate") (hm : X.mg "enumerate" = none) (hgz : Gl X "zip") (hmz : X.mg "zip" = none) (ha : PA X [e, e2] (tPs X.K z f))
    (hs : starEach [e, e2] X.env = (false, eval e X.env) :: starEach [e2] X.env := by rfl) (hpl : (backTo pos2 (starEach [e2] X.env)).any (·.1) = false := by rfl)
    (hs1 : starEach [.Call (.Name "zip" p2) [e, e2] [] pos2] X.env = [(false, eval (.Call (.Name "zip" p2) [e, e2] [] pos2) X.env)] := by rfl) :
    PI X (.Tuple elts kk tpos) (.Call (.Name "enumerate" p) [.Call (.Name "zip" p2) [e, e2] [] pos2] [] pos) (tIP X.K z (iN ez2 f)) := by
  refine ⟨fun pins s σ H Rr I ⟨ρ, F, O, ds, R, e, q⟩ => ?_⟩
  obtain ⟨as, h1, h2⟩ := bind_some e
  obtain ⟨zs, h3, h4⟩ := map_some h2
  obtain ⟨k, l, xs, ys, e1, e2⟩ := zp2_of h3
  subst e1 e2 h4
  refine (pi_enumZ (k := k) (l := l) hg hm hgz hmz ha hs hpl hs1).run pins s σ H Rr I ⟨ρ, F, O, _, R, h1, fun vs H' s r => ?_⟩
  cases r with
  | cons r t =>
    cases t with
    | cons r' t =>
      cases t
      obtain ⟨a, ws, e3, h3, h4⟩ := Sq.of_rep r
      obtain ⟨b, ws', e5, h5, h6⟩ := Sq.of_rep r'
      subst e3 e5
      exact ⟨a, b, ws, ws', rfl, h3.mono (R.grow s).sub, h5.mono (R.grow s).sub, q _ H' s (yld_enumZ0 h3 h4 h5 h6).of⟩
end DL

namespace DL
open PySem PySem.Spec PyProof.Rows L2

/-! ## objects of a class of one's own -/
def obL (e : Option (Option E)) : Option (Nat × List (Str × Fd)) := match e with
  | some (some (.ob m fs)) => some (m, fs)
  | _ => none
/-- an object at p -/
def Ob (K : PySem.W.Frag) (F H : Hp) (c p : Addr) (fs : List (Str × Fd)) (as : List Addr) : Prop :=
  ∃ dx xs as', as = p :: as' ∧ H p = some (.ins c dx xs) ∧ OkC K c (fs.map (·.1)) ∧ as.Nodup ∧ Fds K F H xs fs as'
section
variable {K : PySem.W.Frag} {z : Z} {ρ : Env} {σ : L2.St} {F H : Hp} {O : Nat → List Addr}
theorem obL_eq {e : Option (Option E)} {m : Nat} {fs : List (Str × Fd)} (h : obL e = some (m, fs)) : e = some (some (.ob m fs)) := by
  unfold obL at h
  split at h
  · cases h
    rfl
  · cases h
/-- who may write to an object -/
def May (z : Z) (m : Nat) (p : Addr) (as : List Addr) : Prop := (∀ a ∈ as, z.H0 a = none ∨ z.B a) ∧ (m = 1 → as = z.fp) ∧ (m = 2 → z.fp.head? = some p) ∧ (m = 0 → ∀ a ∈ as, z.H0 a = none)
theorem obL_of {i m : Nat} {fs : List (Str × Fd)} (R : Rel K z ρ σ F H O) (h : obL ρ[i]? = some (m, fs)) : ∃ p, σ[i]? = some (some (.ref p)) ∧ Ob K F H z.cl p fs (O i) ∧ May z m p (O i) := by
  obtain ⟨v, h1, p, dx, xs, as', e1, e2, h2, h3, h4, h5, h6⟩ := R.ent i _ (obL_eq h)
  subst e1
  exact ⟨p, h1, ⟨dx, xs, as', e2, h2, h3, h4, h6⟩, h5⟩
theorem Ob.ent {m : Nat} {p : Addr} {fs : List (Str × Fd)} {as : List Addr} (h : Ob K F H z.cl p fs as) (hb : May z m p as) : Ent K z F H (.ref p) (.ob m fs) as := by
  obtain ⟨dx, xs, as', e2, h2, h3, h4, h6⟩ := h
  exact ⟨p, dx, xs, as', rfl, e2, h2, h3, h4, hb, h6⟩
theorem Ob.mem {c p : Addr} {fs : List (Str × Fd)} {as : List Addr} (h : Ob K F H c p fs as) : p ∈ as := by
  obtain ⟨_, _, _, e2, _⟩ := h
  rw [e2]
  exact List.mem_cons_self
theorem Fds.names : ∀ {xs : List (Str × V)} {fs : List (Str × Fd)} {as : List Addr}, Fds K F H xs fs as → xs.map (·.1) = fs.map (·.1)
  | _, _, _, .nil => rfl
  | _, _, _, .sh _ t => congrArg (_ :: ·) (Fds.names t)
  | _, _, _, .own _ t => congrArg (_ :: ·) (Fds.names t)
  | _, _, _, .own2 _ _ t => congrArg (_ :: ·) (Fds.names t)
theorem Fds.len {xs : List (Str × V)} {fs : List (Str × Fd)} {as : List Addr} (h : Fds K F H xs fs as) : xs.length = fs.length := by
  have := congrArg List.length h.names
  simpa using this
/-- a field's entry, read -/
def shF (nm : Str) : List (Str × Fd) → Option D
  | [] => none
  | (g, x) :: r => if g = nm then (match x with | .sh d => some d | _ => none) else shF nm r
def fdF (nm : Str) : List (Str × Fd) → Option Fd
  | [] => none
  | (g, x) :: r => if g = nm then some x else fdF nm r
def keyF (nm : Str) : List (Str × D) → Option D
  | [] => none
  | (g, x) :: r => if g = nm then some x else keyF nm r
theorem lookup_cons' {α : Type} {g nm : Str} {x : α} {r : List (Str × α)} : ((g, x) :: r).lookup nm = if g = nm then some x else r.lookup nm := by
  by_cases h : g = nm
  · subst h
    simp [List.lookup]
  · rw [if_neg h]
    have hb : (nm == g) = false := beq_eq_false_iff_ne.mpr (Ne.symm h)
    simp [List.lookup, hb]
theorem Fds.shF : ∀ {xs : List (Str × V)} {fs : List (Str × Fd)} {as : List Addr} {nm : Str} {d : D}, Fds K F H xs fs as → DL.shF nm fs = some d → ∃ v, xs.lookup nm = some v ∧ Rep K F v d
  | _, _, _, _, _, .nil, h => by cases h
  | _, _, _, nm, d, .sh (n := n) r t, h => by
    unfold DL.shF at h
    rw [lookup_cons']
    split at h
    · next e =>
      cases h
      rw [if_pos e]
      exact ⟨_, rfl, r⟩
    · next e =>
      rw [if_neg e]
      exact Fds.shF t h
  | _, _, _, nm, d, .own (n := n) r t, h => by
    unfold DL.shF at h
    rw [lookup_cons']
    split at h
    · cases h
    · next e =>
      rw [if_neg e]
      exact Fds.shF t h
  | _, _, _, nm, d, .own2 (n := n) _ r t, h => by
    unfold DL.shF at h
    rw [lookup_cons']
    split at h
    · cases h
    · next e =>
      rw [if_neg e]
      exact Fds.shF t h
theorem keyF_of : ∀ {xs : List (Str × V)} {fs : List (Str × D)} {nm : Str} {d : D}, xs.map (·.1) = fs.map (·.1) → RepL K F (xs.map (·.2)) (fs.map (·.2)) → keyF nm fs = some d → ∃ v, xs.lookup nm = some v ∧ Rep K F v d
  | [], [], _, _, _, _, h => by cases h
  | [], _ :: _, _, _, e, _, _ => by cases e
  | _ :: _, [], _, _, e, _, _ => by cases e
  | (g, v) :: xs, (g', d') :: fs, nm, d, e, r, h => by
    simp only [List.map_cons, List.cons.injEq] at e
    obtain ⟨e1, e2⟩ := e
    subst e1
    cases r with
    | cons r t =>
      unfold keyF at h
      rw [lookup_cons']
      split at h
      · next e =>
        cases h
        rw [if_pos e]
        exact ⟨_, rfl, r⟩
      · next e =>
        rw [if_neg e]
        exact keyF_of e2 t h
theorem shF_mem : ∀ {fs : List (Str × Fd)} {nm : Str} {d : D}, DL.shF nm fs = some d → nm ∈ fs.map (·.1)
  | [], _, _, h => by cases h
  | (g, x) :: r, nm, d, h => by
    unfold DL.shF at h
    split at h
    · next e => rw [← e]; exact List.mem_cons_self
    · exact List.mem_cons_of_mem _ (shF_mem h)
theorem fdF_mem : ∀ {fs : List (Str × Fd)} {nm : Str} {d : Fd}, fdF nm fs = some d → nm ∈ fs.map (·.1)
  | [], _, _, h => by cases h
  | (g, x) :: r, nm, d, h => by
    unfold fdF at h
    split at h
    · next e => rw [← e]; exact List.mem_cons_self
    · exact List.mem_cons_of_mem _ (fdF_mem h)
theorem keyF_mem : ∀ {fs : List (Str × D)} {nm : Str} {d : D}, keyF nm fs = some d → nm ∈ fs.map (·.1)
  | [], _, _, h => by cases h
  | (g, x) :: r, nm, d, h => by
    unfold keyF at h
    split at h
    · next e => rw [← e]; exact List.mem_cons_self
    · exact List.mem_cons_of_mem _ (keyF_mem h)
/-- a field gets a value: only what is not one's own list may be replaced -/
def putFd (nm : Str) (y : Fd) : List (Str × Fd) → Option (List (Str × Fd))
  | [] => some [(nm, y)]
  | (g, x) :: r => if g = nm then (match x with | .sh _ => some ((g, y) :: r) | _ => none) else (putFd nm y r).map fun r' => (g, x) :: r'
theorem putFd_names : ∀ {fs fs' : List (Str × Fd)} {nm : Str} {y : Fd}, putFd nm y fs = some fs' → ∀ n ∈ fs'.map (·.1), n = nm ∨ n ∈ fs.map (·.1)
  | [], fs', nm, y, h, n, hn => by
    cases h
    simp at hn
    exact .inl hn
  | (g, x) :: r, fs', nm, y, h, n, hn => by
    unfold putFd at h
    split at h
    · split at h
      · cases h
        simp only [List.map_cons, List.mem_cons] at hn ⊢
        exact .inr hn
      · cases h
    · obtain ⟨r', h1, h2⟩ := map_some h
      subst h2
      simp only [List.map_cons, List.mem_cons] at hn ⊢
      rcases hn with hn | hn
      · exact .inr (.inl hn)
      · rcases putFd_names h1 n hn with q | q
        · exact .inl q
        · exact .inr (.inr q)
theorem Fds.put : ∀ {xs : List (Str × V)} {fs fs' : List (Str × Fd)} {as : List Addr} {nm : Str} {y : Fd} {v : V} {bs : List Addr}, Fds K F H xs fs as → putFd nm y fs = some fs' → (∀ {xs1 fs1 as1}, Fds K F H xs1 fs1 as1 → Fds K F H ((nm, v) :: xs1) ((nm, y) :: fs1) (bs ++ as1)) → ∃ cs, Fds K F H (putF nm v xs) fs' cs ∧ List.Perm cs (bs ++ as)
  | _, _, _, _, nm, y, v, bs, .nil, h, k => by
    cases h
    exact ⟨bs ++ [], k .nil, .refl _⟩
  | _, _, _, _, nm, y, v, bs, .sh (n := n) r t, h, k => by
    unfold putFd at h
    show ∃ cs, Fds K F H (if n = nm then _ else _) _ cs ∧ _
    split at h
    · next e =>
      cases h
      subst e
      rw [if_pos rfl]
      exact ⟨_, k t, .refl _⟩
    · next e =>
      obtain ⟨r', h1, h2⟩ := map_some h
      subst h2
      rw [if_neg e]
      obtain ⟨cs, q1, q2⟩ := Fds.put t h1 k
      exact ⟨cs, .sh r q1, q2⟩
  | _, _, _, _, nm, y, v, bs, .own (n := n) (p := p) (as := as) r t, h, k => by
    unfold putFd at h
    show ∃ cs, Fds K F H (if n = nm then _ else _) _ cs ∧ _
    split at h
    · cases h
    · next e =>
      obtain ⟨r', h1, h2⟩ := map_some h
      subst h2
      rw [if_neg e]
      obtain ⟨cs, q1, q2⟩ := Fds.put t h1 k
      exact ⟨p :: cs, .own r q1, (q2.cons p).trans List.perm_middle.symm⟩
  | _, _, _, _, nm, y, v, bs, .own2 (n := n) (p := p) (qs := qs) (as := as) h0 r t, h, k => by
    unfold putFd at h
    show ∃ cs, Fds K F H (if n = nm then _ else _) _ cs ∧ _
    split at h
    · cases h
    · next e =>
      obtain ⟨r', h1, h2⟩ := map_some h
      subst h2
      rw [if_neg e]
      obtain ⟨cs, q1, q2⟩ := Fds.put t h1 k
      refine ⟨p :: (qs ++ cs), .own2 h0 r q1, ?_⟩
      have e2 : List.Perm (p :: qs ++ cs) (bs ++ (p :: qs ++ as)) := by
        refine ((List.Perm.append_left (p :: qs) q2)).trans ?_
        rw [← List.append_assoc, ← List.append_assoc]
        exact List.Perm.append_right as List.perm_append_comm
      exact e2
theorem Fds.putSh : ∀ {xs : List (Str × V)} {fs fs' : List (Str × Fd)} {as : List Addr} {nm : Str} {d : D} {v : V}, Fds K F H xs fs as → putFd nm (.sh d) fs = some fs' → Rep K F v d → Fds K F H (putF nm v xs) fs' as
  | _, _, _, _, nm, y, v, .nil, h, k => by
    cases h
    exact .sh k .nil
  | _, _, _, _, nm, y, v, .sh (n := n) r t, h, k => by
    unfold putFd at h
    show Fds K F H (if n = nm then _ else _) _ _
    split at h
    · next e =>
      cases h
      subst e
      rw [if_pos rfl]
      exact .sh k t
    · next e =>
      obtain ⟨r', h1, h2⟩ := map_some h
      subst h2
      rw [if_neg e]
      exact .sh r (Fds.putSh t h1 k)
  | _, _, _, _, nm, y, v, .own (n := n) r t, h, k => by
    unfold putFd at h
    show Fds K F H (if n = nm then _ else _) _ _
    split at h
    · cases h
    · next e =>
      obtain ⟨r', h1, h2⟩ := map_some h
      subst h2
      rw [if_neg e]
      exact .own r (Fds.putSh t h1 k)
  | _, _, _, _, nm, y, v, .own2 (n := n) h0 r t, h, k => by
    unfold putFd at h
    show Fds K F H (if n = nm then _ else _) _ _
    split at h
    · cases h
    · next e =>
      obtain ⟨r', h1, h2⟩ := map_some h
      subst h2
      rw [if_neg e]
      exact .own2 h0 r (Fds.putSh t h1 k)
/-- slot i's object has changed: its own addresses may be others -/
theorem Rel.mutE {i : Nat} {a : Addr} {o : HO} {e : E} {v : V} {as' : List Addr} (R : Rel K z ρ σ F H O) (ha : a ∈ O i) (hz : z.H0 a = none ∨ z.B a) (hv : σ[i]? = some (some v)) (he : Ent K z F (upd H a o) v e as')
    (hn : ∀ b ∈ as', b ∈ O i ∨ (F b = none ∧ H b ≠ none ∧ ∀ j, b ∉ O j)) (ho : ∀ vs, o ≠ .tup vs := by intro _ q; cases q) : Rel K z (ρ.set i (some e)) σ F (upd H a o) (setO O i as') where
  len := by rw [List.length_set, R.len]
  sub := DL.Same.upd2 R.sub (R.off i a ha).1
  ent := fun j e' hj => by
    unfold setO
    by_cases q : j = i
    · subst q
      have hl : j < ρ.length := by
        have := (List.getElem?_eq_some_iff.mp hj).1
        rw [List.length_set] at this
        exact this
      rw [List.getElem?_set_self hl] at hj
      cases hj
      rw [if_pos rfl]
      exact ⟨v, hv, he⟩
    · rw [List.getElem?_set_ne (Ne.symm q)] at hj
      rw [if_neg q]
      obtain ⟨w, h1, h2⟩ := R.ent j e' hj
      exact ⟨w, h1, h2.mono (Same.refl _) fun b hb => upd_ne (show b ≠ a from fun x => q (R.apt j i a (x ▸ hb) ha))⟩
  off := fun j b hb => by
    unfold setO at hb
    have q1 : F b = none ∧ H b ≠ none := by
      split at hb
      · rcases hn b hb with q | q
        · exact R.off i b q
        · exact ⟨q.1, q.2.1⟩
      · exact R.off j b hb
    refine ⟨q1.1, ?_⟩
    by_cases q : b = a
    · rw [q, upd_same]
      exact fun z => nomatch z
    · rw [upd_ne q]
      exact q1.2
  apt := fun j k b hj hk => by
    unfold setO at hj hk
    by_cases q : j = i
    · by_cases q2 : k = i
      · rw [q, q2]
      · rw [if_pos q] at hj
        rw [if_neg q2] at hk
        rcases hn b hj with q3 | q3
        · exact absurd (R.apt k i b hk q3) q2
        · exact absurd hk (q3.2.2 k)
    · by_cases q2 : k = i
      · rw [if_neg q] at hj
        rw [if_pos q2] at hk
        rcases hn b hk with q3 | q3
        · exact absurd (R.apt j i b hj q3) q
        · exact absurd hj (q3.2.2 j)
      · rw [if_neg q] at hj
        rw [if_neg q2] at hk
        exact R.apt j k b hj hk
  old := R.old
  oldH := fun b h => by
    by_cases e : b = a
    · rw [e, upd_same]
      exact fun z => nomatch z
    · rw [upd_ne e]
      exact R.oldH b h
  keep := fun b o' h nb => by
    have e : b ≠ a := fun e => by
      subst e
      rcases hz with hz | hz
      · rw [hz] at h
        cases h
      · exact nb hz
    rw [upd_ne e]
    exact R.keep b o' h nb
  f0 := R.f0
  tup := R.tup.up ho
end
section
variable {X : Cx} {z : Z}
/-! ### x.f -/
def cFld (i : Nat) (nm : Str) : Env → Option D := fun ρ => match ρ[i]? with
  | some (some (.ob _ fs)) => shF nm fs
  | some (some (.obs fs)) => keyF nm fs
  | _ => none
theorem q_fld (i : Nat) {x nm : Str} {p1 pos : Pos} (hN : X.N[i]? = some x := by rfl) (hv : Vis X.env.scope x := by first | exact Or.inl rfl | exact Or.inr (Or.inl rfl) | exact Or.inr (Or.inr rfl)) (hd : (x == ("__debug__" : Str)) = false := by decide)
    (hcd : (x == ("__classdict__" : Str)) = false := by decide) (hbase : attributeBase (.Name x p1) nm X.env (eval (.Name x p1) X.env) = eval (.Name x p1) X.env := by rfl) : PE X (.Attribute (.Name x p1) nm pos) (tP X.K z (cFld i nm)) :=
  (pe_fld (pe_var hN hv hd hcd) hbase).mono fun σ H Q ⟨ρ, F, O, d, R, e, q⟩ => by
    unfold cFld at e
    split at e
    · next m fs h =>
      obtain ⟨p, h1, ⟨dx, xs, as', e2, h2, h3, h4, h6⟩, h5⟩ := obL_of (i := i) (m := m) (fs := fs) R (by rw [h]; rfl)
      obtain ⟨v, l, r⟩ := h6.shF e
      refine ⟨_, h1, p, z.cl, dx, xs, v, rfl, h2, h3.cls, h3.no _ (shF_mem e), l, q v H (Same.refl _) ?_⟩
      rw [ext_self R.sub]
      exact r
    · next fs h =>
      obtain ⟨v, h1, _, p, C, dx, xs, e1, h2, h3, h4, h5⟩ := R.ent i _ h
      subst e1
      obtain ⟨v, l, r⟩ := keyF_of h4 h5 e
      refine ⟨_, h1, p, C, dx, xs, v, rfl, R.sub _ _ h2, h3.cls, h3.no _ (keyF_mem e), l, q v H (Same.refl _) ?_⟩
      rw [ext_self R.sub]
      exact r
    · cases e
/-! ### x.f = e -/
def gFld (i : Nat) (nm : Str) (f : Env → Option (D × Env)) : Gs := fun ρ => (f ρ).bind fun p => (obL p.2[i]?).bind fun q => if q.2.length ≤ 900 then (putFd nm (.sh p.1) q.2).map fun fs' => (.nx, p.2.set i (some (.ob q.1 fs'))) else none
theorem Ob.put {K : PySem.W.Frag} {F H : Hp} {c p : Addr} {fs fs' : List (Str × Fd)} {as : List Addr} {nm : Str} {y : Fd} {v : V} {bs : List Addr} (h : Ob K F H c p fs as) (no : NoAttr K c nm) (hp : putFd nm y fs = some fs')
    (k : ∀ {H' : Hp}, (∀ a, a ≠ p → H' a = H a) → ∀ {xs1 fs1 as1}, Fds K F H' xs1 fs1 as1 → Fds K F H' ((nm, v) :: xs1) ((nm, y) :: fs1) (bs ++ as1)) (hb : bs.Nodup ∧ ∀ b ∈ bs, b ∉ as) :
    ∃ dx xs as', H p = some (.ins c dx xs) ∧ Cls K c ∧ xs.length = fs.length ∧ Ob K F (upd H p (.ins c dx (putF nm v xs))) c p fs' as' ∧ (∀ a ∈ as', a ∈ as ∨ a ∈ bs) ∧ p ∈ as := by
  obtain ⟨dx, xs, as', e2, h2, h3, h4, h6⟩ := h
  subst e2
  have hne : ∀ a ∈ as', a ≠ p := fun a ha e => (List.nodup_cons.mp h4).1 (e ▸ ha)
  have t := h6.mono (H' := upd H p (.ins c dx (putF nm v xs))) (Same.refl F) fun a ha => upd_ne (hne a ha)
  obtain ⟨cs, q1, q2⟩ := t.put hp (v := v) (bs := bs) fun t1 => k (fun a ha => upd_ne ha) t1
  refine ⟨dx, xs, p :: cs, h2, h3.cls, h6.len, ⟨dx, _, cs, rfl, upd_same, ⟨h3.cls, fun n hn => ?_⟩, ?_, q1⟩, fun a ha => ?_, List.mem_cons_self⟩
  · rcases putFd_names hp n hn with e | e
    · rw [e]
      exact no
    · exact h3.no n e
  · have hnd : (p :: (bs ++ as')).Nodup := by
      rw [List.nodup_cons, List.nodup_append]
      refine ⟨fun ha => ?_, hb.1, (List.nodup_cons.mp h4).2, fun a ha b hb' e => hb.2 a ha (e ▸ List.mem_cons_of_mem _ hb')⟩
      rcases List.mem_append.mp ha with ha | ha
      · exact hb.2 p ha List.mem_cons_self
      · exact (List.nodup_cons.mp h4).1 ha
    exact ((q2.cons p).nodup_iff).mpr hnd
  · rcases List.mem_cons.mp ha with e | ha
    · rw [e]
      exact .inl List.mem_cons_self
    · rcases List.mem_append.mp (q2.mem_iff.mp ha) with ha | ha
      · exact .inr ha
      · exact .inl (List.mem_cons_of_mem _ ha)
theorem Ob.putSh {K : PySem.W.Frag} {F H : Hp} {c p : Addr} {fs fs' : List (Str × Fd)} {as : List Addr} {nm : Str} {d : D} {v : V} (h : Ob K F H c p fs as) (no : NoAttr K c nm) (hp : putFd nm (.sh d) fs = some fs') (r : Rep K F v d) :
    ∃ dx xs, H p = some (.ins c dx xs) ∧ Cls K c ∧ xs.length = fs.length ∧ Ob K F (upd H p (.ins c dx (putF nm v xs))) c p fs' as := by
  obtain ⟨dx, xs, as', e2, h2, h3, h4, h6⟩ := h
  subst e2
  have hne : ∀ a ∈ as', a ≠ p := fun a ha e => (List.nodup_cons.mp h4).1 (e ▸ ha)
  have t := h6.mono (H' := upd H p (.ins c dx (putF nm v xs))) (Same.refl F) fun a ha => upd_ne (hne a ha)
  refine ⟨dx, xs, h2, h3.cls, h6.len, dx, _, as', rfl, upd_same, ⟨h3.cls, fun n hn => ?_⟩, h4, t.putSh hp r⟩
  rcases putFd_names hp n hn with e | e
  · rw [e]
    exact no
  · exact h3.no n e
theorem s_fld {C : Addr} (hz : z.cl = C) (i : Nat) {x nm : Str} {e : Expr} {f : Env → Option (D × Env)} {p1 p2 pos : Pos} (no : NoAttr X.K C nm) (he : PE X e (tR X.K z f)) (hN : X.N[i]? = some x := by rfl) (hv : Vis X.env.scope x := by first | exact Or.inl rfl | exact Or.inr (Or.inl rfl) | exact Or.inr (Or.inr rfl)) (hd : (x == ("__debug__" : Str)) = false := by decide)
    (hcd : (x == ("__classdict__" : Str)) = false := by decide) (hs : swapsWith e (some (.Attribute (.Name x p1) nm p2)) pos.line X.env = pure false := by rfl) : PS X (.Assign [.Attribute (.Name x p1) nm p2] e pos) (tS X.K z (gFld i nm f)) :=
  (ps_fld (pe_var hN hv hd hcd) he hs).mono fun D σ H ⟨ρ, F, O, fl, ρ', R, e, q⟩ => by
    obtain ⟨⟨d, ρ1⟩, h1, e⟩ := bind_some e
    obtain ⟨⟨m, fs⟩, h2, e⟩ := bind_some e
    split at e
    · next hl =>
      obtain ⟨fs', h3, e⟩ := map_some e
      cases e
      refine ⟨ρ, F, O, d, ρ1, R, h1, fun v F1 H1 R1 k1 r1 => ?_⟩
      obtain ⟨p, s1, ob, hb⟩ := obL_of R1 h2
      obtain ⟨dx, xs, g1, g2, g3, g4⟩ := ob.putSh (v := v) (by rw [hz]; exact no) h3 r1
      refine ⟨_, s1, p, z.cl, dx, xs, rfl, g1, g2, by rw [hz]; exact no, by have : fs.length ≤ 900 := hl; omega, ?_⟩
      exact q σ F1 _ _ (R1.mutE ob.mem (hb.1 p ob.mem) s1 (g4.ent hb) fun b hb => .inl hb) k1.same
    · cases e
/-- x.f = a list of one's own -/
def fdE : E → Option Fd
  | .own d => some (.own d)
  | .own2 d => some (.own2 d)
  | _ => none
def gFldW (i : Nat) (nm : Str) (f : Env → Option (E × Env)) : Gs := fun ρ => (f ρ).bind fun p => (obL p.2[i]?).bind fun q => (fdE p.1).bind fun y => if q.1 = 1 then none else if q.2.length ≤ 900 then (putFd nm y q.2).map fun fs' => (.nx, p.2.set i (some (.ob q.1 fs'))) else none
theorem fdE_of {K : PySem.W.Frag} {F H : Hp} {e : E} {y : Fd} {v : V} {as : List Addr} {nm : Str} (h : fdE e = some y) (he : Ent K z F H v e as) : as.Nodup ∧ ∀ {H' : Hp}, (∀ a ∈ as, H' a = H a) → ∀ {xs1 fs1 as1}, Fds K F H' xs1 fs1 as1 → Fds K F H' ((nm, v) :: xs1) ((nm, y) :: fs1) (as ++ as1) := by
  unfold fdE at h
  split at h
  · cases h
    obtain ⟨p, e1, e2, e3, h⟩ := he
    subst e1 e2
    exact ⟨List.nodup_cons.mpr ⟨fun h => (nomatch h), .nil⟩, fun k _ _ _ t => .own (h.mono (Same.refl _) (k p List.mem_cons_self)) t⟩
  · cases h
    obtain ⟨p, qs, ds, e1, e2, e3, h1, h2, h3, h4⟩ := he
    subst e1 e2 e3
    exact ⟨h2, fun k _ _ _ t => .own2 ((k p List.mem_cons_self).trans h1) (h4.mono (Same.refl _) fun a ha => k a (List.mem_cons_of_mem _ ha)) t⟩
  · cases h
theorem s_fldW {C : Addr} (hz : z.cl = C) (i : Nat) {x nm : Str} {e : Expr} {f : Env → Option (E × Env)} {p1 p2 pos : Pos} (no : NoAttr X.K C nm) (he : PE X e (tW X.K z f)) (hN : X.N[i]? = some x := by rfl) (hv : Vis X.env.scope x := by first | exact Or.inl rfl | exact Or.inr (Or.inl rfl) | exact Or.inr (Or.inr rfl)) (hd : (x == ("__debug__" : Str)) = false := by decide)
    (hcd : (x == ("__classdict__" : Str)) = false := by decide) (hs : swapsWith e (some (.Attribute (.Name x p1) nm p2)) pos.line X.env = pure false := by rfl) : PS X (.Assign [.Attribute (.Name x p1) nm p2] e pos) (tS X.K z (gFldW i nm f)) :=
  (ps_fld (pe_var hN hv hd hcd) he hs).mono fun D σ H ⟨ρ, F, O, fl, ρ', R, e, q⟩ => by
    obtain ⟨⟨en, ρ1⟩, h1, e⟩ := bind_some e
    obtain ⟨⟨m, fs⟩, h2, e⟩ := bind_some e
    obtain ⟨y, hy, e⟩ := bind_some e
    split at e
    · cases e
    · next hm =>
      split at e
      · next hl =>
        obtain ⟨fs', h3, e⟩ := map_some e
        cases e
        refine ⟨ρ, F, O, en, ρ1, R, h1, fun v F1 H1 as R1 k1 r1 hf => ?_⟩
        obtain ⟨p, s1, ob, hb⟩ := obL_of R1 h2
        obtain ⟨nd, hk⟩ := fdE_of (nm := nm) hy r1
        have fr : ∀ b ∈ as, ∀ j, b ∉ O j := fun b hb j hj => (R.off j b hj).2 (hf b hb).1
        obtain ⟨dx, xs, as', g1, g2, g3, g4, g5, g6⟩ := ob.put (v := v) (bs := as) (by rw [hz]; exact no) h3 (fun k _ _ _ t => hk (fun a ha => k a fun e => fr a ha i (e ▸ ob.mem)) t) ⟨nd, fun b hb => fr b hb i⟩
        refine ⟨_, s1, p, z.cl, dx, xs, rfl, g1, g2, by rw [hz]; exact no, by have : fs.length ≤ 900 := hl; omega, ?_⟩
        refine q σ F1 _ _ (R1.mutE g6 (hb.1 p g6) s1 (g4.ent ⟨fun a ha => ?_, fun e => absurd e hm, hb.2.2.1, fun e a ha => ?_⟩) fun b hb' => ?_) k1.same
        · rcases g5 a ha with q | q
          · exact hb.1 a q
          · exact .inl (H0_of R (hf a q).1)
        · rcases g5 a ha with q | q
          · exact hb.2.2.2 e a q
          · exact H0_of R (hf a q).1
        · rcases g5 b hb' with q | q
          · exact .inl q
          · exact .inr ⟨(hf b q).2.1, (hf b q).2.2, fr b q⟩
      · cases e
end
end DL

namespace DL
open PySem PySem.Spec PyProof.Rows L2

/-! ### x.f.append(e) -/
def setFd (nm : Str) (y : Fd) : List (Str × Fd) → List (Str × Fd)
  | [] => []
  | (g, x) :: r => if g = nm then (g, y) :: r else (g, x) :: setFd nm y r
theorem setFd_names (nm : Str) (y : Fd) : ∀ fs : List (Str × Fd), (setFd nm y fs).map (·.1) = fs.map (·.1)
  | [] => rfl
  | (g, x) :: r => by
    unfold setFd
    split
    · rfl
    · simp only [List.map_cons, setFd_names nm y r]
section
variable {K : PySem.W.Frag} {z : Z} {ρ : Env} {σ : L2.St} {F H : Hp} {O : Nat → List Addr}
theorem Fds.ownAt : ∀ {xs : List (Str × V)} {fs : List (Str × Fd)} {as : List Addr} {nm : Str} {ds : List D}, Fds K F H xs fs as → as.Nodup → fdF nm fs = some (.own (.list ds)) →
    ∃ l vs, xs.lookup nm = some (.ref l) ∧ l ∈ as ∧ H l = some (.lst vs) ∧ RepL K F vs ds ∧ ∀ ws es, RepL K F ws es → Fds K F (upd H l (.lst ws)) xs (setFd nm (.own (.list es)) fs) as
  | _, _, _, _, _, .nil, _, h => by cases h
  | _, _, _, nm, ds, .sh (n := n) r t, hn, h => by
    unfold fdF at h
    rw [lookup_cons']
    split at h
    · cases h
    · next e =>
      obtain ⟨l, vs, h1, h2, h3, h4, h5⟩ := Fds.ownAt t hn h
      rw [if_neg e]
      refine ⟨l, vs, h1, h2, h3, h4, fun ws es q => ?_⟩
      unfold setFd
      rw [if_neg e]
      exact .sh r (h5 ws es q)
  | _, _, _, nm, ds, .own (n := n) (p := p) o t, hn, h => by
    unfold fdF at h
    rw [lookup_cons']
    obtain ⟨n1, n2⟩ := List.nodup_cons.mp hn
    split at h
    · next e =>
      cases h
      obtain ⟨vs, h1, h2⟩ := o
      rw [if_pos e]
      refine ⟨p, vs, rfl, List.mem_cons_self, h1, h2, fun ws es q => ?_⟩
      unfold setFd
      rw [if_pos e]
      exact .own ⟨ws, upd_same, q⟩ (t.mono (Same.refl _) fun a ha => upd_ne fun x => n1 (x ▸ ha))
    · next e =>
      obtain ⟨l, vs, h1, h2, h3, h4, h5⟩ := Fds.ownAt t n2 h
      rw [if_neg e]
      refine ⟨l, vs, h1, List.mem_cons_of_mem _ h2, h3, h4, fun ws es q => ?_⟩
      unfold setFd
      rw [if_neg e]
      exact .own (o.mono (Same.refl _) (upd_ne fun x => n1 (x ▸ h2))) (h5 ws es q)
  | _, _, _, nm, ds, .own2 (n := n) (p := p) (qs := qs) h0 o t, hn, h => by
    unfold fdF at h
    rw [lookup_cons']
    obtain ⟨n1, n2⟩ := List.nodup_cons.mp hn
    obtain ⟨n3, n4, n5⟩ := List.nodup_append.mp n2
    split at h
    · cases h
    · next e =>
      obtain ⟨l, vs, h1, h2, h3, h4, h5⟩ := Fds.ownAt t n4 h
      rw [if_neg e]
      refine ⟨l, vs, h1, List.mem_cons_of_mem _ (List.mem_append_right _ h2), h3, h4, fun ws es q => ?_⟩
      unfold setFd
      rw [if_neg e]
      exact .own2 ((upd_ne fun x => n1 (by rw [x]; exact List.mem_append_right _ h2)).trans h0) (o.mono (Same.refl _) fun a ha => upd_ne fun x => n5 a ha l h2 x) (h5 ws es q)
theorem Ob.ownAt {c p : Addr} {fs : List (Str × Fd)} {as : List Addr} {nm : Str} {ds : List D} (h : Ob K F H c p fs as) (hf : fdF nm fs = some (.own (.list ds))) :
    ∃ dx xs l vs, H p = some (.ins c dx xs) ∧ Cls K c ∧ NoAttr K c nm ∧ xs.lookup nm = some (.ref l) ∧ l ∈ as ∧ l ≠ p ∧ H l = some (.lst vs) ∧ RepL K F vs ds ∧ ∀ ws es, RepL K F ws es → Ob K F (upd H l (.lst ws)) c p (setFd nm (.own (.list es)) fs) as := by
  obtain ⟨dx, xs, as', e2, h2, h3, h4, h6⟩ := h
  subst e2
  obtain ⟨n1, n2⟩ := List.nodup_cons.mp h4
  obtain ⟨l, vs, g1, g2, g3, g4, g5⟩ := h6.ownAt n2 hf
  have np : p ≠ l := fun e => n1 (e ▸ g2)
  exact ⟨dx, xs, l, vs, h2, h3.cls, h3.no _ (fdF_mem hf), g1, List.mem_cons_of_mem _ g2, np.symm, g3, g4, fun ws es q => ⟨dx, xs, as', rfl, (upd_ne np).trans h2, by rw [setFd_names]; exact h3, h4, g5 ws es q⟩⟩
end
def gFApp (i : Nat) (nm : Str) (f : Env → Option D) : Gs := fun ρ => (obL ρ[i]?).bind fun q => match fdF nm q.2 with
  | some (.own (.list ds)) => (f ρ).bind fun d => if ds.length ≤ 1000 then some (.nx, ρ.set i (some (.ob q.1 (setFd nm (.own (.list (ds ++ [d]))) q.2)))) else none
  | _ => none
section
variable {X : Cx} {z : Z}
theorem s_fapp (i : Nat) {x nm : Str} {e : Expr} {f : Env → Option D} {p0 p1 p2 p3 pos : Pos} (he : PE X e (tP X.K z f)) (hN : X.N[i]? = some x := by rfl) (hv : Vis X.env.scope x := by first | exact Or.inl rfl | exact Or.inr (Or.inl rfl) | exact Or.inr (Or.inr rfl)) (hd : (x == ("__debug__" : Str)) = false := by decide)
    (hcd : (x == ("__classdict__" : Str)) = false := by decide)
    (hb1 : attributeBase (.Name x p0) nm X.env (eval (.Name x p0) X.env) = eval (.Name x p0) X.env := by rfl)
    (hbase : attributeBase (.Attribute (.Name x p0) nm p1) "append" X.env (eval (.Attribute (.Name x p0) nm p1) X.env) = eval (.Attribute (.Name x p0) nm p1) X.env := by rfl)
    (hfew : ((backTo p3 (starEach [e] X.env)).all (fun x => !x.1) && (backToKw p3 (keywordEach [] X.env)).all (fun x => x.1.isSome)
      && decide ([e].length + ([] : List Keyword).length + (if ([] : List Keyword).isEmpty then 0 else 1) < 30)) = true := by rfl)
    (hline : (p2.endLine == p3.line) = true := by rfl) (hs : starEach [e] X.env = (false, eval e X.env) :: starEach [] X.env := by rfl) (hpl : (backTo p3 (starEach [] X.env)).any (·.1) = false := by rfl)
    (hsw : swapsWith (.Call (.Attribute (.Attribute (.Name x p0) nm p1) "append" p2) [e] [] p3) none pos.line X.env = pure false := by rfl) :
    PS X (.Expr (.Call (.Attribute (.Attribute (.Name x p0) nm p1) "append" p2) [e] [] p3) pos) (tS X.K z (gFApp i nm f)) :=
  (ps_expr (pe_bm PySem.F.plainAttrs_list PySem.F.slot_list_append PySem.F.type_list_append mt_append (pe_fld (pe_var hN hv hd hcd) hb1) (pa_cons he pa_nil hs) hbase hfew hline hs hpl) hsw).mono fun D σ H ⟨ρ, F, O, fl, ρ', R, e, q⟩ => by
    obtain ⟨⟨m, fs⟩, h0, e⟩ := bind_some e
    dsimp only at e
    split at e
    · next ds hf =>
      obtain ⟨d, h1, e⟩ := bind_some e
      split at e
      · next hl =>
        cases e
        obtain ⟨p, s1, ob, hb⟩ := obL_of R h0
        obtain ⟨dx, xs, l, vs, g1, g2, g3, g4, g5, g6, g7, g8, _⟩ := ob.ownAt hf
        refine ⟨_, s1, p, z.cl, dx, xs, .ref l, rfl, g1, g2, g3, g4, .inl ⟨rfl, _, SqL.of g7⟩, ρ, F, O, d, R, h1, fun v H' sm r => ?_⟩
        have R' := R.grow sm
        obtain ⟨p', s1', ob', hb'⟩ := obL_of R' h0
        have e1 := s1.symm.trans s1'
        cases e1
        obtain ⟨dx', xs', l', vs', t1, t2, t3, t4, t5, t6, t7, t8, t9⟩ := ob'.ownAt hf
        have e2 := (sm _ _ g1).symm.trans t1
        cases e2
        have e3 := g4.symm.trans t4
        cases e3
        refine ⟨l, vs', v, rfl, rfl, t7, by have := t8.length; have := small1000 hl; omega, ?_⟩
        exact q σ _ _ _ (R'.mutE t5 (hb'.1 l t5) s1 ((t9 _ _ (t8.append (.cons r .nil))).ent hb') fun b hb => .inl hb) (same_ext R.sub)
      · cases e
    · cases e
end

/-! ### what a method leaves -/
structure Left (F H F' H' : Hp) (W : List Addr) : Prop where
  same : Same F F'
  sub : Same F' H'
  tup : AllT F' H'
  keep : ∀ a o, a ∉ W → H a = some o → H' a = some o
  dom : ∀ a, H a ≠ none → H' a ≠ none
  out : ∀ a, H a ≠ none → F a = none → F' a = none
section
variable {K : PySem.W.Frag} {z : Z} {ρ ρ' : Env} {σ : L2.St} {F H F' H' : Hp} {O O' : Nat → List Addr} {W : List Addr}
theorem Rel.leave (R : Rel K z ρ σ F H O) (L : Left F H F' H' W) (hl : ρ'.length = ρ.length)
    (h1 : ∀ (k : Nat) e, ρ'[k]? = some (some e) → (ρ[k]? = some (some e) ∧ O' k = O k ∧ ∀ a ∈ O k, a ∉ W) ∨ ∃ v, σ[k]? = some (some v) ∧ Ent K z F' H' v e (O' k))
    (h2 : ∀ k a, a ∈ O' k → a ∈ O k ∨ (H a = none ∧ F' a = none ∧ H' a ≠ none ∧ ∀ j, a ∈ O' j → j = k)) (hW : ∀ a ∈ W, z.H0 a = none ∨ z.B a) : Rel K z ρ' σ F' H' O' where
  len := hl.trans R.len
  sub := L.sub
  ent := fun k e he => by
    rcases h1 k e he with ⟨q1, q2, q3⟩ | q
    · obtain ⟨v, g1, g2⟩ := R.ent k e q1
      rw [q2]
      refine ⟨v, g1, g2.mono L.same fun a ha => ?_⟩
      obtain ⟨o, ho⟩ := some_of (R.off k a ha).2
      rw [ho]
      exact L.keep a o (q3 a ha) ho
    · exact q
  off := fun k a ha => by
    rcases h2 k a ha with q | q
    · exact ⟨L.out a (R.off k a q).2 (R.off k a q).1, L.dom a (R.off k a q).2⟩
    · exact ⟨q.2.1, q.2.2.1⟩
  apt := fun k j a hk hj => by
    rcases h2 k a hk with q | q
    · rcases h2 j a hj with q2 | q2
      · exact R.apt k j a q q2
      · exact absurd q2.1 (R.off k a q).2
    · exact (q.2.2.2 j hj).symm
  old := fun a h0 f0 => L.out a (R.oldH a h0) (R.old a h0 f0)
  oldH := fun a h0 => L.dom a (R.oldH a h0)
  keep := fun a o h b => by
    refine L.keep a o (fun hw => ?_) (R.keep a o h b)
    rcases hW a hw with q | q
    · rw [q] at h
      cases h
    · exact b q
  f0 := R.f0.trans L.same
  tup := L.tup
theorem Left.kp (L : Left F H F' H' W) (hW : ∀ a ∈ W, ∃ i, a ∈ O i) : Kp F H F' H' O :=
  ⟨L.same, fun a o h n => L.keep a o (fun hw => by
    obtain ⟨i, hi⟩ := hW a hw
    exact n i hi) h, L.out, L.dom⟩
/-- a value that a method gives: shared, or new lists -/
def okV : E → Bool
  | .sh _ => true
  | .own _ => true
  | .own2 _ => true
  | _ => false
def EntV (K : PySem.W.Frag) (F H : Hp) (v : V) (e : E) (as : List Addr) : Prop := okV e = true ∧ Ent K ⟨fun _ => none, F, fun _ => False, 0, []⟩ F H v e as
theorem EntV.ent {v : V} {e : E} {as : List Addr} (h : EntV K F H v e as) (h0 : ∀ a ∈ as, z.H0 a = none) : Ent K z F H v e as := by
  obtain ⟨h1, h⟩ := h
  cases e with
  | sh d => exact h
  | own d =>
    obtain ⟨p, e1, e2, e3, h⟩ := h
    exact ⟨p, e1, e2, h0 p (by rw [e2]; exact List.mem_cons_self), h⟩
  | own2 d =>
    obtain ⟨p, qs, ds, e1, e2, e3, g1, g2, g3, g4⟩ := h
    exact ⟨p, qs, ds, e1, e2, e3, g1, g2, fun a ha => h0 a (by rw [e2]; exact ha), g4⟩
  | _ => cases h1
theorem Ent.toV {v : V} {e : E} {as : List Addr} (h : Ent K z F H v e as) (h1 : okV e = true) : EntV K F H v e as := by
  refine ⟨h1, ?_⟩
  cases e with
  | sh d => exact h
  | own d =>
    obtain ⟨p, e1, e2, e3, h⟩ := h
    exact ⟨p, e1, e2, rfl, h⟩
  | own2 d =>
    obtain ⟨p, qs, ds, e1, e2, e3, g1, g2, g3, g4⟩ := h
    exact ⟨p, qs, ds, e1, e2, e3, g1, g2, fun a ha => rfl, g4⟩
  | _ => cases h1
end
/-! ### promises of methods -/
/-- a method that keeps its object's lists where they are -/
def spM (K : PySem.W.Frag) (c : Addr) (m : List (Str × Fd) → List D → Option (E × List (Str × Fd))) : Sp := fun vs H Q _ => ∃ F p as fs vs' ds e fs', vs = .ref p :: vs' ∧ (Same F H ∧ AllT F H) ∧ (∀ a ∈ as, F a = none ∧ H a ≠ none) ∧ Ob K F H c p fs as ∧ RepL K F vs' ds ∧ m fs ds = some (e, fs') ∧
  ∀ v F' H' asv, Left F H F' H' as → Ob K F' H' c p fs' as → EntV K F' H' v e asv → (∀ a ∈ asv, H a = none ∧ F' a = none ∧ H' a ≠ none) → Q v H'
/-- the same, with a list of the caller's that it writes to -/
def spM2 (K : PySem.W.Frag) (c : Addr) (m : List (Str × Fd) → List D → List D → Option (E × List (Str × Fd) × List D)) : Sp := fun vs H Q _ => ∃ F p as q ws gs fs vs' ds e fs' gs', vs = .ref p :: .ref q :: vs' ∧ (Same F H ∧ AllT F H) ∧ (∀ a ∈ as, F a = none ∧ H a ≠ none) ∧ (F q = none ∧ q ∉ as ∧ H q = some (.lst ws) ∧ RepL K F ws gs) ∧ Ob K F H c p fs as ∧ RepL K F vs' ds ∧ m fs gs ds = some (e, fs', gs') ∧
  ∀ v F' H' ws' asv, Left F H F' H' (q :: as) → Ob K F' H' c p fs' as → H' q = some (.lst ws') → RepL K F' ws' gs' → EntV K F' H' v e asv → (∀ a ∈ asv, H a = none ∧ F' a = none ∧ H' a ≠ none) → Q v H'
/-- a method that may lay its object's lists anew; it gives None -/
def spMx (K : PySem.W.Frag) (c : Addr) (m : List (Str × Fd) → List D → Option (List (Str × Fd))) : Sp := fun vs H Q _ => ∃ F p as fs vs' ds fs', vs = .ref p :: vs' ∧ (Same F H ∧ AllT F H) ∧ (∀ a ∈ as, F a = none ∧ H a ≠ none) ∧ Ob K F H c p fs as ∧ RepL K F vs' ds ∧ m fs ds = some fs' ∧
  ∀ F' H' as', Left F H F' H' as → Ob K F' H' c p fs' as' → (∀ a ∈ as', F' a = none ∧ H' a ≠ none ∧ (a ∈ as ∨ H a = none)) → Q .non H'
/-- a method that writes nothing: an atom, or a new list of atoms -/
def AtR (K : PySem.W.Frag) (H H' : Hp) (v : V) : E → Prop
  | .sh d => isAt d = true ∧ Rep K H' v d
  | .own (.list ds) => ds.all isAt = true ∧ ∃ q ws, v = .ref q ∧ H q = none ∧ H' q = some (.lst ws) ∧ RepL K H' ws ds
  | _ => False
def spO (K : PySem.W.Frag) (m : List (Str × D) → List D → Option E) : Sp := fun vs H Q _ => ∃ p C dx xs fs vs' ds e, vs = .ref p :: vs' ∧ H p = some (.ins C dx xs) ∧ OkC K C (fs.map (·.1)) ∧ xs.map (·.1) = fs.map (·.1) ∧ RepL K H (xs.map (·.2)) (fs.map (·.2)) ∧ RepL K H vs' ds ∧ m fs ds = some e ∧
  ∀ v H', Same H H' → AtR K H H' v e → Q v H'

/-! ### a block that ends by giving what it owns -/
def tSE (K : PySem.W.Frag) (z : Z) (g : Env → Option (E × Env)) : TS := fun D σ H => ∃ ρ F O e ρ', Rel K z ρ σ F H O ∧ g ρ = some (e, ρ') ∧
  ∀ v σ' F' H' O' as, Rel K z ρ' σ' F' H' O' → Same F F' → EntV K F' H' v e as → (∀ a ∈ as, z.H0 a = none ∧ F' a = none ∧ H' a ≠ none ∧ ∀ i, a ∉ O' i) → D.rt v H'
def gSeqE (g : Gs) (h : Env → Option (E × Env)) : Env → Option (E × Env) := fun ρ => (g ρ).bind fun p => match p.1 with
  | .nx => h p.2
  | _ => none
def eRet (i : Nat) : Env → Option (E × Env) := fun ρ => match ρ[i]? with
  | some (some (.own d)) => some (.own d, ρ.set i none)
  | some (some (.own2 d)) => some (.own2 d, ρ.set i none)
  | _ => none
section
variable {X : Cx} {z : Z}
theorem s_consE {st : Stmt} {rest : List Stmt} {g : Gs} {h : Env → Option (E × Env)} (h1 : PS X st (tS X.K z g)) (h2 : PSs X rest (tSE X.K z h)) : PSs X (st :: rest) (tSE X.K z (gSeqE g h)) :=
  (pss_cons h1 h2).mono fun D σ H ⟨ρ, F, O, en, ρ', R, e, q⟩ => by
    obtain ⟨⟨fl1, ρ1⟩, h1, h2⟩ := bind_some e
    refine ⟨ρ, F, O, fl1, ρ1, R, h1, ?_⟩
    cases fl1 with
    | nx => exact fun σ' F' H' O' R' s => ⟨ρ1, F', O', en, ρ', R', h2, fun v σ2 F2 H2 O2 as R2 s2 => q v σ2 F2 H2 O2 as R2 (s.trans s2)⟩
    | bk => cases h2
    | ct => cases h2
    | ret d => cases h2
theorem Rel.clear {K : PySem.W.Frag} {ρ : Env} {σ : L2.St} {F H : Hp} {O : Nat → List Addr} (R : Rel K z ρ σ F H O) (i : Nat) : Rel K z (ρ.set i none) σ F H (setO O i []) where
  len := by rw [List.length_set, R.len]
  sub := R.sub
  ent := fun j e hj => by
    unfold setO
    by_cases q : j = i
    · subst q
      rw [List.getElem?_set] at hj
      rw [if_pos rfl] at hj
      split at hj <;> cases hj
    · rw [List.getElem?_set_ne (Ne.symm q)] at hj
      rw [if_neg q]
      exact R.ent j e hj
  off := fun j a ha => by
    unfold setO at ha
    split at ha
    · cases ha
    · exact R.off j a ha
  apt := fun j k a hj hk => by
    unfold setO at hj hk
    split at hj
    · cases hj
    · split at hk
      · cases hk
      · exact R.apt j k a hj hk
  old := R.old
  oldH := R.oldH
  keep := R.keep
  f0 := R.f0
  tup := R.tup
theorem s_retE (i : Nat) {x : Str} {p pos : Pos} (hN : X.N[i]? = some x := by rfl) (hv : Vis X.env.scope x := by first | exact Or.inl rfl | exact Or.inr (Or.inl rfl) | exact Or.inr (Or.inr rfl)) (hd : (x == ("__debug__" : Str)) = false := by decide)
    (hcd : (x == ("__classdict__" : Str)) = false := by decide) : PSs X [.Return (some (.Name x p)) pos] (tSE X.K z (eRet i)) :=
  (pss_one (ps_ret (pe_var hN hv hd hcd))).mono fun D σ H ⟨ρ, F, O, en, ρ', R, e, q⟩ => by
    unfold eRet at e
    have fin : ∀ (e0 : E), ρ[i]? = some (some e0) → okV e0 = true → (∀ a ∈ O i, z.H0 a = none) → (en, ρ') = (e0, ρ.set i none) → ∃ v, σ[i]? = some (some v) ∧ D.rt v H := fun e0 h1 h2 h3 h4 => by
      cases h4
      obtain ⟨v, g1, g2⟩ := R.ent i _ h1
      refine ⟨v, g1, q v σ F H _ (O i) (R.clear i) (Same.refl _) (g2.toV h2) fun a ha => ⟨h3 a ha, (R.off i a ha).1, (R.off i a ha).2, fun j hj => ?_⟩⟩
      unfold setO at hj
      split at hj
      · cases hj
      · next n => exact n (R.apt j i a hj ha)
    split at e
    · next d h =>
      refine fin _ h rfl (fun a ha => ?_) (Option.some.inj e).symm
      obtain ⟨v, g1, p, e1, e2, e3, _⟩ := R.ent i _ h
      rw [e2] at ha
      rcases List.mem_cons.mp ha with q | q
      · rw [q]
        exact e3
      · cases q
    · next d h =>
      refine fin _ h rfl (fun a ha => ?_) (Option.some.inj e).symm
      obtain ⟨v, g1, p, qs, ds, e1, e2, e3, _, _, e4, _⟩ := R.ent i _ h
      rw [e2] at ha
      exact e4 a ha
    · cases e
end

/-! ### a method by its body -/
def obAt (m : Nat) (ρ : Env) : Option (List (Str × Fd)) := (obL ρ[0]?).bind fun q => if q.1 = m then some q.2 else none
def runM (N n : Nat) (g : Gs) : List (Str × Fd) → List D → Option (E × List (Str × Fd)) := fun fs ds => if ds.length + 1 = n then (g (some (.ob 1 fs) :: ini (N - 1) ds)).bind fun p => (fin p).bind fun d => (obAt 1 p.2).map fun fs' => (.sh d, fs') else none
def runME (N n : Nat) (g : Env → Option (E × Env)) : List (Str × Fd) → List D → Option (E × List (Str × Fd)) := fun fs ds => if ds.length + 1 = n then (g (some (.ob 1 fs) :: ini (N - 1) ds)).bind fun p => (obAt 1 p.2).map fun fs' => (p.1, fs') else none
def runMx (N n : Nat) (g : Gs) : List (Str × Fd) → List D → Option (List (Str × Fd)) := fun fs ds => if ds.length + 1 = n then (g (some (.ob 2 fs) :: ini (N - 1) ds)).bind fun p => (fin p).bind fun d => match d with
  | .none => obAt 2 p.2
  | _ => none
  else none
def runM2 (N n : Nat) (g : Gs) : List (Str × Fd) → List D → List D → Option (E × List (Str × Fd) × List D) := fun fs gs ds => if ds.length + 2 = n then (g (some (.ob 1 fs) :: some (.row (.list gs)) :: ini (N - 2) ds)).bind fun p => (fin p).bind fun d => (obAt 1 p.2).bind fun fs' => (rowL p.2[1]?).map fun gs' => (.sh d, fs', gs') else none
def runO (N n : Nat) (g : Gs) : List (Str × D) → List D → Option E := fun fs ds => if ds.length + 1 = n then (g (some (.obs fs) :: ini (N - 1) ds)).bind fun p => (fin p).bind fun d => if isAt d then some (.sh d) else none else none
def runOE (N n : Nat) (g : Env → Option (E × Env)) : List (Str × D) → List D → Option E := fun fs ds => if ds.length + 1 = n then (g (some (.obs fs) :: ini (N - 1) ds)).bind fun p => match p.1 with
  | .own (.list es) => if es.all isAt then some (.own (.list es)) else none
  | _ => none
  else none
section
variable {K : PySem.W.Frag} {F H : Hp}
theorem ini_len (N : Nat) (ds : List D) : (ini N ds).length = ds.length + (N - ds.length) := by
  unfold ini
  rw [List.length_append, List.length_map, List.length_replicate]
theorem rel_startM {c : Addr} {m : Nat} (hm : m ≠ 0 := by decide) {N : List Str} {p : Addr} {vs : List V} {ds : List D} {fs : List (Str × Fd)} {as : List Addr} (hN : 0 < N.length) (s : Same F H) (t : AllT F H) (ha : ∀ a ∈ as, F a = none ∧ H a ≠ none) (ob : Ob K F H c p fs as) (r : RepL K F vs ds) :
    Rel K ⟨H, F, fun a => a ∈ as, c, as⟩ (some (.ob m fs) :: ini (N.length - 1) ds) (L2.start N (.ref p :: vs)) F H (fun i => if i = 0 then as else []) where
  len := by
    unfold ini L2.start
    simp only [List.length_append, List.length_map, List.length_replicate, List.length_cons, r.length]
    omega
  sub := s
  ent := fun i e h => by
    cases i with
    | zero =>
      cases h
      refine ⟨.ref p, rfl, Ob.ent (z := ⟨H, F, fun a => a ∈ as, c, as⟩) ob ⟨fun a ha => .inr ha, fun _ => rfl, fun _ => ?_, fun e => absurd e hm⟩⟩
      obtain ⟨_, _, _, e, _⟩ := ob
      show as.head? = _
      rw [e]
      rfl
    | succ i =>
      have h : (ini (N.length - 1) ds)[i]? = some (some e) := h
      obtain ⟨d, h1, h2⟩ := ini_get h
      subst h2
      obtain ⟨v, h3, h4⟩ := r.get h1
      exact ⟨v, start_get (by simpa using h3), rfl, h4⟩
  off := fun i a hi => by
    split at hi
    · exact ha a hi
    · cases hi
  apt := fun i j a hi hj => by
    split at hi
    · split at hj
      · omega
      · cases hj
    · cases hi
  old := fun a _ f => f
  oldH := fun a h => h
  keep := fun a o h _ => h
  f0 := Same.refl _
  tup := t
theorem rel_startM2 {c : Addr} {m : Nat} (hm : m ≠ 0 := by decide) {N : List Str} {p q : Addr} {vs ws : List V} {ds gs : List D} {fs : List (Str × Fd)} {as : List Addr} (hN : 1 < N.length) (s : Same F H) (t : AllT F H) (ha : ∀ a ∈ as, F a = none ∧ H a ≠ none) (hq : F q = none ∧ q ∉ as ∧ H q = some (.lst ws) ∧ RepL K F ws gs) (ob : Ob K F H c p fs as) (r : RepL K F vs ds) :
    Rel K ⟨H, F, fun a => a ∈ q :: as, c, as⟩ (some (.ob m fs) :: some (.row (.list gs)) :: ini (N.length - 2) ds) (L2.start N (.ref p :: .ref q :: vs)) F H (fun i => if i = 0 then as else if i = 1 then [q] else []) where
  len := by
    unfold ini L2.start
    simp only [List.length_append, List.length_map, List.length_replicate, List.length_cons, r.length]
    omega
  sub := s
  ent := fun i e h => by
    cases i with
    | zero =>
      cases h
      refine ⟨.ref p, rfl, Ob.ent (z := ⟨H, F, fun a => a ∈ q :: as, c, as⟩) ob ⟨fun a ha => .inr (List.mem_cons_of_mem _ ha), fun _ => rfl, fun _ => ?_, fun e => absurd e hm⟩⟩
      obtain ⟨_, _, _, e, _⟩ := ob
      show as.head? = _
      rw [e]
      rfl
    | succ i =>
      cases i with
      | zero =>
        cases h
        exact ⟨.ref q, rfl, q, rfl, rfl, List.mem_cons_self, ws, hq.2.2.1, hq.2.2.2⟩
      | succ i =>
        have h : (ini (N.length - 2) ds)[i]? = some (some e) := h
        obtain ⟨d, h1, h2⟩ := ini_get h
        subst h2
        obtain ⟨v, h3, h4⟩ := r.get h1
        exact ⟨v, start_get (by simpa using h3), rfl, h4⟩
  off := fun i a hi => by
    split at hi
    · exact ha a hi
    · split at hi
      · rcases List.mem_cons.mp hi with e | e
        · rw [e]
          exact ⟨hq.1, ne_none hq.2.2.1⟩
        · cases e
      · cases hi
  apt := fun i j a hi hj => by
    split at hi
    · split at hj
      · omega
      · split at hj
        · rcases List.mem_cons.mp hj with e | e
          · rw [e] at hi
            exact absurd hi hq.2.1
          · cases e
        · cases hj
    · split at hi
      · rcases List.mem_cons.mp hi with e | e
        · split at hj
          · rw [e] at hj
            exact absurd hj hq.2.1
          · split at hj
            · omega
            · cases hj
        · cases e
      · cases hi
  old := fun a _ f => f
  oldH := fun a h => h
  keep := fun a o h _ => h
  f0 := Same.refl _
  tup := t
theorem left_of {c : Addr} {W fp : List Addr} {ρ : Env} {σ : L2.St} {F' H' : Hp} {O : Nat → List Addr} (R : Rel K ⟨H, F, fun a => a ∈ W, c, fp⟩ ρ σ F' H' O) : Left F H F' H' W :=
  ⟨R.f0, R.sub, R.tup, fun a o n h => R.keep a o h n, R.oldH, R.old⟩
theorem obAt_of {m : Nat} {ρ : Env} {fs : List (Str × Fd)} (h : obAt m ρ = some fs) : obL ρ[0]? = some (m, fs) := by
  obtain ⟨⟨m', fs'⟩, h1, h2⟩ := bind_some h
  split at h2
  · next e =>
    cases h2
    have e : m' = m := e
    rw [h1, e]
  · cases h2
variable {P : Program} {w : World} {mg : Str → Option Value} {base : Heap}
theorem ok_M {c : Addr} {x qual : Str} {st : Stmt} {f : Addr} {fd : FuncData} {N ps : List Str} {k : Nat} {g : Gs} (F : Fun K x qual st f fd) (S : FnScope N ps (defScope st)) (hN : 0 < N.length)
    (h : ∀ (cdv : Value) (A : Around) (outer : List PySem.Env) (s : Shared) (H : Hp) (E : XK) (z : Z), z.cl = c → Room k (A.deeper (envOfC qual (defScope st) s.heap.objs.size f cdv)) → PSs (cxOf CX0 P w K mg base N qual (defScope st) f cdv A outer s H E).nox (defBody st) (tS K z g)) :
    FnOk P w K mg base CX0 (k + 1) f fd ps (spM K c (runM N.length ps.length g)) := by
  refine F.ok S (fun vs H Q E h => ?_) (fun cdv A outer s H vs Q E hr q => ?_)
  · obtain ⟨F, p, as, fs, vs', ds, e, fs', e1, _, _, _, r, e, _⟩ := h
    unfold runM at e
    split at e
    · next hl => rw [e1, List.length_cons, r.length]; exact hl
    · cases e
  · obtain ⟨F, p, as, fs, vs', ds, e0, fs', e1, ⟨s0, t0⟩, ha, ob, r, e, q⟩ := q
    subst e1
    refine ⟨_, h cdv A outer s H E ⟨H, F, fun a => a ∈ as, c, as⟩ rfl hr, ?_⟩
    unfold runM at e
    split at e
    · obtain ⟨⟨fl, ρ'⟩, h1, e⟩ := bind_some e
      obtain ⟨d', h2, e⟩ := bind_some e
      obtain ⟨fs2, h3, e⟩ := map_some e
      cases e
      refine ⟨_, F, _, fl, ρ', rel_startM (by decide) hN s0 t0 ha ob r, h1, ?_⟩
      have go : ∀ {v : V} {σ : L2.St} {F' H' : Hp} {O : Nat → List Addr}, Rel K ⟨H, F, fun a => a ∈ as, c, as⟩ ρ' σ F' H' O → Rep K F' v d' → Q v H' := fun {v σ F' H' O} R rv => by
        obtain ⟨p', _, ob', may⟩ := obL_of R (obAt_of h3)
        have ea : O 0 = as := may.2.1 rfl
        rw [ea] at ob'
        have ep : p' = p := by
          obtain ⟨_, _, _, q1, _⟩ := ob
          obtain ⟨_, _, _, q2, _⟩ := ob'
          rw [q1] at q2
          exact (List.cons.inj q2).1.symm
        subst ep
        exact q v F' H' [] (left_of R) ob' ⟨rfl, rfl, rv⟩ fun a ha => by cases ha
      cases fl with
      | nx =>
        cases h2
        exact fun σ F' H' O R s => go R .non
      | bk => cases h2
      | ct => cases h2
      | ret d2 =>
        cases h2
        exact fun v σ F' H' O R s r => go R r
    · cases e
theorem ok_ME {c : Addr} {x qual : Str} {st : Stmt} {f : Addr} {fd : FuncData} {N ps : List Str} {k : Nat} {g : Env → Option (E × Env)} (F : Fun K x qual st f fd) (S : FnScope N ps (defScope st)) (hN : 0 < N.length)
    (h : ∀ (cdv : Value) (A : Around) (outer : List PySem.Env) (s : Shared) (H : Hp) (E : XK) (z : Z), z.cl = c → Room k (A.deeper (envOfC qual (defScope st) s.heap.objs.size f cdv)) → PSs (cxOf CX0 P w K mg base N qual (defScope st) f cdv A outer s H E).nox (defBody st) (tSE K z g)) :
    FnOk P w K mg base CX0 (k + 1) f fd ps (spM K c (runME N.length ps.length g)) := by
  refine F.ok S (fun vs H Q E h => ?_) (fun cdv A outer s H vs Q E hr q => ?_)
  · obtain ⟨F, p, as, fs, vs', ds, e, fs', e1, _, _, _, r, e, _⟩ := h
    unfold runME at e
    split at e
    · next hl => rw [e1, List.length_cons, r.length]; exact hl
    · cases e
  · obtain ⟨F, p, as, fs, vs', ds, e0, fs', e1, ⟨s0, t0⟩, ha, ob, r, e, q⟩ := q
    subst e1
    refine ⟨_, h cdv A outer s H E ⟨H, F, fun a => a ∈ as, c, as⟩ rfl hr, ?_⟩
    unfold runME at e
    split at e
    · obtain ⟨⟨en, ρ'⟩, h1, e⟩ := bind_some e
      obtain ⟨fs2, h3, e⟩ := map_some e
      cases e
      refine ⟨_, F, _, en, ρ', rel_startM (by decide) hN s0 t0 ha ob r, h1, fun v σ F' H' O asv R s ev hf => ?_⟩
      obtain ⟨p', _, ob', may⟩ := obL_of R (obAt_of h3)
      have ea : O 0 = as := may.2.1 rfl
      rw [ea] at ob'
      have ep : p' = p := by
        obtain ⟨_, _, _, q1, _⟩ := ob
        obtain ⟨_, _, _, q2, _⟩ := ob'
        rw [q1] at q2
        exact (List.cons.inj q2).1.symm
      subst ep
      exact q v F' H' asv (left_of R) ob' ev fun a ha => ⟨(hf a ha).1, (hf a ha).2.1, (hf a ha).2.2.1⟩
    · cases e
theorem ok_Mx {c : Addr} {x qual : Str} {st : Stmt} {f : Addr} {fd : FuncData} {N ps : List Str} {k : Nat} {g : Gs} (F : Fun K x qual st f fd) (S : FnScope N ps (defScope st)) (hN : 0 < N.length)
    (h : ∀ (cdv : Value) (A : Around) (outer : List PySem.Env) (s : Shared) (H : Hp) (E : XK) (z : Z), z.cl = c → Room k (A.deeper (envOfC qual (defScope st) s.heap.objs.size f cdv)) → PSs (cxOf CX0 P w K mg base N qual (defScope st) f cdv A outer s H E).nox (defBody st) (tS K z g)) :
    FnOk P w K mg base CX0 (k + 1) f fd ps (spMx K c (runMx N.length ps.length g)) := by
  refine F.ok S (fun vs H Q E h => ?_) (fun cdv A outer s H vs Q E hr q => ?_)
  · obtain ⟨F, p, as, fs, vs', ds, fs', e1, _, _, _, r, e, _⟩ := h
    unfold runMx at e
    split at e
    · next hl => rw [e1, List.length_cons, r.length]; exact hl
    · cases e
  · obtain ⟨F, p, as, fs, vs', ds, fs', e1, ⟨s0, t0⟩, ha, ob, r, e, q⟩ := q
    subst e1
    refine ⟨_, h cdv A outer s H E ⟨H, F, fun a => a ∈ as, c, as⟩ rfl hr, ?_⟩
    unfold runMx at e
    split at e
    · obtain ⟨⟨fl, ρ'⟩, h1, e⟩ := bind_some e
      obtain ⟨d', h2, e⟩ := bind_some e
      split at e
      · refine ⟨_, F, _, fl, ρ', rel_startM (by decide) hN s0 t0 ha ob r, h1, ?_⟩
        have go : ∀ {σ : L2.St} {F' H' : Hp} {O : Nat → List Addr}, Rel K ⟨H, F, fun a => a ∈ as, c, as⟩ ρ' σ F' H' O → Q .non H' := fun {σ F' H' O} R => by
          obtain ⟨p', _, ob', may⟩ := obL_of R (obAt_of e)
          have ep : p' = p := by
            have q1 : as.head? = some p' := may.2.2.1 rfl
            obtain ⟨_, _, _, q2, _⟩ := ob
            rw [q2] at q1
            exact (Option.some.inj q1).symm
          subst ep
          exact q F' H' (O 0) (left_of R) ob' fun a ha => ⟨(R.off 0 a ha).1, (R.off 0 a ha).2, (may.1 a ha).symm⟩
        cases fl with
        | nx => exact fun σ F' H' O R s => go R
        | bk => cases h2
        | ct => cases h2
        | ret d2 =>
          cases h2
          exact fun v σ F' H' O R s r => by
            cases r
            exact go R
      · cases e
    · cases e
theorem ok_M2 {c : Addr} {x qual : Str} {st : Stmt} {f : Addr} {fd : FuncData} {N ps : List Str} {k : Nat} {g : Gs} (F : Fun K x qual st f fd) (S : FnScope N ps (defScope st)) (hN : 1 < N.length)
    (h : ∀ (cdv : Value) (A : Around) (outer : List PySem.Env) (s : Shared) (H : Hp) (E : XK) (z : Z), z.cl = c → Room k (A.deeper (envOfC qual (defScope st) s.heap.objs.size f cdv)) → PSs (cxOf CX0 P w K mg base N qual (defScope st) f cdv A outer s H E).nox (defBody st) (tS K z g)) :
    FnOk P w K mg base CX0 (k + 1) f fd ps (spM2 K c (runM2 N.length ps.length g)) := by
  refine F.ok S (fun vs H Q E h => ?_) (fun cdv A outer s H vs Q E hr q => ?_)
  · obtain ⟨F, p, as, q, ws, gs, fs, vs', ds, e, fs', gs', e1, _, _, _, _, r, e, _⟩ := h
    unfold runM2 at e
    split at e
    · next hl => rw [e1, List.length_cons, List.length_cons, r.length]; exact hl
    · cases e
  · obtain ⟨F, p, as, q0, ws, gs, fs, vs', ds, e0, fs', gs', e1, ⟨s0, t0⟩, ha, hq, ob, r, e, q⟩ := q
    subst e1
    refine ⟨_, h cdv A outer s H E ⟨H, F, fun a => a ∈ q0 :: as, c, as⟩ rfl hr, ?_⟩
    unfold runM2 at e
    split at e
    · obtain ⟨⟨fl, ρ'⟩, h1, e⟩ := bind_some e
      obtain ⟨d', h2, e⟩ := bind_some e
      obtain ⟨fs2, h3, e⟩ := bind_some e
      obtain ⟨gs2, h4, e⟩ := map_some e
      cases e
      refine ⟨_, F, _, fl, ρ', rel_startM2 (by decide) hN s0 t0 ha hq ob r, h1, ?_⟩
      have go : ∀ {v : V} {σ : L2.St} {F' H' : Hp} {O : Nat → List Addr}, Rel K ⟨H, F, fun a => a ∈ q0 :: as, c, as⟩ ρ' σ F' H' O → Rep K F' v d' → Q v H' := fun {v σ F' H' O} R rv => by
        obtain ⟨p', _, ob', may⟩ := obL_of R (obAt_of h3)
        have ea : O 0 = as := may.2.1 rfl
        dsimp only at h4
        unfold rowL at h4
        split at h4
        · next hi =>
          cases h4
          obtain ⟨v2, _, p2, _, e2, e3, ws', h6, h7⟩ := R.ent 1 _ hi
          have n2 : p2 ∉ as := fun hm => by
            have := R.apt 0 1 p2 (by rw [ea]; exact hm) (by rw [e2]; exact List.mem_cons_self)
            omega
          have e3 : p2 = q0 := by
            rcases List.mem_cons.mp (show p2 ∈ q0 :: as from e3) with x | x
            · exact x
            · exact absurd x n2
          subst e3
          rw [ea] at ob'
          have ep : p' = p := by
            obtain ⟨_, _, _, q1, _⟩ := ob
            obtain ⟨_, _, _, q2, _⟩ := ob'
            rw [q1] at q2
            exact (List.cons.inj q2).1.symm
          subst ep
          exact q v F' H' ws' [] (left_of R) ob' h6 h7 ⟨rfl, rfl, rv⟩ fun a ha => by cases ha
        · cases h4
      cases fl with
      | nx =>
        cases h2
        exact fun σ F' H' O R s => go R .non
      | bk => cases h2
      | ct => cases h2
      | ret d2 =>
        cases h2
        exact fun v σ F' H' O R s r => go R r
    · cases e
/-- a method that reads alone: all that stands is shared meanwhile -/
theorem rel_startO {N : List Str} {p C dx : Addr} {xs : List (Str × V)} {vs : List V} {ds : List D} {fs : List (Str × D)} (hN : 0 < N.length) (hp : H p = some (.ins C dx xs)) (oc : OkC K C (fs.map (·.1))) (en : xs.map (·.1) = fs.map (·.1)) (rf : RepL K H (xs.map (·.2)) (fs.map (·.2))) (r : RepL K H vs ds) :
    Rel K ⟨H, H, fun _ => False, 0, []⟩ (some (.obs fs) :: ini (N.length - 1) ds) (L2.start N (.ref p :: vs)) H H (fun _ => []) where
  len := by
    unfold ini L2.start
    simp only [List.length_append, List.length_map, List.length_replicate, List.length_cons, r.length]
    omega
  sub := Same.refl _
  ent := fun i e h => by
    cases i with
    | zero =>
      cases h
      exact ⟨.ref p, rfl, rfl, p, C, dx, xs, rfl, hp, oc, en, rf⟩
    | succ i =>
      have h : (ini (N.length - 1) ds)[i]? = some (some e) := h
      obtain ⟨d, h1, h2⟩ := ini_get h
      subst h2
      obtain ⟨v, h3, h4⟩ := r.get h1
      exact ⟨v, start_get (by simpa using h3), rfl, h4⟩
  off := fun i a hi => by cases hi
  apt := fun i j a hi hj => by cases hi
  old := fun a _ f => f
  oldH := fun a h => h
  keep := fun a o h _ => h
  f0 := Same.refl _
  tup := AllT.refl _
theorem ok_O {x qual : Str} {st : Stmt} {f : Addr} {fd : FuncData} {N ps : List Str} {k : Nat} {g : Gs} (F : Fun K x qual st f fd) (S : FnScope N ps (defScope st)) (hN : 0 < N.length)
    (h : ∀ (cdv : Value) (A : Around) (outer : List PySem.Env) (s : Shared) (H : Hp) (E : XK) (z : Z), Room k (A.deeper (envOfC qual (defScope st) s.heap.objs.size f cdv)) → PSs (cxOf CX0 P w K mg base N qual (defScope st) f cdv A outer s H E).nox (defBody st) (tS K z g)) :
    FnOk P w K mg base CX0 (k + 1) f fd ps (spO K (runO N.length ps.length g)) := by
  refine F.ok S (fun vs H Q E h => ?_) (fun cdv A outer s H vs Q E hr q => ?_)
  · obtain ⟨p, C, dx, xs, fs, vs', ds, e, e1, _, _, _, _, r, e, _⟩ := h
    unfold runO at e
    split at e
    · next hl => rw [e1, List.length_cons, r.length]; exact hl
    · cases e
  · obtain ⟨p, C, dx, xs, fs, vs', ds, e0, e1, hp, oc, en, rf, r, e, q⟩ := q
    subst e1
    refine ⟨_, h cdv A outer s H E ⟨H, H, fun _ => False, 0, []⟩ hr, ?_⟩
    unfold runO at e
    split at e
    · obtain ⟨⟨fl, ρ'⟩, h1, e⟩ := bind_some e
      obtain ⟨d', h2, e⟩ := bind_some e
      split at e
      · next hat =>
        cases e
        refine ⟨_, H, _, fl, ρ', rel_startO hN hp oc en rf r, h1, ?_⟩
        have go : ∀ {v : V} {σ : L2.St} {F' H' : Hp} {O : Nat → List Addr}, Rel K ⟨H, H, fun _ => False, 0, []⟩ ρ' σ F' H' O → Rep K F' v d' → Q v H' := fun {v σ F' H' O} R rv =>
          q v H' (fun a o h => R.keep a o h id) ⟨hat, rv.mono R.sub⟩
        cases fl with
        | nx =>
          cases h2
          exact fun σ F' H' O R s => go R .non
        | bk => cases h2
        | ct => cases h2
        | ret d2 =>
          cases h2
          exact fun v σ F' H' O R s r => go R r
      · cases e
    · cases e
theorem ok_OE {x qual : Str} {st : Stmt} {f : Addr} {fd : FuncData} {N ps : List Str} {k : Nat} {g : Env → Option (E × Env)} (F : Fun K x qual st f fd) (S : FnScope N ps (defScope st)) (hN : 0 < N.length)
    (h : ∀ (cdv : Value) (A : Around) (outer : List PySem.Env) (s : Shared) (H : Hp) (E : XK) (z : Z), Room k (A.deeper (envOfC qual (defScope st) s.heap.objs.size f cdv)) → PSs (cxOf CX0 P w K mg base N qual (defScope st) f cdv A outer s H E).nox (defBody st) (tSE K z g)) :
    FnOk P w K mg base CX0 (k + 1) f fd ps (spO K (runOE N.length ps.length g)) := by
  refine F.ok S (fun vs H Q E h => ?_) (fun cdv A outer s H vs Q E hr q => ?_)
  · obtain ⟨p, C, dx, xs, fs, vs', ds, e, e1, _, _, _, _, r, e, _⟩ := h
    unfold runOE at e
    split at e
    · next hl => rw [e1, List.length_cons, r.length]; exact hl
    · cases e
  · obtain ⟨p, C, dx, xs, fs, vs', ds, e0, e1, hp, oc, en, rf, r, e, q⟩ := q
    subst e1
    refine ⟨_, h cdv A outer s H E ⟨H, H, fun _ => False, 0, []⟩ hr, ?_⟩
    unfold runOE at e
    split at e
    · obtain ⟨⟨en', ρ'⟩, h1, e⟩ := bind_some e
      dsimp only at e
      split at e
      · next es =>
        split at e
        · next hat =>
          cases e
          refine ⟨_, H, _, _, ρ', rel_startO hN hp oc en rf r, h1, fun v σ F' H' O asv R s ev hf => ?_⟩
          obtain ⟨_, q1, e1, e2, _, ws, g1, g2⟩ := ev
          refine q v H' (fun a o h => R.keep a o h id) ⟨hat, q1, ws, e1, (hf q1 (by rw [e2]; exact List.mem_cons_self)).1, g1, g2.mono R.sub⟩
        · cases e
      · cases e
    · cases e
end
end DL

namespace DL
open PySem PySem.Spec PyProof.Rows L2

/-! ### methods called -/
structure CalM (P : Program) (w : World) (K : PySem.W.Frag) (mg : Str → Option Value) (base : Heap) (k : Nat) (C : Addr) (m : Str) (sp : Sp) : Prop where
  cls : Cls K C
  ex : ∃ (f : Addr) (fd : FuncData) (ps : List Str), FnOk P w K mg base CX0 k f fd ps sp ∧ Meth K C m f ∧ Binds K fd ps []
theorem CalM.mono {P : Program} {w : World} {K : PySem.W.Frag} {mg : Str → Option Value} {base : Heap} {j k : Nat} {C : Addr} {m : Str} {sp : Sp} (c : CalM P w K mg base j C m sp) (h : j ≤ k) : CalM P w K mg base k C m sp := by
  obtain ⟨f, fd, ps, F, h1, h2⟩ := c.ex
  exact ⟨c.cls, f, fd, ps, F.mono h, h1, h2⟩
theorem fdF_none : ∀ {fs : List (Str × Fd)} {xs : List (Str × V)} {nm : Str}, fdF nm fs = none → xs.map (·.1) = fs.map (·.1) → xs.lookup nm = none
  | [], [], _, _, _ => rfl
  | [], _ :: _, _, _, e => by cases e
  | _ :: _, [], _, _, e => by cases e
  | (g, x) :: fs, (g', v) :: xs, nm, h, e => by
    simp only [List.map_cons, List.cons.injEq] at e
    obtain ⟨e1, e2⟩ := e
    subst e1
    unfold fdF at h
    rw [lookup_cons']
    split at h
    · cases h
    · next q =>
      rw [if_neg q]
      exact fdF_none h e2
section
variable {K : PySem.W.Frag} {z : Z} {ρ : Env} {σ : L2.St} {F H : Hp} {O : Nat → List Addr}
theorem Rel.meth {i m : Nat} {p : Addr} {fs fs' : List (Str × Fd)} {F' H' : Hp} (R : Rel K z ρ σ F H O) (h0 : obL ρ[i]? = some (m, fs)) (s1 : σ[i]? = some (some (.ref p))) (may : May z m p (O i)) (L : Left F H F' H' (O i)) (ob : Ob K F' H' z.cl p fs' (O i)) :
    Rel K z (ρ.set i (some (.ob m fs'))) σ F' H' O := by
  have hi := obL_eq h0
  have hlt : i < ρ.length := (List.getElem?_eq_some_iff.mp hi).1
  refine R.leave L (by rw [List.length_set]) (fun k e hk => ?_) (fun k a ha => .inl ha) may.1
  by_cases q : k = i
  · subst q
    rw [List.getElem?_set_self hlt] at hk
    cases hk
    exact .inr ⟨_, s1, ob.ent may⟩
  · rw [List.getElem?_set_ne (Ne.symm q)] at hk
    exact .inl ⟨hk, rfl, fun a ha hw => q (R.apt k i a ha hw)⟩
theorem Rel.meth2 {i j m : Nat} {p l : Addr} {fs fs' : List (Str × Fd)} {gs gs' : List D} {ws' : List V} {F' H' : Hp} (R : Rel K z ρ σ F H O) (h0 : obL ρ[i]? = some (m, fs)) (s1 : σ[i]? = some (some (.ref p))) (may : May z m p (O i)) (g0 : ownL ρ[j]? = some gs) (g1 : σ[j]? = some (some (.ref l))) (L : Left F H F' H' (l :: O i)) (ob : Ob K F' H' z.cl p fs' (O i)) (hl : H' l = some (.lst ws')) (r : RepL K F' ws' gs') :
    Rel K z (DL.putL j gs' (ρ.set i (some (.ob m fs')))) σ F' H' O := by
  have hi := obL_eq h0
  have hlt : i < ρ.length := (List.getElem?_eq_some_iff.mp hi).1
  obtain ⟨l', vs, t1, t2, t3, t4, t5, t6⟩ := ownL_of R g0
  have e := g1.symm.trans t1
  cases e
  have nij : i ≠ j := fun e => by
    rw [e] at hi
    rcases t6 with ⟨q, _⟩ | ⟨q, _⟩ <;> (rw [hi] at q; cases q)
  have hW : ∀ a ∈ l :: O i, z.H0 a = none ∨ z.B a := fun a ha => by
    rcases List.mem_cons.mp ha with e | e
    · rw [e]
      exact t5
    · exact may.1 a e
  have ap : ∀ k, k ≠ i → k ≠ j → ∀ a ∈ O k, a ∉ l :: O i := fun k n1 n2 a ha hw => by
    rcases List.mem_cons.mp hw with e | e
    · exact n2 (R.apt k j a ha (by rw [t2, e]; exact List.mem_cons_self))
    · exact n1 (R.apt k i a ha e)
  have hj : (ρ.set i (some (.ob m fs')))[j]? = ρ[j]? := List.getElem?_set_ne nij
  have hlj : j < ρ.length := by
    rcases t6 with ⟨q, _⟩ | ⟨q, _⟩ <;> exact (List.getElem?_eq_some_iff.mp q).1
  have main : ∀ (e : E), Ent K z F' H' (.ref l) e (O j) → Rel K z ((ρ.set i (some (.ob m fs'))).set j (some e)) σ F' H' O := fun e he => by
    refine R.leave L (by rw [List.length_set, List.length_set]) (fun k en hk => ?_) (fun k a ha => .inl ha) hW
    by_cases q : k = j
    · subst q
      rw [List.getElem?_set_self (by rw [List.length_set]; exact hlj)] at hk
      cases hk
      exact .inr ⟨_, g1, he⟩
    · rw [List.getElem?_set_ne (Ne.symm q)] at hk
      by_cases q2 : k = i
      · subst q2
        rw [List.getElem?_set_self hlt] at hk
        cases hk
        exact .inr ⟨_, s1, ob.ent may⟩
      · rw [List.getElem?_set_ne (Ne.symm q2)] at hk
        exact .inl ⟨hk, rfl, ap k q2 q⟩
  unfold DL.putL
  rcases t6 with ⟨q, q2⟩ | ⟨q, q2⟩
  · rw [hj, q]
    exact main _ ⟨l, rfl, t2, q2, ws', hl, r⟩
  · rw [hj, q]
    exact main _ ⟨l, rfl, t2, q2, ws', hl, r⟩
end
def methE (i : Nat) (nm : Str) (mm : List (Str × Fd) → List D → Option (E × List (Str × Fd))) (f : Env → Option (List D)) : Env → Option (E × Env) := fun ρ => (obL ρ[i]?).bind fun q => match fdF nm q.2 with
  | none => (f ρ).bind fun ds => (mm q.2 ds).map fun r => (r.1, ρ.set i (some (.ob q.1 r.2)))
  | some _ => none
def shE (f : Env → Option (E × Env)) : Env → Option (D × Env) := fun ρ => (f ρ).bind fun p => match p.1 with
  | .sh d => some (d, p.2)
  | _ => none
def okW (f : Env → Option (E × Env)) : Env → Option (E × Env) := fun ρ => (f ρ).bind fun p => if okV p.1 then some p else none
def methE2 (i j : Nat) (nm : Str) (mm : List (Str × Fd) → List D → List D → Option (E × List (Str × Fd) × List D)) (f : Env → Option (List D)) : Env → Option (E × Env) := fun ρ => (obL ρ[i]?).bind fun q => match fdF nm q.2 with
  | none => (ownL ρ[j]?).bind fun gs => (f ρ).bind fun ds => (mm q.2 gs ds).map fun r => (r.1, putL j r.2.2 (ρ.set i (some (.ob q.1 r.2.1))))
  | some _ => none
def gMethX (i : Nat) (nm : Str) (mm : List (Str × Fd) → List D → Option (List (Str × Fd))) (f : Env → Option (List D)) : Gs := fun ρ => (obL ρ[i]?).bind fun q => match fdF nm q.2 with
  | none => if q.1 = 1 then none else (f ρ).bind fun ds => (mm q.2 ds).map fun fs' => (.nx, ρ.set i (some (.ob q.1 fs')))
  | some _ => none
def cMethO (i : Nat) (nm : Str) (mm : List (Str × D) → List D → Option E) (f : Env → Option (List D)) : Env → Option E := fun ρ => (obL ρ[i]?).bind fun q => match fdF nm q.2 with
  | none => (f ρ).bind fun ds => mm (q.2.map fun p => (p.1, thF p.2)) ds
  | some _ => none
def shO (f : Env → Option E) : Env → Option D := fun ρ => (f ρ).bind fun e => match e with
  | .sh d => some d
  | _ => none
def wO (f : Env → Option E) : Env → Option (E × Env) := fun ρ => (f ρ).map fun e => (e, ρ)
theorem rep_ats {K : PySem.W.Frag} {F F' : Hp} : ∀ {vs : List V} {ds : List D}, ds.all isAt = true → RepL K F vs ds → RepL K F' vs ds
  | _, _, _, .nil => .nil
  | _, _, h, .cons r t => by
    simp only [List.all_cons, Bool.and_eq_true] at h
    exact .cons (rep_at h.1 r) (rep_ats h.2 t)
section
variable {X : Cx} {z : Z} {C : Addr} {k j : Nat} {x nm : Str}
/-- what a method's call asks, by its promise -/
theorem methE_in {mm : List (Str × Fd) → List D → Option (E × List (Str × Fd))} {i : Nat} {f : Env → Option (List D)} {ta : TA} (ht : ∀ σ H Q, tPs X.K z f σ H Q → ta σ H Q) {σ : L2.St} {H : Hp} {Q : VK} (hz : z.cl = C)
    (h : ∃ ρ F O e ρ', Rel X.K z ρ σ F H O ∧ methE i nm mm f ρ = some (e, ρ') ∧ ∀ v F' H' asv, Rel X.K z ρ' σ F' H' O → Kp F H F' H' O → EntV X.K F' H' v e asv → (∀ a ∈ asv, H a = none ∧ F' a = none ∧ H' a ≠ none) → Q v H') :
    tMeth C nm (spM X.K C mm) [] E0 (fun σ H Q => ∃ v, σ[i]? = some (some v) ∧ Q v H) ta σ H Q := by
  subst hz
  obtain ⟨ρ, F, O, e, ρ', R, e1, q⟩ := h
  obtain ⟨⟨m, fs⟩, h0, e1⟩ := bind_some e1
  dsimp only at e1
  split at e1
  · next hf =>
    obtain ⟨ds, h1, e1⟩ := bind_some e1
    obtain ⟨⟨en, fs'⟩, h2, e1⟩ := map_some e1
    cases e1
    obtain ⟨p, s1, ob, may⟩ := obL_of R h0
    obtain ⟨dx, xs, as', g1, g2, g3, g4, g5⟩ := ob
    refine ⟨_, s1, p, dx, xs, rfl, g2, fdF_none hf g5.names, ht _ _ _ ⟨ρ, F, O, ds, R, h1, fun vs H1 sm r => ?_⟩⟩
    have R1 := R.grow sm
    obtain ⟨p', s1', ob1, may1⟩ := obL_of R1 h0
    have ep := s1.symm.trans s1'
    cases ep
    show spM X.K z.cl mm (.ref p :: (vs ++ [])) H1 Q E0
    rw [List.append_nil]
    refine ⟨_, p, O i, fs, vs, ds, en, fs', rfl, ⟨R1.sub, R1.tup⟩, fun a ha => R1.off i a ha, ob1, r, h2, fun v F' H' asv L ob' ev hf => ?_⟩
    exact q v F' H' asv (R1.meth h0 s1 may1 L ob') ((Kp.of_same R.sub sm).trans (L.kp fun a ha => ⟨i, ha⟩)) ev fun a ha => ⟨(Kp.of_same (O := O) R.sub sm).none_back (hf a ha).1, (hf a ha).2.1, (hf a ha).2.2⟩
  · cases e1
theorem shE_in {g : Env → Option (E × Env)} {σ : L2.St} {H : Hp} {Q : VK} (h : tR X.K z (shE g) σ H Q) : ∃ ρ F O e ρ', Rel X.K z ρ σ F H O ∧ g ρ = some (e, ρ') ∧ ∀ v F' H' asv, Rel X.K z ρ' σ F' H' O → Kp F H F' H' O → EntV X.K F' H' v e asv → (∀ a ∈ asv, H a = none ∧ F' a = none ∧ H' a ≠ none) → Q v H' := by
  obtain ⟨ρ, F, O, d, ρ', R, e, q⟩ := h
  obtain ⟨⟨en, ρ1⟩, h1, h2⟩ := bind_some e
  dsimp only at h2
  split at h2
  · cases h2
    exact ⟨ρ, F, O, _, _, R, h1, fun v F' H' asv R' k ev _ => q v F' H' R' k ev.2.2⟩
  · cases h2
theorem okW_in {g : Env → Option (E × Env)} {σ : L2.St} {H : Hp} {Q : VK} (h : tW X.K z (okW g) σ H Q) : ∃ ρ F O e ρ', Rel X.K z ρ σ F H O ∧ g ρ = some (e, ρ') ∧ ∀ v F' H' asv, Rel X.K z ρ' σ F' H' O → Kp F H F' H' O → EntV X.K F' H' v e asv → (∀ a ∈ asv, H a = none ∧ F' a = none ∧ H' a ≠ none) → Q v H' := by
  obtain ⟨ρ, F, O, en, ρ', R, e, q⟩ := h
  obtain ⟨⟨en', ρ1⟩, h1, h2⟩ := bind_some e
  split at h2
  · cases h2
    exact ⟨ρ, F, O, _, _, R, h1, fun v F' H' asv R' k ev hf => q v F' H' asv R' k (ev.ent fun a ha => H0_of R (hf a ha).1) hf⟩
  · cases h2
theorem m_meth (i : Nat) {p0 pos apos : Pos} {e : Expr} {es : List Expr} {mm : List (Str × Fd) → List D → Option (E × List (Str × Fd))} {f : Env → Option (List D)} (hz : z.cl = C) (c : CalM X.prog X.w X.K X.mg X.base k C nm (spM X.K C mm)) (hr : Room j X.A) (hk : k ≤ j) (ha : PA X (e :: es) (tPs X.K z f))
    (hN : X.N[i]? = some x := by rfl) (hv : Vis X.env.scope x := by first | exact Or.inl rfl | exact Or.inr (Or.inl rfl) | exact Or.inr (Or.inr rfl)) (hd : (x == ("__debug__" : Str)) = false := by decide) (hcd : (x == ("__classdict__" : Str)) = false := by decide)
    (hst : starEach (e :: es) X.env = (false, eval e X.env) :: starEach es X.env := by rfl) (hpl : (backTo pos (starEach es X.env)).any (·.1) = false := by rfl) {pl : Sem Bool}
    (ht : eval (.Call (.Attribute (.Name x p0) nm apos) (e :: es) [] pos) X.env = (do
      let ov ← eval (.Name x p0) X.env
      standAt apos.atName
      let (f, first) ← holding [ov] (getMethod ov nm pl)
      callWith pos f first (backTo pos (starEach (e :: es) X.env)) (backToKw pos (keywordEach [] X.env))) := by rfl) :
    PE X (.Call (.Attribute (.Name x p0) nm apos) (e :: es) [] pos) (fun σ H Q => ∃ ρ F O e ρ', Rel X.K z ρ σ F H O ∧ methE i nm mm f ρ = some (e, ρ') ∧ ∀ v F' H' asv, Rel X.K z ρ' σ F' H' O → Kp F H F' H' O → EntV X.K F' H' v e asv → (∀ a ∈ asv, H a = none ∧ F' a = none ∧ H' a ≠ none) → Q v H') := by
  obtain ⟨g, fd, ps, F, h1, h2⟩ := c.ex
  exact (pe_meth (dvs := []) (pe_var hN hv hd hcd) c.cls h1 F (hr.mono hk) h2 .nil pass0 ha hst hpl ht).mono fun σ H Q h => methE_in (fun _ _ _ h => h) hz h
theorem m_meth0 (i : Nat) {p0 pos apos : Pos} {mm : List (Str × Fd) → List D → Option (E × List (Str × Fd))} (hz : z.cl = C) (c : CalM X.prog X.w X.K X.mg X.base k C nm (spM X.K C mm)) (hr : Room j X.A) (hk : k ≤ j)
    (hN : X.N[i]? = some x := by rfl) (hv : Vis X.env.scope x := by first | exact Or.inl rfl | exact Or.inr (Or.inl rfl) | exact Or.inr (Or.inr rfl)) (hd : (x == ("__debug__" : Str)) = false := by decide) (hcd : (x == ("__classdict__" : Str)) = false := by decide) {pl : Sem Bool}
    (ht : eval (.Call (.Attribute (.Name x p0) nm apos) [] [] pos) X.env = (do
      let ov ← eval (.Name x p0) X.env
      standAt apos.atName
      let (f, first) ← holding [ov] (getMethod ov nm pl)
      callWith pos f first (backTo pos (starEach [] X.env)) (backToKw pos (keywordEach [] X.env))) := by rfl) :
    PE X (.Call (.Attribute (.Name x p0) nm apos) [] [] pos) (fun σ H Q => ∃ ρ F O e ρ', Rel X.K z ρ σ F H O ∧ methE i nm mm cNil ρ = some (e, ρ') ∧ ∀ v F' H' asv, Rel X.K z ρ' σ F' H' O → Kp F H F' H' O → EntV X.K F' H' v e asv → (∀ a ∈ asv, H a = none ∧ F' a = none ∧ H' a ≠ none) → Q v H') := by
  obtain ⟨g, fd, ps, F, h1, h2⟩ := c.ex
  exact (pe_meth0 (dvs := []) (pe_var hN hv hd hcd) c.cls h1 F (hr.mono hk) h2 .nil pass0 ht).mono fun σ H Q h => methE_in (fun σ H Q ⟨ρ, F, O, ds, R, e, q⟩ => by
    cases e
    exact q [] H (Same.refl _) .nil) hz h
/-- a method's value, shared; a method's value, new -/
theorem r_of {e : Expr} {g : Env → Option (E × Env)} (h : PE X e (fun σ H Q => ∃ ρ F O e ρ', Rel X.K z ρ σ F H O ∧ g ρ = some (e, ρ') ∧ ∀ v F' H' asv, Rel X.K z ρ' σ F' H' O → Kp F H F' H' O → EntV X.K F' H' v e asv → (∀ a ∈ asv, H a = none ∧ F' a = none ∧ H' a ≠ none) → Q v H')) : PE X e (tR X.K z (shE g)) := h.mono fun σ H Q h => shE_in h
theorem w_of {e : Expr} {g : Env → Option (E × Env)} (h : PE X e (fun σ H Q => ∃ ρ F O e ρ', Rel X.K z ρ σ F H O ∧ g ρ = some (e, ρ') ∧ ∀ v F' H' asv, Rel X.K z ρ' σ F' H' O → Kp F H F' H' O → EntV X.K F' H' v e asv → (∀ a ∈ asv, H a = none ∧ F' a = none ∧ H' a ≠ none) → Q v H')) : PE X e (tW X.K z (okW g)) := h.mono fun σ H Q h => okW_in h
theorem m_meth2 (i l : Nat) {y : Str} {p0 py pos apos : Pos} {es : List Expr} {mm : List (Str × Fd) → List D → List D → Option (E × List (Str × Fd) × List D)} {f : Env → Option (List D)} (hz : z.cl = C) (c : CalM X.prog X.w X.K X.mg X.base k C nm (spM2 X.K C mm)) (hr : Room j X.A) (hk : k ≤ j) (ha : PA X es (tPs X.K z f))
    (hN : X.N[i]? = some x := by rfl) (hv : Vis X.env.scope x := by first | exact Or.inl rfl | exact Or.inr (Or.inl rfl) | exact Or.inr (Or.inr rfl)) (hd : (x == ("__debug__" : Str)) = false := by decide) (hcd : (x == ("__classdict__" : Str)) = false := by decide)
    (hN2 : X.N[l]? = some y := by rfl) (hv2 : Vis X.env.scope y := by first | exact Or.inl rfl | exact Or.inr (Or.inl rfl) | exact Or.inr (Or.inr rfl)) (hd2 : (y == ("__debug__" : Str)) = false := by decide) (hcd2 : (y == ("__classdict__" : Str)) = false := by decide)
    (hst : starEach (.Name y py :: es) X.env = (false, eval (.Name y py) X.env) :: starEach es X.env := by rfl) (hpl : (backTo pos (starEach es X.env)).any (·.1) = false := by rfl) {pl : Sem Bool}
    (ht : eval (.Call (.Attribute (.Name x p0) nm apos) (.Name y py :: es) [] pos) X.env = (do
      let ov ← eval (.Name x p0) X.env
      standAt apos.atName
      let (f, first) ← holding [ov] (getMethod ov nm pl)
      callWith pos f first (backTo pos (starEach (.Name y py :: es) X.env)) (backToKw pos (keywordEach [] X.env))) := by rfl) :
    PE X (.Call (.Attribute (.Name x p0) nm apos) (.Name y py :: es) [] pos) (fun σ H Q => ∃ ρ F O e ρ', Rel X.K z ρ σ F H O ∧ methE2 i l nm mm f ρ = some (e, ρ') ∧ ∀ v F' H' asv, Rel X.K z ρ' σ F' H' O → Kp F H F' H' O → EntV X.K F' H' v e asv → (∀ a ∈ asv, H a = none ∧ F' a = none ∧ H' a ≠ none) → Q v H') := by
  subst hz
  obtain ⟨g, fd, ps, F, h1, h2⟩ := c.ex
  refine (pe_meth (dvs := []) (pe_var hN hv hd hcd) c.cls h1 F (hr.mono hk) h2 .nil pass0 (pa_cons (pe_var hN2 hv2 hd2 hcd2) ha hst) hst hpl ht).mono fun σ H Q ⟨ρ, F, O, e, ρ', R, e1, q⟩ => ?_
  obtain ⟨⟨m, fs⟩, h0, e1⟩ := bind_some e1
  dsimp only at e1
  split at e1
  · next hf =>
    obtain ⟨gs, g0, e1⟩ := bind_some e1
    obtain ⟨ds, h1, e1⟩ := bind_some e1
    obtain ⟨⟨en, fs', gs'⟩, h2, e1⟩ := map_some e1
    cases e1
    obtain ⟨p, s1, ob, may⟩ := obL_of R h0
    obtain ⟨dx, xs, as', g1, g2, g3, g4, g5⟩ := ob
    obtain ⟨q0, vs0, t1, t2, t3, t4, t5, t6⟩ := ownL_of R g0
    refine ⟨_, s1, p, dx, xs, rfl, g2, fdF_none hf g5.names, _, t1, ρ, F, O, ds, R, h1, fun vs H1 sm r => ?_⟩
    have R1 := R.grow sm
    obtain ⟨p', s1', ob1, may1⟩ := obL_of R1 h0
    have ep := s1.symm.trans s1'
    cases ep
    obtain ⟨q0', vs1, t1', t2', t3', t4', t5', t6'⟩ := ownL_of R1 g0
    have ep := t1.symm.trans t1'
    cases ep
    have hm : q0 ∈ O l := by rw [t2]; exact List.mem_cons_self
    have nij : i ≠ l := fun e => by
      have hi := obL_eq h0
      rw [e] at hi
      rcases t6 with ⟨q, _⟩ | ⟨q, _⟩ <;> (rw [hi] at q; cases q)
    show spM2 X.K z.cl mm (.ref p :: ((.ref q0 :: vs) ++ [])) H1 Q E0
    rw [List.append_nil]
    refine ⟨_, p, O i, q0, vs1, gs, fs, vs, ds, en, fs', gs', rfl, ⟨R1.sub, R1.tup⟩, fun a ha => R1.off i a ha, ⟨(R1.off l q0 hm).1, fun hi => nij (R1.apt i l q0 hi hm), t3', t4'⟩, ob1, r, h2, fun v F' H' ws' asv L ob' hl' rl ev hf => ?_⟩
    exact q v F' H' asv (R1.meth2 h0 s1 may1 g0 t1 L ob' hl' rl) ((Kp.of_same R.sub sm).trans (L.kp fun a ha => by
      rcases List.mem_cons.mp ha with e | e
      · exact ⟨l, e ▸ hm⟩
      · exact ⟨i, e⟩)) ev fun a ha => ⟨(Kp.of_same (O := O) R.sub sm).none_back (hf a ha).1, (hf a ha).2.1, (hf a ha).2.2⟩
  · cases e1
theorem s_methX (i : Nat) {p0 pos apos pos2 : Pos} {e : Expr} {es : List Expr} {mm : List (Str × Fd) → List D → Option (List (Str × Fd))} {f : Env → Option (List D)} (hz : z.cl = C) (c : CalM X.prog X.w X.K X.mg X.base k C nm (spMx X.K C mm)) (hr : Room j X.A) (hk : k ≤ j) (ha : PA X (e :: es) (tPs X.K z f))
    (hN : X.N[i]? = some x := by rfl) (hv : Vis X.env.scope x := by first | exact Or.inl rfl | exact Or.inr (Or.inl rfl) | exact Or.inr (Or.inr rfl)) (hd : (x == ("__debug__" : Str)) = false := by decide) (hcd : (x == ("__classdict__" : Str)) = false := by decide)
    (hst : starEach (e :: es) X.env = (false, eval e X.env) :: starEach es X.env := by rfl) (hpl : (backTo pos (starEach es X.env)).any (·.1) = false := by rfl) {pl : Sem Bool}
    (ht : eval (.Call (.Attribute (.Name x p0) nm apos) (e :: es) [] pos) X.env = (do
      let ov ← eval (.Name x p0) X.env
      standAt apos.atName
      let (f, first) ← holding [ov] (getMethod ov nm pl)
      callWith pos f first (backTo pos (starEach (e :: es) X.env)) (backToKw pos (keywordEach [] X.env))) := by rfl)
    (hsw : swapsWith (.Call (.Attribute (.Name x p0) nm apos) (e :: es) [] pos) none pos2.line X.env = pure false := by rfl) :
    PS X (.Expr (.Call (.Attribute (.Name x p0) nm apos) (e :: es) [] pos) pos2) (tS X.K z (gMethX i nm mm f)) := by
  subst hz
  obtain ⟨g, fd, ps, F, h1, h2⟩ := c.ex
  refine (ps_expr (pe_meth (dvs := []) (pe_var hN hv hd hcd) c.cls h1 F (hr.mono hk) h2 .nil pass0 ha hst hpl ht) hsw).mono fun D σ H ⟨ρ, F, O, fl, ρ', R, e1, q⟩ => ?_
  obtain ⟨⟨m, fs⟩, h0, e1⟩ := bind_some e1
  dsimp only at e1
  split at e1
  · next hf =>
    split at e1
    · cases e1
    · next hm =>
      obtain ⟨ds, h1, e1⟩ := bind_some e1
      obtain ⟨fs', h2, e1⟩ := map_some e1
      cases e1
      obtain ⟨p, s1, ob, may⟩ := obL_of R h0
      obtain ⟨dx, xs, as', g1, g2, g3, g4, g5⟩ := ob
      refine ⟨_, s1, p, dx, xs, rfl, g2, fdF_none hf g5.names, ρ, F, O, ds, R, h1, fun vs H1 sm r => ?_⟩
      have R1 := R.grow sm
      obtain ⟨p', s1', ob1, may1⟩ := obL_of R1 h0
      have ep := s1.symm.trans s1'
      cases ep
      show spMx X.K z.cl mm (.ref p :: (vs ++ [])) H1 (fun _ => D.nx σ) E0
      rw [List.append_nil]
      refine ⟨_, p, O i, fs, vs, ds, fs', rfl, ⟨R1.sub, R1.tup⟩, fun a ha => R1.off i a ha, ob1, r, h2, fun F' H' as2 L ob' hf => ?_⟩
      have hi := obL_eq h0
      have hlt : i < ρ.length := (List.getElem?_eq_some_iff.mp hi).1
      have R2 : Rel X.K z (ρ.set i (some (.ob m fs'))) σ F' H' (setO O i as2) := by
        refine R1.leave L (by rw [List.length_set]) (fun k e hk => ?_) (fun k a ha => ?_) may1.1
        · unfold setO
          by_cases q : k = i
          · subst q
            rw [List.getElem?_set_self hlt] at hk
            cases hk
            rw [if_pos rfl]
            refine .inr ⟨_, s1, ob'.ent ⟨fun a ha => ?_, fun e => absurd e hm, may1.2.2.1, fun e a ha => ?_⟩⟩
            · rcases (hf a ha).2.2 with q | q
              · exact may1.1 a q
              · exact .inl (H0_of R1 q)
            · rcases (hf a ha).2.2 with q | q
              · exact may1.2.2.2 e a q
              · exact H0_of R1 q
          · rw [List.getElem?_set_ne (Ne.symm q)] at hk
            rw [if_neg q]
            exact .inl ⟨hk, rfl, fun a ha hw => q (R1.apt k i a ha hw)⟩
        · unfold setO at ha
          split at ha
          · next e =>
            rcases (hf a ha).2.2 with q | q
            · exact .inl (by rw [e]; exact q)
            · refine .inr ⟨q, (hf a ha).1, (hf a ha).2.1, fun j hj => ?_⟩
              unfold setO at hj
              split at hj
              · next e2 => rw [e, e2]
              · exact absurd q (R1.off j a hj).2
          · exact .inl ha
      exact q σ F' H' _ R2 ((same_ext R.sub).trans L.same)
  · cases e1
/-- a method that reads alone -/
theorem methO_in {mm : List (Str × D) → List D → Option E} {i : Nat} {f : Env → Option (List D)} {σ : L2.St} {H : Hp} {Q : VK} (hz : z.cl = C)
    (h : ∃ ρ F O e, Rel X.K z ρ σ F H O ∧ cMethO i nm mm f ρ = some e ∧ ∀ v H1 H', Same H H1 → Same H1 H' → AtR X.K H1 H' v e → Q v H') :
    tMeth C nm (spO X.K mm) [] E0 (fun σ H Q => ∃ v, σ[i]? = some (some v) ∧ Q v H) (tPs X.K z f) σ H Q := by
  subst hz
  obtain ⟨ρ, F, O, e, R, e1, q⟩ := h
  obtain ⟨⟨m, fs⟩, h0, e1⟩ := bind_some e1
  dsimp only at e1
  split at e1
  · next hf =>
    obtain ⟨ds, h1, e1⟩ := bind_some e1
    obtain ⟨p, s1, ob, may⟩ := obL_of R h0
    obtain ⟨dx, xs, as', g1, g2, g3, g4, g5⟩ := ob
    refine ⟨_, s1, p, dx, xs, rfl, g2, fdF_none hf g5.names, ρ, F, O, ds, R, h1, fun vs H1 sm r => ?_⟩
    have R1 := R.grow sm
    obtain ⟨p', s1', ob1, may1⟩ := obL_of R1 h0
    have ep := s1.symm.trans s1'
    cases ep
    obtain ⟨dx', xs', as'', g1, g2, g3, g4, g5⟩ := ob1
    obtain ⟨n1, n2⟩ := g5.rep R1.sub
    show spO X.K mm (.ref p :: (vs ++ [])) H1 Q E0
    rw [List.append_nil]
    exact ⟨p, z.cl, dx', xs', _, vs, ds, e, rfl, g2, by rw [List.map_map]; exact g3, n1, n2, r.mono R1.sub, e1, fun v H' s2 ar => q v H1 H' sm s2 ar⟩
  · cases e1
theorem m_methO (i : Nat) {p0 pos apos : Pos} {e : Expr} {es : List Expr} {mm : List (Str × D) → List D → Option E} {f : Env → Option (List D)} (hz : z.cl = C) (c : CalM X.prog X.w X.K X.mg X.base k C nm (spO X.K mm)) (hr : Room j X.A) (hk : k ≤ j) (ha : PA X (e :: es) (tPs X.K z f))
    (hN : X.N[i]? = some x := by rfl) (hv : Vis X.env.scope x := by first | exact Or.inl rfl | exact Or.inr (Or.inl rfl) | exact Or.inr (Or.inr rfl)) (hd : (x == ("__debug__" : Str)) = false := by decide) (hcd : (x == ("__classdict__" : Str)) = false := by decide)
    (hst : starEach (e :: es) X.env = (false, eval e X.env) :: starEach es X.env := by rfl) (hpl : (backTo pos (starEach es X.env)).any (·.1) = false := by rfl) {pl : Sem Bool}
    (ht : eval (.Call (.Attribute (.Name x p0) nm apos) (e :: es) [] pos) X.env = (do
      let ov ← eval (.Name x p0) X.env
      standAt apos.atName
      let (f, first) ← holding [ov] (getMethod ov nm pl)
      callWith pos f first (backTo pos (starEach (e :: es) X.env)) (backToKw pos (keywordEach [] X.env))) := by rfl) :
    PE X (.Call (.Attribute (.Name x p0) nm apos) (e :: es) [] pos) (fun σ H Q => ∃ ρ F O e, Rel X.K z ρ σ F H O ∧ cMethO i nm mm f ρ = some e ∧ ∀ v H1 H', Same H H1 → Same H1 H' → AtR X.K H1 H' v e → Q v H') := by
  obtain ⟨g, fd, ps, F, h1, h2⟩ := c.ex
  exact (pe_meth (dvs := []) (pe_var hN hv hd hcd) c.cls h1 F (hr.mono hk) h2 .nil pass0 ha hst hpl ht).mono fun σ H Q h => methO_in hz h
theorem q_ofO {e : Expr} {g : Env → Option E} (h : PE X e (fun σ H Q => ∃ ρ F O e, Rel X.K z ρ σ F H O ∧ g ρ = some e ∧ ∀ v H1 H', Same H H1 → Same H1 H' → AtR X.K H1 H' v e → Q v H')) : PE X e (tP X.K z (shO g)) := h.mono fun σ H Q ⟨ρ, F, O, d, R, e, q⟩ => by
  obtain ⟨en, h1, h2⟩ := bind_some e
  split at h2
  · cases h2
    exact ⟨ρ, F, O, _, R, h1, fun v H1 H' s1 s2 ar => q v H' (s1.trans s2) (rep_at ar.1 ar.2)⟩
  · cases h2
theorem Rel.grow2 {K : PySem.W.Frag} {ρ : Env} {σ : L2.St} {F H F' H' : Hp} {O : Nat → List Addr} (R : Rel K z ρ σ F H O) (s : Same H H') (sF : Same F F') (sH : Same F' H') (t : AllT F' H') (ou : ∀ a, H a ≠ none → F a = none → F' a = none) : Rel K z ρ σ F' H' O :=
  R.leave (W := []) ⟨sF, sH, t, fun a o _ h => s _ _ h, fun a h => by
    obtain ⟨o, q⟩ := some_of h
    exact ne_none (s _ _ q), ou⟩ rfl (fun k e h => .inl ⟨h, rfl, fun _ _ q => by cases q⟩) (fun k a ha => .inl ha) fun a ha => by cases ha
theorem w_ofO {e : Expr} {g : Env → Option E} (h : PE X e (fun σ H Q => ∃ ρ F O e, Rel X.K z ρ σ F H O ∧ g ρ = some e ∧ ∀ v H1 H', Same H H1 → Same H1 H' → AtR X.K H1 H' v e → Q v H')) : PE X e (tW X.K z (wO g)) := h.mono fun σ H Q ⟨ρ, F, O, d, ρ', R, e, q⟩ => by
  obtain ⟨en, h1, h2⟩ := map_some e
  cases h2
  refine ⟨ρ, F, O, _, R, h1, fun v H1 H' s1 s2 ar => ?_⟩
  have sm := s1.trans s2
  unfold AtR at ar
  split at ar
  · exact q v _ H' [] (R.grow sm) (.of_same R.sub sm) ⟨rfl, rep_at ar.1 ar.2⟩ fun a ha => by cases ha
  · obtain ⟨hat, q0, ws, e0, n1, g1, g2⟩ := ar
    subst e0
    have n0 : H q0 = none := by
      cases y : H q0 with
      | none => rfl
      | some o =>
        have := s1 _ _ y
        rw [this] at n1
        cases n1
    have R1 := R.grow sm
    have eF : ∃ F' : Hp, F' = fun a => if a = q0 then none else ext F H H' a := ⟨_, rfl⟩
    obtain ⟨F', eF⟩ := eF
    have f0 : F q0 = none := R.sub.free n0
    have a1 : Same F F' := fun a o h => by
      rw [eF]
      dsimp only
      rw [if_neg (ne_of_none h f0)]
      exact same_ext R.sub _ _ h
    have a2 : Same F' H' := fun a o h => by
      rw [eF] at h
      dsimp only at h
      split at h
      · cases h
      · exact R1.sub _ _ h
    have a3 : AllT F' H' := fun a vs h => by
      rw [eF]
      dsimp only
      have n : a ≠ q0 := fun e => by
        rw [e, g1] at h
        cases h
      rw [if_neg n]
      exact R1.tup a vs h
    have a4 : ∀ a, H a ≠ none → F a = none → F' a = none := fun a h f => by
      rw [eF]
      dsimp only
      split
      · rfl
      · exact (Kp.of_same (O := O) R.sub sm).out a h f
    have R2 := R.grow2 sm a1 a2 a3 a4
    have fq : F' q0 = none := by
      rw [eF]
      dsimp only
      rw [if_pos rfl]
    refine q _ F' H' [q0] R2 ⟨a1, fun a o h _ => sm _ _ h, a4, fun a h => by
      obtain ⟨o, q⟩ := some_of h
      exact ne_none (sm _ _ q)⟩ ⟨q0, rfl, rfl, H0_of R n0, ws, g1, rep_ats hat g2⟩ fun a ha => ?_
    rcases List.mem_cons.mp ha with e | e
    · rw [e]
      exact ⟨n0, fq, ne_none g1⟩
    · cases e
  · exact ar.elim

/-! ### an object is made -/
def wMake (mm : List (Str × Fd) → List D → Option (List (Str × Fd))) (f : Env → Option (List D)) : Env → Option (E × Env) := fun ρ => (f ρ).bind fun ds => (mm [] ds).map fun fs' => (.ob 0 fs', ρ)
theorem w_make {f : Addr} {fd : FuncData} {ps : List Str} {p pos : Pos} {e : Expr} {es : List Expr} {mm : List (Str × Fd) → List D → Option (List (Str × Fd))} {fa : Env → Option (List D)} (hz : z.cl = C) (cl : Cls X.K C) (M : Mk X.K C f) (G : FnOk X.prog X.w X.K X.mg X.base CX0 k f fd ps (spMx X.K C mm)) (hb : Binds X.K fd ps []) (hr : Room j X.A) (hk : k + 1 ≤ j) (hg : Gl X x) (hm : X.mg x = some (.ref C))
    (ha : PA X (e :: es) (tPs X.K z fa)) (hdb : (x == ("__debug__" : Str)) = false := by decide) (he : starEach (e :: es) X.env = (false, eval e X.env) :: starEach es X.env := by rfl) (hpl : (backTo pos (starEach es X.env)).any (·.1) = false := by rfl) :
    PE X (.Call (.Name x p) (e :: es) [] pos) (tW X.K z (wMake mm fa)) := by
  subst hz
  refine (pe_make (dvs := []) M G (hr.mono hk) hg hm hb .nil pass0 ha hdb he hpl).mono fun σ H Q ⟨ρ, F, O, en, ρ', R, e1, q⟩ => ?_
  obtain ⟨ds, h1, e1⟩ := bind_some e1
  obtain ⟨fs', h2, e1⟩ := map_some e1
  cases e1
  refine ⟨ρ, F, O, ds, R, h1, fun vs H1 sm r p dx hp hdx nd => ?_⟩
  have R1 := R.grow sm
  show spMx X.K z.cl mm (.ref p :: (vs ++ [])) _ _ E0
  rw [List.append_nil]
  have f1 : ext F H H1 p = none := R1.sub.free hp
  have f2 : ext F H H1 dx = none := R1.sub.free hdx
  have up : ∀ a, a ≠ p → a ≠ dx → upd (upd H1 dx (.own p)) p (.ins z.cl dx []) a = H1 a := fun a n1 n2 => by rw [upd_ne n1, upd_ne n2]
  refine ⟨_, p, [p], [], vs, ds, fs', rfl, ⟨fun a o h => ?_, (R1.tup.up (by intro _ q; cases q)).up (by intro _ q; cases q)⟩, fun a ha => ?_, ⟨dx, [], [], rfl, upd_same, ⟨cl, fun n hn => by cases hn⟩, by simp, .nil⟩, r, h2, fun F' H' as' L ob hf => ⟨rfl, ?_⟩⟩
  · rw [up a (ne_of_none h f1) (ne_of_none h f2)]
    exact R1.sub _ _ h
  · rcases List.mem_cons.mp ha with e | e
    · rw [e, upd_same]
      exact ⟨f1, fun z => nomatch z⟩
    · cases e
  · have s1 : Same H1 H' := fun a o h => by
      refine L.keep a o (fun e => ?_) ?_
      · rcases List.mem_cons.mp e with e | e
        · rw [e, hp] at h
          cases h
        · cases e
      · rw [up a (ne_of_none h hp) (ne_of_none h hdx)]
        exact h
    have ou : ∀ a, H1 a ≠ none → ext F H H1 a = none → F' a = none := fun a h f => by
      obtain ⟨o, q⟩ := some_of h
      refine L.out a ?_ f
      rw [up a (ne_of_none q hp) (ne_of_none q hdx)]
      exact h
    have R2 := R1.grow2 s1 L.same L.sub L.tup ou
    have new : ∀ a ∈ as', H1 a = none := fun a ha => by
      rcases (hf a ha).2.2 with e | e
      · rcases List.mem_cons.mp e with e | e
        · rw [e]
          exact hp
        · cases e
      · cases y : H1 a with
        | none => rfl
        | some o =>
          rw [up a (ne_of_none y hp) (ne_of_none y hdx), y] at e
          cases e
    have k1 : Kp (ext F H H1) H1 F' H' O := ⟨L.same, fun a o h _ => s1 _ _ h, ou, fun a h => by
      obtain ⟨o, q⟩ := some_of h
      exact ne_none (s1 _ _ q)⟩
    refine q _ F' H' as' R2 ((Kp.of_same R.sub sm).trans k1) (ob.ent ⟨fun a ha => .inl (H0_of R1 (new a ha)), (fun e => by cases e), (fun e => by cases e), fun _ a ha => H0_of R1 (new a ha)⟩) fun a ha => ⟨(Kp.of_same (O := O) R.sub sm).none_back (new a ha), (hf a ha).1, (hf a ha).2.1⟩

/-! ### [] as a list of own lists; x.append(y), y an own list that goes over to x -/
def wNil2 : Env → Option (E × Env) := fun ρ => some (.own2 (.list []), ρ)
theorem w_nil2 {pos : Pos} : PE X (.List [] pos) (tW X.K z wNil2) := by
  refine (pe_lst pa_nil).mono fun σ H Q ⟨ρ, F, O, en, ρ', R, e, q⟩ => ?_
  cases e
  refine ⟨Nat.zero_le _, fun p hp => ?_⟩
  refine q _ F _ [p] (R.newW hp) (newW_kp R.sub hp) ⟨p, [], [], rfl, rfl, rfl, upd_same, by simp, fun a ha => ?_, .nil⟩ fun a ha => ?_
  · rcases List.mem_cons.mp ha with e | e
    · rw [e]
      exact H0_of R hp
    · cases e
  · rcases List.mem_cons.mp ha with e | e
    · rw [e, upd_same]
      exact ⟨hp, R.sub.free hp, fun z => nomatch z⟩
    · cases e
def ownO (e : Option (Option E)) : Option (List D) := match e with
  | some (some (.own (.list ds))) => some ds
  | _ => none
def gApp2 (i j : Nat) : Gs := fun ρ => (own2L ρ[i]?).bind fun ds => (ownO ρ[j]?).bind fun es => if ds.length ≤ 1000 then some (.nx, (ρ.set j none).set i (some (.own2 (.list (ds ++ [.list es]))))) else none
theorem Objs.app {K : PySem.W.Frag} {F H : Hp} : ∀ {qs rs : List Addr} {ds es : List D}, Objs K F H qs ds → Objs K F H rs es → Objs K F H (qs ++ rs) (ds ++ es)
  | _, _, _, _, .nil, h => h
  | _, _, _, _, .cons o t, h => .cons o (Objs.app t h)
theorem s_app2 (i l : Nat) {y : Str} {p0 py p2 p3 pos : Pos} (hN : X.N[i]? = some x := by rfl) (hv : Vis X.env.scope x := by first | exact Or.inl rfl | exact Or.inr (Or.inl rfl) | exact Or.inr (Or.inr rfl)) (hd : (x == ("__debug__" : Str)) = false := by decide)
    (hcd : (x == ("__classdict__" : Str)) = false := by decide) (hN2 : X.N[l]? = some y := by rfl) (hv2 : Vis X.env.scope y := by first | exact Or.inl rfl | exact Or.inr (Or.inl rfl) | exact Or.inr (Or.inr rfl)) (hd2 : (y == ("__debug__" : Str)) = false := by decide) (hcd2 : (y == ("__classdict__" : Str)) = false := by decide)
    (hbase : attributeBase (.Name x p0) "append" X.env (eval (.Name x p0) X.env) = eval (.Name x p0) X.env := by rfl)
    (hfew : ((backTo p3 (starEach [.Name y py] X.env)).all (fun x => !x.1) && (backToKw p3 (keywordEach [] X.env)).all (fun x => x.1.isSome)
      && decide ([Expr.Name y py].length + ([] : List Keyword).length + (if ([] : List Keyword).isEmpty then 0 else 1) < 30)) = true := by rfl)
    (hline : (p2.endLine == p3.line) = true := by rfl) (hs : starEach [.Name y py] X.env = (false, eval (.Name y py) X.env) :: starEach [] X.env := by rfl) (hpl : (backTo p3 (starEach [] X.env)).any (·.1) = false := by rfl)
    (hsw : swapsWith (.Call (.Attribute (.Name x p0) "append" p2) [.Name y py] [] p3) none pos.line X.env = pure false := by rfl) :
    PS X (.Expr (.Call (.Attribute (.Name x p0) "append" p2) [.Name y py] [] p3) pos) (tS X.K z (gApp2 i l)) :=
  (ps_expr (pe_bm PySem.F.plainAttrs_list PySem.F.slot_list_append PySem.F.type_list_append mt_append (pe_var hN hv hd hcd) (pa_cons (pe_var hN2 hv2 hd2 hcd2) pa_nil hs) hbase hfew hline hs hpl) hsw).mono fun D σ H ⟨ρ, F, O, fl, ρ', R, e, q⟩ => by
    obtain ⟨ds, h0, e⟩ := bind_some e
    obtain ⟨es, h1, e⟩ := bind_some e
    split at e
    · next hl =>
      cases e
      obtain ⟨hi, p, qs, s1, s2, s3, s4, s5, s6⟩ := own2L_of R h0
      have hj : ρ[l]? = some (some (.own (.list es))) := by
        unfold ownO at h1
        split at h1
        · next h => cases h1; exact h
        · cases h1
      obtain ⟨v, t1, q0, e1, e2, e3, vs, t2, t3⟩ := R.ent l _ hj
      subst e1
      have nij : i ≠ l := fun e => by
        rw [e, hj] at hi
        cases hi
      refine ⟨_, s1, .inl ⟨rfl, _, SqL.of s3⟩, _, t1, p, _, .ref q0, rfl, rfl, s3, by rw [List.length_map, s6.length]; have := small1000 hl; omega, ?_⟩
      have hm : q0 ∈ O l := by rw [e2]; exact List.mem_cons_self
      have nq : q0 ∉ O i := fun h => nij (R.apt i l q0 h hm)
      have R1 := R.clear l
      have oi : setO O l [] i = p :: qs := by
        unfold setO
        rw [if_neg nij]
        exact s2
      have npq : q0 ≠ p := fun e => nq (by rw [s2, e]; exact List.mem_cons_self)
      have hp : p ∉ qs := (List.nodup_cons.mp s4).1
      have eW : (List.map V.ref qs ++ [V.ref q0]) = (qs ++ [q0]).map V.ref := by rw [List.map_append]; rfl
      rw [eW]
      refine q σ F _ _ (R1.mutE (i := i) (a := p) (v := .ref p) (e := .own2 (.list (ds ++ [.list es]))) (as' := p :: (qs ++ [q0])) (by rw [oi]; exact List.mem_cons_self) (.inl (s5 p List.mem_cons_self)) s1 ⟨p, qs ++ [q0], _, rfl, rfl, rfl, upd_same, ?_, fun a ha => ?_, ?_⟩ fun b hb => ?_) (Same.refl _)
      · rw [List.nodup_cons, List.nodup_append]
        refine ⟨fun h => ?_, (List.nodup_cons.mp s4).2, by simp, fun a ha b hb e => ?_⟩
        · rcases List.mem_append.mp h with h | h
          · exact hp h
          · rcases List.mem_cons.mp h with h | h
            · exact npq h.symm
            · cases h
        · rcases List.mem_cons.mp hb with hb | hb
          · rw [e, hb] at ha
            exact nq (by rw [s2]; exact List.mem_cons_of_mem _ ha)
          · cases hb
      · rcases List.mem_cons.mp ha with h | h
        · rw [h]
          exact s5 p List.mem_cons_self
        · rcases List.mem_append.mp h with h | h
          · exact s5 a (List.mem_cons_of_mem _ h)
          · rcases List.mem_cons.mp h with h | h
            · rw [h]
              exact e3
            · cases h
      · refine Objs.app (s6.mono (Same.refl _) fun a ha => upd_ne fun e => hp (by rw [← e]; exact ha)) (.cons ⟨vs, (upd_ne npq).trans t2, t3⟩ .nil)
      · rw [oi]
        rcases List.mem_cons.mp hb with h | h
        · rw [h]
          exact .inl List.mem_cons_self
        · rcases List.mem_append.mp h with h | h
          · exact .inl (List.mem_cons_of_mem _ h)
          · rcases List.mem_cons.mp h with h | h
            · rw [h]
              refine .inr ⟨(R.off l q0 hm).1, (R.off l q0 hm).2, fun k hk => ?_⟩
              unfold setO at hk
              split at hk
              · cases hk
              · next n => exact n (R.apt k l q0 hk hm)
            · cases h
    · cases e
end
end DL

namespace DL
open PySem PySem.Spec PyProof.Rows L2

/-! ### a + b, two lists: a new list of one's own -/
def catD : D → D → Option (List D)
  | .list ds, .list es => if ds.length + es.length ≤ 1000000 then some (ds ++ es) else none
  | _, _ => none
def wCat (f g : Env → Option D) : Env → Option (E × Env) := fun ρ => (f ρ).bind fun a => (g ρ).bind fun b => (catD a b).map fun ds => (.own (.list ds), ρ)
theorem w_cat {X : Cx} {z : Z} {a b : Expr} {f g : Env → Option D} {pos : Pos} (ha : PE X a (tP X.K z f)) (hb : PE X b (tP X.K z g)) : PE X (.BinOp a .Add b pos) (tW X.K z (wCat f g)) :=
  (pe_op op_catL ha hb).mono fun σ H Q ⟨ρ, F, O, en, ρ', R, e, q⟩ => by
    obtain ⟨d1, h1, e⟩ := bind_some e
    obtain ⟨d2, h2, e⟩ := bind_some e
    obtain ⟨ds, h3, e⟩ := map_some e
    cases e
    refine ⟨ρ, F, O, d1, R, h1, fun x H1 s1 r1 => ?_⟩
    have R1 := R.grow s1
    refine ⟨ρ, _, O, d2, R1, h2, fun y H2 s2 r2 => ?_⟩
    have R2 := R1.grow s2
    unfold catD at h3
    split at h3
    · split at h3
      · next hl =>
        cases h3
        cases r1 with
        | lst h t =>
          cases r2 with
          | lst h' t' =>
            have l1 := t.length
            have l2 := t'.length
            have t2 := t.mono (same_ext R1.sub (H' := H2))
            exact ⟨_, _, _, _, rfl, rfl, R2.sub.seq ((same_ext R1.sub).seq h), R2.sub.seq h', leM (by omega), fun p2 hp => fin_own R2 ((Kp.of_same R.sub s1).trans (.of_same R1.sub s2)) q (t2.append t') hp⟩
      · cases h3
    · cases h3

/-! ### a field's list becomes shared -/
def frzFd (nm : Str) : List (Str × Fd) → List (Str × Fd)
  | [] => []
  | (g, x) :: r => if g = nm then (match x with | .own d => (g, .sh d) :: r | _ => (g, x) :: r) else (g, x) :: frzFd nm r
theorem frzFd_names (nm : Str) : ∀ fs : List (Str × Fd), (frzFd nm fs).map (·.1) = fs.map (·.1)
  | [] => rfl
  | (g, x) :: r => by
    unfold frzFd
    split
    · split <;> rfl
    · simp only [List.map_cons, frzFd_names nm r]
def fzF (i : Nat) (nm : Str) (ρ : Env) : Env := match ρ[i]? with
  | some (some (.ob m fs)) => if m = 0 then ρ.set i (some (.ob m (frzFd nm fs))) else ρ
  | _ => ρ
def gFzF (i : Nat) (nm : Str) (g : Gs) : Gs := fun ρ => g (fzF i nm ρ)
section
variable {K : PySem.W.Frag} {z : Z} {ρ : Env} {σ : L2.St} {F H : Hp} {O : Nat → List Addr}
theorem Fds.frz : ∀ {xs : List (Str × V)} {fs : List (Str × Fd)} {as : List Addr} (nm : Str), Fds K F H xs fs as → as.Nodup → (∀ a ∈ as, F a = none) →
    ∃ F' as', Same F F' ∧ (∀ a, F' a ≠ F a → a ∈ as ∧ a ∉ as' ∧ F' a = H a) ∧ Fds K F' H xs (frzFd nm fs) as' ∧ as'.Sublist as
  | _, _, _, _, .nil, _, _ => ⟨F, [], Same.refl _, fun a h => absurd rfl h, .nil, .refl _⟩
  | _, _, _, nm, .sh (n := n) r t, hn, hF => by
    unfold frzFd
    split
    · exact ⟨F, _, Same.refl _, fun a h => absurd rfl h, .sh r t, .refl _⟩
    · obtain ⟨F', as', s, c, q, sb⟩ := Fds.frz nm t hn hF
      exact ⟨F', as', s, c, .sh (r.mono s) q, sb⟩
  | _, _, _, nm, .own (n := n) (p := p) (d := d) (as := as) o t, hn, hF => by
    obtain ⟨n1, n2⟩ := List.nodup_cons.mp hn
    unfold frzFd
    split
    · have fp := hF p List.mem_cons_self
      cases d with
      | list ds =>
        obtain ⟨vs, h1, h2⟩ := o
        refine ⟨upd F p (.lst vs), as, same_new fp, fun a ha => ?_, .sh (.lst (.of upd_same) (h2.mono (same_new fp))) (t.mono (same_new fp) fun _ _ => rfl), List.sublist_cons_self _ _⟩
        by_cases e : a = p
        · rw [e, upd_same]
          exact ⟨List.mem_cons_self, n1, h1.symm⟩
        · rw [upd_ne e] at ha
          exact absurd rfl ha
      | _ => exact o.elim
    · obtain ⟨F', as', s, c, q, sb⟩ := Fds.frz nm t n2 fun a ha => hF a (List.mem_cons_of_mem _ ha)
      exact ⟨F', p :: as', s, fun a ha => ⟨List.mem_cons_of_mem _ (c a ha).1, fun h => by
        rcases List.mem_cons.mp h with e | e
        · exact n1 (e ▸ (c a ha).1)
        · exact (c a ha).2.1 e, (c a ha).2.2⟩, .own (o.mono s rfl) q, sb.cons_cons p⟩
  | _, _, _, nm, .own2 (n := n) (p := p) (qs := qs) (as := as) h0 o t, hn, hF => by
    obtain ⟨n1, n2⟩ := List.nodup_cons.mp hn
    obtain ⟨n3, n4, n5⟩ := List.nodup_append.mp n2
    unfold frzFd
    split
    · exact ⟨F, _, Same.refl _, fun a h => absurd rfl h, .own2 h0 o t, .refl _⟩
    · obtain ⟨F', as', s, c, q, sb⟩ := Fds.frz nm t n4 fun a ha => hF a (List.mem_cons_of_mem _ (List.mem_append_right _ ha))
      refine ⟨F', p :: (qs ++ as'), s, fun a ha => ⟨List.mem_cons_of_mem _ (List.mem_append_right _ (c a ha).1), fun h => ?_, (c a ha).2.2⟩, .own2 h0 (o.mono s fun _ _ => rfl) q, (sb.append_left qs).cons_cons p⟩
      rcases List.mem_cons.mp h with e | e
      · exact n1 (by rw [← e]; exact List.mem_append_right _ (c a ha).1)
      · rcases List.mem_append.mp e with e | e
        · exact n5 a e a (c a ha).1 rfl
        · exact (c a ha).2.1 e
theorem Rel.fzF (i : Nat) (nm : Str) (R : Rel K z ρ σ F H O) : ∃ F' O', Same F F' ∧ Rel K z (DL.fzF i nm ρ) σ F' H O' := by
  unfold DL.fzF
  split
  · next m fs h =>
    split
    · next hm =>
      subst hm
      obtain ⟨p, s1, ⟨dx, xs, as', e2, h2, h3, h4, h6⟩, may⟩ := obL_of (i := i) (m := 0) (fs := fs) R (by rw [h]; rfl)
      have hn : ∀ a ∈ O i, F a = none := fun a ha => (R.off i a ha).1
      have ha0 := may.2.2.2 rfl
      rw [e2] at hn h4 ha0
      obtain ⟨n1, n2⟩ := List.nodup_cons.mp h4
      obtain ⟨F', as2, s, c, q, sb⟩ := h6.frz nm n2 fun a ha => hn a (List.mem_cons_of_mem _ ha)
      have R1 := R.wider (as := as') s (fun a ha => ⟨(c a ha).1, (c a ha).2.2⟩)
      refine ⟨F', setO O i (p :: as2), s, ?_⟩
      have inO : ∀ a, F' a ≠ F a → a ∈ O i ∧ a ∉ p :: as2 := fun a ha => by
        refine ⟨by rw [e2]; exact List.mem_cons_of_mem _ (c a ha).1, fun hx => ?_⟩
        rcases List.mem_cons.mp hx with e | e
        · exact n1 (e ▸ (c a ha).1)
        · exact (c a ha).2.1 e
      have sub2 : ∀ a ∈ p :: as2, a ∈ O i := fun a ha => by
        rw [e2]
        rcases List.mem_cons.mp ha with e | e
        · rw [e]
          exact List.mem_cons_self
        · exact List.mem_cons_of_mem _ (sb.subset e)
      refine ⟨by rw [List.length_set, R.len], fun a o ea => ?_, fun j e' hj => ?_, fun j a ha => ?_, fun j k a hj hk => ?_, fun a h1 h2 => ?_, R.oldH, R.keep, R.f0.trans s, fun a vs e => ?_⟩
      · by_cases q : F' a = F a
        · exact R.sub a o (q ▸ ea)
        · rw [← (c a q).2.2]
          exact ea
      · unfold setO
        by_cases q1 : j = i
        · subst q1
          have hl : j < ρ.length := (List.getElem?_eq_some_iff.mp h).1
          rw [List.getElem?_set_self hl] at hj
          cases hj
          rw [if_pos rfl]
          refine ⟨.ref p, s1, p, dx, xs, as2, rfl, rfl, h2, by rw [frzFd_names]; exact h3, List.nodup_cons.mpr ⟨fun hx => n1 (sb.subset hx), n2.sublist sb⟩, ⟨fun a ha => .inl (ha0 a (e2 ▸ sub2 a ha)), fun e => (nomatch e), fun e => (nomatch e), fun _ a ha => ha0 a (e2 ▸ sub2 a ha)⟩, q⟩
        · rw [List.getElem?_set_ne (Ne.symm q1)] at hj
          rw [if_neg q1]
          obtain ⟨w, h1, h2⟩ := R.ent j e' hj
          exact ⟨w, h1, h2.mono s fun _ _ => rfl⟩
      · unfold setO at ha
        have hF : F' a = F a := Classical.byContradiction fun q => by
          split at ha
          · exact (inO a q).2 ha
          · next n => exact n (R.apt j i a ha (inO a q).1)
        rw [hF]
        split at ha
        · exact R.off i a (sub2 a ha)
        · exact R.off j a ha
      · unfold setO at hj hk
        split at hj
        · split at hk
          · omega
          · next e n => exact absurd (R.apt k i a hk (sub2 a hj)) n
        · split at hk
          · next n e => exact absurd (R.apt j i a hj (sub2 a hk)) n
          · exact R.apt j k a hj hk
      · by_cases q2 : F' a = F a
        · rw [q2]
          exact R.old a h1 h2
        · exact absurd (ha0 a (e2 ▸ (inO a q2).1)) h1
      · by_cases q : F' a = F a
        · rw [q]
          exact R.tup a vs e
        · rw [(c a q).2.2]
          exact e
    · exact ⟨F, O, Same.refl _, R⟩
  · exact ⟨F, O, Same.refl _, R⟩
end
theorem s_fzF {X : Cx} {z : Z} (i : Nat) (nm : Str) {st : Stmt} {g : Gs} (h : PS X st (tS X.K z g)) : PS X st (tS X.K z (gFzF i nm g)) := h.mono fun D σ H ⟨ρ, F, O, fl, ρ', R, e, q⟩ => by
  obtain ⟨F', O', s, R'⟩ := R.fzF i nm
  exact ⟨_, F', O', fl, ρ', R', e, q.from s⟩
end DL

namespace DL
open PySem PySem.Spec PyProof.Rows L2

/-! ### defs with an object: by numerals -/
section
variable {P : Program} {w : World} {K : PySem.W.Frag} {mg : Str → Option Value} {base : Heap}
theorem ok_Pc {c : Addr} {x qual : Str} {st : Stmt} {f : Addr} {fd : FuncData} {N ps : List Str} {k : Nat} {g : Gs} (F : Fun K x qual st f fd) (S : FnScope N ps (defScope st))
    (h : ∀ (cdv : Value) (A : Around) (outer : List PySem.Env) (s : Shared) (H : Hp) (E : XK) (z : Z), z.cl = c → Room k (A.deeper (envOfC qual (defScope st) s.heap.objs.size f cdv)) → PSs (cxOf CX0 P w K mg base N qual (defScope st) f cdv A outer s H E).nox (defBody st) (tS K z g)) :
    FnOk P w K mg base CX0 (k + 1) f fd ps (spP K (run N.length ps.length g)) := by
  refine F.ok S (fun vs H Q E h => ?_) (fun cdv A outer s H vs Q E hr q => ?_)
  · obtain ⟨F, ds, d, _, r, e, _⟩ := h
    rw [r.length]
    exact run_len e
  · obtain ⟨F, ds, d, ⟨s0, t0⟩, r, e, q⟩ := q
    refine ⟨_, h cdv A outer s H E ⟨H, F, fun _ => False, c, []⟩ rfl hr, ?_⟩
    unfold run at e
    split at e
    · obtain ⟨⟨fl, ρ'⟩, h1, h2⟩ := bind_some e
      refine ⟨_, F, _, fl, ρ', rel_start s0 t0 r, h1, ?_⟩
      cases fl with
      | nx =>
        cases h2
        exact fun σ F' H' O R s => q .non H' (fun a o h => R.keep a o h id) .non
      | bk => cases h2
      | ct => cases h2
      | ret d2 =>
        cases h2
        exact fun v σ F' H' O R s r => q v H' (fun a o h => R.keep a o h id) (r.mono (end_sub s0 R))
    · cases e
theorem okPc {c : Addr} {x qual : Str} {st : Stmt} {f : Addr} {fd : FuncData} {N ps : List Str} {k : Nat} {g : Gs} (a b : Nat) (F : Fun K x qual st f fd) (S : FnScope N ps (defScope st)) (ha : N.length = a) (hb : ps.length = b)
    (h : ∀ (cdv : Value) (A : Around) (outer : List PySem.Env) (s : Shared) (H : Hp) (E : XK) (z : Z), z.cl = c → Room k (A.deeper (envOfC qual (defScope st) s.heap.objs.size f cdv)) → PSs (cxOf CX0 P w K mg base N qual (defScope st) f cdv A outer s H E).nox (defBody st) (tS K z g)) :
    FnOk P w K mg base CX0 (k + 1) f fd ps (spP K (run a b g)) := by
  subst ha hb
  exact ok_Pc F S h
theorem okM {c : Addr} {x qual : Str} {st : Stmt} {f : Addr} {fd : FuncData} {N ps : List Str} {k : Nat} {g : Gs} (a b : Nat) (F : Fun K x qual st f fd) (S : FnScope N ps (defScope st)) (ha : N.length = a) (hb : ps.length = b) (hN : 0 < a)
    (h : ∀ (cdv : Value) (A : Around) (outer : List PySem.Env) (s : Shared) (H : Hp) (E : XK) (z : Z), z.cl = c → Room k (A.deeper (envOfC qual (defScope st) s.heap.objs.size f cdv)) → PSs (cxOf CX0 P w K mg base N qual (defScope st) f cdv A outer s H E).nox (defBody st) (tS K z g)) :
    FnOk P w K mg base CX0 (k + 1) f fd ps (spM K c (runM a b g)) := by
  subst ha hb
  exact ok_M F S hN h
theorem okME {c : Addr} {x qual : Str} {st : Stmt} {f : Addr} {fd : FuncData} {N ps : List Str} {k : Nat} {g : Env → Option (E × Env)} (a b : Nat) (F : Fun K x qual st f fd) (S : FnScope N ps (defScope st)) (ha : N.length = a) (hb : ps.length = b) (hN : 0 < a)
    (h : ∀ (cdv : Value) (A : Around) (outer : List PySem.Env) (s : Shared) (H : Hp) (E : XK) (z : Z), z.cl = c → Room k (A.deeper (envOfC qual (defScope st) s.heap.objs.size f cdv)) → PSs (cxOf CX0 P w K mg base N qual (defScope st) f cdv A outer s H E).nox (defBody st) (tSE K z g)) :
    FnOk P w K mg base CX0 (k + 1) f fd ps (spM K c (runME a b g)) := by
  subst ha hb
  exact ok_ME F S hN h
theorem okMx {c : Addr} {x qual : Str} {st : Stmt} {f : Addr} {fd : FuncData} {N ps : List Str} {k : Nat} {g : Gs} (a b : Nat) (F : Fun K x qual st f fd) (S : FnScope N ps (defScope st)) (ha : N.length = a) (hb : ps.length = b) (hN : 0 < a)
    (h : ∀ (cdv : Value) (A : Around) (outer : List PySem.Env) (s : Shared) (H : Hp) (E : XK) (z : Z), z.cl = c → Room k (A.deeper (envOfC qual (defScope st) s.heap.objs.size f cdv)) → PSs (cxOf CX0 P w K mg base N qual (defScope st) f cdv A outer s H E).nox (defBody st) (tS K z g)) :
    FnOk P w K mg base CX0 (k + 1) f fd ps (spMx K c (runMx a b g)) := by
  subst ha hb
  exact ok_Mx F S hN h
theorem okM2 {c : Addr} {x qual : Str} {st : Stmt} {f : Addr} {fd : FuncData} {N ps : List Str} {k : Nat} {g : Gs} (a b : Nat) (F : Fun K x qual st f fd) (S : FnScope N ps (defScope st)) (ha : N.length = a) (hb : ps.length = b) (hN : 1 < a)
    (h : ∀ (cdv : Value) (A : Around) (outer : List PySem.Env) (s : Shared) (H : Hp) (E : XK) (z : Z), z.cl = c → Room k (A.deeper (envOfC qual (defScope st) s.heap.objs.size f cdv)) → PSs (cxOf CX0 P w K mg base N qual (defScope st) f cdv A outer s H E).nox (defBody st) (tS K z g)) :
    FnOk P w K mg base CX0 (k + 1) f fd ps (spM2 K c (runM2 a b g)) := by
  subst ha hb
  exact ok_M2 F S hN h
theorem okO {x qual : Str} {st : Stmt} {f : Addr} {fd : FuncData} {N ps : List Str} {k : Nat} {g : Gs} (a b : Nat) (F : Fun K x qual st f fd) (S : FnScope N ps (defScope st)) (ha : N.length = a) (hb : ps.length = b) (hN : 0 < a)
    (h : ∀ (cdv : Value) (A : Around) (outer : List PySem.Env) (s : Shared) (H : Hp) (E : XK) (z : Z), Room k (A.deeper (envOfC qual (defScope st) s.heap.objs.size f cdv)) → PSs (cxOf CX0 P w K mg base N qual (defScope st) f cdv A outer s H E).nox (defBody st) (tS K z g)) :
    FnOk P w K mg base CX0 (k + 1) f fd ps (spO K (runO a b g)) := by
  subst ha hb
  exact ok_O F S hN h
theorem okOE {x qual : Str} {st : Stmt} {f : Addr} {fd : FuncData} {N ps : List Str} {k : Nat} {g : Env → Option (E × Env)} (a b : Nat) (F : Fun K x qual st f fd) (S : FnScope N ps (defScope st)) (ha : N.length = a) (hb : ps.length = b) (hN : 0 < a)
    (h : ∀ (cdv : Value) (A : Around) (outer : List PySem.Env) (s : Shared) (H : Hp) (E : XK) (z : Z), Room k (A.deeper (envOfC qual (defScope st) s.heap.objs.size f cdv)) → PSs (cxOf CX0 P w K mg base N qual (defScope st) f cdv A outer s H E).nox (defBody st) (tSE K z g)) :
    FnOk P w K mg base CX0 (k + 1) f fd ps (spO K (runOE a b g)) := by
  subst ha hb
  exact ok_OE F S hN h
end
/-! ### products of wide numbers -/
def wid (i : Int) : Bool := decide (i.natAbs < 2 ^ 9000)
theorem wid_of {i : Int} (h : wid i = true) : i.natAbs < 2 ^ 9000 := of_decide_eq_true h
theorem wid_mul {i j : Int} (hi : wid i = true) (hj : wid j = true) : CMulW i j := wide_mul (wid_of hi) (wid_of hj) (by decide) (by decide) (by decide)
def oMulW : D → D → Option D
  | .int i, .int j => if wid i = true then (if wid j = true then some (.int (i * j)) else none) else none
  | _, _ => none
theorem w_mulW {K : PySem.W.Frag} : Op2 K (rI CMulW fun i j => .int (i * j)) oMulW := op2C fun a b d e => by
  unfold oMulW at e
  split at e
  · split at e
    · next h1 =>
      split at e
      · next h2 =>
        cases e
        exact ⟨_, _, rfl, rfl, wid_mul h1 h2, rfl⟩
      · cases e
    · cases e
  · cases e

/-! ### a field that is a list of own lists -/
section
variable {K : PySem.W.Frag} {F H : Hp}
theorem Fds.own2At : ∀ {xs : List (Str × V)} {fs : List (Str × Fd)} {as : List Addr} {nm : Str} {ds : List D}, Fds K F H xs fs as → as.Nodup → fdF nm fs = some (.own2 (.list ds)) →
    ∃ l qs, xs.lookup nm = some (.ref l) ∧ (∀ a ∈ l :: qs, a ∈ as) ∧ (l :: qs).Nodup ∧ H l = some (.lst (qs.map V.ref)) ∧ Objs K F H qs ds ∧
      ∀ H' ds', (∀ a ∈ as, a ∉ qs → H' a = H a) → Objs K F H' qs ds' → Fds K F H' xs (setFd nm (.own2 (.list ds')) fs) as
  | _, _, _, _, _, .nil, _, h => by cases h
  | _, _, _, nm, ds, .sh (n := n) r t, hn, h => by
    unfold fdF at h
    rw [lookup_cons']
    split at h
    · cases h
    · next e =>
      obtain ⟨l, qs, h1, h2, h3, h4, h5, h6⟩ := Fds.own2At t hn h
      rw [if_neg e]
      refine ⟨l, qs, h1, h2, h3, h4, h5, fun H' ds' k o => ?_⟩
      unfold setFd
      rw [if_neg e]
      exact .sh r (h6 H' ds' k o)
  | _, _, _, nm, ds, .own (n := n) (p := p) o t, hn, h => by
    unfold fdF at h
    rw [lookup_cons']
    obtain ⟨n1, n2⟩ := List.nodup_cons.mp hn
    split at h
    · cases h
    · next e =>
      obtain ⟨l, qs, h1, h2, h3, h4, h5, h6⟩ := Fds.own2At t n2 h
      rw [if_neg e]
      refine ⟨l, qs, h1, fun a ha => List.mem_cons_of_mem _ (h2 a ha), h3, h4, h5, fun H' ds' k o' => ?_⟩
      unfold setFd
      rw [if_neg e]
      exact .own (o.mono (Same.refl _) (k p List.mem_cons_self fun hq => n1 (h2 p (List.mem_cons_of_mem _ hq)))) (h6 H' ds' (fun a ha => k a (List.mem_cons_of_mem _ ha)) o')
  | _, _, _, nm, ds, .own2 (n := n) (p := p) (qs := qs0) h0 o t, hn, h => by
    unfold fdF at h
    rw [lookup_cons']
    obtain ⟨n1, n2⟩ := List.nodup_cons.mp hn
    obtain ⟨n3, n4, n5⟩ := List.nodup_append.mp n2
    split at h
    · next e =>
      cases h
      rw [if_pos e]
      refine ⟨p, qs0, rfl, fun a ha => ?_, List.nodup_cons.mpr ⟨fun hx => n1 (List.mem_append_left _ hx), n3⟩, h0, o, fun H' ds' k o' => ?_⟩
      · rcases List.mem_cons.mp ha with q | q
        · rw [q]
          exact List.mem_cons_self
        · exact List.mem_cons_of_mem _ (List.mem_append_left _ q)
      · unfold setFd
        rw [if_pos e]
        refine .own2 ((k p List.mem_cons_self fun hx => n1 (List.mem_append_left _ hx)).trans h0) o' (t.mono (Same.refl _) fun a ha => k a (List.mem_cons_of_mem _ (List.mem_append_right _ ha)) fun hx => n5 a hx a ha rfl)
    · next e =>
      obtain ⟨l, qs, h1, h2, h3, h4, h5, h6⟩ := Fds.own2At t n4 h
      rw [if_neg e]
      refine ⟨l, qs, h1, fun a ha => List.mem_cons_of_mem _ (List.mem_append_right _ (h2 a ha)), h3, h4, h5, fun H' ds' k o' => ?_⟩
      unfold setFd
      rw [if_neg e]
      have inq : ∀ a ∈ qs, a ∈ _ := fun a ha => h2 a (List.mem_cons_of_mem _ ha)
      refine .own2 ((k p List.mem_cons_self fun hx => n1 (List.mem_append_right _ (inq p hx))).trans h0) (o.mono (Same.refl _) fun a ha => k a (List.mem_cons_of_mem _ (List.mem_append_left _ ha)) fun hx => n5 a ha a (inq a hx) rfl) (h6 H' ds' (fun a ha => k a (List.mem_cons_of_mem _ (List.mem_append_right _ ha))) o')
theorem Ob.own2At {c p : Addr} {fs : List (Str × Fd)} {as : List Addr} {nm : Str} {ds : List D} (h : Ob K F H c p fs as) (hf : fdF nm fs = some (.own2 (.list ds))) :
    ∃ dx xs l qs, H p = some (.ins c dx xs) ∧ Cls K c ∧ NoAttr K c nm ∧ xs.lookup nm = some (.ref l) ∧ (∀ a ∈ l :: qs, a ∈ as ∧ a ≠ p) ∧ (l :: qs).Nodup ∧ H l = some (.lst (qs.map V.ref)) ∧ Objs K F H qs ds ∧
      ∀ H' ds', (∀ a ∈ as, a ∉ qs → H' a = H a) → Objs K F H' qs ds' → Ob K F H' c p (setFd nm (.own2 (.list ds')) fs) as := by
  obtain ⟨dx, xs, as', e2, h2, h3, h4, h6⟩ := h
  subst e2
  obtain ⟨n1, n2⟩ := List.nodup_cons.mp h4
  obtain ⟨l, qs, g1, g2, g3, g4, g5, g6⟩ := h6.own2At n2 hf
  refine ⟨dx, xs, l, qs, h2, h3.cls, h3.no _ (fdF_mem hf), g1, fun a ha => ⟨List.mem_cons_of_mem _ (g2 a ha), fun e => n1 (e ▸ g2 a ha)⟩, g3, g4, g5, fun H' ds' k o => ⟨dx, xs, as', rfl, ?_, by rw [setFd_names]; exact h3, h4, g6 H' ds' (fun a ha => k a (List.mem_cons_of_mem _ ha)) o⟩⟩
  exact (k p List.mem_cons_self fun hx => n1 (g2 p (List.mem_cons_of_mem _ hx))).trans h2
theorem Ob.shAt {c p : Addr} {fs : List (Str × Fd)} {as : List Addr} {nm : Str} {d : D} (h : Ob K F H c p fs as) (hf : shF nm fs = some d) : ∃ dx xs v, H p = some (.ins c dx xs) ∧ Cls K c ∧ NoAttr K c nm ∧ xs.lookup nm = some v ∧ Rep K F v d := by
  obtain ⟨dx, xs, as', e2, h2, h3, h4, h6⟩ := h
  obtain ⟨v, l, r⟩ := h6.shF hf
  exact ⟨dx, xs, v, h2, h3.cls, h3.no _ (shF_mem hf), l, r⟩
end
end DL

namespace DL
open PySem PySem.Spec PyProof.Rows L2

/-! ### tables of whole numbers -/
def intL : List D → Option (List Int)
  | [] => some []
  | .int i :: r => (intL r).map (i :: ·)
  | _ => none
abbrev iD1 (ns : List Int) : D := .list (ns.map PyData.int)
def intLL : List D → Option (List (List Int))
  | [] => some []
  | .list ds :: r => (intL ds).bind fun x => (intLL r).map (x :: ·)
  | _ => none
theorem intL_eq : ∀ {ds : List D} {ns : List Int}, intL ds = some ns → ds = ns.map PyData.int
  | [], ns, h => by cases h; rfl
  | .int i :: r, ns, h => by
    obtain ⟨x, h1, h2⟩ := map_some h
    subst h2
    rw [intL_eq h1]
    rfl
  | .none :: _, _, h => by cases h
  | .bool _ :: _, _, h => by cases h
  | .str _ :: _, _, h => by cases h
  | .list _ :: _, _, h => by cases h
  | .tuple _ :: _, _, h => by cases h
  | .dict _ :: _, _, h => by cases h
theorem intL_of : ∀ ns : List Int, intL (ns.map PyData.int) = some ns
  | [] => rfl
  | n :: ns => by
    show (intL (ns.map PyData.int)).map (n :: ·) = _
    rw [intL_of ns]
    rfl
theorem intLL_eq : ∀ {ds : List D} {T : List (List Int)}, intLL ds = some T → ds = T.map iD1
  | [], T, h => by cases h; rfl
  | .list ds :: r, T, h => by
    obtain ⟨x, h1, h⟩ := bind_some h
    obtain ⟨y, h2, h3⟩ := map_some h
    subst h3
    rw [intL_eq h1, intLL_eq h2]
    rfl
  | .none :: _, _, h => by cases h
  | .bool _ :: _, _, h => by cases h
  | .int _ :: _, _, h => by cases h
  | .str _ :: _, _, h => by cases h
  | .tuple _ :: _, _, h => by cases h
  | .dict _ :: _, _, h => by cases h
theorem intLL_of : ∀ T : List (List Int), intLL (T.map iD1) = some T
  | [] => rfl
  | r :: T => by
    show (intL (r.map PyData.int)).bind (fun x => (intLL (T.map iD1)).map (x :: ·)) = _
    rw [intL_of, intLL_of T]
    rfl
section
variable {K : PySem.W.Frag} {F H : Hp}
theorem objs_ints : ∀ {qs : List Addr} {T : List (List Int)}, Objs K F H qs (T.map iD1) → ∀ (k : Nat) q, qs[k]? = some q → ∃ r, T[k]? = some r ∧ H q = some (.lst (r.map V.int))
  | [], _, _, k, q, h => by simp at h
  | p :: qs, [], h, _, _, _ => by cases h
  | p :: qs, r :: T, .cons ⟨vs, h1, h2⟩ t, 0, q, h => by
    simp at h
    subst h
    exact ⟨r, rfl, by rw [h1, h2.ints]⟩
  | p :: qs, r :: T, .cons _ t, k + 1, q, h => by
    obtain ⟨r', g1, g2⟩ := objs_ints t k q (by simpa using h)
    exact ⟨r', by simpa using g1, g2⟩
theorem objs_of_ints : ∀ {qs : List Addr} {T : List (List Int)}, qs.length = T.length → (∀ (k : Nat) q r, qs[k]? = some q → T[k]? = some r → H q = some (.lst (r.map V.int))) → Objs K F H qs (T.map iD1)
  | [], [], _, _ => .nil
  | [], _ :: _, h, _ => by simp at h
  | _ :: _, [], h, _ => by simp at h
  | p :: qs, r :: T, h, k => .cons ⟨_, k 0 p r rfl rfl, DpAll.of_ints r⟩ (objs_of_ints (by simpa using h) fun j q r' h1 h2 => k (j + 1) q r' (by simpa using h1) (by simpa using h2))
end
/-! ### a turn, in numbers -/
def tItem (b part f x l : Int) : Option Int := if wid x = true then if wid part = true then if wid f = true then if wid l = true then if b = 0 then none else if b.natAbs < 2 ^ 200 then some ((x * part - f * l).fdiv b) else none else none else none else none else none
def tGo (b part f : Int) : List Int → List Int → Option (List Int)
  | [], [] => some []
  | x :: xs, l :: ls => (tItem b part f x l).bind fun y => (tGo b part f xs ls).map (y :: ·)
  | _, _ => none
def tLine (b part : Int) (lead : List Int) (col : Nat) (line : List Int) : Option (List Int) := (line[col]?).bind fun f => tGo b part f line lead
def tAll (b part : Int) (lead : List Int) (col : Nat) : List (List Int) → Option (List (List Int))
  | [] => some []
  | r :: rs => (tLine b part lead col r).bind fun x => (tAll b part lead col rs).map (x :: ·)
def turnP (T : List (List Int)) (g : List Int) (b : Int) (row col : Nat) : Option (List (List Int) × List Int × Int) :=
  (T[row]?).bind fun lead => (lead[col]?).bind fun part => (tAll b part lead col (T.take row)).bind fun A => (tAll b part lead col (T.drop (row + 1))).bind fun B => (tLine b part lead col g).map fun g' => (A ++ lead :: B, g', part)
def mmTurn (fs : List (Str × Fd)) (gs ds : List D) : Option (E × List (Str × Fd) × List D) := match ds with
  | [.int row, .int col] => match fdF "table" fs, shF "bottom" fs, fdF "basis" fs with
    | some (.own2 (.list rows)), some (.int b), some (.own (.list bs)) => (intLL rows).bind fun T => (intL gs).bind fun g => (intL bs).bind fun bi =>
      if 0 ≤ row ∧ 0 ≤ col ∧ row < 1000 ∧ col < 1000 ∧ row.toNat < bi.length ∧ T.length ≤ 1000 ∧ fs.length ≤ 900 ∧ ∀ r ∈ g :: T, r.length ≤ 1000 then (turnP T g b row.toNat col.toNat).bind fun t => (putFd "bottom" (.sh (.int t.2.2)) (setFd "table" (.own2 (.list (t.1.map iD1))) fs)).map fun fs2 => (.sh .none, setFd "basis" (.own (.list ((bi.set row.toNat col).map PyData.int))) fs2, t.2.1.map PyData.int)
      else none
    | _, _, _ => none
  | _ => none
theorem tGo_len {b part f : Int} : ∀ {xs ls ys : List Int}, tGo b part f xs ls = some ys → xs.length = ls.length ∧ ys.length = xs.length
  | [], [], _, h => by cases h; exact ⟨rfl, rfl⟩
  | [], _ :: _, _, h => by cases h
  | _ :: _, [], _, h => by cases h
  | x :: xs, l :: ls, ys, h => by
    obtain ⟨y, h1, h⟩ := bind_some h
    obtain ⟨zs, h2, h3⟩ := map_some h
    subst h3
    obtain ⟨g1, g2⟩ := tGo_len h2
    exact ⟨by simp [g1], by simp [g2]⟩
theorem tGo_get {b part f : Int} : ∀ {xs ls ys : List Int}, tGo b part f xs ls = some ys → ∀ (i : Nat) x l, xs[i]? = some x → ls[i]? = some l → ∃ y, ys[i]? = some y ∧ tItem b part f x l = some y
  | [], [], _, _, i, x, l, h1, _ => by simp at h1
  | [], _ :: _, _, h, _, _, _, _, _ => by cases h
  | _ :: _, [], _, h, _, _, _, _, _ => by cases h
  | x0 :: xs, l0 :: ls, ys, h, i, x, l, h1, h2 => by
    obtain ⟨y, g1, h⟩ := bind_some h
    obtain ⟨zs, g2, g3⟩ := map_some h
    subst g3
    cases i with
    | zero =>
      simp at h1 h2
      subst h1 h2
      exact ⟨y, rfl, g1⟩
    | succ i =>
      obtain ⟨y', q1, q2⟩ := tGo_get g2 i x l (by simpa using h1) (by simpa using h2)
      exact ⟨y', by simpa using q1, q2⟩
theorem tAll_get {b part : Int} {lead : List Int} {col : Nat} : ∀ {rs ys : List (List Int)}, tAll b part lead col rs = some ys → ys.length = rs.length ∧ ∀ (i : Nat) r, rs[i]? = some r → ∃ y, ys[i]? = some y ∧ tLine b part lead col r = some y
  | [], _, h => by
    cases h
    exact ⟨rfl, fun i r h => by simp at h⟩
  | r0 :: rs, ys, h => by
    obtain ⟨y, g1, h⟩ := bind_some h
    obtain ⟨zs, g2, g3⟩ := map_some h
    subst g3
    obtain ⟨q1, q2⟩ := tAll_get g2
    refine ⟨by simp [q1], fun i r h1 => ?_⟩
    cases i with
    | zero =>
      simp at h1
      subst h1
      exact ⟨y, rfl, g1⟩
    | succ i =>
      obtain ⟨y', w1, w2⟩ := q2 i r (by simpa using h1)
      exact ⟨y', by simpa using w1, w2⟩
theorem tItem_of {b part f x l y : Int} (h : tItem b part f x l = some y) : CMulW x part ∧ CMulW f l ∧ CDivW (x * part - f * l) b ∧ y = (x * part - f * l).fdiv b := by
  unfold tItem at h
  repeat' split at h
  all_goals first | (cases h; done) | skip
  cases h
  exact ⟨wid_mul (by assumption) (by assumption), wid_mul (by assumption) (by assumption), ⟨by assumption, by assumption⟩, rfl⟩
end DL
namespace DL
open PySem PySem.Spec PyProof.Rows L2
theorem fdF_setFd {nm n2 : Str} {y : Fd} (h : nm ≠ n2) : ∀ fs : List (Str × Fd), fdF nm (setFd n2 y fs) = fdF nm fs
  | [] => rfl
  | (g, x) :: r => by
    unfold setFd
    split
    · next e =>
      have h1 : ¬ g = nm := fun q => h (q.symm.trans e)
      simp only [fdF, if_neg h1]
    · simp only [fdF, fdF_setFd h r]
theorem fdF_putFd {nm n2 : Str} {y : Fd} (h : nm ≠ n2) : ∀ {fs fs' : List (Str × Fd)}, putFd n2 y fs = some fs' → fdF nm fs' = fdF nm fs
  | [], fs', e => by
    cases e
    simp only [fdF, if_neg (Ne.symm h)]
  | (g, x) :: r, fs', e => by
    unfold putFd at e
    split at e
    · next q =>
      have h1 : ¬ g = nm := fun q2 => h (q2.symm.trans q)
      split at e
      · cases e
        simp only [fdF, if_neg h1]
      · cases e
    · obtain ⟨r', h1, h2⟩ := map_some e
      subst h2
      simp only [fdF, fdF_putFd h h1]
theorem setFd_len (nm : Str) (y : Fd) (fs : List (Str × Fd)) : (setFd nm y fs).length = fs.length := by
  have := congrArg List.length (setFd_names nm y fs)
  simpa using this
theorem mix_set {α : Type} {xs ys : List α} {j : Nat} {y : α} (h : ys[j]? = some y) (hl : ys.length = xs.length) : (ys.take j ++ xs.drop j).set j y = ys.take (j + 1) ++ xs.drop (j + 1) := by
  have hj : j < ys.length := (List.getElem?_eq_some_iff.mp h).1
  have e1 : xs.drop j = xs[j]'(by omega) :: xs.drop (j + 1) := List.drop_eq_getElem_cons (by omega)
  have e2 : ys.take (j + 1) = ys.take j ++ [y] := by
    rw [List.take_succ, h]
    rfl
  rw [e1, e2, List.set_append_right _ _ (by rw [List.length_take]; omega)]
  have e3 : j - (ys.take j).length = 0 := by rw [List.length_take]; omega
  rw [e3, List.set_cons_zero, List.append_assoc]
  rfl
theorem mix_get {α : Type} {xs ys : List α} {j : Nat} {x : α} (h : xs[j]? = some x) (hl : ys.length = xs.length) : (ys.take j ++ xs.drop j)[j]? = some x := by
  have hj : j < xs.length := (List.getElem?_eq_some_iff.mp h).1
  rw [List.getElem?_append_right (by rw [List.length_take]; omega), List.length_take, List.getElem?_drop]
  have e : j + (j - min j ys.length) = j := by omega
  rw [e]
  exact h
theorem mix_end {α : Type} {xs ys : List α} (hl : ys.length = xs.length) : ys.take xs.length ++ xs.drop xs.length = ys := by
  rw [List.drop_length, List.append_nil, ← hl, List.take_length]
section
variable {K : PySem.W.Frag} {F H : Hp}
theorem objs_take : ∀ {qs : List Addr} {ds : List D} (n : Nat), Objs K F H qs ds → Objs K F H (qs.take n) (ds.take n)
  | _, _, 0, _ => .nil
  | _, _, _ + 1, .nil => .nil
  | _, _, n + 1, .cons o t => .cons o (objs_take n t)
theorem objs_drop : ∀ {qs : List Addr} {ds : List D} (n : Nat), Objs K F H qs ds → Objs K F H (qs.drop n) (ds.drop n)
  | _, _, 0, h => h
  | _, _, _ + 1, .nil => .nil
  | _, _, n + 1, .cons _ t => objs_drop n t
theorem objs_split {q2 : List Addr} {d2 : List D} : ∀ {q1 : List Addr} {d1 : List D}, q1.length = d1.length → Objs K F H (q1 ++ q2) (d1 ++ d2) → Objs K F H q1 d1 ∧ Objs K F H q2 d2
  | [], [], _, h => ⟨.nil, h⟩
  | [], _ :: _, e, _ => by simp at e
  | _ :: _, [], e, _ => by simp at e
  | _ :: _, _ :: _, e, .cons o t => by
    obtain ⟨h1, h2⟩ := objs_split (by simpa using e) t
    exact ⟨.cons o h1, h2⟩
end
theorem tAll_app {b part : Int} {lead : List Int} {col : Nat} {ys2 : List (List Int)} {rs2 : List (List Int)} (h2 : tAll b part lead col rs2 = some ys2) : ∀ {rs ys : List (List Int)}, tAll b part lead col rs = some ys → tAll b part lead col (rs ++ rs2) = some (ys ++ ys2)
  | [], _, h => by
    cases h
    exact h2
  | r :: rs, _, h => by
    obtain ⟨y, g1, h⟩ := bind_some h
    obtain ⟨zs, g2, g3⟩ := map_some h
    subst g3
    show (tLine b part lead col r).bind _ = _
    rw [g1]
    show (tAll b part lead col (rs ++ rs2)).map (y :: ·) = _
    rw [tAll_app h2 g2]
    rfl
theorem upd_eq {H H' : Hp} {a : Addr} {o : HO} (h : H' a = some o) (k : ∀ b, b ≠ a → H' b = H b) : H' = upd H a o := by
  funext b
  by_cases e : b = a
  · rw [e, upd_same, h]
  · rw [upd_ne e, k b e]
theorem cut_take {xs : List V} {n : Nat} (h : n ≤ xs.length) : cutV xs none (some (n : Int)) = xs.take n := by
  unfold cutV
  rw [HT.sIx_none, HT.sIx_nat, List.drop_zero, Nat.sub_zero, Nat.min_eq_left h]
theorem cut_drop {xs : List V} {n : Nat} (h : n ≤ xs.length) : cutV xs (some (n : Int)) none = xs.drop n := by
  unfold cutV
  rw [HT.sIx_none, HT.sIx_nat, Nat.min_eq_left h, List.take_of_length_le (by rw [List.length_drop]; exact Nat.le_refl _)]
theorem not_erase {α : Type} [DecidableEq α] {xs : List α} {i : Nat} {x : α} (hn : xs.Nodup) (h : xs[i]? = some x) : x ∉ xs.eraseIdx i := fun hm => by
  obtain ⟨j, hj, e⟩ := List.mem_eraseIdx_iff_getElem?.mp hm
  have hi : i < xs.length := (List.getElem?_eq_some_iff.mp h).1
  exact hj ((List.getElem?_inj hi hn).mp (h.trans e.symm)).symm
end DL
namespace DL
open PySem PySem.Spec PyProof.Rows L2
theorem ixN_of {n j : Nat} (hj : j < n) : ixN n (j : Int) = some j := by
  unfold ixN
  rw [if_pos (by omega), if_pos (by omega)]
  simp
theorem putFd_fdF {nm : Str} {y : Fd} : ∀ {fs fs' : List (Str × Fd)}, putFd nm y fs = some fs' → fs'.length ≤ fs.length + 1
  | [], fs', e => by cases e; exact Nat.le_refl _
  | (g, x) :: r, fs', e => by
    unfold putFd at e
    split at e
    · split at e
      · cases e
        exact Nat.le_succ _
      · cases e
    · obtain ⟨r', h1, h2⟩ := map_some e
      subst h2
      have := putFd_fdF h1
      simp only [List.length_cons]
      omega
end DL

namespace DL
open PySem PySem.Spec PyProof.Rows L2
/-! ### the layer's expressions within a derivation by hand -/
def z0 : Z := ⟨fun _ => none, fun _ => none, fun _ => True, 0, []⟩
theorem Rel.at0 {K : PySem.W.Frag} {ρ : Env} {σ : L2.St} {H : Hp} (hl : ρ.length = σ.length) (h : ∀ (i : Nat) e, ρ[i]? = some (some e) → ∃ v, σ[i]? = some (some v) ∧ Ent K z0 H H v e []) : Rel K z0 ρ σ H H (fun _ => []) where
  len := hl
  sub := Same.refl _
  ent := h
  off := fun i a ha => by cases ha
  apt := fun i j a ha => by cases ha
  old := fun a h => absurd rfl h
  oldH := fun a h => absurd rfl h
  keep := fun a o h => by cases h
  f0 := fun a o h => by cases h
  tup := AllT.refl _
section
variable {X : Cx} {z : Z} {elt tg iter : Expr} {ifs : List Expr} {scope : Scope} {own : List (Str × Nat)} {pos : Pos} {b : D → Env → Option Env}
theorem v_lc (i : Nat) {y : Str} {py spos : Pos} {it : Env → Option (List D)} {t : Env → Option Bool} {f : Env → Option D} (hc : X.calm = true) (hN : X.N.Nodup) (ok : BlkOk X.N X.env.scope scope own)
    (hsw : swapsWith (.ListComp elt [⟨tg, iter, ifs, 0⟩] scope pos) (some (.Name y py)) spos.line X.env = pure true) (hi : PI X tg iter (tIP X.K z it))
    (hg : ∀ s H C cl fp, PG (blkE X scope s H C cl fp) tg (tG X.K z (ofJ (own.map (·.2))) b)) (ht : ∀ s H C cl fp, PTs (blkE X scope s H C cl fp) ifs (tB X.K z t))
    (he : ∀ s H C cl fp, PE (blkE X scope s H C cl fp) elt (tP X.K z f)) (hy : X.N[i]? = some y := by rfl) (hyl : X.env.scope.names.lookup y = some .local := by rfl) (hs : ∀ x, foldedSetIterable iter X.env x = pure x := by intro _; rfl) :
    PS X (.Assign [.Name y py] (.ListComp elt [⟨tg, iter, ifs, 0⟩] scope pos) spos) (fun D σ H => tP X.K z (cLc (own.map (·.2)) it b t f) σ H fun x H1 => D.nx (σ.set i (some x)) H1) := (ps_setLc hc hN hy hyl hsw hi ok hg ht he hs).mono fun _ _ _ h => lc_in h
end
/-- what is new is shared, but for some lists -/
theorem back_F {F H F' H' : Hp} (s0 : Same F H) (t0 : AllT F H) (sF : Same H F') (sH : Same F' H') (t : AllT F' H') : Same F (ext F H F') ∧ Same (ext F H F') H' ∧ AllT (ext F H F') H' ∧ ∀ a, H a ≠ none → ext F H F' a = F a := by
  have hh := sF.trans sH
  refine ⟨same_ext s0, fun a o e => ?_, fun a vs e => ?_, fun a h => ?_⟩
  · unfold ext at e
    split at e
    · exact hh _ _ (s0 _ _ e)
    · exact sH _ _ e
  · unfold ext
    split
    · next q =>
      cases y : H a with
      | none => simp [y] at q
      | some o =>
        have := hh _ _ y
        rw [e] at this
        cases this
        exact t0 a vs y
    · exact t a vs e
  · unfold ext
    obtain ⟨o, q⟩ := some_of h
    simp [q]
section
variable {K : PySem.W.Frag} {F H : Hp}
theorem Objs.setNew {H' : Hp} {d : D} {q' : Addr} : ∀ {qs : List Addr} {ds : List D} {j : Nat}, Objs K F H qs ds → Obj1 K F H' q' d → (∀ a ∈ qs, H' a = H a) → Objs K F H' (qs.set j q') (ds.set j d)
  | _, _, _, .nil, _, _ => .nil
  | _, _, 0, .cons h t, o, k => .cons o (t.mono (Same.refl _) fun a ha => k a (List.mem_cons_of_mem _ ha))
  | _, _, j + 1, .cons (p := p) h t, o, k => .cons (h.mono (Same.refl _) (k p List.mem_cons_self)) (Objs.setNew t o fun a ha => k a (List.mem_cons_of_mem _ ha))
theorem nodup_set {α : Type} {x : α} : ∀ {xs : List α} (j : Nat), xs.Nodup → x ∉ xs → (xs.set j x).Nodup
  | [], _, _, _ => by simp
  | a :: xs, 0, h, n => by
    rw [List.set_cons_zero, List.nodup_cons]
    exact ⟨fun hx => n (List.mem_cons_of_mem _ hx), (List.nodup_cons.mp h).2⟩
  | a :: xs, j + 1, h, n => by
    obtain ⟨h1, h2⟩ := List.nodup_cons.mp h
    rw [List.set_cons_succ, List.nodup_cons]
    refine ⟨fun hx => ?_, nodup_set j h2 fun hx => n (List.mem_cons_of_mem _ hx)⟩
    rcases List.mem_or_eq_of_mem_set hx with q | q
    · exact h1 q
    · exact n (by rw [q]; exact List.mem_cons_self)
theorem Fds.own2Row {H' : Hp} {d : D} {q' l : Addr} {j : Nat} : ∀ {xs : List (Str × V)} {fs : List (Str × Fd)} {as : List Addr} {nm : Str} {ds : List D} {qs : List Addr}, Fds K F H xs fs as → as.Nodup → fdF nm fs = some (.own2 (.list ds)) → xs.lookup nm = some (.ref l) → H l = some (.lst (qs.map V.ref)) → q' ∉ as →
    (∀ a ∈ as, a ≠ l → H' a = H a) → H' l = some (.lst ((qs.set j q').map V.ref)) → Obj1 K F H' q' d → ∃ as', Fds K F H' xs (setFd nm (.own2 (.list (ds.set j d))) fs) as' ∧ as'.Nodup ∧ ∀ a ∈ as', a ∈ as ∨ a = q'
  | _, _, _, _, _, _, .nil, _, h, _, _, _, _, _, _ => by cases h
  | _, _, _, nm, ds, qs, .sh (n := n) r t, hn, h, hl, hH, hq, k, k2, o' => by
    unfold fdF at h
    rw [lookup_cons'] at hl
    split at h
    · cases h
    · next e =>
      rw [if_neg e] at hl
      obtain ⟨as', g1, g2, g3⟩ := Fds.own2Row t hn h hl hH hq k k2 o'
      refine ⟨as', ?_, g2, g3⟩
      unfold setFd
      rw [if_neg e]
      exact .sh r g1
  | _, _, _, nm, ds, qs, .own (n := n) (p := p) o t, hn, h, hl, hH, hq, k, k2, o' => by
    unfold fdF at h
    rw [lookup_cons'] at hl
    obtain ⟨n1, n2⟩ := List.nodup_cons.mp hn
    split at h
    · cases h
    · next e =>
      rw [if_neg e] at hl
      obtain ⟨as', g1, g2, g3⟩ := Fds.own2Row t n2 h hl hH (fun hx => hq (List.mem_cons_of_mem _ hx)) (fun a ha => k a (List.mem_cons_of_mem _ ha)) k2 o'
      have npl : p ≠ l := fun e2 => by
        obtain ⟨l2, qs2, w1, w2, _⟩ := t.own2At n2 h
        rw [hl] at w1
        cases w1
        exact n1 (e2 ▸ w2 l List.mem_cons_self)
      refine ⟨p :: as', ?_, List.nodup_cons.mpr ⟨fun hx => ?_, g2⟩, fun a ha => ?_⟩
      · unfold setFd
        rw [if_neg e]
        exact .own (o.mono (Same.refl _) (k p List.mem_cons_self npl)) g1
      · rcases g3 p hx with q | q
        · exact n1 q
        · exact hq (by rw [← q]; exact List.mem_cons_self)
      · rcases List.mem_cons.mp ha with q | q
        · rw [q]
          exact .inl List.mem_cons_self
        · rcases g3 a q with q | q
          · exact .inl (List.mem_cons_of_mem _ q)
          · exact .inr q
  | _, _, _, nm, ds, qs, .own2 (n := n) (p := p) (qs := qs0) (as := as0) h0 o t, hn, h, hl, hH, hq, k, k2, o' => by
    unfold fdF at h
    rw [lookup_cons'] at hl
    obtain ⟨n1, n2⟩ := List.nodup_cons.mp hn
    obtain ⟨n3, n4, n5⟩ := List.nodup_append.mp n2
    have hqm : q' ∉ qs0 := fun hx => hq (List.mem_cons_of_mem _ (List.mem_append_left _ hx))
    have hqp : q' ≠ p := fun e => hq (by rw [e]; exact List.mem_cons_self)
    have hqa : q' ∉ as0 := fun hx => hq (List.mem_cons_of_mem _ (List.mem_append_right _ hx))
    split at h
    · next e =>
      cases h
      rw [if_pos e] at hl
      have el : p = l := by cases hl; rfl
      subst el
      have e2 := h0.symm.trans hH
      have e3 : qs0 = qs := by
        have e4 : qs0.map V.ref = qs.map V.ref := by
          have e5 := Option.some.inj e2
          injection e5
        exact (List.map_inj_right (fun x y hxy => by cases hxy; rfl)).mp e4
      subst e3
      have npq : p ∉ qs0 := fun hx => n1 (List.mem_append_left _ hx)
      have npa : p ∉ as0 := fun hx => n1 (List.mem_append_right _ hx)
      refine ⟨p :: (qs0.set j q' ++ as0), ?_, ?_, fun a ha => ?_⟩
      · unfold setFd
        rw [if_pos e]
        exact .own2 k2 (Objs.setNew o o' fun a ha => k a (List.mem_cons_of_mem _ (List.mem_append_left _ ha)) fun e => npq (e ▸ ha)) (t.mono (Same.refl _) fun a ha => k a (List.mem_cons_of_mem _ (List.mem_append_right _ ha)) fun e => npa (e ▸ ha))
      · rw [List.nodup_cons, List.nodup_append]
        refine ⟨fun hx => ?_, nodup_set j n3 hqm, n4, fun a ha b hb e => ?_⟩
        · rcases List.mem_append.mp hx with q | q
          · rcases List.mem_or_eq_of_mem_set q with q | q
            · exact npq q
            · exact hqp q.symm
          · exact npa q
        · rcases List.mem_or_eq_of_mem_set ha with q | q
          · exact n5 a q b hb e
          · exact hqa (by rw [← q, e]; exact hb)
      · rcases List.mem_cons.mp ha with q | q
        · rw [q]
          exact .inl List.mem_cons_self
        · rcases List.mem_append.mp q with q | q
          · rcases List.mem_or_eq_of_mem_set q with q | q
            · exact .inl (List.mem_cons_of_mem _ (List.mem_append_left _ q))
            · exact .inr q
          · exact .inl (List.mem_cons_of_mem _ (List.mem_append_right _ q))
    · next e =>
      rw [if_neg e] at hl
      obtain ⟨l2, qs2, w1, w2, _⟩ := t.own2At n4 h
      rw [hl] at w1
      cases w1
      have hlas : l ∈ as0 := w2 l List.mem_cons_self
      have npl : p ≠ l := fun e2 => n1 (e2 ▸ List.mem_append_right _ hlas)
      obtain ⟨as', g1, g2, g3⟩ := Fds.own2Row t n4 h hl hH hqa (fun a ha => k a (List.mem_cons_of_mem _ (List.mem_append_right _ ha))) k2 o'
      refine ⟨p :: (qs0 ++ as'), ?_, ?_, fun a ha => ?_⟩
      · unfold setFd
        rw [if_neg e]
        exact .own2 ((k p List.mem_cons_self npl).trans h0) (o.mono (Same.refl _) fun a ha => k a (List.mem_cons_of_mem _ (List.mem_append_left _ ha)) fun e => n5 a ha l hlas e) g1
      · rw [List.nodup_cons, List.nodup_append]
        refine ⟨fun hx => ?_, n3, g2, fun a ha b hb e => ?_⟩
        · rcases List.mem_append.mp hx with q | q
          · exact n1 (List.mem_append_left _ q)
          · rcases g3 p q with q | q
            · exact n1 (List.mem_append_right _ q)
            · exact hqp q.symm
        · rcases g3 b hb with q | q
          · exact n5 a ha b q e
          · exact hqm (by rw [← q, ← e]; exact ha)
      · rcases List.mem_cons.mp ha with q | q
        · rw [q]
          exact .inl List.mem_cons_self
        · rcases List.mem_append.mp q with q | q
          · exact .inl (List.mem_cons_of_mem _ (List.mem_append_left _ q))
          · rcases g3 a q with q | q
            · exact .inl (List.mem_cons_of_mem _ (List.mem_append_right _ q))
            · exact .inr q
theorem Ob.own2Row {H' : Hp} {d : D} {q' l c p : Addr} {j : Nat} {fs : List (Str × Fd)} {as : List Addr} {nm : Str} {ds : List D} {qs : List Addr} {dx : Addr} {xs : List (Str × V)} (h : Ob K F H c p fs as) (hp : H p = some (.ins c dx xs)) (hf : fdF nm fs = some (.own2 (.list ds))) (hl : xs.lookup nm = some (.ref l)) (hH : H l = some (.lst (qs.map V.ref))) (hq : q' ∉ as)
    (k : ∀ a ∈ as, a ≠ l → H' a = H a) (k2 : H' l = some (.lst ((qs.set j q').map V.ref))) (o' : Obj1 K F H' q' d) : ∃ as', Ob K F H' c p (setFd nm (.own2 (.list (ds.set j d))) fs) as' ∧ ∀ a ∈ as', a ∈ as ∨ a = q' := by
  obtain ⟨dx2, xs2, as', e2, h2, h3, h4, h6⟩ := h
  subst e2
  rw [hp] at h2
  cases h2
  obtain ⟨n1, n2⟩ := List.nodup_cons.mp h4
  have npl : p ≠ l := fun e => by
    rw [e, hH] at hp
    cases hp
  obtain ⟨as2, g1, g2, g3⟩ := h6.own2Row (j := j) n2 hf hl hH (fun hx => hq (List.mem_cons_of_mem _ hx)) (fun a ha => k a (List.mem_cons_of_mem _ ha)) k2 o'
  refine ⟨p :: as2, ⟨dx, xs, as2, rfl, (k p List.mem_cons_self npl).trans hp, by rw [setFd_names]; exact h3, List.nodup_cons.mpr ⟨fun hx => ?_, g2⟩, g1⟩, fun a ha => ?_⟩
  · rcases g3 p hx with q | q
    · exact n1 q
    · exact hq (by rw [← q]; exact List.mem_cons_self)
  · rcases List.mem_cons.mp ha with q | q
    · rw [q]
      exact .inl List.mem_cons_self
    · rcases g3 a q with q | q
      · exact .inl (List.mem_cons_of_mem _ q)
      · exact .inr q
end
end DL

namespace DL
open PySem PySem.Spec PyProof.Rows L2
/-! ### drop, in data -/
def drEnv (fs : List (Str × Fd)) (row : Int) (line : D) : Env := [some (.obs (fs.map fun p => (p.1, thF p.2))), some (.sh (.int row)), some (.sh line), none, none, none]
def drEnv2 (row : Int) (line rd : D) : Env := [none, some (.sh (.int row)), some (.sh line), some (.sh rd), none, none]
def drReady : Env → Option D := cLc [4] (iN rg1 (cCons (c2 oAdd (cFld 0 "wide") (cFld 0 "count")) cNil)) (bNm 4) (bV (c2 oNe (c2 oIx (cVar 2) (cVar 4)) (cK (.int 0)))) (cVar 4)
def drT1 : Env → Option Bool := bV (c2 oNe (cVar 3) (cLst cNil))
def drT2 : Env → Option Bool := bV (c2 oLt (c2 oIx (cVar 2) (c2 oIx (cVar 3) (cK (.int 0)))) (cK (.int 0)))
def drNeg : Env → Option (E × Env) := wLc [5] (lfs (iS (cVar 2))) (bNm 5) bYesR (lf (c1 oNeg (cVar 5)))
def drZero : Env → Option (E × Env) := wRep (lfs (cCons (cK (.int 0)) cNil)) (lf (cN oLen (cCons (cVar 2) cNil)))
def drFst : Env → Option D := c2 oIx (cVar 3) (cK (.int 0))
def ownD (p : E × Env) : Option (List D) := match p.1 with
  | .own (.list es) => some es
  | _ => none
def drTab (fs : List (Str × Fd)) (rows : List D) (row : Nat) (ρ : Env) (t2 : Bool) : Option (List (Str × Fd)) := if t2 = true then (drNeg ρ).bind fun p => (ownD p).map fun es => setFd "table" (.own2 (.list (rows.set row (.list es)))) fs else some fs
def mmDrop (fs : List (Str × Fd)) (ds : List D) : Option (List (Str × Fd)) := match ds with
  | [.int row] => match fdF "table" fs with
    | some (.own2 (.list rows)) => if 0 ≤ row ∧ fdF "turn" fs = none then (rows[row.toNat]?).bind fun line => (match line with | .list ls => intL ls | _ => none).bind fun _ => (drReady (drEnv fs row line)).bind fun rd => (match rd with | .list rs => intL rs | _ => none).bind fun _ =>
        (drT1 (drEnv2 row line rd)).bind fun t1 => if t1 = true then (drT2 (drEnv2 row line rd)).bind fun t2 => (drTab fs rows row.toNat (drEnv2 row line rd) t2).bind fun fs1 =>
          (drZero (drEnv2 row line rd)).bind fun q => (ownD q).bind fun zs => (drFst (drEnv2 row line rd)).bind fun r0 => (mmTurn fs1 zs [.int row, r0]).map fun (t : E × List (Str × Fd) × List D) => t.2.1
          else some fs
      else none
    | _ => none
  | _ => none
section
variable {K : PySem.W.Frag} {F F' H H' : Hp}
theorem Ob.mono {c p : Addr} {fs : List (Str × Fd)} {as : List Addr} (h : Ob K F H c p fs as) (s : Same F F') (k : ∀ a ∈ as, H' a = H a) : Ob K F' H' c p fs as := by
  obtain ⟨dx, xs, as', e2, h2, h3, h4, h6⟩ := h
  subst e2
  exact ⟨dx, xs, as', rfl, (k p List.mem_cons_self).trans h2, h3, h4, h6.mono s fun a ha => k a (List.mem_cons_of_mem _ ha)⟩
theorem rep_up {v : V} {ns : List Int} {t : Addr} {us : List V} {a0 : Addr} {o : HO} (r : Rep K H v (.list (ns.map PyData.int))) (ht : H t = some (.lst (V.ref a0 :: us))) : Rep K (upd H t o) v (.list (ns.map PyData.int)) := by
  cases r with
  | lst h r =>
    rename_i a vs
    have ev := r.ints
    subst ev
    refine .lst ?_ (DpAll.of_ints ns)
    rcases h with (h | ⟨f, h⟩) | h
    · have n : a ≠ t := fun e => by
        rw [e, ht] at h
        cases ns with
        | nil => cases h
        | cons n ns => cases h
      exact .inl (.inl ((upd_ne n).trans h))
    · have n : a ≠ t := fun e => by
        rw [e, ht] at h
        cases h
      exact .inl (.inr ⟨f, (upd_ne n).trans h⟩)
    · exact .inr h
end
theorem fdF_set {nm : Str} {y z : Fd} : ∀ {fs : List (Str × Fd)}, fdF nm fs = some z → fdF nm (setFd nm y fs) = some y
  | [], h => by cases h
  | (g, x) :: r, h => by
    unfold fdF at h
    unfold setFd
    split at h
    · next e =>
      rw [if_pos e]
      simp only [fdF, if_pos e]
    · next e =>
      rw [if_neg e]
      simp only [fdF, if_neg e]
      exact fdF_set h
end DL

namespace DG
open PySem PySem.Spec PyProof.Rows L2 DL
def top (i : Nat) : Stmt := PySem.Challenge.pw_nearhouses_k68_known_rooms_and_weights.main.body.getD i (.Pass ⟨0, 0, 0, 0⟩)
structure Txt (mg : Str → Option Value) : Prop where
  bl_int : mg "int" = none
  bl_len : mg "len" = none
  bl_isinstance : mg "isinstance" = none
  bl_bool : mg "bool" = none
  bl_tuple : mg "tuple" = none
  gl_MOST_POINTS : ∃ t, mg "MOST_POINTS" = some (.int 8 t)
  gl_MOST_WEIGHT : ∃ t, mg "MOST_WEIGHT" = some (.int 100 t)
  bl_sum : mg "sum" = none
  gl_MOST_LENGTH : ∃ t, mg "MOST_LENGTH" = some (.int 100 t)
  bl_list : mg "list" = none
  bl_sorted : mg "sorted" = none
  gl_MOST_ROADS : ∃ t, mg "MOST_ROADS" = some (.int 14 t)
  bl_enumerate : mg "enumerate" = none
  bl_range : mg "range" = none
  bl_set : mg "set" = none
  gl_MOST_ROOM : ∃ t, mg "MOST_ROOM" = some (.int 1000 t)
  bl_min : mg "min" = none
  bl_abs : mg "abs" = none
  bl_zip : mg "zip" = none
  gl_MOST_RADIUS : ∃ t, mg "MOST_RADIUS" = some (.int 10000 t)
  bl_str : mg "str" = none
  bl_max : mg "max" = none
  gl_MOST_GROWN : ∃ t, mg "MOST_GROWN" = some (.int 1000 t)
structure TxC (K : PySem.W.Frag) (C : Addr) : Prop where
  cl : Cls K C
  n_count : NoAttr K C "count"
  n_wide : NoAttr K C "wide"
  n_bottom : NoAttr K C "bottom"
  n_scales : NoAttr K C "scales"
  n_signs : NoAttr K C "signs"
  n_basis : NoAttr K C "basis"
  n_extra : NoAttr K C "extra"
  n_table : NoAttr K C "table"
section
variable {P : Program} {w : World} {K : PySem.W.Frag} {mg : Str → Option Value} {base : Heap}
/-! ### _law_taken -/
abbrev st__law_taken : Stmt := top 81
def gs__law_taken : Gs :=
  (gSeq (gIf (lfb (bV (c2 oGt (cIxO 0 (cK (.int 3))) (cK (.int 0)))))
  (gSeq (gAsg (lf (c2 oMod (cN oInt (cCons (cIxO 0 (cK (.int 3))) cNil)) (cVar 1))) (bNm 3))
  (gSeq (gSetI 0 (lf (c2 oDiv (cIxO 0 (cK (.int 3))) (cVar 1))) (lf (cK (.int 3))))
  (gRet (lf (cVar 3)))))
  gNx)
  (gSeq (gSetI 0 (lf (c2 oAdd (cIxO 0 (cK (.int 1))) (cK (.int 1)))) (lf (cK (.int 1))))
  (gSeq (gIf (lfb (bV (c2 oGt (cIxO 0 (cK (.int 1))) (cN oLen (cCons (cIxO 0 (cK (.int 0))) cNil)))))
  (gSeq (gSetI 0 (lf (c2 oMod (cN oInt (cCons (c2 oAdd (c2 oMul (cIxO 0 (cK (.int 2))) (cK (.int 48271))) (cK (.int 11))) cNil)) (cK (.int 2147483647)))) (lf (cK (.int 2))))
  (gRet (lf (c2 oMod (cN oInt (cCons (c2 oDiv (cIxO 0 (cK (.int 2))) (cK (.int 7))) cNil)) (cVar 1)))))
  gNx)
  (gSeq (gAsg (lf (c2 oIx (cIxO 0 (cK (.int 0))) (c2 oSub (cIxO 0 (cK (.int 1))) (cK (.int 1))))) (bNm 2))
  (gSeq (gSetI 0 (lf (c2 oMod (cN oInt (cCons (c2 oAdd (c2 oAdd (c2 oMul (cIxO 0 (cK (.int 2))) (cK (.int 48271))) (cVar 2)) (cK (.int 11))) cNil)) (cK (.int 2147483647)))) (lf (cK (.int 2))))
  (gSeq (gIf (lfb (bV (c2 oGe (cVar 2) (c2 oPow (cK (.int 10)) (cK (.int 18))))))
  (gSetI 0 (lf (c2 oDiv (cVar 2) (cVar 1))) (lf (cK (.int 3))))
  gNx)
  (gRet (lf (c2 oMod (cN oInt (cCons (cVar 2) cNil)) (cVar 1))))))))))
def mm__law_taken := runR 4 2 gs__law_taken
theorem sc__law_taken : FnScope ["_law_row", "_law_many", "_law_cell", "_law_found"] ["_law_row", "_law_many"] (defScope st__law_taken) := ⟨rfl, rfl, rfl, by decide +kernel, rfl, by decide +kernel, by decide +kernel⟩
theorem ok__law_taken {f : Addr} {fd : FuncData} (F : Fun K "_law_taken" "_law_taken" st__law_taken f fd) (T : Txt mg) : FnOk P w K mg base CX0 1 f fd ["_law_row", "_law_many"] (spR K mm__law_taken) := by
  have S := sc__law_taken
  refine okR 4 2 F S rfl rfl (by decide) (g := gs__law_taken) fun cdv A outer s H E z hr => ?_
  exact (s_cons (s_if (r_lfb (b_cmp (op_gtD (hu64 hr)) w_gt (q_ixO 0 q_int) q_int (by rfl)))
  (s_cons (s_set 3 S.nd (r_lf (q_op op_modN w_mod (q_callTy call_int1 w_int (by rfl) T.bl_int bt_int (q_cons (q_ixO 0 q_int) q_nil)) (q_var 1))))
  (s_cons (s_setI 0 (r_lf (q_op DL.op_fdivW w_div (q_ixO 0 q_int) (q_var 1))) (r_lf q_int))
  (s_one (s_ret (r_lf (q_var 3))))))
  s_nil)
  (s_cons (s_setI 0 (r_lf (q_op op_addA w_add (q_ixO 0 q_int) q_int)) (r_lf q_int))
  (s_cons (s_if (r_lfb (b_cmp (op_gtD (hu64 hr)) w_gt (q_ixO 0 q_int) (q_callB call_len w_len (by rfl) T.bl_len bt_len (q_cons (q_ixO 0 q_int) q_nil)) (by rfl)))
  (s_cons (s_setI 0 (r_lf (q_op op_modN w_mod (q_callTy call_int1 w_int (by rfl) T.bl_int bt_int (q_cons (q_op op_addA w_add (q_op op_mulA w_mul (q_ixO 0 q_int) q_int) q_int) q_nil)) q_int)) (r_lf q_int))
  (s_one (s_ret (r_lf (q_op op_modN w_mod (q_callTy call_int1 w_int (by rfl) T.bl_int bt_int (q_cons (q_op DL.op_fdivW w_div (q_ixO 0 q_int) q_int) q_nil)) (q_var 1))))))
  s_nil)
  (s_cons (s_set 2 S.nd (r_lf (q_ix ix_seq w_ix (q_ixO 0 q_int) (q_op op_sub w_sub (q_ixO 0 q_int) q_int))))
  (s_cons (s_setI 0 (r_lf (q_op op_modN w_mod (q_callTy call_int1 w_int (by rfl) T.bl_int bt_int (q_cons (q_op op_addA w_add (q_op op_addA w_add (q_op op_mulA w_mul (q_ixO 0 q_int) q_int) (q_var 2)) q_int) q_nil)) q_int)) (r_lf q_int))
  (s_cons (s_if (r_lfb (b_cmp (op_geD (hu64 hr)) w_ge (q_var 2) (q_op op_pow w_pow q_int q_int) (by rfl)))
  (s_one (s_setI 0 (r_lf (q_op DL.op_fdivW w_div (q_var 2) (q_var 1))) (r_lf q_int)))
  s_nil)
  (s_one (s_ret (r_lf (q_op op_modN w_mod (q_callTy call_int1 w_int (by rfl) T.bl_int bt_int (q_cons (q_var 2) q_nil)) (q_var 1)))))))))))
/-! ### is_in -/
abbrev st_is_in : Stmt := top 9
def gs_is_in : Gs :=
  (gRet (lf (cAnd (cIsi .int (cVar 0)) (cAnd (cNot (cIsi .bool (cVar 0))) (cChain oLe oLe (cVar 1) (cVar 0) (cVar 2))))))
def mm_is_in := run 3 3 gs_is_in
theorem sc_is_in : FnScope ["value", "least", "most"] ["value", "least", "most"] (defScope st_is_in) := ⟨rfl, rfl, rfl, by decide +kernel, rfl, by decide +kernel, by decide +kernel⟩
theorem ok_is_in {f : Addr} {fd : FuncData} (F : Fun K "is_in" "is_in" st_is_in f fd) (T : Txt mg) : FnOk P w K mg base CX0 1 f fd ["value", "least", "most"] (spP K mm_is_in) := by
  have S := sc_is_in
  refine okP 3 3 F S rfl rfl (g := gs_is_in) fun cdv A outer s H E z hr => ?_
  exact (s_one (s_ret (r_lf (q_and (q_isi (q_var 0) (by rfl) T.bl_isinstance bt_isinstance (q_ty .int (by rfl) T.bl_int bt_int)) (q_and (q_not (q_isi (q_var 0) (by rfl) T.bl_isinstance bt_isinstance (q_ty .bool (by rfl) T.bl_bool bt_bool))) (q_one (q_chain (op_leD (hu64 hr)) w_le (op_leD (hu64 hr)) w_le (q_var 1) (q_var 0) (q_var 2))))))))
/-! ### is_weights -/
abbrev st_is_weights : Stmt := top 25
def gs_is_weights : Gs :=
  (gSeq (gIf (lfb (bOr (bNot (bT (cIsi .tuple (cVar 0)))) (bNot (bV (cChain oLe oLe (cK (.int 2)) (cN oLen (cCons (cVar 0) cNil)) (cK (.int 8)))))))
  (gRet (lf (cK (.bool false))))
  gNx)
  (gRet (lf (cAnd (c2 oEq (cLc [1] (iS (cVar 0)) (bNm 1) (bNot (bT (cN mm_is_in (cCons (cVar 1) (cCons (cK (.int 0)) (cCons (cK (.int 100)) cNil)))))) (cVar 1)) (cLst cNil)) (c2 oGt (cN oSum (cCons (cVar 0) cNil)) (cK (.int 0)))))))
def mm_is_weights := run 2 1 gs_is_weights
theorem sc_is_weights : FnScope ["value", "one"] ["value"] (defScope st_is_weights) := ⟨rfl, rfl, rfl, by decide +kernel, rfl, by decide +kernel, by decide +kernel⟩
theorem ok_is_weights {f : Addr} {fd : FuncData} (F : Fun K "is_weights" "is_weights" st_is_weights f fd) (T : Txt mg) (c_is_in : Cal P w K mg base 1 "is_in" (spP K mm_is_in)) : FnOk P w K mg base CX0 2 f fd ["value"] (spP K mm_is_weights) := by
  have S := sc_is_weights
  refine okP 2 1 F S rfl rfl (g := gs_is_weights) fun cdv A outer s H E z hr => ?_
  exact (s_cons (s_if (r_lfb ((b_or (b_not (b_val (q_isi (q_var 0) (by rfl) T.bl_isinstance bt_isinstance (q_ty .tuple (by rfl) T.bl_tuple bt_tuple)))) (b_or1 (b_not (b_chain (op_leD (hu64 hr)) w_le (op_leD (hu64 hr)) w_le q_int (q_callB call_len w_len (by rfl) T.bl_len bt_len (q_cons (q_var 0) q_nil)) (q_glob (by rfl) T.gl_MOST_POINTS)))))).pt)
  (s_one (s_ret (r_lf q_bl)))
  s_nil)
  (s_one (s_ret (r_lf (q_and (q_cmp (op_eqQ (hu64 hr)) w_eq (q_lc rfl S.nd (blkOk_by (own := [("one", 1)]) (by kernel_rfl)) (i_seq (q_var 0)) (fun _ _ _ _ _ => (g_nm 1 S.nd)) (fun _ _ _ _ _ => (t_one (b_not (b_val (q_call c_is_in hr (by decide) (by rfl) (q_cons (q_var 1) (q_cons q_int (q_cons (q_glob (by rfl) T.gl_MOST_WEIGHT) q_nil)))))))) (fun _ _ _ _ _ => (q_var 1))) (q_lst q_nil) (by rfl)) (q_one (q_cmp (op_gtD (hu64 hr)) w_gt (q_callB (cr_sumA rfl) w_sum (by rfl) T.bl_sum bt_sum (q_cons (q_var 0) q_nil)) q_int (by rfl))))))))
/-! ### is_road -/
abbrev st_is_road : Stmt := top 24
def gs_is_road : Gs :=
  (gSeq (gIf (lfb (bOr (bNot (bT (cIsi .tuple (cVar 0)))) (bV (c2 oNe (cN oLen (cCons (cVar 0) cNil)) (cK (.int 3))))))
  (gRet (lf (cK (.bool false))))
  gNx)
  (gSeq (gIf (lfb (bOr (bNot (bT (cN mm_is_in (cCons (c2 oIx (cVar 0) (cK (.int 0))) (cCons (cK (.int 0)) (cCons (c2 oSub (cVar 1) (cK (.int 1))) cNil)))))) (bNot (bT (cN mm_is_in (cCons (c2 oIx (cVar 0) (cK (.int 1))) (cCons (c2 oAdd (c2 oIx (cVar 0) (cK (.int 0))) (cK (.int 1))) (cCons (c2 oSub (cVar 1) (cK (.int 1))) cNil))))))))
  (gRet (lf (cK (.bool false))))
  gNx)
  (gRet (lf (cN mm_is_in (cCons (c2 oIx (cVar 0) (cK (.int 2))) (cCons (cK (.int 1)) (cCons (cK (.int 100)) cNil))))))))
def mm_is_road := run 2 2 gs_is_road
theorem sc_is_road : FnScope ["value", "count"] ["value", "count"] (defScope st_is_road) := ⟨rfl, rfl, rfl, by decide +kernel, rfl, by decide +kernel, by decide +kernel⟩
theorem ok_is_road {f : Addr} {fd : FuncData} (F : Fun K "is_road" "is_road" st_is_road f fd) (T : Txt mg) (c_is_in : Cal P w K mg base 1 "is_in" (spP K mm_is_in)) : FnOk P w K mg base CX0 2 f fd ["value", "count"] (spP K mm_is_road) := by
  have S := sc_is_road
  refine okP 2 2 F S rfl rfl (g := gs_is_road) fun cdv A outer s H E z hr => ?_
  exact (s_cons (s_if (r_lfb ((b_or (b_not (b_val (q_isi (q_var 0) (by rfl) T.bl_isinstance bt_isinstance (q_ty .tuple (by rfl) T.bl_tuple bt_tuple)))) (b_or1 (b_cmp (op_neQ (hu64 hr)) w_ne (q_callB call_len w_len (by rfl) T.bl_len bt_len (q_cons (q_var 0) q_nil)) q_int (by rfl))))).pt)
  (s_one (s_ret (r_lf q_bl)))
  s_nil)
  (s_cons (s_if (r_lfb ((b_or (b_not (b_val (q_call c_is_in hr (by decide) (by rfl) (q_cons (q_ix ix_seq w_ix (q_var 0) q_int) (q_cons q_int (q_cons (q_op op_sub w_sub (q_var 1) q_int) q_nil)))))) (b_or1 (b_not (b_val (q_call c_is_in hr (by decide) (by rfl) (q_cons (q_ix ix_seq w_ix (q_var 0) q_int) (q_cons (q_op op_addA w_add (q_ix ix_seq w_ix (q_var 0) q_int) q_int) (q_cons (q_op op_sub w_sub (q_var 1) q_int) q_nil))))))))).pt)
  (s_one (s_ret (r_lf q_bl)))
  s_nil)
  (s_one (s_ret (r_lf (q_call c_is_in hr (by decide) (by rfl) (q_cons (q_ix ix_seq w_ix (q_var 0) q_int) (q_cons q_int (q_cons (q_glob (by rfl) T.gl_MOST_LENGTH) q_nil)))))))))
/-! ### parts_in -/
abbrev st_parts_in : Stmt := top 28
def gs_parts_in : Gs :=
  (gSeq (gPar2 2 3 (wsh (lf (cN oList (cCons (cVar 0) cNil)))) (wN few (lfs cNil)))
  (gSeq (gWhile (lfb (bV (c2 oNe (cVar 2) (cLst cNil))))
  (gSeq (gPar2 4 5 (wN few (lfs (cCons (c2 oIx (cVar 2) (cK (.int 0))) cNil))) (wsh (lf (cK (.int 0)))))
  (gSeq (gWhile (lfb (bV (c2 oLt (cVar 5) (cBor (cN oLen (cCons (cVar 4) cNil))))))
  (gSeq (gFor (lfs (iS (cVar 1))) (bTp 3 (bCons (bNm 6) (bCons (bNm 7) (bCons (bNm 8) bNil))))
  (gFor (lfs (iS (cTup (cCons (cTup (cCons (cVar 6) (cCons (cVar 7) cNil))) (cCons (cTup (cCons (cVar 7) (cCons (cVar 6) cNil))) cNil))))) (bTp 2 (bCons (bNm 9) (bCons (bNm 10) bNil)))
  (gIf (lfb (bAnd (bV (c2 oEq (cVar 9) (cIxO 4 (cVar 5)))) (bAnd (bV (c2 oIn (cVar 10) (cVar 2))) (bBor (bV (c2 oNotIn (cVar 10) (cVar 4)))))))
  (gApp 4 (lf (cVar 10)))
  gNx)))
  (gAug 5 oAddI (lf (cK (.int 1))))) 400)
  (gSeq (gFz 4 (gApp 3 (lf (cN oTuple (cCons (cN oSortedA (cCons (cVar 4) cNil)) cNil)))))
  (gAsg (lf (cLc [11] (iS (cVar 2)) (bNm 11) (bV (c2 oNotIn (cVar 11) (cVar 4))) (cVar 11))) (bNm 2))))) 400)
  (gFz 3 (gRet (lf (cN oSortedA (cCons (cVar 3) cNil)))))))
def mm_parts_in := run 12 2 gs_parts_in
theorem sc_parts_in : FnScope ["points", "roads", "left", "found", "part", "at", "a", "b", "length", "one", "other", "x"] ["points", "roads"] (defScope st_parts_in) := ⟨rfl, rfl, rfl, by decide +kernel, rfl, by decide +kernel, by decide +kernel⟩
theorem ok_parts_in {f : Addr} {fd : FuncData} (F : Fun K "parts_in" "parts_in" st_parts_in f fd) (T : Txt mg) : FnOk P w K mg base CX0 1 f fd ["points", "roads"] (spP K mm_parts_in) := by
  have S := sc_parts_in
  refine okP 12 2 F S rfl rfl (g := gs_parts_in) fun cdv A outer s H E z hr => ?_
  exact (s_cons (s_par2 2 3 rfl S.nd (w_sh (r_lf (q_callTy call_list_of w_list (by rfl) T.bl_list bt_list (q_cons (q_var 0) q_nil)))) (w_lst (r_lfs q_nil)))
  (s_cons (s_while 400 (r_lfb (b_cmp (op_neQ (hu64 hr)) w_ne (q_var 2) (q_lst q_nil) (by rfl)))
  (s_cons (s_tup2 4 5 rfl S.nd (w_lst (r_lfs (q_cons (q_ix ix_seq w_ix (q_var 2) q_int) q_nil))) (w_sh (r_lf q_int)))
  (s_cons (s_while 400 (r_lfb (b_cmp (op_ltD (hu64 hr)) w_lt (q_var 5) (q_bor fun _ => (q_callB call_len w_len (by rfl) T.bl_len bt_len (q_cons (q_var 4) q_nil))) (by rfl)))
  (s_cons (s_for rfl (i_lf (i_seq (q_var 1))) (g_tup rfl (g_cons (g_nm 6 S.nd) (g_cons (g_nm 7 S.nd) (g_cons (g_nm 8 S.nd) g_nil))))
  (s_one (s_for rfl (i_lf (i_seq (q_tup (q_cons (q_tup (q_cons (q_var 6) (q_cons (q_var 7) q_nil))) (q_cons (q_tup (q_cons (q_var 7) (q_cons (q_var 6) q_nil))) q_nil))))) (g_tup rfl (g_cons (g_nm 9 S.nd) (g_cons (g_nm 10 S.nd) g_nil)))
  (s_one (s_if (r_lfb ((b_and (b_cmp (op_eqQ (hu64 hr)) w_eq (q_var 9) (q_ixO 4 (q_var 5)) (by rfl)) (b_and (b_cmp (op_inA (hu65 hr)) w_in (q_var 10) (q_var 2) (by rfl)) (b_and1 (b_bor fun _ => (b_cmp (op_notInA (hu65 hr)) w_notIn (q_var 10) (q_var 4) (by rfl))))))).pt)
  (s_one (s_app 4 (r_lf (q_var 10))))
  s_nil)) PassesOwn.never)) PassesOwn.never)
  (s_one (s_aug 5 iop_add w_addI S.nd (r_lf q_int)))) PassesOwn.never)
  (s_cons (s_fz 4 (s_app 3 (r_lf (q_callTy call_tuple_of w_tuple (by rfl) T.bl_tuple bt_tuple (q_cons (q_callB (cr_sortedA (hu64 hr)) w_sortedA (by rfl) T.bl_sorted bt_sorted (q_cons (q_var 4) q_nil)) q_nil)))))
  (s_one (s_lc 2 rfl S.nd (blkOk_by (own := [("x", 11)]) (by kernel_rfl)) (sw_true rfl rfl rfl (by rfl)) (i_seq (q_var 2)) (fun _ _ _ _ _ => (g_nm 11 S.nd)) (fun _ _ _ _ _ => (t_one (b_cmp (op_notInA (hu65 hr)) w_notIn (q_var 11) (q_var 4) (by rfl)))) (fun _ _ _ _ _ => (q_var 11))))))) PassesOwn.never)
  (s_one (s_fz 3 (s_ret (r_lf (q_callB (cr_sortedA (hu64 hr)) w_sortedA (by rfl) T.bl_sorted bt_sorted (q_cons (q_var 3) q_nil))))))))
/-! ### need_web -/
abbrev st_need_web : Stmt := top 26
def gs_need_web : Gs :=
  (gSeq (gIf (lfb (bOr (bNot (bT (cIsi .tuple (cVar 0)))) (bOr (bV (c2 oNe (cN oLen (cCons (cVar 0) cNil)) (cK (.int 2)))) (bNot (bT (cN mm_is_weights (cCons (c2 oIx (cVar 0) (cK (.int 0))) cNil)))))))
  gNever
  gNx)
  (gSeq (gIf (lfb (bOr (bNot (bT (cIsi .tuple (c2 oIx (cVar 0) (cK (.int 1)))))) (bV (c2 oGt (cN oLen (cCons (c2 oIx (cVar 0) (cK (.int 1))) cNil)) (cK (.int 14))))))
  gNever
  gNx)
  (gSeq (gSetW 1 (wN few (lfs cNil)))
  (gSeq (gFor (lfs (iN en1 (cCons (c2 oIx (cVar 0) (cK (.int 1))) cNil))) (bTp 2 (bCons (bNm 2) (bCons (bNm 3) bNil)))
  (gSeq (gIf (lfb (bOr (bNot (bT (cN mm_is_road (cCons (cVar 3) (cCons (cN oLen (cCons (c2 oIx (cVar 0) (cK (.int 0))) cNil)) cNil))))) (bBor (bV (c2 oIn (cSl (cVar 3) cNoPart (cPart (cK (.int 2)))) (cVar 1))))))
  gNever
  gNx)
  (gApp 1 (lf (cSl (cVar 3) cNoPart (cPart (cK (.int 2))))))))
  (gIf (lfb (bV (c2 oGt (cN oLen (cCons (cN mm_parts_in (cCons (cListRg (cRg1 (cN oLen (cCons (c2 oIx (cVar 0) (cK (.int 0))) cNil)))) (cCons (c2 oIx (cVar 0) (cK (.int 1))) cNil))) cNil)) (cK (.int 1)))))
  gNever
  gNx)))))
def mm_need_web := run 4 1 gs_need_web
theorem sc_need_web : FnScope ["web", "pairs", "index", "one"] ["web"] (defScope st_need_web) := ⟨rfl, rfl, rfl, by decide +kernel, rfl, by decide +kernel, by decide +kernel⟩
theorem ok_need_web {f : Addr} {fd : FuncData} (F : Fun K "need_web" "need_web" st_need_web f fd) (T : Txt mg) (c_is_weights : Cal P w K mg base 2 "is_weights" (spP K mm_is_weights)) (c_is_road : Cal P w K mg base 2 "is_road" (spP K mm_is_road)) (c_parts_in : Cal P w K mg base 1 "parts_in" (spP K mm_parts_in)) : FnOk P w K mg base CX0 3 f fd ["web"] (spP K mm_need_web) := by
  have S := sc_need_web
  refine okP 4 1 F S rfl rfl (g := gs_need_web) fun cdv A outer s H E z hr => ?_
  exact (s_cons (s_if (r_lfb ((b_or (b_not (b_val (q_isi (q_var 0) (by rfl) T.bl_isinstance bt_isinstance (q_ty .tuple (by rfl) T.bl_tuple bt_tuple)))) (b_or (b_cmp (op_neQ (hu64 hr)) w_ne (q_callB call_len w_len (by rfl) T.bl_len bt_len (q_cons (q_var 0) q_nil)) q_int (by rfl)) (b_or1 (b_not (b_val (q_call c_is_weights hr (by decide) (by rfl) (q_cons (q_ix ix_seq w_ix (q_var 0) q_int) q_nil)))))))).pt)
  (s_one s_never)
  s_nil)
  (s_cons (s_if (r_lfb ((b_or (b_not (b_val (q_isi (q_ix ix_seq w_ix (q_var 0) q_int) (by rfl) T.bl_isinstance bt_isinstance (q_ty .tuple (by rfl) T.bl_tuple bt_tuple)))) (b_or1 (b_cmp (op_gtD (hu64 hr)) w_gt (q_callB call_len w_len (by rfl) T.bl_len bt_len (q_cons (q_ix ix_seq w_ix (q_var 0) q_int) q_nil)) (q_glob (by rfl) T.gl_MOST_ROADS) (by rfl))))).pt)
  (s_one s_never)
  s_nil)
  (s_cons (s_setW 1 S.nd (w_lst (r_lfs q_nil)))
  (s_cons (s_for rfl (i_lf (i_enum (by rfl) T.bl_enumerate (q_cons (q_ix ix_seq w_ix (q_var 0) q_int) q_nil))) (g_tup rfl (g_cons (g_nm 2 S.nd) (g_cons (g_nm 3 S.nd) g_nil)))
  (s_cons (s_if (r_lfb ((b_or (b_not (b_val (q_call c_is_road hr (by decide) (by rfl) (q_cons (q_var 3) (q_cons (q_callB call_len w_len (by rfl) T.bl_len bt_len (q_cons (q_ix ix_seq w_ix (q_var 0) q_int) q_nil)) q_nil))))) (b_or1 (b_bor fun _ => (b_cmp (op_inA (hu65 hr)) w_in (q_slice (q_var 3) q_nopart (q_part q_int)) (q_var 1) (by rfl)))))).pt)
  (s_one s_never)
  s_nil)
  (s_one (s_app 1 (r_lf (q_slice (q_var 3) q_nopart (q_part q_int)))))) PassesOwn.never)
  (s_one (s_if (r_lfb (b_cmp (op_gtD (hu64 hr)) w_gt (q_callB call_len w_len (by rfl) T.bl_len bt_len (q_cons (q_call c_parts_in hr (by decide) (by rfl) (q_cons (q_listRg rfl (by rfl) T.bl_list (q_rg1 (by rfl) T.bl_range (q_callB call_len w_len (by rfl) T.bl_len bt_len (q_cons (q_ix ix_seq w_ix (q_var 0) q_int) q_nil)))) (q_cons (q_ix ix_seq w_ix (q_var 0) q_int) q_nil))) q_nil)) q_int (by rfl)))
  (s_one s_never)
  s_nil))))))
/-! ### need_houses -/
abbrev st_need_houses : Stmt := top 31
def gs_need_houses : Gs :=
  (gSeq (gIf (lfb (bOr (bNot (bT (cIsi .tuple (cVar 1)))) (bV (c2 oEq (cVar 1) (cTup cNil)))))
  gNever
  gNx)
  (gIf (lfb (bOr (bV (c2 oNe (cLc [2] (iS (cVar 1)) (bNm 2) (bNot (bT (cN mm_is_in (cCons (cVar 2) (cCons (cK (.int 0)) (cCons (c2 oSub (cN oLen (cCons (c2 oIx (cVar 0) (cK (.int 0))) cNil)) (cK (.int 1))) cNil)))))) (cVar 2)) (cLst cNil))) (bV (c2 oNe (cN oList (cCons (cVar 1) cNil)) (c1 oSSet (cVar 1))))))
  gNever
  gNx))
def mm_need_houses := run 3 2 gs_need_houses
theorem sc_need_houses : FnScope ["web", "houses", "x"] ["web", "houses"] (defScope st_need_houses) := ⟨rfl, rfl, rfl, by decide +kernel, rfl, by decide +kernel, by decide +kernel⟩
theorem ok_need_houses {f : Addr} {fd : FuncData} (F : Fun K "need_houses" "need_houses" st_need_houses f fd) (T : Txt mg) (c_is_in : Cal P w K mg base 1 "is_in" (spP K mm_is_in)) : FnOk P w K mg base CX0 2 f fd ["web", "houses"] (spP K mm_need_houses) := by
  have S := sc_need_houses
  refine okP 3 2 F S rfl rfl (g := gs_need_houses) fun cdv A outer s H E z hr => ?_
  exact (s_cons (s_if (r_lfb ((b_or (b_not (b_val (q_isi (q_var 1) (by rfl) T.bl_isinstance bt_isinstance (q_ty .tuple (by rfl) T.bl_tuple bt_tuple)))) (b_or1 (b_cmp (op_eqQ (hu64 hr)) w_eq (q_var 1) (q_tup q_nil) (by rfl))))).pt)
  (s_one s_never)
  s_nil)
  (s_one (s_if (r_lfb ((b_or (b_cmp (op_neQ (hu64 hr)) w_ne (q_lc rfl S.nd (blkOk_by (own := [("x", 2)]) (by kernel_rfl)) (i_seq (q_var 1)) (fun _ _ _ _ _ => (g_nm 2 S.nd)) (fun _ _ _ _ _ => (t_one (b_not (b_val (q_call c_is_in hr (by decide) (by rfl) (q_cons (q_var 2) (q_cons q_int (q_cons (q_op op_sub w_sub (q_callB call_len w_len (by rfl) T.bl_len bt_len (q_cons (q_ix ix_seq w_ix (q_var 0) q_int) q_nil)) q_int) q_nil)))))))) (fun _ _ _ _ _ => (q_var 2))) (q_lst q_nil) (by rfl)) (b_or1 (b_cmp (op_neQ (hu64 hr)) w_ne (q_callTy call_list_of w_list (by rfl) T.bl_list bt_list (q_cons (q_var 1) q_nil)) (q_sset rfl (by rfl) T.bl_sorted (by rfl) T.bl_set (q_var 1)) (by rfl))))).pt)
  (s_one s_never)
  s_nil)))
/-! ### need_both -/
abbrev st_need_both : Stmt := top 33
def gs_need_both : Gs :=
  (gSeq (gExpr (lf (cN mm_need_web (cCons (cVar 0) cNil))))
  (gExpr (lf (cN mm_need_houses (cCons (cVar 0) (cCons (cVar 1) cNil))))))
def mm_need_both := run 2 2 gs_need_both
theorem sc_need_both : FnScope ["web", "houses"] ["web", "houses"] (defScope st_need_both) := ⟨rfl, rfl, rfl, by decide +kernel, rfl, by decide +kernel, by decide +kernel⟩
theorem ok_need_both {f : Addr} {fd : FuncData} (F : Fun K "need_both" "need_both" st_need_both f fd) (T : Txt mg) (c_need_web : Cal P w K mg base 3 "need_web" (spP K mm_need_web)) (c_need_houses : Cal P w K mg base 2 "need_houses" (spP K mm_need_houses)) : FnOk P w K mg base CX0 4 f fd ["web", "houses"] (spP K mm_need_both) := by
  have S := sc_need_both
  refine okP 2 2 F S rfl rfl (g := gs_need_both) fun cdv A outer s H E z hr => ?_
  exact (s_cons (s_expr (r_lf (q_call c_need_web hr (by decide) (by rfl) (q_cons (q_var 0) q_nil))))
  (s_one (s_expr (r_lf (q_call c_need_houses hr (by decide) (by rfl) (q_cons (q_var 0) (q_cons (q_var 1) q_nil)))))))
/-! ### need_rooms -/
abbrev st_need_rooms : Stmt := top 67
def gs_need_rooms : Gs :=
  (gSeq (gExpr (lf (cN mm_need_both (cCons (cVar 0) (cCons (cVar 1) cNil)))))
  (gSeq (gIf (lfb (bOr (bNot (bT (cIsi .tuple (cVar 2)))) (bV (c2 oNe (cN oLen (cCons (cVar 2) cNil)) (cN oLen (cCons (cVar 1) cNil))))))
  gNever
  gNx)
  (gIf (lfb (bV (c2 oNe (cLc [3] (iS (cVar 2)) (bNm 3) (bNot (bT (cN mm_is_in (cCons (cVar 3) (cCons (cK (.int 0)) (cCons (cK (.int 1000)) cNil)))))) (cVar 3)) (cLst cNil))))
  gNever
  gNx)))
def mm_need_rooms := run 4 3 gs_need_rooms
theorem sc_need_rooms : FnScope ["web", "houses", "rooms", "one"] ["web", "houses", "rooms"] (defScope st_need_rooms) := ⟨rfl, rfl, rfl, by decide +kernel, rfl, by decide +kernel, by decide +kernel⟩
theorem ok_need_rooms {f : Addr} {fd : FuncData} (F : Fun K "need_rooms" "need_rooms" st_need_rooms f fd) (T : Txt mg) (c_need_both : Cal P w K mg base 4 "need_both" (spP K mm_need_both)) (c_is_in : Cal P w K mg base 1 "is_in" (spP K mm_is_in)) : FnOk P w K mg base CX0 5 f fd ["web", "houses", "rooms"] (spP K mm_need_rooms) := by
  have S := sc_need_rooms
  refine okP 4 3 F S rfl rfl (g := gs_need_rooms) fun cdv A outer s H E z hr => ?_
  exact (s_cons (s_expr (r_lf (q_call c_need_both hr (by decide) (by rfl) (q_cons (q_var 0) (q_cons (q_var 1) q_nil)))))
  (s_cons (s_if (r_lfb ((b_or (b_not (b_val (q_isi (q_var 2) (by rfl) T.bl_isinstance bt_isinstance (q_ty .tuple (by rfl) T.bl_tuple bt_tuple)))) (b_or1 (b_cmp (op_neQ (hu64 hr)) w_ne (q_callB call_len w_len (by rfl) T.bl_len bt_len (q_cons (q_var 2) q_nil)) (q_callB call_len w_len (by rfl) T.bl_len bt_len (q_cons (q_var 1) q_nil)) (by rfl))))).pt)
  (s_one s_never)
  s_nil)
  (s_one (s_if (r_lfb (b_cmp (op_neQ (hu64 hr)) w_ne (q_lc rfl S.nd (blkOk_by (own := [("one", 3)]) (by kernel_rfl)) (i_seq (q_var 2)) (fun _ _ _ _ _ => (g_nm 3 S.nd)) (fun _ _ _ _ _ => (t_one (b_not (b_val (q_call c_is_in hr (by decide) (by rfl) (q_cons (q_var 3) (q_cons q_int (q_cons (q_glob (by rfl) T.gl_MOST_ROOM) q_nil)))))))) (fun _ _ _ _ _ => (q_var 3))) (q_lst q_nil) (by rfl)))
  (s_one s_never)
  s_nil))))
/-! ### table_of -/
abbrev st_table_of : Stmt := top 29
def gs_table_of : Gs :=
  (gSeq (gAsg (lf (cN oLen (cCons (c2 oIx (cVar 0) (cK (.int 0))) cNil))) (bNm 1))
  (gSeq (gAsg (lf (c2 oAdd (cK (.int 1)) (cN oSum (cCons (cLc [4, 5, 6] (iS (c2 oIx (cVar 0) (cK (.int 1)))) (bTp 3 (bCons (bNm 4) (bCons (bNm 5) (bCons (bNm 6) bNil)))) bYes (cVar 6)) cNil)))) (bNm 2))
  (gSeq (gSetW 3 (wLc2 [8] (lfs (iN rg1 (cCons (cVar 1) cNil))) (bNm 8) (wLc [9] (lfs (iN rg1 (cCons (cVar 1) cNil))) (bNm 9) bYesR (lf (cIf (bV (c2 oEq (cVar 8) (cVar 9))) (cK (.int 0)) (cVar 2))))))
  (gSeq (gFor (lfs (iS (c2 oIx (cVar 0) (cK (.int 1))))) (bTp 3 (bCons (bNm 4) (bCons (bNm 5) (bCons (bNm 6) bNil))))
  (gSeq (gSetI2 3 (lf (cVar 6)) (cVar 4) (cVar 5))
  (gSetI2 3 (lf (cVar 6)) (cVar 5) (cVar 4))))
  (gSeq (gFor (lfs (iN rg1 (cCons (cVar 1) cNil))) (bNm 7)
  (gFor (lfs (iN rg1 (cCons (cVar 1) cNil))) (bNm 8)
  (gFor (lfs (iN rg1 (cCons (cVar 1) cNil))) (bNm 9)
  (gSetI2 3 (lf (cN oMin (cCons (cBor (c2 oIx (c2 oIx (cVar 3) (cVar 8)) (cVar 9))) (cCons (c2 oAdd (cBor (c2 oIx (c2 oIx (cVar 3) (cVar 8)) (cVar 7))) (cBor (c2 oIx (c2 oIx (cVar 3) (cVar 7)) (cVar 9)))) cNil)))) (cVar 8) (cVar 9)))))
  (gFz 3 (gRet (lf (cVar 3)))))))))
def mm_table_of := run 10 1 gs_table_of
theorem sc_table_of : FnScope ["web", "count", "far", "rows", "a", "b", "length", "k", "i", "j"] ["web"] (defScope st_table_of) := ⟨rfl, rfl, rfl, by decide +kernel, rfl, by decide +kernel, by decide +kernel⟩
theorem ok_table_of {f : Addr} {fd : FuncData} (F : Fun K "table_of" "table_of" st_table_of f fd) (T : Txt mg) : FnOk P w K mg base CX0 1 f fd ["web"] (spP K mm_table_of) := by
  have S := sc_table_of
  refine okP 10 1 F S rfl rfl (g := gs_table_of) fun cdv A outer s H E z hr => ?_
  exact (s_cons (s_set 1 S.nd (r_lf (q_callB call_len w_len (by rfl) T.bl_len bt_len (q_cons (q_ix ix_seq w_ix (q_var 0) q_int) q_nil))))
  (s_cons (s_set 2 S.nd (r_lf (q_op op_addA w_add q_int (q_callB (cr_sumA rfl) w_sum (by rfl) T.bl_sum bt_sum (q_cons (q_lc rfl S.nd (blkOk_by (own := [("a", 4), ("b", 5), ("length", 6)]) (by kernel_rfl)) (i_seq (q_ix ix_seq w_ix (q_var 0) q_int)) (fun _ _ _ _ _ => (g_tup rfl (g_cons (g_nm 4 S.nd) (g_cons (g_nm 5 S.nd) (g_cons (g_nm 6 S.nd) g_nil))))) (fun _ _ _ _ _ => t_nil) (fun _ _ _ _ _ => (q_var 6))) q_nil)))))
  (s_cons (s_lcW2 3 rfl S.nd (blkOk_by (own := [("i", 8)]) (by kernel_rfl)) (sw_true rfl rfl rfl (by rfl)) (i_lf (i_range1 (by rfl) T.bl_range (q_cons (q_var 1) q_nil))) (fun _ _ _ _ _ => (g_nm 8 S.nd)) (fun _ _ _ _ _ => (w_lc rfl S.nd (blkOk_by (own := [("j", 9)]) (by kernel_rfl)) (i_lf (i_range1 (by rfl) T.bl_range (q_cons (q_var 1) q_nil))) (fun _ _ _ _ _ => (g_nm 9 S.nd)) (fun _ _ _ _ _ => t_nilR) (fun _ _ _ _ _ => (r_lf (q_if (b_cmp (op_eqQ (hu64 hr)) w_eq (q_var 8) (q_var 9) (by rfl)) q_int (q_var 2)))))))
  (s_cons (s_for rfl (i_lf (i_seq (q_ix ix_seq w_ix (q_var 0) q_int))) (g_tup rfl (g_cons (g_nm 4 S.nd) (g_cons (g_nm 5 S.nd) (g_cons (g_nm 6 S.nd) g_nil))))
  (s_cons (s_setI2 3 (r_lf (q_var 6)) (q_var 4) (q_var 5))
  (s_one (s_setI2 3 (r_lf (q_var 6)) (q_var 5) (q_var 4)))) PassesOwn.never)
  (s_cons (s_for rfl (i_lf (i_range1 (by rfl) T.bl_range (q_cons (q_var 1) q_nil))) (g_nm 7 S.nd)
  (s_one (s_for rfl (i_lf (i_range1 (by rfl) T.bl_range (q_cons (q_var 1) q_nil))) (g_nm 8 S.nd)
  (s_one (s_for rfl (i_lf (i_range1 (by rfl) T.bl_range (q_cons (q_var 1) q_nil))) (g_nm 9 S.nd)
  (s_one (s_setI2 3 (r_lf (q_callB (cr_minA rfl (hu64 hr)) w_min (by rfl) T.bl_min bt_min (q_cons (q_bor fun _ => (q_ix ix_seq w_ix (q_ix ix_seq w_ix (q_var 3) (q_var 8)) (q_var 9))) (q_cons (q_op op_addA w_add (q_bor fun _ => (q_ix ix_seq w_ix (q_ix ix_seq w_ix (q_var 3) (q_var 8)) (q_var 7))) (q_bor fun _ => (q_ix ix_seq w_ix (q_ix ix_seq w_ix (q_var 3) (q_var 7)) (q_var 9)))) q_nil)))) (q_var 8) (q_var 9))) PassesOwn.never)) PassesOwn.never)) PassesOwn.never)
  (s_one (s_fz 3 (s_ret (r_lf (q_var 3))))))))))
/-! ### gcd -/
abbrev st_gcd : Stmt := top 10
def gs_gcd : Gs :=
  (gSeq (gPar2 0 1 (wsh (lf (cN oAbs (cCons (cVar 0) cNil)))) (wsh (lf (cN oAbs (cCons (cVar 1) cNil)))))
  (gSeq (gWhile (lfb (bV (c2 oNe (cVar 1) (cK (.int 0)))))
  (gPar2 0 1 (wsh (lf (cVar 1))) (wsh (lf (c2 oMod (cVar 0) (cVar 1))))) 400)
  (gRet (lf (cVar 0)))))
def mm_gcd := run 2 2 gs_gcd
theorem sc_gcd : FnScope ["one", "other"] ["one", "other"] (defScope st_gcd) := ⟨rfl, rfl, rfl, by decide +kernel, rfl, by decide +kernel, by decide +kernel⟩
theorem ok_gcd {f : Addr} {fd : FuncData} (F : Fun K "gcd" "gcd" st_gcd f fd) (T : Txt mg) : FnOk P w K mg base CX0 1 f fd ["one", "other"] (spP K mm_gcd) := by
  have S := sc_gcd
  refine okP 2 2 F S rfl rfl (g := gs_gcd) fun cdv A outer s H E z hr => ?_
  exact (s_cons (s_par2 0 1 rfl S.nd (w_sh (r_lf (q_callB call_abs w_abs (by rfl) T.bl_abs bt_abs (q_cons (q_var 0) q_nil)))) (w_sh (r_lf (q_callB call_abs w_abs (by rfl) T.bl_abs bt_abs (q_cons (q_var 1) q_nil)))))
  (s_cons (s_while 400 (r_lfb (b_cmp (op_neQ (hu64 hr)) w_ne (q_var 1) q_int (by rfl)))
  (s_one (s_par2 0 1 rfl S.nd (w_sh (r_lf (q_var 1))) (w_sh (r_lf (q_op op_modN w_mod (q_var 0) (q_var 1)))))) PassesOwn.never)
  (s_one (s_ret (r_lf (q_var 0))))))
/-! ### spread -/
abbrev st_spread : Stmt := top 38
def gs_spread : Gs :=
  (gSeq (gAsg (lf (cK (.int 1))) (bNm 1))
  (gSeq (gFor (lfs (iS (cVar 0))) (bNm 2)
  (gAsg (lf (c2 oMul (c2 oDiv (cVar 1) (cN mm_gcd (cCons (cVar 1) (cCons (c2 oIx (cVar 2) (cK (.int 1))) cNil)))) (c2 oIx (cVar 2) (cK (.int 1))))) (bNm 1)))
  (gRet (lf (cVar 1)))))
def mm_spread := run 3 1 gs_spread
theorem sc_spread : FnScope ["values", "found", "value"] ["values"] (defScope st_spread) := ⟨rfl, rfl, rfl, by decide +kernel, rfl, by decide +kernel, by decide +kernel⟩
theorem ok_spread {f : Addr} {fd : FuncData} (F : Fun K "spread" "spread" st_spread f fd) (T : Txt mg) (c_gcd : Cal P w K mg base 1 "gcd" (spP K mm_gcd)) : FnOk P w K mg base CX0 2 f fd ["values"] (spP K mm_spread) := by
  have S := sc_spread
  refine okP 3 1 F S rfl rfl (g := gs_spread) fun cdv A outer s H E z hr => ?_
  exact (s_cons (s_set 1 S.nd (r_lf q_int))
  (s_cons (s_for rfl (i_lf (i_seq (q_var 0))) (g_nm 2 S.nd)
  (s_one (s_set 1 S.nd (r_lf (q_op op_mulA w_mul (q_op DL.op_fdivW w_div (q_var 1) (q_call c_gcd hr (by decide) (by rfl) (q_cons (q_var 1) (q_cons (q_ix ix_seq w_ix (q_var 2) q_int) q_nil)))) (q_ix ix_seq w_ix (q_var 2) q_int))))) PassesOwn.never)
  (s_one (s_ret (r_lf (q_var 1))))))
/-! ### laid -/
abbrev st_Program_laid : Stmt := inClass (top 39) 1
def gs_Program_laid : DL.Env → Option (DL.E × DL.Env) :=
  (gSeqE (gAsg (lf (cFld 0 "wide")) (bNm 2))
  (gSeqE (gAsg (lf (c2 oAdd (cFld 0 "wide") (cFld 0 "count"))) (bNm 3))
  (gSeqE (gSetW 4 wNil2)
  (gSeqE (gFor (lfs (iN en1 (cCons (cVar 1) cNil))) (bTp 2 (bCons (bNm 5) (bCons (bTp 3 (bCons (bNm 6) (bCons (bNm 7) (bCons (bNm 8) bNil)))) bNil)))
  (gSeq (gSetW 9 (wCat (c2 oAdd (cVar 6) (cRep (cCons (cK (.int 0)) cNil) (c2 oMul (cK (.int 2)) (cFld 0 "count")))) (cLst (cCons (cVar 7) cNil))))
  (gSeq (gIf (lfb (bNot (bT (cVar 8))))
  (gSetI 9 (lf (cBor (c2 oIx (cFld 0 "signs") (cVar 5)))) (lf (c2 oAdd (cVar 2) (cVar 5))))
  gNx)
  (gSeq (gIf (lfb (bOr (bT (cVar 8)) (bV (c2 oLt (cBor (c2 oIx (cFld 0 "signs") (cVar 5))) (cK (.int 0))))))
  (gSeq (gSetI 9 (lf (cK (.int 1))) (lf (c2 oAdd (cVar 3) (cVar 5))))
  (gSeq (gFApp 0 "extra" (c2 oAdd (cVar 3) (cVar 5)))
  (gFApp 0 "basis" (c2 oAdd (cVar 3) (cVar 5)))))
  (gFApp 0 "basis" (c2 oAdd (cVar 2) (cVar 5))))
  (gApp2 4 9)))))
  (eRet 4)))))
def mm_Program_laid := runME 10 2 gs_Program_laid
theorem sc_Program_laid : FnScope ["self", "body", "slack", "extra", "found", "i", "numbers", "limit", "is_tie", "line"] ["self", "body"] (defScope st_Program_laid) := ⟨rfl, rfl, rfl, by decide +kernel, rfl, by decide +kernel, by decide +kernel⟩
theorem ok_Program_laid {C : Addr} (TC : TxC K C) {f : Addr} {fd : FuncData} (F : Fun K "laid" "Program.laid" st_Program_laid f fd) (T : Txt mg) : FnOk P w K mg base CX0 1 f fd ["self", "body"] (spM K C mm_Program_laid) := by
  have S := sc_Program_laid
  refine okME (c := C) 10 2 F S rfl rfl (by decide) (g := gs_Program_laid) fun cdv A outer s H E z hz hr => ?_
  exact (s_consE (s_set 2 S.nd (r_lf (q_fld 0)))
  (s_consE (s_set 3 S.nd (r_lf (q_op op_addA w_add (q_fld 0) (q_fld 0))))
  (s_consE (s_setW 4 S.nd w_nil2)
  (s_consE (s_for rfl (i_lf (i_enum (by rfl) T.bl_enumerate (q_cons (q_var 1) q_nil))) (g_tup rfl (g_cons (g_nm 5 S.nd) (g_cons (g_tup rfl (g_cons (g_nm 6 S.nd) (g_cons (g_nm 7 S.nd) (g_cons (g_nm 8 S.nd) g_nil)))) g_nil)))
  (s_cons (s_setW 9 S.nd (w_cat (q_op op_addA w_add (q_var 6) (q_rep (q_cons q_int q_nil) (q_op op_mulA w_mul q_int (q_fld 0)))) (q_lst (q_cons (q_var 7) q_nil))))
  (s_cons (s_if (r_lfb (b_not (b_val (q_var 8))))
  (s_one (s_setI 9 (r_lf (q_bor fun _ => (q_ix ix_seq w_ix (q_fld 0) (q_var 5)))) (r_lf (q_op op_addA w_add (q_var 2) (q_var 5)))))
  s_nil)
  (s_cons (s_if (r_lfb ((b_or (b_val (q_var 8)) (b_or1 (b_cmp (op_ltD (hu64 hr)) w_lt (q_bor fun _ => (q_ix ix_seq w_ix (q_fld 0) (q_var 5))) q_int (by rfl))))).pt)
  (s_cons (s_setI 9 (r_lf q_int) (r_lf (q_op op_addA w_add (q_var 3) (q_var 5))))
  (s_cons (s_fapp 0 (q_op op_addA w_add (q_var 3) (q_var 5)))
  (s_one (s_fapp 0 (q_op op_addA w_add (q_var 3) (q_var 5))))))
  (s_one (s_fapp 0 (q_op op_addA w_add (q_var 2) (q_var 5)))))
  (s_one (s_app2 4 9))))) PassesOwn.never)
  (s_retE 4)))))
/-! ### __init__ -/
abbrev st_Program___init__ : Stmt := inClass (top 39) 0
def gs_Program___init__ : Gs :=
  (gSeq (gFld 0 "count" (lf (cN oLen (cCons (cVar 1) cNil))))
  (gSeq (gFld 0 "wide" (lf (cN oLen (cCons (c2 oIx (cVar 1) (cK (.int 0))) cNil))))
  (gSeq (gFld 0 "bottom" (lf (cK (.int 1))))
  (gSeq (gFldW 0 "scales" (wN few (lfs cNil)))
  (gSeq (gFldW 0 "signs" (wN few (lfs cNil)))
  (gSeq (gFldW 0 "basis" (wN few (lfs cNil)))
  (gSeq (gFldW 0 "extra" (wN few (lfs cNil)))
  (gSeq (gSetW 4 (wN few (lfs cNil)))
  (gSeq (gFor (lfs (iN en1 (cCons (cVar 1) cNil))) (bTp 2 (bCons (bNm 5) (bCons (bNm 6) bNil)))
  (gSeq (gAsg (lf (cN mm_spread (cCons (c2 oAdd (cN oList (cCons (cVar 6) cNil)) (cLst (cCons (c2 oIx (cVar 2) (cVar 5)) cNil))) cNil))) (bNm 7))
  (gSeq (gAsg (lf (cLc [11] (iS (cVar 6)) (bNm 11) bYes (c2 oMul (c2 oIx (cVar 11) (cK (.int 0))) (c2 oDiv (cVar 7) (c2 oIx (cVar 11) (cK (.int 1))))))) (bNm 8))
  (gSeq (gAsg (lf (c2 oMul (c2 oIx (c2 oIx (cVar 2) (cVar 5)) (cK (.int 0))) (c2 oDiv (cVar 7) (c2 oIx (c2 oIx (cVar 2) (cVar 5)) (cK (.int 1)))))) (bNm 9))
  (gSeq (gAsg (lf (cIf (bV (c2 oLt (cVar 9) (cK (.int 0)))) (c1 oNeg (cK (.int 1))) (cK (.int 1)))) (bNm 10))
  (gSeq (gFApp 0 "scales" (cVar 7))
  (gSeq (gFApp 0 "signs" (cVar 10))
  (gApp 4 (lf (cTup (cCons (cLc [11] (iS (cVar 8)) (bNm 11) bYes (c2 oMul (cVar 10) (cVar 11))) (cCons (c2 oMul (cVar 10) (cVar 9)) (cCons (c2 oIn (cVar 5) (cVar 3)) cNil)))))))))))))
  (gFz 4 (gFldW 0 "table" (okW (methE 0 "laid" mm_Program_laid (cCons (cVar 4) cNil))))))))))))))
def mm_Program___init__ := runMx 12 4 gs_Program___init__
theorem sc_Program___init__ : FnScope ["self", "rows", "limits", "ties", "body", "i", "row", "scale", "numbers", "limit", "sign", "one"] ["self", "rows", "limits", "ties"] (defScope st_Program___init__) := ⟨rfl, rfl, rfl, by decide +kernel, rfl, by decide +kernel, by decide +kernel⟩
theorem ok_Program___init__ {C : Addr} (TC : TxC K C) {f : Addr} {fd : FuncData} (F : Fun K "__init__" "Program.__init__" st_Program___init__ f fd) (T : Txt mg) (c_spread : Cal P w K mg base 2 "spread" (spP K mm_spread)) (m_laid : CalM P w K mg base 1 C "laid" (spM K C mm_Program_laid)) : FnOk P w K mg base CX0 3 f fd ["self", "rows", "limits", "ties"] (spMx K C mm_Program___init__) := by
  have S := sc_Program___init__
  refine okMx (c := C) 12 4 F S rfl rfl (by decide) (g := gs_Program___init__) fun cdv A outer s H E z hz hr => ?_
  exact (s_cons (s_fld hz 0 TC.n_count (r_lf (q_callB call_len w_len (by rfl) T.bl_len bt_len (q_cons (q_var 1) q_nil))))
  (s_cons (s_fld hz 0 TC.n_wide (r_lf (q_callB call_len w_len (by rfl) T.bl_len bt_len (q_cons (q_ix ix_seq w_ix (q_var 1) q_int) q_nil))))
  (s_cons (s_fld hz 0 TC.n_bottom (r_lf q_int))
  (s_cons (s_fldW hz 0 TC.n_scales (w_lst (r_lfs q_nil)))
  (s_cons (s_fldW hz 0 TC.n_signs (w_lst (r_lfs q_nil)))
  (s_cons (s_fldW hz 0 TC.n_basis (w_lst (r_lfs q_nil)))
  (s_cons (s_fldW hz 0 TC.n_extra (w_lst (r_lfs q_nil)))
  (s_cons (s_setW 4 S.nd (w_lst (r_lfs q_nil)))
  (s_cons (s_for rfl (i_lf (i_enum (by rfl) T.bl_enumerate (q_cons (q_var 1) q_nil))) (g_tup rfl (g_cons (g_nm 5 S.nd) (g_cons (g_nm 6 S.nd) g_nil)))
  (s_cons (s_set 7 S.nd (r_lf (q_call c_spread hr (by decide) (by rfl) (q_cons (q_op op_addA w_add (q_callTy call_list_of w_list (by rfl) T.bl_list bt_list (q_cons (q_var 6) q_nil)) (q_lst (q_cons (q_ix ix_seq w_ix (q_var 2) (q_var 5)) q_nil))) q_nil))))
  (s_cons (s_lc 8 rfl S.nd (blkOk_by (own := [("one", 11)]) (by kernel_rfl)) (sw_true rfl rfl rfl (by rfl)) (i_seq (q_var 6)) (fun _ _ _ _ _ => (g_nm 11 S.nd)) (fun _ _ _ _ _ => t_nil) (fun _ _ _ _ _ => (q_op op_mulA w_mul (q_ix ix_seq w_ix (q_var 11) q_int) (q_op DL.op_fdivW w_div (q_var 7) (q_ix ix_seq w_ix (q_var 11) q_int)))))
  (s_cons (s_set 9 S.nd (r_lf (q_op op_mulA w_mul (q_ix ix_seq w_ix (q_ix ix_seq w_ix (q_var 2) (q_var 5)) q_int) (q_op DL.op_fdivW w_div (q_var 7) (q_ix ix_seq w_ix (q_ix ix_seq w_ix (q_var 2) (q_var 5)) q_int)))))
  (s_cons (s_set 10 S.nd (r_lf (q_if (b_cmp (op_ltD (hu64 hr)) w_lt (q_var 9) q_int (by rfl)) (q_un un_neg w_neg q_int) q_int)))
  (s_cons (s_fapp 0 (q_var 7))
  (s_cons (s_fapp 0 (q_var 10))
  (s_one (s_app 4 (r_lf (q_tup (q_cons (q_lc rfl S.nd (blkOk_by (own := [("one", 11)]) (by kernel_rfl)) (i_seq (q_var 8)) (fun _ _ _ _ _ => (g_nm 11 S.nd)) (fun _ _ _ _ _ => t_nil) (fun _ _ _ _ _ => (q_op op_mulA w_mul (q_var 10) (q_var 11)))) (q_cons (q_op op_mulA w_mul (q_var 10) (q_var 9)) (q_cons (q_cmp (op_inA (hu65 hr)) w_in (q_var 5) (q_var 3) (by rfl)) q_nil))))))))))))) PassesOwn.never)
  (s_one (s_fz 4 (s_fldW hz 0 TC.n_table (w_of (m_meth 0 hz m_laid hr (by decide) (q_cons (q_var 4) q_nil)))))))))))))))
/-! ### reduced -/
abbrev st_reduced : Stmt := top 11
def gs_reduced : Gs :=
  (gSeq (gAsg (lf (cN mm_gcd (cCons (cVar 0) (cCons (cVar 1) cNil)))) (bNm 2))
  (gSeq (gIf (lfb (bV (c2 oLt (cVar 1) (cK (.int 0)))))
  (gAsg (lf (c1 oNeg (cVar 2))) (bNm 2))
  gNx)
  (gRet (lf (cTup (cCons (c2 oDiv (cVar 0) (cVar 2)) (cCons (c2 oDiv (cVar 1) (cVar 2)) cNil)))))))
def mm_reduced := run 3 2 gs_reduced
theorem sc_reduced : FnScope ["numerator", "denominator", "common"] ["numerator", "denominator"] (defScope st_reduced) := ⟨rfl, rfl, rfl, by decide +kernel, rfl, by decide +kernel, by decide +kernel⟩
theorem ok_reduced {f : Addr} {fd : FuncData} (F : Fun K "reduced" "reduced" st_reduced f fd) (T : Txt mg) (c_gcd : Cal P w K mg base 1 "gcd" (spP K mm_gcd)) : FnOk P w K mg base CX0 2 f fd ["numerator", "denominator"] (spP K mm_reduced) := by
  have S := sc_reduced
  refine okP 3 2 F S rfl rfl (g := gs_reduced) fun cdv A outer s H E z hr => ?_
  exact (s_cons (s_set 2 S.nd (r_lf (q_call c_gcd hr (by decide) (by rfl) (q_cons (q_var 0) (q_cons (q_var 1) q_nil)))))
  (s_cons (s_if (r_lfb (b_cmp (op_ltD (hu64 hr)) w_lt (q_var 1) q_int (by rfl)))
  (s_one (s_set 2 S.nd (r_lf (q_un un_neg w_neg (q_var 2)))))
  s_nil)
  (s_one (s_ret (r_lf (q_tup (q_cons (q_op DL.op_fdivW w_div (q_var 0) (q_var 2)) (q_cons (q_op DL.op_fdivW w_div (q_var 1) (q_var 2)) q_nil))))))))
/-! ### times -/
abbrev st_times : Stmt := top 14
def gs_times : Gs :=
  (gRet (lf (cN mm_reduced (cCons (c2 oMul (c2 oIx (cVar 0) (cK (.int 0))) (c2 oIx (cVar 1) (cK (.int 0)))) (cCons (c2 oMul (c2 oIx (cVar 0) (cK (.int 1))) (c2 oIx (cVar 1) (cK (.int 1)))) cNil)))))
def mm_times := run 2 2 gs_times
theorem sc_times : FnScope ["one", "other"] ["one", "other"] (defScope st_times) := ⟨rfl, rfl, rfl, by decide +kernel, rfl, by decide +kernel, by decide +kernel⟩
theorem ok_times {f : Addr} {fd : FuncData} (F : Fun K "times" "times" st_times f fd) (T : Txt mg) (c_reduced : Cal P w K mg base 2 "reduced" (spP K mm_reduced)) : FnOk P w K mg base CX0 3 f fd ["one", "other"] (spP K mm_times) := by
  have S := sc_times
  refine okP 2 2 F S rfl rfl (g := gs_times) fun cdv A outer s H E z hr => ?_
  exact (s_one (s_ret (r_lf (q_call c_reduced hr (by decide) (by rfl) (q_cons (q_op op_mulA w_mul (q_ix ix_seq w_ix (q_var 0) q_int) (q_ix ix_seq w_ix (q_var 1) q_int)) (q_cons (q_op op_mulA w_mul (q_ix ix_seq w_ix (q_var 0) q_int) (q_ix ix_seq w_ix (q_var 1) q_int)) q_nil))))))
/-! ### goal_line -/
abbrev st_Program_goal_line : Stmt := inClass (top 39) 6
def gs_Program_goal_line : DL.Env → Option (DL.E × DL.Env) :=
  (gSeqE (gSetW 2 (wCat (cLc [6] (iS (cVar 1)) (bNm 6) bYes (c2 oMul (c1 oNeg (cVar 6)) (cFld 0 "bottom"))) (cLst (cCons (cK (.int 0)) cNil))))
  (gSeqE (gFor (lfs (iN en1 (cCons (cFld 0 "basis") cNil))) (bTp 2 (bCons (bNm 3) (bCons (bNm 4) bNil)))
  (gSeq (gAsg (lf (c2 oDiv (cIxO 2 (cVar 4)) (cFld 0 "bottom"))) (bNm 5))
  (gIf (lfb (bV (c2 oNe (cVar 5) (cK (.int 0)))))
  (gFz 2 (gSetW 2 (wLc [7, 8] (lfs (iN zp2 (cCons (cVar 2) (cCons (c2 oIx (cFld 0 "table") (cVar 3)) cNil)))) (bTp 2 (bCons (bNm 7) (bCons (bNm 8) bNil))) bYesR (lf (c2 oSub (cVar 7) (c2 oMul (cVar 5) (cVar 8)))))))
  gNx)))
  (eRet 2)))
def mm_Program_goal_line := runOE 9 2 gs_Program_goal_line
theorem sc_Program_goal_line : FnScope ["self", "gains", "line", "i", "column", "factor", "one", "a", "b"] ["self", "gains"] (defScope st_Program_goal_line) := ⟨rfl, rfl, rfl, by decide +kernel, rfl, by decide +kernel, by decide +kernel⟩
theorem ok_Program_goal_line {C : Addr} (TC : TxC K C) {f : Addr} {fd : FuncData} (F : Fun K "goal_line" "Program.goal_line" st_Program_goal_line f fd) (T : Txt mg) : FnOk P w K mg base CX0 1 f fd ["self", "gains"] (spO K mm_Program_goal_line) := by
  have S := sc_Program_goal_line
  refine okOE 9 2 F S rfl rfl (by decide) (g := gs_Program_goal_line) fun cdv A outer s H E z hr => ?_
  exact (s_consE (s_setW 2 S.nd (w_cat (q_lc rfl S.nd (blkOk_by (own := [("one", 6)]) (by kernel_rfl)) (i_seq (q_var 1)) (fun _ _ _ _ _ => (g_nm 6 S.nd)) (fun _ _ _ _ _ => t_nil) (fun _ _ _ _ _ => (q_op op_mulA w_mul (q_un un_neg w_neg (q_var 6)) (q_fld 0)))) (q_lst (q_cons q_int q_nil))))
  (s_consE (s_for rfl (i_lf (i_enum (by rfl) T.bl_enumerate (q_cons (q_fld 0) q_nil))) (g_tup rfl (g_cons (g_nm 3 S.nd) (g_cons (g_nm 4 S.nd) g_nil)))
  (s_cons (s_set 5 S.nd (r_lf (q_op DL.op_fdivW w_div (q_ixO 2 (q_var 4)) (q_fld 0))))
  (s_one (s_if (r_lfb (b_cmp (op_neQ (hu64 hr)) w_ne (q_var 5) q_int (by rfl)))
  (s_one (s_fz 2 (s_lcW 2 rfl S.nd (blkOk_by (own := [("a", 7), ("b", 8)]) (by kernel_rfl)) (sw_true rfl rfl rfl (by rfl)) (i_lf (i_zip (by rfl) T.bl_zip (q_cons (q_var 2) (q_cons (q_ix ix_seq w_ix (q_fld 0) (q_var 3)) q_nil)))) (fun _ _ _ _ _ => (g_tup rfl (g_cons (g_nm 7 S.nd) (g_cons (g_nm 8 S.nd) g_nil)))) (fun _ _ _ _ _ => t_nilR) (fun _ _ _ _ _ => (r_lf (q_op op_sub w_sub (q_var 7) (q_op op_mulA w_mul (q_var 5) (q_var 8))))))))
  s_nil))) PassesOwn.never)
  (s_retE 2)))
/-! ### row_for -/
abbrev st_Program_row_for : Stmt := inClass (top 39) 4
def gs_Program_row_for : Gs :=
  (gSeq (gAsg (lf (cK .none)) (bNm 2))
  (gSeq (gFor (lfs (iN en1 (cCons (cFld 0 "table") cNil))) (bTp 2 (bCons (bNm 3) (bCons (bNm 4) bNil)))
  (gIf (lfb (bV (c2 oGt (c2 oIx (cVar 4) (cVar 1)) (cK (.int 0)))))
  (gIf (lfb (bV (c2 oIs (cVar 2) (cK .none))))
  (gAsg (lf (cVar 3)) (bNm 2))
  (gSeq (gAsg (lf (c2 oIx (cFld 0 "table") (cVar 2))) (bNm 5))
  (gSeq (gAsg (lf (c2 oSub (c2 oMulW (c2 oIx (cVar 4) (c1 oNeg (cK (.int 1)))) (c2 oIx (cVar 5) (cVar 1))) (c2 oMulW (c2 oIx (cVar 5) (c1 oNeg (cK (.int 1)))) (c2 oIx (cVar 4) (cVar 1))))) (bNm 6))
  (gIf (lfb (bOr (bV (c2 oLt (cVar 6) (cK (.int 0)))) (bAnd (bV (c2 oEq (cVar 6) (cK (.int 0)))) (bV (c2 oLt (c2 oIx (cFld 0 "basis") (cVar 3)) (c2 oIx (cFld 0 "basis") (cVar 2)))))))
  (gAsg (lf (cVar 3)) (bNm 2))
  gNx))))
  gNx))
  (gRet (lf (cVar 2)))))
def mm_Program_row_for := runO 7 2 gs_Program_row_for
theorem sc_Program_row_for : FnScope ["self", "column", "best", "i", "line", "other", "gap"] ["self", "column"] (defScope st_Program_row_for) := ⟨rfl, rfl, rfl, by decide +kernel, rfl, by decide +kernel, by decide +kernel⟩
theorem ok_Program_row_for {C : Addr} (TC : TxC K C) {f : Addr} {fd : FuncData} (F : Fun K "row_for" "Program.row_for" st_Program_row_for f fd) (T : Txt mg) : FnOk P w K mg base CX0 1 f fd ["self", "column"] (spO K mm_Program_row_for) := by
  have S := sc_Program_row_for
  refine okO 7 2 F S rfl rfl (by decide) (g := gs_Program_row_for) fun cdv A outer s H E z hr => ?_
  exact (s_cons (s_set 2 S.nd (r_lf q_non))
  (s_cons (s_for rfl (i_lf (i_enum (by rfl) T.bl_enumerate (q_cons (q_fld 0) q_nil))) (g_tup rfl (g_cons (g_nm 3 S.nd) (g_cons (g_nm 4 S.nd) g_nil)))
  (s_one (s_if (r_lfb (b_cmp (op_gtD (hu64 hr)) w_gt (q_ix ix_seq w_ix (q_var 4) (q_var 1)) q_int (by rfl)))
  (s_one (s_if (r_lfb (b_cmp op_isA w_is (q_var 2) q_non (by rfl)))
  (s_one (s_set 2 S.nd (r_lf (q_var 3))))
  (s_cons (s_set 5 S.nd (r_lf (q_ix ix_seq w_ix (q_fld 0) (q_var 2))))
  (s_cons (s_set 6 S.nd (r_lf (q_op op_sub w_sub (q_op op_mulW w_mulW (q_ix ix_seq w_ix (q_var 4) (q_un un_neg w_neg q_int)) (q_ix ix_seq w_ix (q_var 5) (q_var 1))) (q_op op_mulW w_mulW (q_ix ix_seq w_ix (q_var 5) (q_un un_neg w_neg q_int)) (q_ix ix_seq w_ix (q_var 4) (q_var 1))))))
  (s_one (s_if (r_lfb ((b_or (b_cmp (op_ltD (hu64 hr)) w_lt (q_var 6) q_int (by rfl)) (b_or1 ((b_and (b_cmp (op_eqQ (hu64 hr)) w_eq (q_var 6) q_int (by rfl)) (b_and1 (b_cmp (op_ltD (hu64 hr)) w_lt (q_ix ix_seq w_ix (q_fld 0) (q_var 3)) (q_ix ix_seq w_ix (q_fld 0) (q_var 2)) (by rfl))))).pt))).pt)
  (s_one (s_set 2 S.nd (r_lf (q_var 3))))
  s_nil))))))
  s_nil)) PassesOwn.never)
  (s_one (s_ret (r_lf (q_var 2))))))
abbrev st_Program_turn : Stmt := inClass (top 39) 2
theorem sc_Program_turn : FnScope ["self", "goal", "row", "column", "lead", "part", "line", "factor", "j"] ["self", "goal", "row", "column"] (defScope st_Program_turn) := ⟨rfl, rfl, rfl, by decide +kernel, rfl, by decide +kernel, by decide +kernel⟩
theorem ok_Program_turn {C : Addr} {f : Addr} {fd : FuncData} (F : Fun K "turn" "Program.turn" st_Program_turn f fd) (T : Txt mg) : FnOk P w K mg base CX0 1 f fd ["self", "goal", "row", "column"] (spM2 K C mmTurn) := by
  have S := sc_Program_turn
  refine F.ok S (fun vs H Q E h => ?_) (fun cdv A outer s H vs Q E hr h => ?_)
  · obtain ⟨F, p, as, q, ws, gs, fs, vs', ds, e, fs', gs', e1, _, _, _, _, r, e, _⟩ := h
    unfold mmTurn at e
    split at e
    · rw [e1, List.length_cons, List.length_cons, r.length]; rfl
    · cases e
  · obtain ⟨F, p, as, g, ws, gs, fs, vs', ds, e0, fs', gs', e1, ⟨s0, t0⟩, ha, hg, ob, r, e, q⟩ := h
    have ha_ := fun a h => (ha a h).2
    subst e1
    refine ⟨_, pss_cons (ps_set (i := 4) S.nd rfl (.inl rfl) (pe_ix ix_list (pe_fld (pv 0) rfl) (pv 2) (fun _ _ => rfl)))
      (pss_cons (ps_set (i := 5) S.nd rfl (.inl rfl) (pe_ix ix_list (pv 4) (pv 3) (fun _ _ => rfl)))
      (pss_cons (ps_for PassesOwn.never rfl (pi_list (pe_op op_cat (pe_op op_cat (pe_slice sl_list (pe_fld (pv 0) rfl) po_none (po_some (pv 2))) (pe_slice sl_list (pe_fld (pv 0) rfl) (po_some (pe_op op_add (pv 2) pe_int)) po_none)) (pe_lst (pa_cons (pv 1) pa_nil)))) (pg_name (i := 6) S.nd rfl (.inl rfl)) (pss_cons (ps_set (i := 7) S.nd rfl (.inl rfl) (pe_ix ix_list (pv 6) (pv 3) (fun _ _ => rfl)))
      (pss_one (ps_for PassesOwn.never rfl (pi_range1 (by rfl) T.bl_range (pa_cons (pe_callB call_len_seq (by rfl) T.bl_len PySem.boot_len (pa_cons (pv 6) pa_nil)) pa_nil)) (pg_name (i := 8) S.nd rfl (.inl rfl)) (pss_one (ps_asg (pe_op DL.op_fdivW (pe_op op_sub (pe_op op_mulW (pe_ix ix_list (pv 6) (pv 8) (fun _ _ => rfl)) (pv 5)) (pe_op op_mulW (pv 7) (pe_ix ix_list (pv 4) (pv 8) (fun _ _ => rfl)))) (pe_fld (pv 0) rfl)) (pg_sub (pv 6) (pv 8) set_list)))))))
      (pss_cons (ps_fld (pv 0) (pv 5) rfl)
      (pss_one (ps_asg (pv 3) (pg_sub (pe_fld (pv 0) rfl) (pv 2) set_list)))))), ?_⟩
    unfold mmTurn at e
    split at e
    · next row col =>
      split at e
      · next rows b bs h1 h2 h3 =>
        obtain ⟨TT, hT, e⟩ := bind_some e
        obtain ⟨gi, hgi, e⟩ := bind_some e
        obtain ⟨bi, hbi, e⟩ := bind_some e
        split at e
        · next hc =>
          obtain ⟨⟨T2, g2, part⟩, ht, e⟩ := bind_some e
          obtain ⟨fs2, hp, e⟩ := map_some e
          cases e
          have q1 := intLL_eq hT
          have q2 := intL_eq hgi
          have q3 := intL_eq hbi
          subst q1 q2 q3
          obtain ⟨c1, c2, c3, c4, c5, c6, c7, c8⟩ := hc
          obtain ⟨rn, rfl⟩ := Int.eq_ofNat_of_zero_le c1
          obtain ⟨cn, rfl⟩ := Int.eq_ofNat_of_zero_le c2
          simp only [Int.toNat_natCast] at c5 ht q
          obtain ⟨lead, hl, ht⟩ := bind_some ht
          obtain ⟨part', hpt, ht⟩ := bind_some ht
          obtain ⟨A, hA, ht⟩ := bind_some ht
          obtain ⟨B, hB, ht⟩ := bind_some ht
          obtain ⟨g2', hg2, ht⟩ := map_some ht
          cases ht
          cases r with
          | cons r1 r =>
          cases r with
          | cons r2 r =>
          cases r
          cases r1
          cases r2
          obtain ⟨dx, xs, t, qs, p1, cl, noT, lkT, tas, tnd, tH, tO, tUp⟩ := ob.own2At h1
          obtain ⟨dx1, xs1, vb, p2, _, noB, lkB, rb⟩ := ob.shAt h2
          have u1 := p1.symm.trans p2
          cases u1
          cases rb
          obtain ⟨dx2, xs2, bl, bvs, p3, _, noS, lkS, blas, blp, blH, blR, _⟩ := ob.ownAt h3
          have u2 := p1.symm.trans p3
          cases u2
          have hqT : qs.length = TT.length := by rw [tO.length, List.length_map]
          have hrn : rn < TT.length := (List.getElem?_eq_some_iff.mp hl).1
          obtain ⟨ql, hql⟩ : ∃ ql, qs[rn]? = some ql := ⟨_, List.getElem?_eq_getElem (by omega)⟩
          obtain ⟨lead', hl', hqlH⟩ := objs_ints tO rn ql hql
          have u3 := hl.symm.trans hl'
          cases u3
          obtain ⟨n1, n2⟩ := List.nodup_cons.mp tnd
          have qas : ∀ a ∈ qs, a ∈ as ∧ a ≠ p := fun a ha => tas a (List.mem_cons_of_mem _ ha)
          have hgn : g ∉ as := hg.2.1
          -- the lines
          obtain ⟨ls, els⟩ : ∃ ls, ls = qs.take rn ++ qs.drop (rn + 1) ++ [g] := ⟨_, rfl⟩
          obtain ⟨olds, eolds⟩ : ∃ olds, olds = TT.take rn ++ TT.drop (rn + 1) ++ [gi] := ⟨_, rfl⟩
          obtain ⟨news, enews⟩ : ∃ news, news = A ++ B ++ [g2] := ⟨_, rfl⟩
          have hall : tAll b part lead cn olds = some news := by
            rw [eolds, enews, List.append_assoc, List.append_assoc]
            refine tAll_app (tAll_app ?_ hB) hA
            show (tLine b part lead cn gi).bind _ = _
            rw [hg2]
            rfl
          obtain ⟨nlen, nget⟩ := tAll_get hall
          have elsE : ls = qs.eraseIdx rn ++ [g] := by rw [els, List.eraseIdx_eq_take_drop_succ]
          have lsin : ∀ a ∈ ls, (a ∈ qs ∧ a ≠ ql) ∨ a = g := fun a ha => by
            rw [elsE] at ha
            rcases List.mem_append.mp ha with q | q
            · refine .inl ⟨List.mem_of_mem_eraseIdx q, fun e => ?_⟩
              rw [e] at q
              exact not_erase n2 hql q
            · exact .inr (by simpa using q)
          have lsnd : ls.Nodup := by
            rw [elsE, List.nodup_append]
            refine ⟨n2.sublist (List.eraseIdx_sublist _ _), by simp, fun a ha b hb e => ?_⟩
            have hb' : b = g := by simpa using hb
            rw [e, hb'] at ha
            exact hgn (qas g (List.mem_of_mem_eraseIdx ha)).1
          have nin : ∀ a, a ∈ as → (a ∈ qs → a = ql) → a ∉ ls := fun a ha h hx => by
            rcases lsin a hx with q | q
            · exact q.2 (h q.1)
            · rw [q] at ha
              exact hgn ha
          have nqls : ql ∉ ls := nin ql (qas ql (List.mem_of_getElem? hql)).1 fun _ => rfl
          have ntls : t ∉ ls := nin t (tas t List.mem_cons_self).1 fun h => absurd h n1
          have npls : p ∉ ls := nin p ob.mem fun h => absurd rfl (qas p h).2
          have lsO : Objs K F H ls (olds.map iD1) := by
            rw [els, eolds, List.map_append, List.map_append, List.map_take, List.map_drop]
            refine Objs.app (Objs.app (objs_take rn tO) (objs_drop (rn + 1) tO)) (.cons ⟨ws, hg.2.2.1, hg.2.2.2⟩ .nil)
          have hlsl : ls.length = olds.length := by rw [lsO.length, List.length_map]
          have wl : ∀ r ∈ olds, r.length ≤ 1000 := fun r hr => by
            refine c8 r ?_
            rw [eolds] at hr
            rcases List.mem_append.mp hr with q | q
            · rcases List.mem_append.mp q with q | q
              · exact List.mem_cons_of_mem _ (List.mem_of_mem_take q)
              · exact List.mem_cons_of_mem _ (List.mem_of_mem_drop q)
            · have : r = gi := by simpa using q
              rw [this]
              exact List.mem_cons_self
          -- lead = self.table[row]; part = lead[column]
          refine ⟨_, rfl, p, C, dx, xs, .ref t, rfl, p1, cl, noT, lkT, _, rfl, t, _, _, .ref ql, rfl, rfl, SqL.of tH, atI_nat (by rw [List.getElem?_map, hql]; rfl), ?_⟩
          refine ⟨_, rfl, _, rfl, ql, _, _, .int part, rfl, rfl, SqL.of hqlH, atI_nat (by rw [List.getElem?_map, hpt]; rfl), ?_⟩
          -- the lines to be changed
          refine ⟨_, rfl, p, C, dx, xs, .ref t, rfl, p1, cl, noT, lkT, ?_⟩
          refine ⟨_, rfl, _, rfl, t, _, rfl, SqL.of tH, fun s1 hs1 => ?_⟩
          have e1 := same_new (o := .lst (cutV (qs.map V.ref) none (some (rn : Int)))) hs1
          refine ⟨_, rfl, p, C, dx, xs, .ref t, rfl, e1 _ _ p1, cl, noT, lkT, _, rfl, _, _, rfl, rfl, _, rfl, t, _, rfl, SqL.of (e1 _ _ tH), fun s2 hs2 => ?_⟩
          have e2 := same_new (o := .lst (cutV (qs.map V.ref) (some ((rn : Int) + 1)) none)) hs2
          have hqm : (qs.map V.ref).length = TT.length := by rw [List.length_map, hqT]
          have l1 := cutV_length (qs.map V.ref) none (some (rn : Int))
          have l2 := cutV_length (qs.map V.ref) (some ((rn : Int) + 1)) none
          refine ⟨s1, s2, _, _, rfl, rfl, e2 _ _ upd_same, upd_same, leM (by omega), fun s3 hs3 => ?_⟩
          have e3 := same_new (o := .lst (cutV (qs.map V.ref) none (some (rn : Int)) ++ cutV (qs.map V.ref) (some ((rn : Int) + 1)) none)) hs3
          refine ⟨_, rfl, le1000 (by show 1 ≤ 1000; decide), fun s4 hs4 => ?_⟩
          have e4 := same_new (o := .lst [V.ref g]) hs4
          refine ⟨s3, s4, _, _, rfl, rfl, e4 _ _ upd_same, upd_same, leM (by simp only [List.length_append, List.length_cons, List.length_nil]; omega), fun la hla => ?_⟩
          have eL : (cutV (qs.map V.ref) none (some (rn : Int)) ++ cutV (qs.map V.ref) (some ((rn : Int) + 1)) none) ++ [V.ref g] = ls.map V.ref := by
            have z := cut_drop (xs := qs.map V.ref) (n := rn + 1) (by omega)
            rw [show ((rn + 1 : Nat) : Int) = (rn : Int) + 1 by omega] at z
            rw [cut_take (by omega), z, els, List.map_append, List.map_append, List.map_take, List.map_drop]
            rfl
          rw [eL]
          have e5 := same_new (o := .lst (ls.map V.ref)) hla
          have e15 := (((e1.trans e2).trans e3).trans e4).trans e5
          obtain ⟨H5, eH5⟩ : ∃ H5, H5 = upd (upd (upd (upd (upd H s1 (.lst (cutV (qs.map V.ref) none (some (rn : Int))))) s2 (.lst (cutV (qs.map V.ref) (some ((rn : Int) + 1)) none))) s3 (.lst (cutV (qs.map V.ref) none (some (rn : Int)) ++ cutV (qs.map V.ref) (some ((rn : Int) + 1)) none))) s4 (.lst [V.ref g])) la (.lst (ls.map V.ref)) := ⟨_, rfl⟩
          rw [← eH5] at e15
          have hla5 : H5 la = some (.lst (ls.map V.ref)) := by rw [eH5, upd_same]
          have t5 : AllT F H5 := by
            rw [eH5]
            exact ((((t0.up (by intro _ q; cases q)).up (by intro _ q; cases q)).up (by intro _ q; cases q)).up (by intro _ q; cases q)).up (by intro _ q; cases q)
          rw [← eH5]
          have la0 : H la = none := by
            cases y : H la with
            | none => rfl
            | some o =>
              have := (((e1.trans e2).trans e3).trans e4) _ _ y
              rw [this] at hla
              cases hla
          clear eH5 e1 e2 e3 e4 e5 hs1 hs2 hs3 hs4 hla eL
          have lsH : ∀ a ∈ ls, H a ≠ none := fun a ha => by
            rcases lsin a ha with q | q
            · exact (ha_ a (qas a q.1).1)
            · rw [q]
              exact ne_none hg.2.2.1
          have lals : la ∉ ls := fun hx => lsH la hx la0
          refine ⟨la, rfl, ⟨_, SqL.of hla5⟩, for_list (K := K) (a := la) (xs := ls.map V.ref) (fun i σ H' => ∃ v6 v7 v8, σ = [some (.ref p), some (.ref g), some (.int rn), some (.int cn), some (.ref ql), some (.int part), v6, v7, v8] ∧ Objs K F H' ls ((news.take i ++ olds.drop i).map iD1) ∧ ∀ a, a ∉ ls → H' a = H5 a)
            ⟨none, none, none, rfl, ?_, fun _ _ => rfl⟩ (fun i σ H' _ ⟨_, _, _, _, _, k⟩ => SqL.of ((k la lals).trans hla5)) ?_ ?_⟩
          · rw [List.take_zero, List.nil_append, List.drop_zero]
            refine lsO.mono (Same.refl _) fun a ha => ?_
            obtain ⟨o, ho⟩ := some_of (lsH a ha)
            rw [ho]
            exact e15 _ _ ho
          · rintro i x σ H' hx ⟨v6, v7, v8, rfl, hO, hk⟩
            have hi : i < ls.length := by
              have := (List.getElem?_eq_some_iff.mp hx).1
              rwa [List.length_map] at this
            obtain ⟨a, hla⟩ : ∃ a, ls[i]? = some a := ⟨_, List.getElem?_eq_getElem hi⟩
            have ex : x = .ref a := by
              rw [List.getElem?_map, hla] at hx
              exact (Option.some.inj hx).symm
            subst ex
            obtain ⟨r0, hr0⟩ : ∃ r0, olds[i]? = some r0 := ⟨_, List.getElem?_eq_getElem (by omega)⟩
            obtain ⟨y0, hy0, ht0⟩ := nget i r0 hr0
            obtain ⟨r1, hr1, haH⟩ := objs_ints hO i a hla
            have er := (mix_get hr0 nlen).symm.trans hr1
            cases er
            obtain ⟨fac, hfac, hgo⟩ := bind_some ht0
            obtain ⟨gl1, gl2⟩ := tGo_len hgo
            have hals : a ∈ ls := List.mem_of_getElem? hla
            have naql : ql ≠ a := fun e => nqls (e ▸ hals)
            have nap : p ≠ a := fun e => npls (e ▸ hals)
            have hqlK : H' ql = some (.lst (lead.map V.int)) := (hk ql nqls).trans (e15 _ _ hqlH)
            have hpK : H' p = some (.ins C dx xs) := (hk p npls).trans (e15 _ _ p1)
            have rl := wl r0 (List.mem_of_getElem? hr0)
            -- factor = line[column]
            refine ⟨_, rfl, _, rfl, a, _, _, .int fac, rfl, rfl, SqL.of haH, atI_nat (by rw [List.getElem?_map, hfac]; rfl), ?_⟩
            -- for j in range(len(line))
            refine ⟨_, rfl, a, _, rfl, .inl (SqL.of haH), _, rfl, by rw [List.length_map]; omega, by rw [List.length_map]; omega, ?_⟩
            have en : (((r0.map V.int).length : Nat) : Int).toNat = r0.length := by rw [Int.toNat_natCast, List.length_map]
            rw [en]
            refine for_range (lo := 0) (n := r0.length) (fun j σ H2 => ∃ v8, σ = [some (.ref p), some (.ref g), some (.int rn), some (.int cn), some (.ref ql), some (.int part), some (.ref a), some (.int fac), v8] ∧ H2 a = some (.lst ((y0.take j ++ r0.drop j).map V.int)) ∧ ∀ b, b ≠ a → H2 b = H' b)
              ⟨v8, rfl, by rw [List.take_zero, List.nil_append, List.drop_zero]; exact haH, fun _ _ => rfl⟩ ?_ ?_
            · rintro j σ H2 hj ⟨v8, rfl, hA2, hk2⟩
              obtain ⟨xj, hxj⟩ : ∃ xj, r0[j]? = some xj := ⟨_, List.getElem?_eq_getElem hj⟩
              obtain ⟨lj, hlj⟩ : ∃ lj, lead[j]? = some lj := ⟨_, List.getElem?_eq_getElem (by omega)⟩
              obtain ⟨yj, hyj, htj⟩ := tGo_get hgo j xj lj hxj hlj
              obtain ⟨m1, m2, m3, m4⟩ := tItem_of htj
              have ej : (0 : Int) + (j : Nat) = (j : Nat) := by omega
              rw [ej]
              have hxm := mix_get (ys := y0) hxj gl2
              refine ⟨_, rfl, _, rfl, a, _, _, .int xj, rfl, rfl, SqL.of hA2, atI_nat (by rw [List.getElem?_map, hxm]; rfl), _, rfl, xj, part, rfl, rfl, m1, ?_⟩
              refine ⟨_, rfl, _, rfl, _, rfl, ql, _, _, .int lj, rfl, rfl, SqL.of ((hk2 ql naql).trans hqlK), atI_nat (by rw [List.getElem?_map, hlj]; rfl), fac, lj, rfl, rfl, m2, ?_⟩
              refine ⟨_, _, rfl, rfl, ?_⟩
              refine ⟨_, rfl, p, C, dx, xs, .int b, rfl, (hk2 p nap).trans hpK, cl, noB, lkB, ?_⟩
              refine ⟨_, b, rfl, rfl, m3, ?_⟩
              refine ⟨_, rfl, _, rfl, a, _, _, j, rfl, rfl, hA2, ixN_of (by rw [List.length_map, List.length_append, List.length_take, List.length_drop]; omega), ?_⟩
              refine ⟨_, rfl, ?_, fun c hc => (upd_ne hc).trans (hk2 c hc)⟩
              rw [upd_same]
              show some (HO.lst (((y0.take j ++ r0.drop j).map V.int).set j (V.int ((xj * part - fac * lj).fdiv b)))) = _
              rw [← m4, ← mix_set hyj gl2, List.map_set]
            · rintro σ H2 ⟨v8, rfl, hA2, hk2⟩
              rw [mix_end gl2] at hA2
              have eH2 := upd_eq hA2 hk2
              refine ⟨_, _, _, rfl, ?_, fun c hc => (hk2 c fun e => hc (e ▸ hals)).trans (hk c hc)⟩
              have z := Objs.set hO lsnd (j := i) (q := a) (o := .lst (y0.map V.int)) (d := iD1 y0) hla ⟨_, upd_same, DpAll.of_ints y0⟩
              rw [← eH2, ← List.map_set, mix_set hy0 nlen] at z
              exact z
          · rintro σ H' ⟨v6, v7, v8, rfl, hO, hk⟩
            rw [List.length_map, hlsl, mix_end nlen, els, enews, List.map_append, List.map_append] at hO
            have hAl : A.length = rn := by
              have := (tAll_get hA).1
              rw [this, List.length_take]
              omega
            have hBl := (tAll_get hB).1
            rw [List.length_drop] at hBl
            obtain ⟨hO1, hOg⟩ := objs_split (by rw [List.length_append, List.length_append, List.length_map, List.length_map, List.length_take, List.length_drop]; omega) hO
            obtain ⟨hOA, hOB⟩ := objs_split (by rw [List.length_map, List.length_take]; omega) hO1
            have hqlK : H' ql = some (.lst (lead.map V.int)) := (hk ql nqls).trans (e15 _ _ hqlH)
            have eqs : qs = qs.take rn ++ ql :: qs.drop (rn + 1) := by
              have hlt : rn < qs.length := by omega
              have e1 : qs.drop rn = ql :: qs.drop (rn + 1) := by
                rw [List.drop_eq_getElem_cons hlt]
                rw [List.getElem?_eq_getElem hlt] at hql
                rw [Option.some.inj hql]
              rw [← e1, List.take_append_drop]
            have hQ : Objs K F H' qs ((A ++ lead :: B).map iD1) := by
              rw [eqs, List.map_append, List.map_cons]
              exact Objs.app hOA (.cons ⟨_, hqlK, DpAll.of_ints lead⟩ hOB)
            have hkA : ∀ a ∈ as, a ∉ qs → H' a = H a := fun a ha' hq => by
              have n1 : a ∉ ls := nin a ha' fun h => absurd h hq
              obtain ⟨o, ho⟩ := some_of (ha_ a ha')
              rw [ho]
              exact (hk a n1).trans (e15 _ _ ho)
            have ob1 := tUp H' ((A ++ lead :: B).map iD1) hkA hQ
            obtain ⟨dx3, xs3, p4, _, xl, ob2⟩ := ob1.putSh (v := .int part) noB hp (.int part)
            have hpK : H' p = some (.ins C dx xs) := (hk p npls).trans (e15 _ _ p1)
            have u4 := hpK.symm.trans p4
            cases u4
            rw [setFd_len] at xl
            -- self.bottom = part
            refine ⟨_, rfl, _, rfl, p, C, dx, xs, rfl, hpK, cl, noB, by omega, ?_⟩
            have hf3 : fdF "basis" fs2 = some (.own (.list (bi.map PyData.int))) := by
              rw [fdF_putFd (by decide +kernel) hp, fdF_setFd (by decide +kernel)]
              exact h3
            obtain ⟨dx5, xs5, bl5, bvs5, p5, _, _, lk5, bl5as, bl5p, bl5H, bl5R, bl5Up⟩ := ob2.ownAt hf3
            rw [upd_same] at p5
            cases p5
            -- self.basis[row] = column
            refine ⟨_, rfl, _, rfl, p, C, dx, _, .ref bl5, rfl, upd_same, cl, noS, lk5, _, rfl, bl5, _, _, rn, rfl, rfl, bl5H, ixN_of (by have := bl5R.length; rw [List.length_map] at this; omega), ?_⟩
            have er := bl5R.ints
            subst er
            have ob3 := bl5Up ((bi.map V.int).set rn (.int cn)) ((bi.set rn (cn : Int)).map PyData.int) (by rw [List.map_set]; exact (DpAll.of_ints bi).set rn (.int _))
            have hgK : H' g = some (.lst (g2.map V.int)) := by
              obtain ⟨r, w1, w2⟩ := objs_ints (T := [g2]) hOg 0 g rfl
              cases w1
              exact w2
            have npg : g ≠ p := fun e => hgn (e ▸ ob.mem)
            have nbg : g ≠ bl5 := fun e => hgn (e ▸ bl5as)
            have hpas := ob.mem
            refine q .non F _ (g2.map V.int) [] ⟨Same.refl _, fun a o hF => ?_, ?_, fun a o hn hH => ?_, fun a hH => ?_, fun _ _ f => f⟩ ob3 ?_ (DpAll.of_ints g2) ⟨rfl, rfl, .non⟩ fun a ha => by cases ha
            · have n1 : a ∉ as := fun hx => by
                rw [(ha a hx).1] at hF
                cases hF
              have n2 : a ≠ g := fun e => by
                rw [e, hg.1] at hF
                cases hF
              rw [upd_ne (fun e => n1 (by rw [e]; exact bl5as)), upd_ne (fun e => n1 (by rw [e]; exact hpas))]
              have n3 : a ∉ ls := fun hx => by
                rcases lsin a hx with z | z
                · exact n1 (qas a z.1).1
                · exact n2 z
              exact (hk a n3).trans (e15 _ _ (s0 _ _ hF))
            · refine AllT.up (AllT.up (fun a vs e => ?_) (by intro _ q; cases q)) (by intro _ q; cases q)
              by_cases hx : a ∈ ls
              · obtain ⟨k, hk'⟩ := List.mem_iff_getElem?.mp hx
                have hO' : Objs K F H' ls (news.map iD1) := by
                  rw [els, enews, List.map_append, List.map_append]
                  exact hO
                obtain ⟨r, _, w2⟩ := objs_ints hO' k a hk'
                rw [w2] at e
                cases e
              · exact t5 a vs ((hk a hx).symm.trans e)
            · have n1 : a ∉ as := fun hx => hn (List.mem_cons_of_mem _ hx)
              have n2 : a ≠ g := fun e => hn (by rw [e]; exact List.mem_cons_self)
              rw [upd_ne (fun e => n1 (by rw [e]; exact bl5as)), upd_ne (fun e => n1 (by rw [e]; exact hpas))]
              have n3 : a ∉ ls := fun hx => by
                rcases lsin a hx with z | z
                · exact n1 (qas a z.1).1
                · exact n2 z
              exact (hk a n3).trans (e15 _ _ hH)
            · by_cases z1 : a = bl5
              · rw [z1, upd_same]
                exact fun z => nomatch z
              rw [upd_ne z1]
              by_cases z2 : a = p
              · rw [z2, upd_same]
                exact fun z => nomatch z
              rw [upd_ne z2]
              by_cases hx : a ∈ ls
              · obtain ⟨k, hk'⟩ := List.mem_iff_getElem?.mp hx
                have hO' : Objs K F H' ls (news.map iD1) := by
                  rw [els, enews, List.map_append, List.map_append]
                  exact hO
                obtain ⟨r, _, w2⟩ := objs_ints hO' k a hk'
                rw [w2]
                exact fun z => nomatch z
              · obtain ⟨o, ho⟩ := some_of hH
                rw [hk a hx]
                exact ne_none (e15 _ _ ho)
            · rw [upd_ne nbg, upd_ne npg]
              exact hgK
        · cases e
      · cases e
    · cases e

/-! ### climb -/
abbrev st_Program_climb : Stmt := inClass (top 39) 5
def gs_Program_climb : Gs :=
  (gWhile (lfb (bT (cK (.bool true))))
  (gSeq (gAsg (lf (cLc [5] (iN rg1 (cCons (c2 oSub (cBor (cN oLen (cCons (cVar 1) cNil))) (cK (.int 1))) cNil)) (bNm 5) (bAnd (bV (c2 oLt (cIxO 1 (cVar 5)) (cK (.int 0)))) (bV (c2 oNotIn (cVar 5) (cVar 2)))) (cVar 5))) (bNm 3))
  (gSeq (gIf (lfb (bV (c2 oEq (cVar 3) (cLst cNil))))
  (gRet (lf (cK (.bool true))))
  gNx)
  (gSeq (gAsg (lf (shO (cMethO 0 "row_for" mm_Program_row_for (cCons (c2 oIx (cVar 3) (cK (.int 0))) cNil)))) (bNm 4))
  (gSeq (gIf (lfb (bV (c2 oIs (cVar 4) (cK .none))))
  (gRet (lf (cK (.bool false))))
  gNx)
  (gExpr (shE (methE2 0 1 "turn" mmTurn (cCons (cVar 4) (cCons (c2 oIx (cVar 3) (cK (.int 0))) cNil))))))))) 1000000000000000000000000000000)
def mm_Program_climb := runM2 6 3 gs_Program_climb
theorem sc_Program_climb : FnScope ["self", "goal", "barred", "ready", "row", "j"] ["self", "goal", "barred"] (defScope st_Program_climb) := ⟨rfl, rfl, rfl, by decide +kernel, rfl, by decide +kernel, by decide +kernel⟩
theorem ok_Program_climb {C : Addr} (TC : TxC K C) {f : Addr} {fd : FuncData} (F : Fun K "climb" "Program.climb" st_Program_climb f fd) (T : Txt mg) (m_row_for : CalM P w K mg base 1 C "row_for" (spO K mm_Program_row_for)) (m_turn : CalM P w K mg base 1 C "turn" (spM2 K C mmTurn)) : FnOk P w K mg base CX0 2 f fd ["self", "goal", "barred"] (spM2 K C mm_Program_climb) := by
  have S := sc_Program_climb
  refine okM2 (c := C) 6 3 F S rfl rfl (by decide) (g := gs_Program_climb) fun cdv A outer s H E z hz hr => ?_
  exact (s_one (s_while 1000000000000000000000000000000 (r_lfb (b_val q_bl))
  (s_cons (s_lc 3 rfl S.nd (blkOk_by (own := [("j", 5)]) (by kernel_rfl)) (sw_true rfl rfl rfl (by rfl)) (i_range1 (by rfl) T.bl_range (q_cons (q_op op_sub w_sub (q_bor fun _ => (q_callB call_len w_len (by rfl) T.bl_len bt_len (q_cons (q_var 1) q_nil))) q_int) q_nil)) (fun _ _ _ _ _ => (g_nm 5 S.nd)) (fun _ _ _ _ _ => (t_one ((b_and (b_cmp (op_ltD (hu64 hr)) w_lt (q_ixO 1 (q_var 5)) q_int (by rfl)) (b_and1 (b_cmp (op_notInA (hu65 hr)) w_notIn (q_var 5) (q_var 2) (by rfl))))).pt)) (fun _ _ _ _ _ => (q_var 5)))
  (s_cons (s_if (r_lfb (b_cmp (op_eqQ (hu64 hr)) w_eq (q_var 3) (q_lst q_nil) (by rfl)))
  (s_one (s_ret (r_lf q_bl)))
  s_nil)
  (s_cons (s_set 4 S.nd (r_lf (q_ofO (m_methO 0 hz m_row_for hr (by decide) (q_cons (q_ix ix_seq w_ix (q_var 3) q_int) q_nil)))))
  (s_cons (s_if (r_lfb (b_cmp op_isA w_is (q_var 4) q_non (by rfl)))
  (s_one (s_ret (r_lf q_bl)))
  s_nil)
  (s_one (s_expr (r_of (m_meth2 0 1 hz m_turn hr (by decide) (q_cons (q_var 4) (q_cons (q_ix ix_seq w_ix (q_var 3) q_int) q_nil)))))))))) PassesOwn.never))
/-! ### weights -/
abbrev st_Program_weights : Stmt := inClass (top 39) 7
def gs_Program_weights : Gs :=
  (gSeq (gSetW 3 (wN few (lfs cNil)))
  (gSeq (gFor (lfs (iN rg1 (cCons (cFld 0 "count") cNil))) (bNm 4)
  (gSeq (gAsg (lf (c2 oAdd (cFld 0 "wide") (cVar 4))) (bNm 5))
  (gSeq (gIf (lfb (bV (c2 oIn (c2 oAdd (c2 oAdd (cFld 0 "wide") (cFld 0 "count")) (cVar 4)) (cFld 0 "extra"))))
  (gAsg (lf (c2 oAdd (c2 oAdd (cFld 0 "wide") (cFld 0 "count")) (cVar 4))) (bNm 5))
  gNx)
  (gSeq (gAsg (lf (cN mm_reduced (cCons (c2 oAdd (cIxO 1 (cVar 5)) (c2 oMul (c2 oIx (cVar 2) (cVar 5)) (cFld 0 "bottom"))) (cCons (cFld 0 "bottom") cNil)))) (bNm 6))
  (gApp 3 (lf (cN mm_times (cCons (cVar 6) (cCons (cTup (cCons (c2 oMul (c2 oIx (cFld 0 "signs") (cVar 4)) (c2 oIx (cFld 0 "scales") (cVar 4))) (cCons (cK (.int 1)) cNil))) cNil)))))))))
  (gFz 3 (gRet (lf (cVar 3))))))
def mm_Program_weights := runM2 7 3 gs_Program_weights
theorem sc_Program_weights : FnScope ["self", "goal", "gains", "found", "i", "column", "told"] ["self", "goal", "gains"] (defScope st_Program_weights) := ⟨rfl, rfl, rfl, by decide +kernel, rfl, by decide +kernel, by decide +kernel⟩
theorem ok_Program_weights {C : Addr} (TC : TxC K C) {f : Addr} {fd : FuncData} (F : Fun K "weights" "Program.weights" st_Program_weights f fd) (T : Txt mg) (c_reduced : Cal P w K mg base 2 "reduced" (spP K mm_reduced)) (c_times : Cal P w K mg base 3 "times" (spP K mm_times)) : FnOk P w K mg base CX0 4 f fd ["self", "goal", "gains"] (spM2 K C mm_Program_weights) := by
  have S := sc_Program_weights
  refine okM2 (c := C) 7 3 F S rfl rfl (by decide) (g := gs_Program_weights) fun cdv A outer s H E z hz hr => ?_
  exact (s_cons (s_setW 3 S.nd (w_lst (r_lfs q_nil)))
  (s_cons (s_for rfl (i_lf (i_range1 (by rfl) T.bl_range (q_cons (q_fld 0) q_nil))) (g_nm 4 S.nd)
  (s_cons (s_set 5 S.nd (r_lf (q_op op_addA w_add (q_fld 0) (q_var 4))))
  (s_cons (s_if (r_lfb (b_cmp (op_inA (hu65 hr)) w_in (q_op op_addA w_add (q_op op_addA w_add (q_fld 0) (q_fld 0)) (q_var 4)) (q_fld 0) (by rfl)))
  (s_one (s_set 5 S.nd (r_lf (q_op op_addA w_add (q_op op_addA w_add (q_fld 0) (q_fld 0)) (q_var 4)))))
  s_nil)
  (s_cons (s_set 6 S.nd (r_lf (q_call c_reduced hr (by decide) (by rfl) (q_cons (q_op op_addA w_add (q_ixO 1 (q_var 5)) (q_op op_mulA w_mul (q_ix ix_seq w_ix (q_var 2) (q_var 5)) (q_fld 0))) (q_cons (q_fld 0) q_nil)))))
  (s_one (s_app 3 (r_lf (q_call c_times hr (by decide) (by rfl) (q_cons (q_var 6) (q_cons (q_tup (q_cons (q_op op_mulA w_mul (q_ix ix_seq w_ix (q_fld 0) (q_var 4)) (q_ix ix_seq w_ix (q_fld 0) (q_var 4))) (q_cons q_int q_nil))) q_nil))))))))) PassesOwn.never)
  (s_one (s_fz 3 (s_ret (r_lf (q_var 3)))))))
abbrev st_Program_drop : Stmt := inClass (top 39) 3
theorem sc_Program_drop : FnScope ["self", "row", "line", "ready", "j", "one"] ["self", "row"] (defScope st_Program_drop) := ⟨rfl, rfl, rfl, by decide +kernel, rfl, by decide +kernel, by decide +kernel⟩
theorem ok_Program_drop {C : Addr} {f : Addr} {fd : FuncData} (F : Fun K "drop" "Program.drop" st_Program_drop f fd) (T : Txt mg) (m_turn : CalM P w K mg base 1 C "turn" (spM2 K C mmTurn)) : FnOk P w K mg base CX0 2 f fd ["self", "row"] (spMx K C mmDrop) := by
  have S := sc_Program_drop
  obtain ⟨fT, fdT, psT, GT, MT, BT⟩ := m_turn.ex
  refine F.ok S (fun vs H Q E h => ?_) (fun cdv A outer s H vs Q E hr h => ?_)
  · obtain ⟨F, p, as, fs, vs', ds, fs', e1, _, _, _, r, e, _⟩ := h
    unfold mmDrop at e
    split at e
    · rw [e1, List.length_cons, r.length]; rfl
    · cases e
  · obtain ⟨F, p, as, fs, vs', ds, fs', e1, ⟨s0, t0⟩, ha, ob, r, e, q⟩ := h
    subst e1
    refine ⟨_, pss_cons (ps_set (i := 2) S.nd rfl (.inr rfl) (pe_ix ix_list (pe_fld (pv 0) rfl) (pv 1) (fun _ _ => rfl)))
      (pss_cons (v_lc (z := z0) 3 rfl S.nd (blkOk_by (own := [("j", 4)]) (by kernel_rfl)) (sw_true rfl rfl rfl (by rfl)) (i_range1 (by rfl) T.bl_range (q_cons (q_op op_addA w_add (q_fld 0) (q_fld 0)) q_nil)) (fun _ _ _ _ _ => (g_nm 4 S.nd)) (fun _ _ _ _ _ => (t_one (b_cmp (op_neQ (hu64 hr)) w_ne (q_ix ix_seq w_ix (q_var 2) (q_var 4)) q_int (by rfl)))) (fun _ _ _ _ _ => (q_var 4)))
      (pss_one (ps_if (b_cmp (z := z0) (op_neQ (hu64 hr)) w_ne (q_var 3) (q_lst q_nil) (by rfl))
        (pss_cons (ps_if (b_cmp (z := z0) (op_ltD (hu64 hr)) w_lt (q_ix ix_seq w_ix (q_var 2) (q_ix ix_seq w_ix (q_var 3) q_int)) q_int (by rfl))
            (pss_one (ps_asg (w_lc (z := z0) rfl S.nd (blkOk_by (own := [("one", 5)]) (by kernel_rfl)) (i_lf (i_seq (q_var 2))) (fun _ _ _ _ _ => (g_nm 5 S.nd)) (fun _ _ _ _ _ => t_nilR) (fun _ _ _ _ _ => (r_lf (q_un un_neg w_neg (q_var 5))))) (pg_sub (pe_fld (pv 0) rfl) (pv 1) set_list)))
            pss_nil)
          (pss_one (ps_expr (pe_meth (dvs := []) (pv 0) m_turn.cls MT GT hr BT .nil pass0 (pa_cons (w_rep (z := z0) (r_lfs (q_cons q_int q_nil)) (r_lf (q_callB call_len w_len (by rfl) T.bl_len bt_len (q_cons (q_var 2) q_nil)))) (pa_cons (pv 1) (pa_cons (q_ix (z := z0) ix_seq w_ix (q_var 3) q_int) pa_nil)))))))
        pss_nil))), ?_⟩
    have ha_ := fun a h => (ha a h).2
    unfold mmDrop at e
    split at e
    · next row =>
      cases r with
      | cons r1 r =>
      cases r
      cases r1
      split at e
      · next rows h1 =>
        split at e
        · next hc =>
          obtain ⟨line, hl, e⟩ := bind_some e
          obtain ⟨lsI, hlsI, e⟩ := bind_some e
          obtain ⟨rd, hrd, e⟩ := bind_some e
          obtain ⟨rns, hrns, e⟩ := bind_some e
          obtain ⟨t1, ht1, e⟩ := bind_some e
          obtain ⟨rn, rfl⟩ := Int.eq_ofNat_of_zero_le hc.1
          simp only [Int.toNat_natCast] at hl e
          have elsI : line = iD1 lsI := by
            split at hlsI
            · rw [intL_eq hlsI]
            · cases hlsI
          have erd : rd = iD1 rns := by
            split at hrns
            · rw [intL_eq hrns]
            · cases hrns
          subst erd
          obtain ⟨dx, xs, t, qs, p1, cl, noT, lkT, tas, tnd, tH, tO, tUp⟩ := ob.own2At h1
          obtain ⟨dx0, xs0, as', oe, oh2, oh3, oh4, oh6⟩ := id ob
          rw [p1] at oh2
          cases oh2
          obtain ⟨ql, hql, hqo⟩ := tO.get hl
          have lineR : Rep K H (.ref ql) line := hqo.rep s0
          have nqlt : ql ≠ t := fun e => (List.nodup_cons.mp tnd).1 (by rw [← e]; exact List.mem_of_getElem? hql)
          have qlas := (tas ql (List.mem_cons_of_mem _ (List.mem_of_getElem? hql))).1
          obtain ⟨m1, m2⟩ := oh6.rep s0
          have at2 : ∀ {H1 : Hp} {vr : V}, Rep K H1 (.ref ql) line → Rep K H1 vr (iD1 rns) → Rel K z0 (drEnv2 rn line (iD1 rns)) [some (.ref p), some (.int rn), some (.ref ql), some vr, none, none] H1 H1 (fun _ => []) := fun {H1 vr} w1 w2 => Rel.at0 rfl fun i e hi => by
            match i, hi with
            | 0, hi => cases hi
            | 1, hi => cases hi; exact ⟨_, rfl, rfl, .int _⟩
            | 2, hi => cases hi; exact ⟨_, rfl, rfl, w1⟩
            | 3, hi => cases hi; exact ⟨_, rfl, rfl, w2⟩
            | 4, hi => cases hi
            | 5, hi => cases hi
            | n + 6, hi => cases hi
          -- self.turn([0] * len(line), row, ready[0])
          have call : ∀ (vr : V) (F5 H5 : Hp) (fs1 : List (Str × Fd)) (as2 : List Addr) (qz : DL.E × DL.Env) (zs : List D) (r0 : D) (tr : DL.E × List (Str × Fd) × List D), Same F F5 → Same F5 H5 → AllT F5 H5 → Ob K F5 H5 C p fs1 as2 → (∀ a ∈ as2, F5 a = none ∧ H5 a ≠ none ∧ (a ∈ as ∨ H a = none)) →
              (∀ a o, a ∉ as → H a = some o → H5 a = some o) → (∀ a, H a ≠ none → H5 a ≠ none ∧ (F a = none → F5 a = none)) → fdF "turn" fs1 = none → drZero (drEnv2 rn line (iD1 rns)) = some qz → ownD qz = some zs → drFst (drEnv2 rn line (iD1 rns)) = some r0 → mmTurn fs1 zs [.int rn, r0] = some tr → tr.2.1 = fs' →
              Rep K H5 (.ref ql) line → Rep K H5 vr (iD1 rns) →
              tMeth C "turn" (spM2 K C mmTurn) [] E0 (tVar 0) (tCons (tW K z0 drZero) (tCons (tVar 1) (tCons (tP K z0 drFst) tNil))) [some (.ref p), some (.int rn), some (.ref ql), some vr, none, none] H5 (fun _ H6 => Q .non H6) := by
            intro vr F5 H5 fs1 as2 qz zs r0 tr c1 c2 c3 c4 c5 c6 c7 c8 hz hzs hr0 htr efs w1 w2
            obtain ⟨dx5, xs5, as5', e5, h25, h35, h45, h65⟩ := id c4
            obtain ⟨eq, ρq⟩ := qz
            have eqq : eq = .own (.list zs) := by
              unfold ownD at hzs
              split at hzs
              · next h => cases hzs; exact h
              · cases hzs
            subst eqq
            refine ⟨_, rfl, p, dx5, xs5, rfl, h25, fdF_none c8 h65.names, ?_⟩
            refine ⟨_, H5, fun _ => [], _, ρq, at2 w1 w2, hz, fun vg F6 H6 ag R6 k6 en6 hf6 => ?_⟩
            obtain ⟨g, g1, g2, _, wg, g3, g4⟩ := en6
            subst g1 g2
            obtain ⟨f1, f2, f3⟩ := hf6 g List.mem_cons_self
            have s56 : Same H5 H6 := k6.same.trans R6.sub
            refine ⟨_, rfl, ?_⟩
            refine ⟨_, H6, fun _ => [], r0, at2 (w1.mono s56) (w2.mono s56), hr0, fun v0 H7 s7 r7 => ?_⟩
            show spM2 K C mmTurn ([.ref p, .ref g, .int rn, v0] ++ []) H7 _ E0
            rw [List.append_nil]
            have tu := R6.tup.ext s7
            obtain ⟨b1, b2, b3, b4⟩ := back_F (F := F5) (H := H5) (F' := ext F6 H6 H7) (H' := H7) c2 c3 (k6.same.trans (same_ext R6.sub)) (ext_sub R6.sub s7) tu
            have hg6 : ext F6 H6 H7 g = none := by
              unfold ext
              obtain ⟨o, q⟩ := some_of f3
              simp [q, f2]
            have hg7 : ext F5 H5 (ext F6 H6 H7) g = none := by
              show (if (H5 g).isSome = true then F5 g else ext F6 H6 H7 g) = none
              rw [if_neg (by rw [f1]; exact Bool.false_ne_true)]
              exact hg6
            obtain ⟨et, fst, gst⟩ := tr
            have hm := htr
            unfold mmTurn at hm
            split at hm
            · next row2 col2 hds =>
              have hr : r0 = .int col2 := by
                cases hds
                rfl
              subst hr
              cases r7
              have hzi : ∃ gi : List Int, zs = gi.map PyData.int := by
                split at hm
                · obtain ⟨_, _, hm⟩ := bind_some hm
                  obtain ⟨gi, hgi, _⟩ := bind_some hm
                  exact ⟨gi, intL_eq hgi⟩
                · cases hm
              obtain ⟨gi, egi⟩ := hzi
              subst egi
              have ew := g4.ints
              subst ew
              have k57 : ∀ a, H5 a ≠ none → H7 a = H5 a := fun a h => by
                obtain ⟨o, q⟩ := some_of h
                rw [q]
                exact s7 _ _ (s56 _ _ q)
              refine ⟨_, p, as2, g, _, gi.map PyData.int, fs1, _, [.int rn, .int col2], et, fst, gst, rfl, ⟨b2, b3⟩, fun a ha => ⟨?_, ?_⟩, ⟨hg7, fun hx => (c5 g hx).2.1 f1, s7 _ _ g3, DpAll.of_ints gi⟩, c4.mono b1 (fun a ha => k57 a (c5 a ha).2.1), .cons (.int _) (.cons (.int _) .nil), htr, fun v F8 H8 ws' asv L8 ob8 _ _ _ _ => ?_⟩
              · rw [b4 a (c5 a ha).2.1]
                exact (c5 a ha).1
              · rw [k57 a (c5 a ha).2.1]
                exact (c5 a ha).2.1
              · have efs' : fst = fs' := efs
                subst efs'
                refine q F8 H8 as2 ⟨(c1.trans b1).trans L8.same, L8.sub, L8.tup, fun a o hn hH => ?_, fun a hH => L8.dom a ?_, fun a hH hF => L8.out a ?_ ?_⟩ ob8 fun a ha' => ⟨?_, ?_, (c5 a ha').2.2⟩
                · have hh := c6 a o hn hH
                  refine L8.keep a o (fun hx => ?_) (s7 _ _ (s56 _ _ hh))
                  rcases List.mem_cons.mp hx with z | z
                  · rw [z, f1] at hh
                    cases hh
                  · rcases (c5 a z).2.2 with y | y
                    · exact hn y
                    · rw [y] at hH
                      cases hH
                · rw [k57 a (c7 a hH).1]
                  exact (c7 a hH).1
                · rw [k57 a (c7 a hH).1]
                  exact (c7 a hH).1
                · rw [b4 a (c7 a hH).1]
                  exact (c7 a hH).2 hF
                · refine L8.out a ?_ ?_
                  · rw [k57 a (c5 a ha').2.1]
                    exact (c5 a ha').2.1
                  · rw [b4 a (c5 a ha').2.1]
                    exact (c5 a ha').1
                · refine L8.dom a ?_
                  rw [k57 a (c5 a ha').2.1]
                  exact (c5 a ha').2.1
            · cases hm
          -- line = self.table[row]
          refine ⟨_, rfl, p, C, dx, xs, .ref t, rfl, p1, cl, noT, lkT, _, rfl, t, _, _, .ref ql, rfl, rfl, SqL.of tH, atI_nat (by rw [List.getElem?_map, hql]; rfl), ?_⟩
          -- ready = ..
          refine ⟨drEnv fs rn line, H, fun _ => [], _, Rel.at0 rfl fun i e hi => ?_, hrd, fun vr H1 sm r1 => ?_⟩
          · match i, hi with
            | 0, hi => cases hi; exact ⟨_, rfl, rfl, p, C, dx, xs, rfl, p1, by rw [List.map_map]; exact oh3, m1, m2⟩
            | 1, hi => cases hi; exact ⟨_, rfl, rfl, .int _⟩
            | 2, hi => cases hi; exact ⟨_, rfl, rfl, lineR⟩
            | 3, hi => cases hi
            | 4, hi => cases hi
            | 5, hi => cases hi
            | n + 6, hi => cases hi
          have r1' : Rep K H1 vr (iD1 rns) := r1.mono (ext_sub (Same.refl _) sm)
          -- if ready != []
          refine ⟨_, H1, fun _ => [], t1, at2 (lineR.mono sm) r1', ht1, fun H2 s2 => ?_⟩
          have sm2 := sm.trans s2
          cases t1 with
          | false =>
            rw [if_neg Bool.false_ne_true] at e
            cases e
            change ite _ _ _
            rw [if_neg Bool.false_ne_true]
            have b := same_ext s0 (H' := H2)
            have hk : ∀ a ∈ as, H2 a = H a := fun a h => by
              obtain ⟨o, q⟩ := some_of (ha_ a h)
              rw [q]
              exact sm2 _ _ q
            refine q (ext F H H2) H2 as ⟨b, ext_sub s0 sm2, t0.ext sm2, fun a o _ h => sm2 _ _ h, fun a h => ?_, fun a h f => ?_⟩ (ob.mono b hk) fun a h => ⟨?_, ?_, .inl h⟩
            · obtain ⟨o, q⟩ := some_of h
              exact ne_none (sm2 _ _ q)
            · exact (Kp.of_same (O := fun _ => []) s0 sm2).out a h f
            · exact (Kp.of_same (O := fun _ => []) s0 sm2).out a (ha_ a h) (ha a h).1
            · rw [hk a h]
              exact ha_ a h
          | true =>
            rw [if_pos rfl] at e
            change ite _ _ _
            rw [if_pos rfl]
            obtain ⟨t2, ht2, e⟩ := bind_some e
            obtain ⟨fs1, hfs1, e⟩ := bind_some e
            obtain ⟨qz, hz, e⟩ := bind_some e
            obtain ⟨zs, hzs, e⟩ := bind_some e
            obtain ⟨r0, hr0, e⟩ := bind_some e
            obtain ⟨tr, htr, efs⟩ := map_some e
            have sm2' := sm2
            refine ⟨_, H2, fun _ => [], t2, at2 (lineR.mono sm2) (r1'.mono s2), ht2, fun H3 s3 => ?_⟩
            have sm3 := sm2.trans s3
            have hk3 : ∀ a, H a ≠ none → H3 a = H a := fun a h => by
              obtain ⟨o, q⟩ := some_of h
              rw [q]
              exact sm3 _ _ q
            cases t2 with
            | false =>
              change ite _ _ _
              rw [if_neg Bool.false_ne_true]
              unfold drTab at hfs1
              rw [if_neg Bool.false_ne_true] at hfs1
              cases hfs1
              refine call vr (ext F H H3) H3 fs as qz zs r0 tr (same_ext s0) (ext_sub s0 sm3) (t0.ext sm3) (ob.mono (same_ext s0) fun a h => hk3 a (ha_ a h)) (fun a h => ⟨(Kp.of_same (O := fun _ => []) s0 sm3).out a (ha_ a h) (ha a h).1, by rw [hk3 a (ha_ a h)]; exact ha_ a h, .inl h⟩) (fun a o _ h => sm3 _ _ h) (fun a h => ⟨by rw [hk3 a h]; exact h, fun f => (Kp.of_same (O := fun _ => []) s0 sm3).out a h f⟩) hc.2 hz hzs hr0 htr efs (lineR.mono sm3) ((r1'.mono s2).mono s3)
            | true =>
              change ite _ _ _
              rw [if_pos rfl]
              unfold drTab at hfs1
              rw [if_pos rfl] at hfs1
              obtain ⟨⟨en, ρn⟩, hn, hfs1⟩ := bind_some hfs1
              obtain ⟨es, hes, efs1⟩ := map_some hfs1
              have een : en = .own (.list es) := by
                unfold ownD at hes
                split at hes
                · next h => cases hes; exact h
                · cases hes
              subst een efs1
              -- self.table[row] = [-one for one in line]
              refine ⟨_, H3, fun _ => [], _, ρn, at2 (lineR.mono sm3) ((r1'.mono s2).mono s3), hn, fun vn F4 H4 an R4 k4 en4 hf4 => ?_⟩
              obtain ⟨qn, g1, g2, _, wn, g3, g4⟩ := en4
              subst g1 g2
              obtain ⟨f1, f2, f3⟩ := hf4 qn List.mem_cons_self
              have s34 : Same H3 H4 := k4.same.trans R4.sub
              have sm4 := sm3.trans s34
              have hk4 : ∀ a, H a ≠ none → H4 a = H a := fun a h => by
                obtain ⟨o, q⟩ := some_of h
                rw [q]
                exact sm4 _ _ q
              have hqn0 : H qn = none := by
                cases y : H qn with
                | none => rfl
                | some o =>
                  rw [sm3 _ _ y] at f1
                  cases f1
              have nqn : qn ∉ as := fun hx => ha_ qn hx hqn0
              have tasm := (tas t List.mem_cons_self).1
              refine ⟨_, rfl, p, C, dx, xs, .ref t, rfl, sm4 _ _ p1, cl, noT, lkT, _, rfl, t, _, _, rn, rfl, rfl, sm4 _ _ tH, ixN_of (by rw [List.length_map]; exact (List.getElem?_eq_some_iff.mp hql).1), ?_⟩
              obtain ⟨b1, b2, b3, b4⟩ := back_F s0 t0 (sm3.trans k4.same) R4.sub R4.tup
              have hqnF : ext F H F4 qn = none := by
                unfold ext
                simp [hqn0, f2]
              have hFt : ext F H F4 t = none := by
                rw [b4 t (ha_ t tasm)]
                exact (ha t tasm).1
              have nqnt : qn ≠ t := fun e => nqn (e ▸ tasm)
              have ob4 := ob.mono b1 (H' := H4) fun a h => hk4 a (ha_ a h)
              have eset : (qs.map V.ref).set rn (V.ref qn) = (qs.set rn qn).map V.ref := by rw [List.map_set]
              rw [eset]
              -- what is new is a list of ints
              have wns : ∃ ns : List Int, es = ns.map PyData.int := by
                have hm := htr
                unfold mmTurn at hm
                split at hm
                · split at hm
                  · next rows' b' bs' q1 q2 q3 =>
                    obtain ⟨TT, hT, _⟩ := bind_some hm
                    have e1 : fdF "table" (setFd "table" (.own2 (.list (rows.set rn (.list es)))) fs) = some (.own2 (.list (rows.set rn (.list es)))) := fdF_set h1
                    rw [e1] at q1
                    cases q1
                    have e2 := intLL_eq hT
                    have e3 : (rows.set rn (.list es))[rn]? = some (.list es) := List.getElem?_set_self (List.getElem?_eq_some_iff.mp hl).1
                    rw [e2, List.getElem?_map] at e3
                    obtain ⟨r, _, e4⟩ := map_some e3
                    cases e4
                    exact ⟨r, rfl⟩
                  · cases hm
                · cases hm
              obtain ⟨ns, ens⟩ := wns
              subst ens
              have ewn := g4.ints
              subst ewn
              obtain ⟨as2, ob5, has2⟩ := ob4.own2Row (H' := upd H4 t (.lst ((qs.set rn qn).map V.ref))) (j := rn) (q' := qn) (d := .list (ns.map PyData.int)) (sm4 _ _ p1) h1 lkT (sm4 _ _ tH) nqn (fun a _ hn => upd_ne hn) upd_same ⟨_, (upd_ne nqnt).trans g3, DpAll.of_ints ns⟩
              obtain ⟨q0, us0, eq0⟩ : ∃ q0 us, qs.map V.ref = V.ref q0 :: us := by
                cases qs with
                | nil => cases hql
                | cons a l => exact ⟨a, _, rfl⟩
              have htH4 : H4 t = some (.lst (V.ref q0 :: us0)) := by rw [sm4 _ _ tH, eq0]
              have lineR4 := lineR.mono sm4
              refine call vr (ext F H F4) _ _ as2 qz zs r0 tr b1 (DL.Same.upd2 b2 hFt) (b3.up (by intro _ q; cases q)) ob5 (fun a h => ?_) (fun a o hn hH => ?_) (fun a h => ⟨?_, fun f => ?_⟩) ?_ hz hzs hr0 htr efs ?_ (rep_up (((r1'.mono s2).mono s3).mono s34) htH4)
              · rcases has2 a h with z | z
                · refine ⟨?_, ?_, .inl z⟩
                  · rw [b4 a (ha_ a z)]
                    exact (ha a z).1
                  · by_cases y : a = t
                    · rw [y, upd_same]
                      exact fun z => nomatch z
                    · rw [upd_ne y, hk4 a (ha_ a z)]
                      exact ha_ a z
                · rw [z]
                  refine ⟨hqnF, ?_, .inr hqn0⟩
                  rw [upd_ne nqnt]
                  exact f3
              · rw [upd_ne (fun e => hn (by rw [e]; exact tasm))]
                exact sm4 _ _ hH
              · by_cases y : a = t
                · rw [y, upd_same]
                  exact fun z => nomatch z
                · rw [upd_ne y, hk4 a h]
                  exact h
              · rw [b4 a h]
                exact f
              · rw [fdF_setFd (by decide +kernel)]
                exact hc.2
              · rw [elsI] at lineR4 ⊢
                exact rep_up lineR4 htH4
        · cases e
      · cases e
    · cases e

/-! ### solve -/
abbrev st_solve : Stmt := top 40
def gs_solve : Gs :=
  (gSeq (gSetW 4 (wMake mm_Program___init__ (cCons (cVar 0) (cCons (cVar 1) (cCons (cVar 3) cNil)))))
  (gSeq (gFzF 4 "scales" (gFzF 4 "signs" (gFzF 4 "extra" (gAsg (lf (c2 oAdd (cFld 4 "wide") (c2 oMul (cK (.int 2)) (cFld 4 "count")))) (bNm 5)))))
  (gSeq (gAsg (lf (cLc [14] (iN rg1 (cCons (cVar 5) cNil)) (bNm 14) bYes (cIf (bV (c2 oIn (cVar 14) (cFld 4 "extra"))) (c1 oNeg (cK (.int 1))) (cK (.int 0))))) (bNm 6))
  (gSeq (gSetW 7 (wO (cMethO 4 "goal_line" mm_Program_goal_line (cCons (cVar 6) cNil))))
  (gSeq (gExpr (shE (methE2 4 7 "climb" mm_Program_climb (cCons (cLst cNil) cNil))))
  (gSeq (gIf (lfb (bV (c2 oLt (cIxO 7 (c1 oNeg (cK (.int 1)))) (cK (.int 0)))))
  (gRet (rN dTup (rCons (lf (cK (.str "none"))) (rCons (lf (cK .none)) (rCons (lf (cK .none)) (rCons (shE (methE2 4 7 "weights" mm_Program_weights (cCons (cVar 6) cNil))) rNil))))))
  gNx)
  (gSeq (gAsg (lf (cN mm_spread (cCons (cVar 2) cNil))) (bNm 8))
  (gSeq (gAsg (lf (c2 oAdd (cLc [15] (iS (cVar 2)) (bNm 15) bYes (c2 oMul (c2 oIx (cVar 15) (cK (.int 0))) (c2 oDiv (cVar 8) (c2 oIx (cVar 15) (cK (.int 1)))))) (cRep (cCons (cK (.int 0)) cNil) (c2 oMul (cK (.int 2)) (cFld 4 "count"))))) (bNm 9))
  (gSeq (gFor (lfs (iN rg1 (cCons (cFld 4 "count") cNil))) (bNm 10)
  (gIf (lfb (bV (c2 oIn (cBor (c2 oIx (cFld 4 "basis") (cVar 10))) (cFld 4 "extra"))))
  (gMethX 4 "drop" mmDrop (cCons (cVar 10) cNil))
  gNx))
  (gSeq (gSetW 7 (wO (cMethO 4 "goal_line" mm_Program_goal_line (cCons (cVar 9) cNil))))
  (gSeq (gIf (bNotR (bTR (shE (methE2 4 7 "climb" mm_Program_climb (cCons (cFld 4 "extra") cNil)))))
  (gRet (lf (cTup (cCons (cK (.str "free")) (cCons (cK .none) (cCons (cK .none) (cCons (cK .none) cNil)))))))
  gNx)
  (gSeq (gSetW 11 (wRep (lfs (cCons (cTup (cCons (cK (.int 0)) (cCons (cK (.int 1)) cNil))) cNil)) (lf (cFld 4 "wide"))))
  (gSeq (gFzF 4 "basis" (gFor (lfs (iN en1 (cCons (cFld 4 "basis") cNil))) (bTp 2 (bCons (bNm 10) (bCons (bNm 12) bNil)))
  (gIf (lfb (bV (c2 oLt (cVar 12) (cFld 4 "wide"))))
  (gSetI 11 (lf (cN mm_reduced (cCons (cBor (c2 oIx (c2 oIx (cFld 4 "table") (cVar 10)) (c1 oNeg (cK (.int 1))))) (cCons (cFld 4 "bottom") cNil)))) (lf (cVar 12)))
  gNx)))
  (gSeq (gAsg (cLcR [15] (iSR (shE (methE2 4 7 "weights" mm_Program_weights (cCons (cVar 9) cNil)))) (bNm 15) bYesR (lf (cN mm_times (cCons (cVar 15) (cCons (cTup (cCons (cK (.int 1)) (cCons (cVar 8) cNil))) cNil))))) (bNm 13))
  (gFz 11 (gRet (lf (cTup (cCons (cK (.str "best")) (cCons (cN mm_reduced (cCons (cIxO 7 (c1 oNeg (cK (.int 1)))) (cCons (c2 oMul (cFld 4 "bottom") (cVar 8)) cNil))) (cCons (cVar 11) (cCons (cVar 13) cNil))))))))))))))))))))))
def mm_solve := run 16 4 gs_solve
theorem sc_solve : FnScope ["rows", "limits", "gains", "ties", "work", "size", "first", "goal", "scale", "second", "i", "amounts", "column", "weights", "j", "one"] ["rows", "limits", "gains", "ties"] (defScope st_solve) := ⟨rfl, rfl, rfl, by decide +kernel, rfl, by decide +kernel, by decide +kernel⟩
theorem ok_solve {C : Addr} (TC : TxC K C) {f : Addr} {fd : FuncData} (F : Fun K "solve" "solve" st_solve f fd) (T : Txt mg) (c_spread : Cal P w K mg base 2 "spread" (spP K mm_spread)) (c_reduced : Cal P w K mg base 2 "reduced" (spP K mm_reduced)) (c_times : Cal P w K mg base 3 "times" (spP K mm_times)) {f_Program : Addr} {fd_Program : FuncData} (M_Program : Mk K C f_Program) (G_Program : FnOk P w K mg base CX0 3 f_Program fd_Program ["self", "rows", "limits", "ties"] (spMx K C mm_Program___init__)) (B_Program : Binds K fd_Program ["self", "rows", "limits", "ties"] []) (mg_Program : mg "Program" = some (.ref C)) (m_goal_line : CalM P w K mg base 1 C "goal_line" (spO K mm_Program_goal_line)) (m_climb : CalM P w K mg base 2 C "climb" (spM2 K C mm_Program_climb)) (m_weights : CalM P w K mg base 4 C "weights" (spM2 K C mm_Program_weights)) (m_drop : CalM P w K mg base 2 C "drop" (spMx K C mmDrop)) : FnOk P w K mg base CX0 5 f fd ["rows", "limits", "gains", "ties"] (spP K mm_solve) := by
  have S := sc_solve
  refine okPc (c := C) 16 4 F S rfl rfl (g := gs_solve) fun cdv A outer s H E z hz hr => ?_
  exact (s_cons (s_setW 4 S.nd (w_make hz TC.cl M_Program G_Program B_Program hr (by decide) (by rfl) mg_Program (q_cons (q_var 0) (q_cons (q_var 1) (q_cons (q_var 3) q_nil)))))
  (s_cons (s_fzF 4 "scales" (s_fzF 4 "signs" (s_fzF 4 "extra" (s_set 5 S.nd (r_lf (q_op op_addA w_add (q_fld 4) (q_op op_mulA w_mul q_int (q_fld 4))))))))
  (s_cons (s_lc 6 rfl S.nd (blkOk_by (own := [("j", 14)]) (by kernel_rfl)) (sw_true rfl rfl rfl (by rfl)) (i_range1 (by rfl) T.bl_range (q_cons (q_var 5) q_nil)) (fun _ _ _ _ _ => (g_nm 14 S.nd)) (fun _ _ _ _ _ => t_nil) (fun _ _ _ _ _ => (q_if (b_cmp (op_inA (hu65 hr)) w_in (q_var 14) (q_fld 4) (by rfl)) (q_un un_neg w_neg q_int) q_int)))
  (s_cons (s_setW 7 S.nd (w_ofO (m_methO 4 hz m_goal_line hr (by decide) (q_cons (q_var 6) q_nil))))
  (s_cons (s_expr (r_of (m_meth2 4 7 hz m_climb hr (by decide) (q_cons (q_lst q_nil) q_nil))))
  (s_cons (s_if (r_lfb (b_cmp (op_ltD (hu64 hr)) w_lt (q_ixO 7 (q_un un_neg w_neg q_int)) q_int (by rfl)))
  (s_one (s_ret (r_tup (r_cons (r_lf q_str) (r_cons (r_lf q_non) (r_cons (r_lf q_non) (r_cons (r_of (m_meth2 4 7 hz m_weights hr (by decide) (q_cons (q_var 6) q_nil))) r_nil)))))))
  s_nil)
  (s_cons (s_set 8 S.nd (r_lf (q_call c_spread hr (by decide) (by rfl) (q_cons (q_var 2) q_nil))))
  (s_cons (s_set 9 S.nd (r_lf (q_op op_addA w_add (q_lc rfl S.nd (blkOk_by (own := [("one", 15)]) (by kernel_rfl)) (i_seq (q_var 2)) (fun _ _ _ _ _ => (g_nm 15 S.nd)) (fun _ _ _ _ _ => t_nil) (fun _ _ _ _ _ => (q_op op_mulA w_mul (q_ix ix_seq w_ix (q_var 15) q_int) (q_op DL.op_fdivW w_div (q_var 8) (q_ix ix_seq w_ix (q_var 15) q_int))))) (q_rep (q_cons q_int q_nil) (q_op op_mulA w_mul q_int (q_fld 4))))))
  (s_cons (s_for rfl (i_lf (i_range1 (by rfl) T.bl_range (q_cons (q_fld 4) q_nil))) (g_nm 10 S.nd)
  (s_one (s_if (r_lfb (b_cmp (op_inA (hu65 hr)) w_in (q_bor fun _ => (q_ix ix_seq w_ix (q_fld 4) (q_var 10))) (q_fld 4) (by rfl)))
  (s_one (s_methX 4 hz m_drop hr (by decide) (q_cons (q_var 10) q_nil)))
  s_nil)) PassesOwn.never)
  (s_cons (s_setW 7 S.nd (w_ofO (m_methO 4 hz m_goal_line hr (by decide) (q_cons (q_var 9) q_nil))))
  (s_cons (s_if (b_notR (b_valR (r_of (m_meth2 4 7 hz m_climb hr (by decide) (q_cons (q_fld 4) q_nil)))))
  (s_one (s_ret (r_lf (q_tup (q_cons q_str (q_cons q_non (q_cons q_non (q_cons q_non q_nil))))))))
  s_nil)
  (s_cons (s_setW 11 S.nd (w_rep (r_lfs (q_cons (q_tup (q_cons q_int (q_cons q_int q_nil))) q_nil)) (r_lf (q_fld 4))))
  (s_cons (s_fzF 4 "basis" (s_for rfl (i_lf (i_enum (by rfl) T.bl_enumerate (q_cons (q_fld 4) q_nil))) (g_tup rfl (g_cons (g_nm 10 S.nd) (g_cons (g_nm 12 S.nd) g_nil)))
  (s_one (s_if (r_lfb (b_cmp (op_ltD (hu64 hr)) w_lt (q_var 12) (q_fld 4) (by rfl)))
  (s_one (s_setI 11 (r_lf (q_call c_reduced hr (by decide) (by rfl) (q_cons (q_bor fun _ => (q_ix ix_seq w_ix (q_ix ix_seq w_ix (q_fld 4) (q_var 10)) (q_un un_neg w_neg q_int))) (q_cons (q_fld 4) q_nil)))) (r_lf (q_var 12))))
  s_nil)) PassesOwn.never))
  (s_cons (s_lcR 13 rfl S.nd (blkOk_by (own := [("one", 15)]) (by kernel_rfl)) (sw_true rfl rfl rfl (by rfl)) (i_seqR (r_of (m_meth2 4 7 hz m_weights hr (by decide) (q_cons (q_var 9) q_nil)))) (fun _ _ _ _ _ => (g_nm 15 S.nd)) (fun _ _ _ _ _ => t_nilR) (fun _ _ _ _ _ => (r_lf (q_call c_times hr (by decide) (by rfl) (q_cons (q_var 15) (q_cons (q_tup (q_cons q_int (q_cons (q_var 8) q_nil))) q_nil))))))
  (s_one (s_fz 11 (s_ret (r_lf (q_tup (q_cons q_str (q_cons (q_call c_reduced hr (by decide) (by rfl) (q_cons (q_ixO 7 (q_un un_neg w_neg q_int)) (q_cons (q_op op_mulA w_mul (q_fld 4) (q_var 8)) q_nil))) (q_cons (q_var 11) (q_cons (q_var 13) q_nil)))))))))))))))))))))))
/-! ### plan -/
abbrev st_plan_68 : Stmt := top 68
def gs_plan_68 : Gs :=
  (gSeq (gPar2 3 4 (wsh (lf (cN mm_table_of (cCons (cVar 0) cNil)))) (wsh (lf (cN oLen (cCons (cVar 1) cNil)))))
  (gSeq (gAsg (lf (c2 oMul (cN oLen (cCons (c2 oIx (cVar 0) (cK (.int 0))) cNil)) (cVar 4))) (bNm 5))
  (gSeq (gSetW 6 (wN few (lfs cNil)))
  (gSeq (gFor (lfs (iN rg1 (cCons (cN oLen (cCons (c2 oIx (cVar 0) (cK (.int 0))) cNil)) cNil))) (bNm 7)
  (gApp 6 (lf (cLc [11] (iN rg1 (cCons (cVar 5) cNil)) (bNm 11) bYes (cTup (cCons (cN oInt (cCons (c2 oEq (c2 oDiv (cVar 11) (cVar 4)) (cVar 7)) cNil)) (cCons (cK (.int 1)) cNil)))))))
  (gSeq (gFor (lfs (iN rg1 (cCons (cVar 4) cNil))) (bNm 8)
  (gApp 6 (lf (cLc [11] (iN rg1 (cCons (cVar 5) cNil)) (bNm 11) bYes (cTup (cCons (cN oInt (cCons (c2 oEq (c2 oMod (cVar 11) (cVar 4)) (cVar 8)) cNil)) (cCons (cK (.int 1)) cNil)))))))
  (gSeq (gAsg (lf (c2 oAdd (cLc [12] (iS (c2 oIx (cVar 0) (cK (.int 0)))) (bNm 12) bYes (cTup (cCons (cVar 12) (cCons (cK (.int 1)) cNil)))) (cLc [12] (iS (cVar 2)) (bNm 12) bYes (cTup (cCons (cVar 12) (cCons (cK (.int 1)) cNil)))))) (bNm 9))
  (gSeq (gAsg (lf (cLc [11] (iN rg1 (cCons (cVar 5) cNil)) (bNm 11) bYes (cTup (cCons (c1 oNeg (c2 oIx (c2 oIx (cVar 3) (c2 oDiv (cVar 11) (cVar 4))) (c2 oIx (cVar 1) (c2 oMod (cVar 11) (cVar 4))))) (cCons (cK (.int 1)) cNil))))) (bNm 10))
  (gFz 6 (gRet (lf (cN mm_solve (cCons (cVar 6) (cCons (cVar 9) (cCons (cVar 10) (cCons (cListRg (cRg1 (cN oLen (cCons (c2 oIx (cVar 0) (cK (.int 0))) cNil)))) cNil)))))))))))))))
def mm_plan_68 := run 13 3 gs_plan_68
theorem sc_plan_68 : FnScope ["web", "houses", "rooms", "table", "wide", "size", "rows", "k", "at", "limits", "gains", "j", "one"] ["web", "houses", "rooms"] (defScope st_plan_68) := ⟨rfl, rfl, rfl, by decide +kernel, rfl, by decide +kernel, by decide +kernel⟩
theorem ok_plan_68 {f : Addr} {fd : FuncData} (F : Fun K "plan" "plan" st_plan_68 f fd) (T : Txt mg) (c_table_of : Cal P w K mg base 1 "table_of" (spP K mm_table_of)) (c_solve : Cal P w K mg base 5 "solve" (spP K mm_solve)) : FnOk P w K mg base CX0 6 f fd ["web", "houses", "rooms"] (spP K mm_plan_68) := by
  have S := sc_plan_68
  refine okP 13 3 F S rfl rfl (g := gs_plan_68) fun cdv A outer s H E z hr => ?_
  exact (s_cons (s_tup2 3 4 rfl S.nd (w_sh (r_lf (q_call c_table_of hr (by decide) (by rfl) (q_cons (q_var 0) q_nil)))) (w_sh (r_lf (q_callB call_len w_len (by rfl) T.bl_len bt_len (q_cons (q_var 1) q_nil)))))
  (s_cons (s_set 5 S.nd (r_lf (q_op op_mulA w_mul (q_callB call_len w_len (by rfl) T.bl_len bt_len (q_cons (q_ix ix_seq w_ix (q_var 0) q_int) q_nil)) (q_var 4))))
  (s_cons (s_setW 6 S.nd (w_lst (r_lfs q_nil)))
  (s_cons (s_for rfl (i_lf (i_range1 (by rfl) T.bl_range (q_cons (q_callB call_len w_len (by rfl) T.bl_len bt_len (q_cons (q_ix ix_seq w_ix (q_var 0) q_int) q_nil)) q_nil))) (g_nm 7 S.nd)
  (s_one (s_app 6 (r_lf (q_lc rfl S.nd (blkOk_by (own := [("j", 11)]) (by kernel_rfl)) (i_range1 (by rfl) T.bl_range (q_cons (q_var 5) q_nil)) (fun _ _ _ _ _ => (g_nm 11 S.nd)) (fun _ _ _ _ _ => t_nil) (fun _ _ _ _ _ => (q_tup (q_cons (q_callTy call_int1 w_int (by rfl) T.bl_int bt_int (q_cons (q_cmp (op_eqQ (hu64 hr)) w_eq (q_op DL.op_fdivW w_div (q_var 11) (q_var 4)) (q_var 7) (by rfl)) q_nil)) (q_cons q_int q_nil)))))))) PassesOwn.never)
  (s_cons (s_for rfl (i_lf (i_range1 (by rfl) T.bl_range (q_cons (q_var 4) q_nil))) (g_nm 8 S.nd)
  (s_one (s_app 6 (r_lf (q_lc rfl S.nd (blkOk_by (own := [("j", 11)]) (by kernel_rfl)) (i_range1 (by rfl) T.bl_range (q_cons (q_var 5) q_nil)) (fun _ _ _ _ _ => (g_nm 11 S.nd)) (fun _ _ _ _ _ => t_nil) (fun _ _ _ _ _ => (q_tup (q_cons (q_callTy call_int1 w_int (by rfl) T.bl_int bt_int (q_cons (q_cmp (op_eqQ (hu64 hr)) w_eq (q_op op_modN w_mod (q_var 11) (q_var 4)) (q_var 8) (by rfl)) q_nil)) (q_cons q_int q_nil)))))))) PassesOwn.never)
  (s_cons (s_set 9 S.nd (r_lf (q_op op_addA w_add (q_lc rfl S.nd (blkOk_by (own := [("one", 12)]) (by kernel_rfl)) (i_seq (q_ix ix_seq w_ix (q_var 0) q_int)) (fun _ _ _ _ _ => (g_nm 12 S.nd)) (fun _ _ _ _ _ => t_nil) (fun _ _ _ _ _ => (q_tup (q_cons (q_var 12) (q_cons q_int q_nil))))) (q_lc rfl S.nd (blkOk_by (own := [("one", 12)]) (by kernel_rfl)) (i_seq (q_var 2)) (fun _ _ _ _ _ => (g_nm 12 S.nd)) (fun _ _ _ _ _ => t_nil) (fun _ _ _ _ _ => (q_tup (q_cons (q_var 12) (q_cons q_int q_nil))))))))
  (s_cons (s_lc 10 rfl S.nd (blkOk_by (own := [("j", 11)]) (by kernel_rfl)) (sw_true rfl rfl rfl (by rfl)) (i_range1 (by rfl) T.bl_range (q_cons (q_var 5) q_nil)) (fun _ _ _ _ _ => (g_nm 11 S.nd)) (fun _ _ _ _ _ => t_nil) (fun _ _ _ _ _ => (q_tup (q_cons (q_un un_neg w_neg (q_ix ix_seq w_ix (q_ix ix_seq w_ix (q_var 3) (q_op DL.op_fdivW w_div (q_var 11) (q_var 4))) (q_ix ix_seq w_ix (q_var 1) (q_op op_modN w_mod (q_var 11) (q_var 4))))) (q_cons q_int q_nil)))))
  (s_one (s_fz 6 (s_ret (r_lf (q_call c_solve hr (by decide) (by rfl) (q_cons (q_var 6) (q_cons (q_var 9) (q_cons (q_var 10) (q_cons (q_listRg rfl (by rfl) T.bl_list (q_rg1 (by rfl) T.bl_range (q_callB call_len w_len (by rfl) T.bl_len bt_len (q_cons (q_ix ix_seq w_ix (q_var 0) q_int) q_nil)))) q_nil))))))))))))))))
/-! ### serving -/
abbrev st_serving : Stmt := top 70
def gs_serving : Gs :=
  (gSeq (gExpr (lf (cN mm_need_rooms (cCons (cVar 0) (cCons (cVar 1) (cCons (cVar 2) cNil))))))
  (gSeq (gIf (lfb (bV (c2 oLt (cN oSum (cCons (cVar 2) cNil)) (cN oSum (cCons (c2 oIx (cVar 0) (cK (.int 0))) cNil)))))
  (gRet (lf (cK .none)))
  gNx)
  (gSeq (gAsg (lf (cN mm_plan_68 (cCons (cVar 0) (cCons (cVar 1) (cCons (cVar 2) cNil))))) (bTp 4 (bCons (bNm 3) (bCons (bNm 4) (bCons (bNm 5) (bCons (bNm 6) bNil))))))
  (gSeq (gAsg (lf (cN oLen (cCons (cVar 1) cNil))) (bNm 7))
  (gSeq (gAsg (lf (cLc [9] (iS (cVar 5)) (bNm 9) bYes (c2 oIx (cVar 9) (cK (.int 0))))) (bNm 8))
  (gRet (lf (cTup (cCons (c1 oNeg (c2 oIx (cVar 4) (cK (.int 0)))) (cCons (cN oTuple (cCons (cLc [10] (iN rg1 (cCons (cN oLen (cCons (c2 oIx (cVar 0) (cK (.int 0))) cNil)) cNil)) (bNm 10) bYes (cN oTuple (cCons (cSl (cVar 8) (cPart (c2 oMul (cVar 10) (cVar 7))) (cPart (c2 oMul (c2 oAdd (cVar 10) (cK (.int 1))) (cVar 7)))) cNil))) cNil)) cNil))))))))))
def mm_serving := run 11 3 gs_serving
theorem sc_serving : FnScope ["web", "houses", "rooms", "kind", "value", "amounts", "weights", "wide", "parts", "one", "k"] ["web", "houses", "rooms"] (defScope st_serving) := ⟨rfl, rfl, rfl, by decide +kernel, rfl, by decide +kernel, by decide +kernel⟩
theorem ok_serving {f : Addr} {fd : FuncData} (F : Fun K "serving" "serving" st_serving f fd) (T : Txt mg) (c_need_rooms : Cal P w K mg base 5 "need_rooms" (spP K mm_need_rooms)) (c_plan_rooming : Cal P w K mg base 6 "plan_rooming" (spP K mm_plan_68)) : FnOk P w K mg base CX0 7 f fd ["web", "houses", "rooms"] (spP K mm_serving) := by
  have S := sc_serving
  refine okP 11 3 F S rfl rfl (g := gs_serving) fun cdv A outer s H E z hr => ?_
  exact (s_cons (s_expr (r_lf (q_call c_need_rooms hr (by decide) (by rfl) (q_cons (q_var 0) (q_cons (q_var 1) (q_cons (q_var 2) q_nil))))))
  (s_cons (s_if (r_lfb (b_cmp (op_ltD (hu64 hr)) w_lt (q_callB (cr_sumA rfl) w_sum (by rfl) T.bl_sum bt_sum (q_cons (q_var 2) q_nil)) (q_callB (cr_sumA rfl) w_sum (by rfl) T.bl_sum bt_sum (q_cons (q_ix ix_seq w_ix (q_var 0) q_int) q_nil)) (by rfl)))
  (s_one (s_ret (r_lf q_non)))
  s_nil)
  (s_cons (s_asg (r_lf (q_call c_plan_rooming hr (by decide) (by rfl) (q_cons (q_var 0) (q_cons (q_var 1) (q_cons (q_var 2) q_nil))))) (g_tup rfl (g_cons (g_nm 3 S.nd) (g_cons (g_nm 4 S.nd) (g_cons (g_nm 5 S.nd) (g_cons (g_nm 6 S.nd) g_nil))))))
  (s_cons (s_set 7 S.nd (r_lf (q_callB call_len w_len (by rfl) T.bl_len bt_len (q_cons (q_var 1) q_nil))))
  (s_cons (s_set 8 S.nd (r_lf (q_lc rfl S.nd (blkOk_by (own := [("one", 9)]) (by kernel_rfl)) (i_seq (q_var 5)) (fun _ _ _ _ _ => (g_nm 9 S.nd)) (fun _ _ _ _ _ => t_nil) (fun _ _ _ _ _ => (q_ix ix_seq w_ix (q_var 9) q_int)))))
  (s_one (s_ret (r_lf (q_tup (q_cons (q_un un_neg w_neg (q_ix ix_seq w_ix (q_var 4) q_int)) (q_cons (q_callTy call_tuple_of w_tuple (by rfl) T.bl_tuple bt_tuple (q_cons (q_lc rfl S.nd (blkOk_by (own := [("k", 10)]) (by kernel_rfl)) (i_range1 (by rfl) T.bl_range (q_cons (q_callB call_len w_len (by rfl) T.bl_len bt_len (q_cons (q_ix ix_seq w_ix (q_var 0) q_int) q_nil)) q_nil)) (fun _ _ _ _ _ => (g_nm 10 S.nd)) (fun _ _ _ _ _ => t_nil) (fun _ _ _ _ _ => (q_callTy call_tuple_of w_tuple (by rfl) T.bl_tuple bt_tuple (q_cons (q_slice (q_var 8) (q_part (q_op op_mulA w_mul (q_var 10) (q_var 7))) (q_part (q_op op_mulA w_mul (q_op op_addA w_add (q_var 10) q_int) (q_var 7)))) q_nil)))) q_nil)) q_nil)))))))))))
/-! ### room_prices -/
abbrev st_room_prices : Stmt := top 72
def gs_room_prices : Gs :=
  (gSeq (gExpr (lf (cN mm_need_rooms (cCons (cVar 0) (cCons (cVar 1) (cCons (cVar 2) cNil))))))
  (gSeq (gIf (lfb (bV (c2 oLt (cN oSum (cCons (cVar 2) cNil)) (cN oSum (cCons (c2 oIx (cVar 0) (cK (.int 0))) cNil)))))
  (gRet (lf (cK .none)))
  gNx)
  (gSeq (gAsg (lf (c2 oIx (cN mm_plan_68 (cCons (cVar 0) (cCons (cVar 1) (cCons (cVar 2) cNil)))) (cK (.int 3)))) (bNm 3))
  (gSeq (gAsg (lf (cN oLen (cCons (c2 oIx (cVar 0) (cK (.int 0))) cNil))) (bNm 4))
  (gRet (lf (cTup (cCons (cN oTuple (cCons (cLc [5] (iS (cSl (cVar 3) cNoPart (cPart (cVar 4)))) (bNm 5) bYes (c1 oNeg (c2 oIx (cVar 5) (cK (.int 0))))) cNil)) (cCons (cN oTuple (cCons (cLc [5] (iS (cSl (cVar 3) (cPart (cVar 4)) cNoPart)) (bNm 5) bYes (c2 oIx (cVar 5) (cK (.int 0)))) cNil)) cNil)))))))))
def mm_room_prices := run 6 3 gs_room_prices
theorem sc_room_prices : FnScope ["web", "houses", "rooms", "weights", "count", "one"] ["web", "houses", "rooms"] (defScope st_room_prices) := ⟨rfl, rfl, rfl, by decide +kernel, rfl, by decide +kernel, by decide +kernel⟩
theorem ok_room_prices {f : Addr} {fd : FuncData} (F : Fun K "room_prices" "room_prices" st_room_prices f fd) (T : Txt mg) (c_need_rooms : Cal P w K mg base 5 "need_rooms" (spP K mm_need_rooms)) (c_plan_rooming : Cal P w K mg base 6 "plan_rooming" (spP K mm_plan_68)) : FnOk P w K mg base CX0 7 f fd ["web", "houses", "rooms"] (spP K mm_room_prices) := by
  have S := sc_room_prices
  refine okP 6 3 F S rfl rfl (g := gs_room_prices) fun cdv A outer s H E z hr => ?_
  exact (s_cons (s_expr (r_lf (q_call c_need_rooms hr (by decide) (by rfl) (q_cons (q_var 0) (q_cons (q_var 1) (q_cons (q_var 2) q_nil))))))
  (s_cons (s_if (r_lfb (b_cmp (op_ltD (hu64 hr)) w_lt (q_callB (cr_sumA rfl) w_sum (by rfl) T.bl_sum bt_sum (q_cons (q_var 2) q_nil)) (q_callB (cr_sumA rfl) w_sum (by rfl) T.bl_sum bt_sum (q_cons (q_ix ix_seq w_ix (q_var 0) q_int) q_nil)) (by rfl)))
  (s_one (s_ret (r_lf q_non)))
  s_nil)
  (s_cons (s_set 3 S.nd (r_lf (q_ix ix_seq w_ix (q_call c_plan_rooming hr (by decide) (by rfl) (q_cons (q_var 0) (q_cons (q_var 1) (q_cons (q_var 2) q_nil)))) q_int)))
  (s_cons (s_set 4 S.nd (r_lf (q_callB call_len w_len (by rfl) T.bl_len bt_len (q_cons (q_ix ix_seq w_ix (q_var 0) q_int) q_nil))))
  (s_one (s_ret (r_lf (q_tup (q_cons (q_callTy call_tuple_of w_tuple (by rfl) T.bl_tuple bt_tuple (q_cons (q_lc rfl S.nd (blkOk_by (own := [("one", 5)]) (by kernel_rfl)) (i_seq (q_slice (q_var 3) q_nopart (q_part (q_var 4)))) (fun _ _ _ _ _ => (g_nm 5 S.nd)) (fun _ _ _ _ _ => t_nil) (fun _ _ _ _ _ => (q_un un_neg w_neg (q_ix ix_seq w_ix (q_var 5) q_int)))) q_nil)) (q_cons (q_callTy call_tuple_of w_tuple (by rfl) T.bl_tuple bt_tuple (q_cons (q_lc rfl S.nd (blkOk_by (own := [("one", 5)]) (by kernel_rfl)) (i_seq (q_slice (q_var 3) (q_part (q_var 4)) q_nopart)) (fun _ _ _ _ _ => (g_nm 5 S.nd)) (fun _ _ _ _ _ => t_nil) (fun _ _ _ _ _ => (q_ix ix_seq w_ix (q_var 5) q_int))) q_nil)) q_nil))))))))))
/-! ### need_reach -/
abbrev st_need_reach : Stmt := top 77
def gs_need_reach : Gs :=
  (gSeq (gExpr (lf (cN mm_need_rooms (cCons (cVar 0) (cCons (cVar 1) (cCons (cVar 2) cNil))))))
  (gIf (lfb (bNot (bT (cN mm_is_in (cCons (cVar 3) (cCons (cK (.int 0)) (cCons (cK (.int 10000)) cNil)))))))
  gNever
  gNx))
def mm_need_reach := run 4 4 gs_need_reach
theorem sc_need_reach : FnScope ["web", "houses", "rooms", "reach"] ["web", "houses", "rooms", "reach"] (defScope st_need_reach) := ⟨rfl, rfl, rfl, by decide +kernel, rfl, by decide +kernel, by decide +kernel⟩
theorem ok_need_reach {f : Addr} {fd : FuncData} (F : Fun K "need_reach" "need_reach" st_need_reach f fd) (T : Txt mg) (c_need_rooms : Cal P w K mg base 5 "need_rooms" (spP K mm_need_rooms)) (c_is_in : Cal P w K mg base 1 "is_in" (spP K mm_is_in)) : FnOk P w K mg base CX0 6 f fd ["web", "houses", "rooms", "reach"] (spP K mm_need_reach) := by
  have S := sc_need_reach
  refine okP 4 4 F S rfl rfl (g := gs_need_reach) fun cdv A outer s H E z hr => ?_
  exact (s_cons (s_expr (r_lf (q_call c_need_rooms hr (by decide) (by rfl) (q_cons (q_var 0) (q_cons (q_var 1) (q_cons (q_var 2) q_nil))))))
  (s_one (s_if (r_lfb (b_not (b_val (q_call c_is_in hr (by decide) (by rfl) (q_cons (q_var 3) (q_cons q_int (q_cons (q_glob (by rfl) T.gl_MOST_RADIUS) q_nil)))))))
  (s_one s_never)
  s_nil)))
/-! ### is_crowd -/
abbrev st_is_crowd : Stmt := top 75
def gs_is_crowd : Gs :=
  (gSeq (gAsg (lf (cLc [7, 8] (iN en1 (cCons (cVar 2) cNil)) (bTp 2 (bCons (bNm 7) (bCons (bNm 8) bNil))) (bV (c2 oNe (cLc [9] (iS (cVar 5)) (bNm 9) (bV (c2 oLe (c2 oIx (c2 oIx (cVar 1) (cVar 9)) (cVar 8)) (cVar 4))) (cVar 9)) (cLst cNil))) (cVar 7))) (bNm 6))
  (gRet (lf (c2 oGt (cN oSum (cCons (cLc [9] (iS (cVar 5)) (bNm 9) bYes (c2 oIx (c2 oIx (cVar 0) (cK (.int 0))) (cVar 9))) cNil)) (cN oSum (cCons (cLc [7] (iS (cVar 6)) (bNm 7) bYes (c2 oIx (cVar 3) (cVar 7))) cNil))))))
def mm_is_crowd := run 10 6 gs_is_crowd
theorem sc_is_crowd : FnScope ["web", "table", "houses", "rooms", "reach", "points", "near", "at", "x", "k"] ["web", "table", "houses", "rooms", "reach", "points"] (defScope st_is_crowd) := ⟨rfl, rfl, rfl, by decide +kernel, rfl, by decide +kernel, by decide +kernel⟩
theorem ok_is_crowd {f : Addr} {fd : FuncData} (F : Fun K "is_crowd" "is_crowd" st_is_crowd f fd) (T : Txt mg) : FnOk P w K mg base CX0 1 f fd ["web", "table", "houses", "rooms", "reach", "points"] (spP K mm_is_crowd) := by
  have S := sc_is_crowd
  refine okP 10 6 F S rfl rfl (g := gs_is_crowd) fun cdv A outer s H E z hr => ?_
  exact (s_cons (s_lc 6 rfl S.nd (blkOk_by (own := [("at", 7), ("x", 8)]) (by kernel_rfl)) (sw_true rfl rfl rfl (by rfl)) (i_enum (by rfl) T.bl_enumerate (q_cons (q_var 2) q_nil)) (fun _ _ _ _ _ => (g_tup rfl (g_cons (g_nm 7 S.nd) (g_cons (g_nm 8 S.nd) g_nil)))) (fun _ _ _ _ _ => (t_one (b_cmp (op_neQ (hu64 hr)) w_ne (q_lc rfl S.nd (blkOk_by (own := [("k", 9)]) (by kernel_rfl)) (i_seq (q_var 5)) (fun _ _ _ _ _ => (g_nm 9 S.nd)) (fun _ _ _ _ _ => (t_one (b_cmp (op_leD (hu64 hr)) w_le (q_ix ix_seq w_ix (q_ix ix_seq w_ix (q_var 1) (q_var 9)) (q_var 8)) (q_var 4) (by rfl)))) (fun _ _ _ _ _ => (q_var 9))) (q_lst q_nil) (by rfl)))) (fun _ _ _ _ _ => (q_var 7)))
  (s_one (s_ret (r_lf (q_cmp (op_gtD (hu64 hr)) w_gt (q_callB (cr_sumA rfl) w_sum (by rfl) T.bl_sum bt_sum (q_cons (q_lc rfl S.nd (blkOk_by (own := [("k", 9)]) (by kernel_rfl)) (i_seq (q_var 5)) (fun _ _ _ _ _ => (g_nm 9 S.nd)) (fun _ _ _ _ _ => t_nil) (fun _ _ _ _ _ => (q_ix ix_seq w_ix (q_ix ix_seq w_ix (q_var 0) q_int) (q_var 9)))) q_nil)) (q_callB (cr_sumA rfl) w_sum (by rfl) T.bl_sum bt_sum (q_cons (q_lc rfl S.nd (blkOk_by (own := [("at", 7)]) (by kernel_rfl)) (i_seq (q_var 6)) (fun _ _ _ _ _ => (g_nm 7 S.nd)) (fun _ _ _ _ _ => t_nil) (fun _ _ _ _ _ => (q_ix ix_seq w_ix (q_var 3) (q_var 7)))) q_nil)) (by rfl))))))
/-! ### members -/
abbrev st_members : Stmt := top 64
def gs_members : Gs :=
  (gRet (lf (cN oTuple (cCons (cLc [2] (iN rg1 (cCons (cVar 1) cNil)) (bNm 2) (bT (c2 oAnd (c2 oShr (cVar 0) (cVar 2)) (cK (.int 1)))) (cVar 2)) cNil))))
def mm_members := run 3 2 gs_members
theorem sc_members : FnScope ["number", "count", "k"] ["number", "count"] (defScope st_members) := ⟨rfl, rfl, rfl, by decide +kernel, rfl, by decide +kernel, by decide +kernel⟩
theorem ok_members {f : Addr} {fd : FuncData} (F : Fun K "members" "members" st_members f fd) (T : Txt mg) : FnOk P w K mg base CX0 1 f fd ["number", "count"] (spP K mm_members) := by
  have S := sc_members
  refine okP 3 2 F S rfl rfl (g := gs_members) fun cdv A outer s H E z hr => ?_
  exact (s_one (s_ret (r_lf (q_callTy call_tuple_of w_tuple (by rfl) T.bl_tuple bt_tuple (q_cons (q_lc rfl S.nd (blkOk_by (own := [("k", 2)]) (by kernel_rfl)) (i_range1 (by rfl) T.bl_range (q_cons (q_var 1) q_nil)) (fun _ _ _ _ _ => (g_nm 2 S.nd)) (fun _ _ _ _ _ => (t_one (b_val (q_op op_and w_and (q_op op_shr w_shr (q_var 0) (q_var 2)) q_int)))) (fun _ _ _ _ _ => (q_var 2))) q_nil)))))
/-! ### crowd_in -/
abbrev st_crowd_in : Stmt := top 76
def gs_crowd_in : Gs :=
  (gSeq (gAsg (lf (cN mm_table_of (cCons (cVar 0) cNil))) (bNm 4))
  (gSeq (gFor (lfs (iN rg2 (cCons (cK (.int 1)) (cCons (c2 oShl (cK (.int 1)) (cN oLen (cCons (cVar 4) cNil))) cNil)))) (bNm 5)
  (gIf (lfb (bT (cN mm_is_crowd (cCons (cVar 0) (cCons (cVar 4) (cCons (cVar 1) (cCons (cVar 2) (cCons (cVar 3) (cCons (cN mm_members (cCons (cVar 5) (cCons (cN oLen (cCons (cVar 4) cNil)) cNil))) cNil)))))))))
  (gRet (lf (cN mm_members (cCons (cVar 5) (cCons (cN oLen (cCons (cVar 4) cNil)) cNil)))))
  gNx))
  (gRet (lf (cK .none)))))
def mm_crowd_in := run 6 4 gs_crowd_in
theorem sc_crowd_in : FnScope ["web", "houses", "rooms", "reach", "table", "number"] ["web", "houses", "rooms", "reach"] (defScope st_crowd_in) := ⟨rfl, rfl, rfl, by decide +kernel, rfl, by decide +kernel, by decide +kernel⟩
theorem ok_crowd_in {f : Addr} {fd : FuncData} (F : Fun K "crowd_in" "crowd_in" st_crowd_in f fd) (T : Txt mg) (c_table_of : Cal P w K mg base 1 "table_of" (spP K mm_table_of)) (c_is_crowd : Cal P w K mg base 1 "is_crowd" (spP K mm_is_crowd)) (c_members : Cal P w K mg base 1 "members" (spP K mm_members)) : FnOk P w K mg base CX0 2 f fd ["web", "houses", "rooms", "reach"] (spP K mm_crowd_in) := by
  have S := sc_crowd_in
  refine okP 6 4 F S rfl rfl (g := gs_crowd_in) fun cdv A outer s H E z hr => ?_
  exact (s_cons (s_set 4 S.nd (r_lf (q_call c_table_of hr (by decide) (by rfl) (q_cons (q_var 0) q_nil))))
  (s_cons (s_for rfl (i_lf (i_range2 (by rfl) T.bl_range (q_cons q_int (q_cons (q_op op_shl w_shl q_int (q_callB call_len w_len (by rfl) T.bl_len bt_len (q_cons (q_var 4) q_nil))) q_nil)))) (g_nm 5 S.nd)
  (s_one (s_if (r_lfb (b_val (q_call c_is_crowd hr (by decide) (by rfl) (q_cons (q_var 0) (q_cons (q_var 4) (q_cons (q_var 1) (q_cons (q_var 2) (q_cons (q_var 3) (q_cons (q_call c_members hr (by decide) (by rfl) (q_cons (q_var 5) (q_cons (q_callB call_len w_len (by rfl) T.bl_len bt_len (q_cons (q_var 4) q_nil)) q_nil))) q_nil)))))))))
  (s_one (s_ret (r_lf (q_call c_members hr (by decide) (by rfl) (q_cons (q_var 5) (q_cons (q_callB call_len w_len (by rfl) T.bl_len bt_len (q_cons (q_var 4) q_nil)) q_nil))))))
  s_nil)) PassesOwn.never)
  (s_one (s_ret (r_lf q_non)))))
/-! ### crowd -/
abbrev st_crowd : Stmt := top 78
def gs_crowd : Gs :=
  (gSeq (gExpr (lf (cN mm_need_reach (cCons (cVar 0) (cCons (cVar 1) (cCons (cVar 2) (cCons (cVar 3) cNil)))))))
  (gRet (lf (cN mm_crowd_in (cCons (cVar 0) (cCons (cVar 1) (cCons (cVar 2) (cCons (cVar 3) cNil))))))))
def mm_crowd := run 4 4 gs_crowd
theorem sc_crowd : FnScope ["web", "houses", "rooms", "reach"] ["web", "houses", "rooms", "reach"] (defScope st_crowd) := ⟨rfl, rfl, rfl, by decide +kernel, rfl, by decide +kernel, by decide +kernel⟩
theorem ok_crowd {f : Addr} {fd : FuncData} (F : Fun K "crowd" "crowd" st_crowd f fd) (T : Txt mg) (c_need_reach : Cal P w K mg base 6 "need_reach" (spP K mm_need_reach)) (c_crowd_in : Cal P w K mg base 2 "crowd_in" (spP K mm_crowd_in)) : FnOk P w K mg base CX0 7 f fd ["web", "houses", "rooms", "reach"] (spP K mm_crowd) := by
  have S := sc_crowd
  refine okP 4 4 F S rfl rfl (g := gs_crowd) fun cdv A outer s H E z hr => ?_
  exact (s_cons (s_expr (r_lf (q_call c_need_reach hr (by decide) (by rfl) (q_cons (q_var 0) (q_cons (q_var 1) (q_cons (q_var 2) (q_cons (q_var 3) q_nil)))))))
  (s_one (s_ret (r_lf (q_call c_crowd_in hr (by decide) (by rfl) (q_cons (q_var 0) (q_cons (q_var 1) (q_cons (q_var 2) (q_cons (q_var 3) q_nil)))))))))
/-! ### _law_alike -/
abbrev st__law_alike : Stmt := top 82
def gs__law_alike (mr : List D → Option D) : Gs :=
  (gSeq (gIf (lfb (bT (cIsi2 .tuple .list (cVar 1))))
  (gSeq (gIf (lfb (bOr (bNot (bT (cIsi2 .tuple .list (cVar 0)))) (bV (c2 oNe (cIsi .list (cVar 0)) (cIsi .list (cVar 1))))))
  (gRet (lf (cK (.bool false))))
  gNx)
  (gSeq (gIf (lfb (bV (c2 oNe (cN oLen (cCons (cVar 0) cNil)) (cN oLen (cCons (cVar 1) cNil)))))
  (gRet (lf (cK (.bool false))))
  gNx)
  (gRet (lf (c2 oEq (cLc [2] (iN rg1 (cCons (cN oLen (cCons (cVar 1) cNil)) cNil)) (bNm 2) (bNot (bT (cN mr (cCons (c2 oIx (cVar 0) (cVar 2)) (cCons (c2 oIx (cVar 1) (cVar 2)) cNil))))) (cVar 2)) (cLst cNil))))))
  gNx)
  (gSeq (gIf (lfb (bOr (bV (c2 oIs (cVar 1) (cK .none))) (bT (cIsi .str (cVar 1)))))
  (gRet (lf (cAnd (c2 oEq (cVar 0) (cVar 1)) (c2 oEq (cIsi .str (cVar 0)) (cIsi .str (cVar 1))))))
  gNx)
  (gRet (lf (cAnd (cIsi .int (cVar 0)) (cAnd (c2 oEq (cIsi .bool (cVar 0)) (cIsi .bool (cVar 1))) (c2 oEq (cVar 0) (cVar 1))))))))
def mm__law_alike : Nat → List D → Option D
  | 0 => fun _ => none
  | n + 1 => run 3 2 (gs__law_alike (mm__law_alike n))
theorem sc__law_alike : FnScope ["_law_found", "_law_due", "_law_k"] ["_law_found", "_law_due"] (defScope st__law_alike) := ⟨rfl, rfl, rfl, by decide +kernel, rfl, by decide +kernel, by decide +kernel⟩
theorem ok__law_alike {f : Addr} {fd : FuncData} (F : Fun K "_law_alike" "_law_alike" st__law_alike f fd) (T : Txt mg) (hm : mg "_law_alike" = some (.ref f)) (hb : Binds K fd ["_law_found", "_law_due"] []) : ∀ n, FnOk P w K mg base CX0 (0 + n) f fd ["_law_found", "_law_due"] (spP K (mm__law_alike n))
  | 0 => ok_none
  | n + 1 => by
    have cr : Cal P w K mg base (0 + n) "_law_alike" (spP K (mm__law_alike n)) := ⟨⟨f, fd, _, ok__law_alike F T  hm hb n, hm, F.kp, hb⟩⟩
    have S := sc__law_alike
    refine okP 3 2 F S rfl rfl (g := gs__law_alike (mm__law_alike n)) fun cdv A outer s H E z hr => ?_
    exact (s_cons (s_if (r_lfb (b_val (q_isi2 (q_var 1) (by rfl) T.bl_isinstance bt_isinstance (q_ty .tuple (by rfl) T.bl_tuple bt_tuple) (q_ty .list (by rfl) T.bl_list bt_list))))
  (s_cons (s_if (r_lfb ((b_or (b_not (b_val (q_isi2 (q_var 0) (by rfl) T.bl_isinstance bt_isinstance (q_ty .tuple (by rfl) T.bl_tuple bt_tuple) (q_ty .list (by rfl) T.bl_list bt_list)))) (b_or1 (b_cmp (op_neQ (hu64 hr)) w_ne (q_isi (q_var 0) (by rfl) T.bl_isinstance bt_isinstance (q_ty .list (by rfl) T.bl_list bt_list)) (q_isi (q_var 1) (by rfl) T.bl_isinstance bt_isinstance (q_ty .list (by rfl) T.bl_list bt_list)) (by rfl))))).pt)
  (s_one (s_ret (r_lf q_bl)))
  s_nil)
  (s_cons (s_if (r_lfb (b_cmp (op_neQ (hu64 hr)) w_ne (q_callB call_len w_len (by rfl) T.bl_len bt_len (q_cons (q_var 0) q_nil)) (q_callB call_len w_len (by rfl) T.bl_len bt_len (q_cons (q_var 1) q_nil)) (by rfl)))
  (s_one (s_ret (r_lf q_bl)))
  s_nil)
  (s_one (s_ret (r_lf (q_cmp (op_eqQ (hu64 hr)) w_eq (q_lc rfl S.nd (blkOk_by (own := [("_law_k", 2)]) (by kernel_rfl)) (i_range1 (by rfl) T.bl_range (q_cons (q_callB call_len w_len (by rfl) T.bl_len bt_len (q_cons (q_var 1) q_nil)) q_nil)) (fun _ _ _ _ _ => (g_nm 2 S.nd)) (fun _ _ _ _ _ => (t_one (b_not (b_val (q_call cr hr (Nat.le_refl _) (by rfl) (q_cons (q_ix ix_seq w_ix (q_var 0) (q_var 2)) (q_cons (q_ix ix_seq w_ix (q_var 1) (q_var 2)) q_nil))))))) (fun _ _ _ _ _ => (q_var 2))) (q_lst q_nil) (by rfl)))))))
  s_nil)
  (s_cons (s_if (r_lfb ((b_or (b_cmp op_isA w_is (q_var 1) q_non (by rfl)) (b_or1 (b_val (q_isi (q_var 1) (by rfl) T.bl_isinstance bt_isinstance (q_ty .str (by rfl) T.bl_str bt_str)))))).pt)
  (s_one (s_ret (r_lf (q_and (q_cmp (op_eqQ (hu64 hr)) w_eq (q_var 0) (q_var 1) (by rfl)) (q_one (q_cmp (op_eqQ (hu64 hr)) w_eq (q_isi (q_var 0) (by rfl) T.bl_isinstance bt_isinstance (q_ty .str (by rfl) T.bl_str bt_str)) (q_isi (q_var 1) (by rfl) T.bl_isinstance bt_isinstance (q_ty .str (by rfl) T.bl_str bt_str)) (by rfl)))))))
  s_nil)
  (s_one (s_ret (r_lf (q_and (q_isi (q_var 0) (by rfl) T.bl_isinstance bt_isinstance (q_ty .int (by rfl) T.bl_int bt_int)) (q_and (q_cmp (op_eqQ (hu64 hr)) w_eq (q_isi (q_var 0) (by rfl) T.bl_isinstance bt_isinstance (q_ty .bool (by rfl) T.bl_bool bt_bool)) (q_isi (q_var 1) (by rfl) T.bl_isinstance bt_isinstance (q_ty .bool (by rfl) T.bl_bool bt_bool)) (by rfl)) (q_one (q_cmp (op_eqQ (hu64 hr)) w_eq (q_var 0) (q_var 1) (by rfl))))))))))
/-! ### room_reach -/
abbrev st_room_reach : Stmt := top 79
def gs_room_reach : Gs :=
  (gSeq (gExpr (lf (cN mm_need_rooms (cCons (cVar 0) (cCons (cVar 1) (cCons (cVar 2) cNil))))))
  (gSeq (gFor (lfs (iS (c1 oSSetL (cLc2 [4, 5] [5] (iS (cN mm_table_of (cCons (cVar 0) cNil))) (bNm 4) bYes (iS (cVar 4)) (bNm 5) bYes (cVar 5))))) (bNm 3)
  (gIf (lfb (bV (c2 oIs (cN mm_crowd_in (cCons (cVar 0) (cCons (cVar 1) (cCons (cVar 2) (cCons (cVar 3) cNil))))) (cK .none))))
  (gRet (lf (cVar 3)))
  gNx))
  (gRet (lf (cK .none)))))
def mm_room_reach := run 6 3 gs_room_reach
theorem sc_room_reach : FnScope ["web", "houses", "rooms", "reach", "row", "x"] ["web", "houses", "rooms"] (defScope st_room_reach) := ⟨rfl, rfl, rfl, by decide +kernel, rfl, by decide +kernel, by decide +kernel⟩
theorem ok_room_reach {f : Addr} {fd : FuncData} (F : Fun K "room_reach" "room_reach" st_room_reach f fd) (T : Txt mg) (c_need_rooms : Cal P w K mg base 5 "need_rooms" (spP K mm_need_rooms)) (c_table_of : Cal P w K mg base 1 "table_of" (spP K mm_table_of)) (c_crowd_in : Cal P w K mg base 2 "crowd_in" (spP K mm_crowd_in)) : FnOk P w K mg base CX0 6 f fd ["web", "houses", "rooms"] (spP K mm_room_reach) := by
  have S := sc_room_reach
  refine okP 6 3 F S rfl rfl (g := gs_room_reach) fun cdv A outer s H E z hr => ?_
  exact (s_cons (s_expr (r_lf (q_call c_need_rooms hr (by decide) (by rfl) (q_cons (q_var 0) (q_cons (q_var 1) (q_cons (q_var 2) q_nil))))))
  (s_cons (s_for rfl (i_lf (i_seq (q_ssetL rfl (by rfl) T.bl_sorted (by rfl) T.bl_set (q_lc2 (vs1 := [5]) rfl S.nd (blkOk_by (own := [("row", 4), ("x", 5)]) (by kernel_rfl)) (by decide) (i_seq (q_call c_table_of hr (by decide) (by rfl) (q_cons (q_var 0) q_nil))) (fun _ _ _ _ _ => (g_nm 4 S.nd)) (fun _ _ _ _ _ => t_nil) (fun _ _ _ _ _ => (i_seq (q_var 4))) (fun _ _ _ _ _ => (g_nm 5 S.nd)) (fun _ _ _ _ _ => t_nil) (fun _ _ _ _ _ => (q_var 5)))))) (g_nm 3 S.nd)
  (s_one (s_if (r_lfb (b_cmp op_isA w_is (q_call c_crowd_in hr (by decide) (by rfl) (q_cons (q_var 0) (q_cons (q_var 1) (q_cons (q_var 2) (q_cons (q_var 3) q_nil))))) q_non (by rfl)))
  (s_one (s_ret (r_lf (q_var 3))))
  s_nil)) PassesOwn.never)
  (s_one (s_ret (r_lf q_non)))))
/-! ### are_whole -/
abbrev st_are_whole : Stmt := top 73
def gs_are_whole : Gs :=
  (gSeq (gIf (lfb (bOr (bNot (bT (cIsi .tuple (cVar 0)))) (bV (c2 oNe (cN oLen (cCons (cVar 0) cNil)) (cVar 1)))))
  (gRet (lf (cK (.bool false))))
  gNx)
  (gRet (lf (c2 oEq (cLc [2] (iS (cVar 0)) (bNm 2) (bOr (bNot (bT (cIsi .int (cVar 2)))) (bT (cIsi .bool (cVar 2)))) (cVar 2)) (cLst cNil)))))
def mm_are_whole := run 3 2 gs_are_whole
theorem sc_are_whole : FnScope ["value", "count", "one"] ["value", "count"] (defScope st_are_whole) := ⟨rfl, rfl, rfl, by decide +kernel, rfl, by decide +kernel, by decide +kernel⟩
theorem ok_are_whole {f : Addr} {fd : FuncData} (F : Fun K "are_whole" "are_whole" st_are_whole f fd) (T : Txt mg) : FnOk P w K mg base CX0 1 f fd ["value", "count"] (spP K mm_are_whole) := by
  have S := sc_are_whole
  refine okP 3 2 F S rfl rfl (g := gs_are_whole) fun cdv A outer s H E z hr => ?_
  exact (s_cons (s_if (r_lfb ((b_or (b_not (b_val (q_isi (q_var 0) (by rfl) T.bl_isinstance bt_isinstance (q_ty .tuple (by rfl) T.bl_tuple bt_tuple)))) (b_or1 (b_cmp (op_neQ (hu64 hr)) w_ne (q_callB call_len w_len (by rfl) T.bl_len bt_len (q_cons (q_var 0) q_nil)) (q_var 1) (by rfl))))).pt)
  (s_one (s_ret (r_lf q_bl)))
  s_nil)
  (s_one (s_ret (r_lf (q_cmp (op_eqQ (hu64 hr)) w_eq (q_lc rfl S.nd (blkOk_by (own := [("one", 2)]) (by kernel_rfl)) (i_seq (q_var 0)) (fun _ _ _ _ _ => (g_nm 2 S.nd)) (fun _ _ _ _ _ => (t_one ((b_or (b_not (b_val (q_isi (q_var 2) (by rfl) T.bl_isinstance bt_isinstance (q_ty .int (by rfl) T.bl_int bt_int)))) (b_or1 (b_val (q_isi (q_var 2) (by rfl) T.bl_isinstance bt_isinstance (q_ty .bool (by rfl) T.bl_bool bt_bool)))))).pt)) (fun _ _ _ _ _ => (q_var 2))) (q_lst q_nil) (by rfl))))))
/-! ### least_in -/
abbrev st_least_in : Stmt := top 71
def gs_least_in : Gs :=
  (gRet (lf (c1 oNeg (c2 oIx (c2 oIx (cN mm_plan_68 (cCons (cVar 0) (cCons (cVar 1) (cCons (cVar 2) cNil)))) (cK (.int 1))) (cK (.int 0))))))
def mm_least_in := run 3 3 gs_least_in
theorem sc_least_in : FnScope ["web", "houses", "rooms"] ["web", "houses", "rooms"] (defScope st_least_in) := ⟨rfl, rfl, rfl, by decide +kernel, rfl, by decide +kernel, by decide +kernel⟩
theorem ok_least_in {f : Addr} {fd : FuncData} (F : Fun K "least_in" "least_in" st_least_in f fd) (T : Txt mg) (c_plan_rooming : Cal P w K mg base 6 "plan_rooming" (spP K mm_plan_68)) : FnOk P w K mg base CX0 7 f fd ["web", "houses", "rooms"] (spP K mm_least_in) := by
  have S := sc_least_in
  refine okP 3 3 F S rfl rfl (g := gs_least_in) fun cdv A outer s H E z hr => ?_
  exact (s_one (s_ret (r_lf (q_un un_neg w_neg (q_ix ix_seq w_ix (q_ix ix_seq w_ix (q_call c_plan_rooming hr (by decide) (by rfl) (q_cons (q_var 0) (q_cons (q_var 1) (q_cons (q_var 2) q_nil)))) q_int) q_int)))))
/-! ### shows_room_prices -/
abbrev st_shows_room_prices : Stmt := top 74
def gs_shows_room_prices : Gs :=
  (gSeq (gExpr (lf (cN mm_need_rooms (cCons (cVar 0) (cCons (cVar 1) (cCons (cVar 2) cNil))))))
  (gSeq (gIf (lfb (bV (c2 oLt (cN oSum (cCons (cVar 2) cNil)) (cN oSum (cCons (c2 oIx (cVar 0) (cK (.int 0))) cNil)))))
  (gRet (lf (c2 oIs (cVar 3) (cK .none))))
  gNx)
  (gSeq (gIf (lfb (bOr (bNot (bT (cIsi .tuple (cVar 3)))) (bV (c2 oNe (cN oLen (cCons (cVar 3) cNil)) (cK (.int 2))))))
  (gRet (lf (cK (.bool false))))
  gNx)
  (gSeq (gIf (lfb (bOr (bNot (bT (cN mm_are_whole (cCons (c2 oIx (cVar 3) (cK (.int 0))) (cCons (cN oLen (cCons (c2 oIx (cVar 0) (cK (.int 0))) cNil)) cNil))))) (bOr (bNot (bT (cN mm_are_whole (cCons (c2 oIx (cVar 3) (cK (.int 1))) (cCons (cN oLen (cCons (cVar 1) cNil)) cNil))))) (bV (c2 oLt (cN oMin (cCons (c2 oIx (cVar 3) (cK (.int 1))) cNil)) (cK (.int 0)))))))
  (gRet (lf (cK (.bool false))))
  gNx)
  (gSeq (gPar3 4 5 6 (wsh (lf (c2 oIx (cVar 3) (cK (.int 0))))) (wsh (lf (c2 oIx (cVar 3) (cK (.int 1))))) (wsh (lf (cN mm_table_of (cCons (cVar 0) cNil)))))
  (gSeq (gFor (lfs (iN rg1 (cCons (cN oLen (cCons (cVar 6) cNil)) cNil))) (bNm 7)
  (gIf (lfb (bV (c2 oNe (cLc [9, 10] (iN en1 (cCons (cVar 1) cNil)) (bTp 2 (bCons (bNm 9) (bCons (bNm 10) bNil))) (bV (c2 oGt (c2 oSub (c2 oIx (cVar 4) (cVar 7)) (c2 oIx (cVar 5) (cVar 9))) (c2 oIx (c2 oIx (cVar 6) (cVar 7)) (cVar 10)))) (cVar 9)) (cLst cNil))))
  (gRet (lf (cK (.bool false))))
  gNx))
  (gSeq (gAsg (lf (c2 oSub (cN oSum (cCons (cLc [11, 12] (iN zp2 (cCons (c2 oIx (cVar 0) (cK (.int 0))) (cCons (cVar 4) cNil))) (bTp 2 (bCons (bNm 11) (bCons (bNm 12) bNil))) bYes (c2 oMul (cVar 11) (cVar 12))) cNil)) (cN oSum (cCons (cLc [13, 11] (iN zp2 (cCons (cVar 2) (cCons (cVar 5) cNil))) (bTp 2 (bCons (bNm 13) (bCons (bNm 11) bNil))) bYes (c2 oMul (cVar 13) (cVar 11))) cNil)))) (bNm 8))
  (gRet (lf (c2 oEq (cVar 8) (cN mm_least_in (cCons (cVar 0) (cCons (cVar 1) (cCons (cVar 2) cNil))))))))))))))
def mm_shows_room_prices := run 14 4 gs_shows_room_prices
theorem sc_shows_room_prices : FnScope ["web", "houses", "rooms", "value", "tops", "prices", "table", "k", "whole", "at", "x", "one", "top", "room"] ["web", "houses", "rooms", "value"] (defScope st_shows_room_prices) := ⟨rfl, rfl, rfl, by decide +kernel, rfl, by decide +kernel, by decide +kernel⟩
theorem ok_shows_room_prices {f : Addr} {fd : FuncData} (F : Fun K "shows_room_prices" "shows_room_prices" st_shows_room_prices f fd) (T : Txt mg) (c_need_rooms : Cal P w K mg base 5 "need_rooms" (spP K mm_need_rooms)) (c_are_whole : Cal P w K mg base 1 "are_whole" (spP K mm_are_whole)) (c_table_of : Cal P w K mg base 1 "table_of" (spP K mm_table_of)) (c_least_in : Cal P w K mg base 7 "least_in" (spP K mm_least_in)) : FnOk P w K mg base CX0 8 f fd ["web", "houses", "rooms", "value"] (spP K mm_shows_room_prices) := by
  have S := sc_shows_room_prices
  refine okP 14 4 F S rfl rfl (g := gs_shows_room_prices) fun cdv A outer s H E z hr => ?_
  exact (s_cons (s_expr (r_lf (q_call c_need_rooms hr (by decide) (by rfl) (q_cons (q_var 0) (q_cons (q_var 1) (q_cons (q_var 2) q_nil))))))
  (s_cons (s_if (r_lfb (b_cmp (op_ltD (hu64 hr)) w_lt (q_callB (cr_sumA rfl) w_sum (by rfl) T.bl_sum bt_sum (q_cons (q_var 2) q_nil)) (q_callB (cr_sumA rfl) w_sum (by rfl) T.bl_sum bt_sum (q_cons (q_ix ix_seq w_ix (q_var 0) q_int) q_nil)) (by rfl)))
  (s_one (s_ret (r_lf (q_cmp op_isA w_is (q_var 3) q_non (by rfl)))))
  s_nil)
  (s_cons (s_if (r_lfb ((b_or (b_not (b_val (q_isi (q_var 3) (by rfl) T.bl_isinstance bt_isinstance (q_ty .tuple (by rfl) T.bl_tuple bt_tuple)))) (b_or1 (b_cmp (op_neQ (hu64 hr)) w_ne (q_callB call_len w_len (by rfl) T.bl_len bt_len (q_cons (q_var 3) q_nil)) q_int (by rfl))))).pt)
  (s_one (s_ret (r_lf q_bl)))
  s_nil)
  (s_cons (s_if (r_lfb ((b_or (b_not (b_val (q_call c_are_whole hr (by decide) (by rfl) (q_cons (q_ix ix_seq w_ix (q_var 3) q_int) (q_cons (q_callB call_len w_len (by rfl) T.bl_len bt_len (q_cons (q_ix ix_seq w_ix (q_var 0) q_int) q_nil)) q_nil))))) (b_or (b_not (b_val (q_call c_are_whole hr (by decide) (by rfl) (q_cons (q_ix ix_seq w_ix (q_var 3) q_int) (q_cons (q_callB call_len w_len (by rfl) T.bl_len bt_len (q_cons (q_var 1) q_nil)) q_nil))))) (b_or1 (b_cmp (op_ltD (hu64 hr)) w_lt (q_callB (cr_minA rfl (hu64 hr)) w_min (by rfl) T.bl_min bt_min (q_cons (q_ix ix_seq w_ix (q_var 3) q_int) q_nil)) q_int (by rfl)))))).pt)
  (s_one (s_ret (r_lf q_bl)))
  s_nil)
  (s_cons (s_tup3 4 5 6 rfl S.nd (w_sh (r_lf (q_ix ix_seq w_ix (q_var 3) q_int))) (w_sh (r_lf (q_ix ix_seq w_ix (q_var 3) q_int))) (w_sh (r_lf (q_call c_table_of hr (by decide) (by rfl) (q_cons (q_var 0) q_nil)))))
  (s_cons (s_for rfl (i_lf (i_range1 (by rfl) T.bl_range (q_cons (q_callB call_len w_len (by rfl) T.bl_len bt_len (q_cons (q_var 6) q_nil)) q_nil))) (g_nm 7 S.nd)
  (s_one (s_if (r_lfb (b_cmp (op_neQ (hu64 hr)) w_ne (q_lc rfl S.nd (blkOk_by (own := [("at", 9), ("x", 10)]) (by kernel_rfl)) (i_enum (by rfl) T.bl_enumerate (q_cons (q_var 1) q_nil)) (fun _ _ _ _ _ => (g_tup rfl (g_cons (g_nm 9 S.nd) (g_cons (g_nm 10 S.nd) g_nil)))) (fun _ _ _ _ _ => (t_one (b_cmp (op_gtD (hu64 hr)) w_gt (q_op op_sub w_sub (q_ix ix_seq w_ix (q_var 4) (q_var 7)) (q_ix ix_seq w_ix (q_var 5) (q_var 9))) (q_ix ix_seq w_ix (q_ix ix_seq w_ix (q_var 6) (q_var 7)) (q_var 10)) (by rfl)))) (fun _ _ _ _ _ => (q_var 9))) (q_lst q_nil) (by rfl)))
  (s_one (s_ret (r_lf q_bl)))
  s_nil)) PassesOwn.never)
  (s_cons (s_set 8 S.nd (r_lf (q_op op_sub w_sub (q_callB (cr_sumA rfl) w_sum (by rfl) T.bl_sum bt_sum (q_cons (q_lc rfl S.nd (blkOk_by (own := [("one", 11), ("top", 12)]) (by kernel_rfl)) (i_zip (by rfl) T.bl_zip (q_cons (q_ix ix_seq w_ix (q_var 0) q_int) (q_cons (q_var 4) q_nil))) (fun _ _ _ _ _ => (g_tup rfl (g_cons (g_nm 11 S.nd) (g_cons (g_nm 12 S.nd) g_nil)))) (fun _ _ _ _ _ => t_nil) (fun _ _ _ _ _ => (q_op op_mulA w_mul (q_var 11) (q_var 12)))) q_nil)) (q_callB (cr_sumA rfl) w_sum (by rfl) T.bl_sum bt_sum (q_cons (q_lc rfl S.nd (blkOk_by (own := [("room", 13), ("one", 11)]) (by kernel_rfl)) (i_zip (by rfl) T.bl_zip (q_cons (q_var 2) (q_cons (q_var 5) q_nil))) (fun _ _ _ _ _ => (g_tup rfl (g_cons (g_nm 13 S.nd) (g_cons (g_nm 11 S.nd) g_nil)))) (fun _ _ _ _ _ => t_nil) (fun _ _ _ _ _ => (q_op op_mulA w_mul (q_var 13) (q_var 11)))) q_nil)))))
  (s_one (s_ret (r_lf (q_cmp (op_eqQ (hu64 hr)) w_eq (q_var 8) (q_call c_least_in hr (by decide) (by rfl) (q_cons (q_var 0) (q_cons (q_var 1) (q_cons (q_var 2) q_nil)))) (by rfl))))))))))))
/-! ### need_highs -/
abbrev st_need_highs : Stmt := top 45
def gs_need_highs : Gs :=
  (gSeq (gExpr (lf (cN mm_need_web (cCons (cVar 0) cNil))))
  (gSeq (gIf (lfb (bOr (bNot (bT (cIsi .tuple (cVar 1)))) (bV (c2 oNe (cN oLen (cCons (cVar 1) cNil)) (cN oLen (cCons (c2 oIx (cVar 0) (cK (.int 0))) cNil))))))
  gNever
  gNx)
  (gIf (lfb (bV (c2 oNe (cLc [2] (iN rg1 (cCons (cN oLen (cCons (cVar 1) cNil)) cNil)) (bNm 2) (bNot (bT (cN mm_is_in (cCons (c2 oIx (cVar 1) (cVar 2)) (cCons (c2 oIx (c2 oIx (cVar 0) (cK (.int 0))) (cVar 2)) (cCons (cK (.int 100)) cNil)))))) (cVar 2)) (cLst cNil))))
  gNever
  gNx)))
def mm_need_highs := run 3 2 gs_need_highs
theorem sc_need_highs : FnScope ["web", "highs", "k"] ["web", "highs"] (defScope st_need_highs) := ⟨rfl, rfl, rfl, by decide +kernel, rfl, by decide +kernel, by decide +kernel⟩
theorem ok_need_highs {f : Addr} {fd : FuncData} (F : Fun K "need_highs" "need_highs" st_need_highs f fd) (T : Txt mg) (c_need_web : Cal P w K mg base 3 "need_web" (spP K mm_need_web)) (c_is_in : Cal P w K mg base 1 "is_in" (spP K mm_is_in)) : FnOk P w K mg base CX0 4 f fd ["web", "highs"] (spP K mm_need_highs) := by
  have S := sc_need_highs
  refine okP 3 2 F S rfl rfl (g := gs_need_highs) fun cdv A outer s H E z hr => ?_
  exact (s_cons (s_expr (r_lf (q_call c_need_web hr (by decide) (by rfl) (q_cons (q_var 0) q_nil))))
  (s_cons (s_if (r_lfb ((b_or (b_not (b_val (q_isi (q_var 1) (by rfl) T.bl_isinstance bt_isinstance (q_ty .tuple (by rfl) T.bl_tuple bt_tuple)))) (b_or1 (b_cmp (op_neQ (hu64 hr)) w_ne (q_callB call_len w_len (by rfl) T.bl_len bt_len (q_cons (q_var 1) q_nil)) (q_callB call_len w_len (by rfl) T.bl_len bt_len (q_cons (q_ix ix_seq w_ix (q_var 0) q_int) q_nil)) (by rfl))))).pt)
  (s_one s_never)
  s_nil)
  (s_one (s_if (r_lfb (b_cmp (op_neQ (hu64 hr)) w_ne (q_lc rfl S.nd (blkOk_by (own := [("k", 2)]) (by kernel_rfl)) (i_range1 (by rfl) T.bl_range (q_cons (q_callB call_len w_len (by rfl) T.bl_len bt_len (q_cons (q_var 1) q_nil)) q_nil)) (fun _ _ _ _ _ => (g_nm 2 S.nd)) (fun _ _ _ _ _ => (t_one (b_not (b_val (q_call c_is_in hr (by decide) (by rfl) (q_cons (q_ix ix_seq w_ix (q_var 1) (q_var 2)) (q_cons (q_ix ix_seq w_ix (q_ix ix_seq w_ix (q_var 0) q_int) (q_var 2)) (q_cons (q_glob (by rfl) T.gl_MOST_WEIGHT) q_nil)))))))) (fun _ _ _ _ _ => (q_var 2))) (q_lst q_nil) (by rfl)))
  (s_one s_never)
  s_nil))))
/-! ### worst_gap -/
abbrev st_worst_gap : Stmt := top 47
def gs_worst_gap : Gs :=
  (gRet (lf (cN oSum (cCons (cLc [3, 4, 5] (iN zp3 (cCons (c2 oIx (cVar 0) (cK (.int 0))) (cCons (cVar 1) (cCons (cVar 2) cNil)))) (bTp 3 (bCons (bNm 3) (bCons (bNm 4) (bCons (bNm 5) bNil)))) bYes (cN oMax (cCons (c2 oMul (cVar 3) (cVar 5)) (cCons (c2 oMul (cVar 4) (cVar 5)) cNil)))) cNil))))
def mm_worst_gap := run 6 3 gs_worst_gap
theorem sc_worst_gap : FnScope ["web", "highs", "gaps", "low", "high", "gap"] ["web", "highs", "gaps"] (defScope st_worst_gap) := ⟨rfl, rfl, rfl, by decide +kernel, rfl, by decide +kernel, by decide +kernel⟩
theorem ok_worst_gap {f : Addr} {fd : FuncData} (F : Fun K "worst_gap" "worst_gap" st_worst_gap f fd) (T : Txt mg) : FnOk P w K mg base CX0 1 f fd ["web", "highs", "gaps"] (spP K mm_worst_gap) := by
  have S := sc_worst_gap
  refine okP 6 3 F S rfl rfl (g := gs_worst_gap) fun cdv A outer s H E z hr => ?_
  exact (s_one (s_ret (r_lf (q_callB (cr_sumA rfl) w_sum (by rfl) T.bl_sum bt_sum (q_cons (q_lc rfl S.nd (blkOk_by (own := [("low", 3), ("high", 4), ("gap", 5)]) (by kernel_rfl)) (i_zip3 (by rfl) T.bl_zip (q_cons (q_ix ix_seq w_ix (q_var 0) q_int) (q_cons (q_var 1) (q_cons (q_var 2) q_nil)))) (fun _ _ _ _ _ => (g_tup rfl (g_cons (g_nm 3 S.nd) (g_cons (g_nm 4 S.nd) (g_cons (g_nm 5 S.nd) g_nil))))) (fun _ _ _ _ _ => t_nil) (fun _ _ _ _ _ => (q_callB (cr_maxA rfl (hu64 hr)) w_max (by rfl) T.bl_max bt_max (q_cons (q_op op_mulA w_mul (q_var 3) (q_var 5)) (q_cons (q_op op_mulA w_mul (q_var 4) (q_var 5)) q_nil))))) q_nil)))))
/-! ### gaps_in -/
abbrev st_gaps_in : Stmt := top 46
def gs_gaps_in : Gs :=
  (gRet (lf (cLc [3] (iS (cVar 0)) (bNm 3) bYes (c2 oSub (c2 oIx (cVar 3) (cVar 1)) (c2 oIx (cVar 3) (cVar 2))))))
def mm_gaps_in := run 4 3 gs_gaps_in
theorem sc_gaps_in : FnScope ["rows", "x", "y", "row"] ["rows", "x", "y"] (defScope st_gaps_in) := ⟨rfl, rfl, rfl, by decide +kernel, rfl, by decide +kernel, by decide +kernel⟩
theorem ok_gaps_in {f : Addr} {fd : FuncData} (F : Fun K "gaps_in" "gaps_in" st_gaps_in f fd) (T : Txt mg) : FnOk P w K mg base CX0 1 f fd ["rows", "x", "y"] (spP K mm_gaps_in) := by
  have S := sc_gaps_in
  refine okP 4 3 F S rfl rfl (g := gs_gaps_in) fun cdv A outer s H E z hr => ?_
  exact (s_one (s_ret (r_lf (q_lc rfl S.nd (blkOk_by (own := [("row", 3)]) (by kernel_rfl)) (i_seq (q_var 0)) (fun _ _ _ _ _ => (g_nm 3 S.nd)) (fun _ _ _ _ _ => t_nil) (fun _ _ _ _ _ => (q_op op_sub w_sub (q_ix ix_seq w_ix (q_var 3) (q_var 1)) (q_ix ix_seq w_ix (q_var 3) (q_var 2))))))))
/-! ### regret_in -/
abbrev st_regret_in : Stmt := top 48
def gs_regret_in : Gs :=
  (gRet (lf (cN oMax (cCons (cLc [4] (iN rg1 (cCons (cN oLen (cCons (cVar 1) cNil)) cNil)) (bNm 4) bYes (cN mm_worst_gap (cCons (cVar 0) (cCons (cVar 2) (cCons (cN mm_gaps_in (cCons (cVar 1) (cCons (cVar 3) (cCons (cVar 4) cNil)))) cNil))))) cNil))))
def mm_regret_in := run 5 4 gs_regret_in
theorem sc_regret_in : FnScope ["web", "rows", "highs", "x", "y"] ["web", "rows", "highs", "x"] (defScope st_regret_in) := ⟨rfl, rfl, rfl, by decide +kernel, rfl, by decide +kernel, by decide +kernel⟩
theorem ok_regret_in {f : Addr} {fd : FuncData} (F : Fun K "regret_in" "regret_in" st_regret_in f fd) (T : Txt mg) (c_worst_gap : Cal P w K mg base 1 "worst_gap" (spP K mm_worst_gap)) (c_gaps_in : Cal P w K mg base 1 "gaps_in" (spP K mm_gaps_in)) : FnOk P w K mg base CX0 2 f fd ["web", "rows", "highs", "x"] (spP K mm_regret_in) := by
  have S := sc_regret_in
  refine okP 5 4 F S rfl rfl (g := gs_regret_in) fun cdv A outer s H E z hr => ?_
  exact (s_one (s_ret (r_lf (q_callB (cr_maxA rfl (hu64 hr)) w_max (by rfl) T.bl_max bt_max (q_cons (q_lc rfl S.nd (blkOk_by (own := [("y", 4)]) (by kernel_rfl)) (i_range1 (by rfl) T.bl_range (q_cons (q_callB call_len w_len (by rfl) T.bl_len bt_len (q_cons (q_var 1) q_nil)) q_nil)) (fun _ _ _ _ _ => (g_nm 4 S.nd)) (fun _ _ _ _ _ => t_nil) (fun _ _ _ _ _ => (q_call c_worst_gap hr (by decide) (by rfl) (q_cons (q_var 0) (q_cons (q_var 2) (q_cons (q_call c_gaps_in hr (by decide) (by rfl) (q_cons (q_var 1) (q_cons (q_var 3) (q_cons (q_var 4) q_nil)))) q_nil)))))) q_nil)))))
/-! ### always_best -/
abbrev st_always_best : Stmt := top 49
def gs_always_best : Gs :=
  (gSeq (gExpr (lf (cN mm_need_highs (cCons (cVar 0) (cCons (cVar 1) cNil)))))
  (gSeq (gAsg (lf (cN mm_table_of (cCons (cVar 0) cNil))) (bNm 2))
  (gRet (lf (cN oTuple (cCons (cLc [3] (iN rg1 (cCons (cN oLen (cCons (cVar 2) cNil)) cNil)) (bNm 3) (bV (c2 oEq (cN mm_regret_in (cCons (cVar 0) (cCons (cVar 2) (cCons (cVar 1) (cCons (cVar 3) cNil))))) (cK (.int 0)))) (cVar 3)) cNil))))))
def mm_always_best := run 4 2 gs_always_best
theorem sc_always_best : FnScope ["web", "highs", "rows", "x"] ["web", "highs"] (defScope st_always_best) := ⟨rfl, rfl, rfl, by decide +kernel, rfl, by decide +kernel, by decide +kernel⟩
theorem ok_always_best {f : Addr} {fd : FuncData} (F : Fun K "always_best" "always_best" st_always_best f fd) (T : Txt mg) (c_need_highs : Cal P w K mg base 4 "need_highs" (spP K mm_need_highs)) (c_table_of : Cal P w K mg base 1 "table_of" (spP K mm_table_of)) (c_regret_in : Cal P w K mg base 2 "regret_in" (spP K mm_regret_in)) : FnOk P w K mg base CX0 5 f fd ["web", "highs"] (spP K mm_always_best) := by
  have S := sc_always_best
  refine okP 4 2 F S rfl rfl (g := gs_always_best) fun cdv A outer s H E z hr => ?_
  exact (s_cons (s_expr (r_lf (q_call c_need_highs hr (by decide) (by rfl) (q_cons (q_var 0) (q_cons (q_var 1) q_nil)))))
  (s_cons (s_set 2 S.nd (r_lf (q_call c_table_of hr (by decide) (by rfl) (q_cons (q_var 0) q_nil))))
  (s_one (s_ret (r_lf (q_callTy call_tuple_of w_tuple (by rfl) T.bl_tuple bt_tuple (q_cons (q_lc rfl S.nd (blkOk_by (own := [("x", 3)]) (by kernel_rfl)) (i_range1 (by rfl) T.bl_range (q_cons (q_callB call_len w_len (by rfl) T.bl_len bt_len (q_cons (q_var 2) q_nil)) q_nil)) (fun _ _ _ _ _ => (g_nm 3 S.nd)) (fun _ _ _ _ _ => (t_one (b_cmp (op_eqQ (hu64 hr)) w_eq (q_call c_regret_in hr (by decide) (by rfl) (q_cons (q_var 0) (q_cons (q_var 2) (q_cons (q_var 1) (q_cons (q_var 3) q_nil))))) q_int (by rfl)))) (fun _ _ _ _ _ => (q_var 3))) q_nil)))))))
/-! ### need_point -/
abbrev st_need_point : Stmt := top 27
def gs_need_point : Gs :=
  (gIf (lfb (bNot (bT (cN mm_is_in (cCons (cVar 1) (cCons (cK (.int 0)) (cCons (c2 oSub (cN oLen (cCons (c2 oIx (cVar 0) (cK (.int 0))) cNil)) (cK (.int 1))) cNil)))))))
  gNever
  gNx)
def mm_need_point := run 2 2 gs_need_point
theorem sc_need_point : FnScope ["web", "point"] ["web", "point"] (defScope st_need_point) := ⟨rfl, rfl, rfl, by decide +kernel, rfl, by decide +kernel, by decide +kernel⟩
theorem ok_need_point {f : Addr} {fd : FuncData} (F : Fun K "need_point" "need_point" st_need_point f fd) (T : Txt mg) (c_is_in : Cal P w K mg base 1 "is_in" (spP K mm_is_in)) : FnOk P w K mg base CX0 2 f fd ["web", "point"] (spP K mm_need_point) := by
  have S := sc_need_point
  refine okP 2 2 F S rfl rfl (g := gs_need_point) fun cdv A outer s H E z hr => ?_
  exact (s_one (s_if (r_lfb (b_not (b_val (q_call c_is_in hr (by decide) (by rfl) (q_cons (q_var 1) (q_cons q_int (q_cons (q_op op_sub w_sub (q_callB call_len w_len (by rfl) T.bl_len bt_len (q_cons (q_ix ix_seq w_ix (q_var 0) q_int) q_nil)) q_int) q_nil)))))))
  (s_one s_never)
  s_nil))
/-! ### need_all -/
abbrev st_need_all : Stmt := top 50
def gs_need_all : Gs :=
  (gSeq (gExpr (lf (cN mm_need_highs (cCons (cVar 0) (cCons (cVar 1) cNil)))))
  (gExpr (lf (cN mm_need_point (cCons (cVar 0) (cCons (cVar 2) cNil))))))
def mm_need_all := run 3 3 gs_need_all
theorem sc_need_all : FnScope ["web", "highs", "point"] ["web", "highs", "point"] (defScope st_need_all) := ⟨rfl, rfl, rfl, by decide +kernel, rfl, by decide +kernel, by decide +kernel⟩
theorem ok_need_all {f : Addr} {fd : FuncData} (F : Fun K "need_all" "need_all" st_need_all f fd) (T : Txt mg) (c_need_highs : Cal P w K mg base 4 "need_highs" (spP K mm_need_highs)) (c_need_point : Cal P w K mg base 2 "need_point" (spP K mm_need_point)) : FnOk P w K mg base CX0 5 f fd ["web", "highs", "point"] (spP K mm_need_all) := by
  have S := sc_need_all
  refine okP 3 3 F S rfl rfl (g := gs_need_all) fun cdv A outer s H E z hr => ?_
  exact (s_cons (s_expr (r_lf (q_call c_need_highs hr (by decide) (by rfl) (q_cons (q_var 0) (q_cons (q_var 1) q_nil)))))
  (s_one (s_expr (r_lf (q_call c_need_point hr (by decide) (by rfl) (q_cons (q_var 0) (q_cons (q_var 2) q_nil)))))))
/-! ### regret -/
abbrev st_regret : Stmt := top 51
def gs_regret : Gs :=
  (gSeq (gExpr (lf (cN mm_need_all (cCons (cVar 0) (cCons (cVar 1) (cCons (cVar 2) cNil))))))
  (gRet (lf (cN mm_regret_in (cCons (cVar 0) (cCons (cN mm_table_of (cCons (cVar 0) cNil)) (cCons (cVar 1) (cCons (cVar 2) cNil))))))))
def mm_regret := run 3 3 gs_regret
theorem sc_regret : FnScope ["web", "highs", "point"] ["web", "highs", "point"] (defScope st_regret) := ⟨rfl, rfl, rfl, by decide +kernel, rfl, by decide +kernel, by decide +kernel⟩
theorem ok_regret {f : Addr} {fd : FuncData} (F : Fun K "regret" "regret" st_regret f fd) (T : Txt mg) (c_need_all : Cal P w K mg base 5 "need_all" (spP K mm_need_all)) (c_regret_in : Cal P w K mg base 2 "regret_in" (spP K mm_regret_in)) (c_table_of : Cal P w K mg base 1 "table_of" (spP K mm_table_of)) : FnOk P w K mg base CX0 6 f fd ["web", "highs", "point"] (spP K mm_regret) := by
  have S := sc_regret
  refine okP 3 3 F S rfl rfl (g := gs_regret) fun cdv A outer s H E z hr => ?_
  exact (s_cons (s_expr (r_lf (q_call c_need_all hr (by decide) (by rfl) (q_cons (q_var 0) (q_cons (q_var 1) (q_cons (q_var 2) q_nil))))))
  (s_one (s_ret (r_lf (q_call c_regret_in hr (by decide) (by rfl) (q_cons (q_var 0) (q_cons (q_call c_table_of hr (by decide) (by rfl) (q_cons (q_var 0) q_nil)) (q_cons (q_var 1) (q_cons (q_var 2) q_nil)))))))))
/-! ### least_regret -/
abbrev st_least_regret : Stmt := top 52
def gs_least_regret : Gs :=
  (gSeq (gExpr (lf (cN mm_need_highs (cCons (cVar 0) (cCons (cVar 1) cNil)))))
  (gSeq (gAsg (lf (cN mm_table_of (cCons (cVar 0) cNil))) (bNm 2))
  (gSeq (gAsg (lf (cLc [4] (iN rg1 (cCons (cN oLen (cCons (cVar 2) cNil)) cNil)) (bNm 4) bYes (cN mm_regret_in (cCons (cVar 0) (cCons (cVar 2) (cCons (cVar 1) (cCons (cVar 4) cNil))))))) (bNm 3))
  (gRet (lf (cTup (cCons (cN oMin (cCons (cVar 3) cNil)) (cCons (cN oTuple (cCons (cLc [4] (iN rg1 (cCons (cN oLen (cCons (cVar 3) cNil)) cNil)) (bNm 4) (bV (c2 oEq (c2 oIx (cVar 3) (cVar 4)) (cN oMin (cCons (cVar 3) cNil)))) (cVar 4)) cNil)) cNil))))))))
def mm_least_regret := run 5 2 gs_least_regret
theorem sc_least_regret : FnScope ["web", "highs", "rows", "told", "x"] ["web", "highs"] (defScope st_least_regret) := ⟨rfl, rfl, rfl, by decide +kernel, rfl, by decide +kernel, by decide +kernel⟩
theorem ok_least_regret {f : Addr} {fd : FuncData} (F : Fun K "least_regret" "least_regret" st_least_regret f fd) (T : Txt mg) (c_need_highs : Cal P w K mg base 4 "need_highs" (spP K mm_need_highs)) (c_table_of : Cal P w K mg base 1 "table_of" (spP K mm_table_of)) (c_regret_in : Cal P w K mg base 2 "regret_in" (spP K mm_regret_in)) : FnOk P w K mg base CX0 5 f fd ["web", "highs"] (spP K mm_least_regret) := by
  have S := sc_least_regret
  refine okP 5 2 F S rfl rfl (g := gs_least_regret) fun cdv A outer s H E z hr => ?_
  exact (s_cons (s_expr (r_lf (q_call c_need_highs hr (by decide) (by rfl) (q_cons (q_var 0) (q_cons (q_var 1) q_nil)))))
  (s_cons (s_set 2 S.nd (r_lf (q_call c_table_of hr (by decide) (by rfl) (q_cons (q_var 0) q_nil))))
  (s_cons (s_set 3 S.nd (r_lf (q_lc rfl S.nd (blkOk_by (own := [("x", 4)]) (by kernel_rfl)) (i_range1 (by rfl) T.bl_range (q_cons (q_callB call_len w_len (by rfl) T.bl_len bt_len (q_cons (q_var 2) q_nil)) q_nil)) (fun _ _ _ _ _ => (g_nm 4 S.nd)) (fun _ _ _ _ _ => t_nil) (fun _ _ _ _ _ => (q_call c_regret_in hr (by decide) (by rfl) (q_cons (q_var 0) (q_cons (q_var 2) (q_cons (q_var 1) (q_cons (q_var 4) q_nil)))))))))
  (s_one (s_ret (r_lf (q_tup (q_cons (q_callB (cr_minA rfl (hu64 hr)) w_min (by rfl) T.bl_min bt_min (q_cons (q_var 3) q_nil)) (q_cons (q_callTy call_tuple_of w_tuple (by rfl) T.bl_tuple bt_tuple (q_cons (q_lc rfl S.nd (blkOk_by (own := [("x", 4)]) (by kernel_rfl)) (i_range1 (by rfl) T.bl_range (q_cons (q_callB call_len w_len (by rfl) T.bl_len bt_len (q_cons (q_var 3) q_nil)) q_nil)) (fun _ _ _ _ _ => (g_nm 4 S.nd)) (fun _ _ _ _ _ => (t_one (b_cmp (op_eqQ (hu64 hr)) w_eq (q_ix ix_seq w_ix (q_var 3) (q_var 4)) (q_callB (cr_minA rfl (hu64 hr)) w_min (by rfl) T.bl_min bt_min (q_cons (q_var 3) q_nil)) (by rfl)))) (fun _ _ _ _ _ => (q_var 4))) q_nil)) q_nil)))))))))
/-! ### plan -/
abbrev st_plan : Stmt := top 53
def gs_plan : Gs :=
  (gSeq (gPar2 3 4 (wsh (lf (cN mm_table_of (cCons (cVar 0) cNil)))) (wsh (lf (cN oLen (cCons (c2 oIx (cVar 0) (cK (.int 0))) cNil)))))
  (gSeq (gPar2 5 6 (wN few (lfs cNil)) (wN few (lfs cNil)))
  (gSeq (gFor (lfs (iN rg1 (cCons (cVar 4) cNil))) (bNm 7)
  (gSeq (gAsg (lf (cN mm_gaps_in (cCons (cVar 3) (cCons (cVar 2) (cCons (cVar 7) cNil))))) (bNm 9))
  (gSeq (gApp 5 (lf (cLc [10] (iS (cVar 9)) (bNm 10) bYes (cTup (cCons (cVar 10) (cCons (cK (.int 1)) cNil))))))
  (gApp 6 (lf (cTup (cCons (c1 oNeg (cN oSum (cCons (cLc [12, 10] (iN zp2 (cCons (c2 oIx (cVar 0) (cK (.int 0))) (cCons (cVar 9) cNil))) (bTp 2 (bCons (bNm 12) (bCons (bNm 10) bNil))) bYes (c2 oMul (cVar 12) (cVar 10))) cNil))) (cCons (cK (.int 1)) cNil))))))))
  (gSeq (gFor (lfs (iN rg1 (cCons (cVar 4) cNil))) (bNm 8)
  (gSeq (gApp 5 (lf (cLc [11] (iN rg1 (cCons (cVar 4) cNil)) (bNm 11) bYes (cTup (cCons (cN oInt (cCons (c2 oEq (cVar 11) (cVar 8)) cNil)) (cCons (cK (.int 1)) cNil))))))
  (gApp 6 (lf (cTup (cCons (c2 oSub (c2 oIx (cVar 1) (cVar 8)) (c2 oIx (c2 oIx (cVar 0) (cK (.int 0))) (cVar 8))) (cCons (cK (.int 1)) cNil)))))))
  (gFz 5 (gFz 6 (gRet (lf (cN mm_solve (cCons (cVar 5) (cCons (cVar 6) (cCons (cRep (cCons (cTup (cCons (cK (.int 0)) (cCons (cK (.int 1)) cNil))) cNil) (cVar 4)) (cCons (cLst cNil) cNil)))))))))))))
def mm_plan := run 13 3 gs_plan
theorem sc_plan : FnScope ["web", "highs", "point", "rows", "size", "lines", "limits", "y", "k", "gaps", "gap", "j", "low"] ["web", "highs", "point"] (defScope st_plan) := ⟨rfl, rfl, rfl, by decide +kernel, rfl, by decide +kernel, by decide +kernel⟩
theorem ok_plan {f : Addr} {fd : FuncData} (F : Fun K "plan" "plan" st_plan f fd) (T : Txt mg) (c_table_of : Cal P w K mg base 1 "table_of" (spP K mm_table_of)) (c_gaps_in : Cal P w K mg base 1 "gaps_in" (spP K mm_gaps_in)) (c_solve : Cal P w K mg base 5 "solve" (spP K mm_solve)) : FnOk P w K mg base CX0 6 f fd ["web", "highs", "point"] (spP K mm_plan) := by
  have S := sc_plan
  refine okP 13 3 F S rfl rfl (g := gs_plan) fun cdv A outer s H E z hr => ?_
  exact (s_cons (s_par2 3 4 rfl S.nd (w_sh (r_lf (q_call c_table_of hr (by decide) (by rfl) (q_cons (q_var 0) q_nil)))) (w_sh (r_lf (q_callB call_len w_len (by rfl) T.bl_len bt_len (q_cons (q_ix ix_seq w_ix (q_var 0) q_int) q_nil)))))
  (s_cons (s_par2 5 6 rfl S.nd (w_lst (r_lfs q_nil)) (w_lst (r_lfs q_nil)))
  (s_cons (s_for rfl (i_lf (i_range1 (by rfl) T.bl_range (q_cons (q_var 4) q_nil))) (g_nm 7 S.nd)
  (s_cons (s_set 9 S.nd (r_lf (q_call c_gaps_in hr (by decide) (by rfl) (q_cons (q_var 3) (q_cons (q_var 2) (q_cons (q_var 7) q_nil))))))
  (s_cons (s_app 5 (r_lf (q_lc rfl S.nd (blkOk_by (own := [("gap", 10)]) (by kernel_rfl)) (i_seq (q_var 9)) (fun _ _ _ _ _ => (g_nm 10 S.nd)) (fun _ _ _ _ _ => t_nil) (fun _ _ _ _ _ => (q_tup (q_cons (q_var 10) (q_cons q_int q_nil)))))))
  (s_one (s_app 6 (r_lf (q_tup (q_cons (q_un un_neg w_neg (q_callB (cr_sumA rfl) w_sum (by rfl) T.bl_sum bt_sum (q_cons (q_lc rfl S.nd (blkOk_by (own := [("low", 12), ("gap", 10)]) (by kernel_rfl)) (i_zip (by rfl) T.bl_zip (q_cons (q_ix ix_seq w_ix (q_var 0) q_int) (q_cons (q_var 9) q_nil))) (fun _ _ _ _ _ => (g_tup rfl (g_cons (g_nm 12 S.nd) (g_cons (g_nm 10 S.nd) g_nil)))) (fun _ _ _ _ _ => t_nil) (fun _ _ _ _ _ => (q_op op_mulA w_mul (q_var 12) (q_var 10)))) q_nil))) (q_cons q_int q_nil)))))))) PassesOwn.never)
  (s_cons (s_for rfl (i_lf (i_range1 (by rfl) T.bl_range (q_cons (q_var 4) q_nil))) (g_nm 8 S.nd)
  (s_cons (s_app 5 (r_lf (q_lc rfl S.nd (blkOk_by (own := [("j", 11)]) (by kernel_rfl)) (i_range1 (by rfl) T.bl_range (q_cons (q_var 4) q_nil)) (fun _ _ _ _ _ => (g_nm 11 S.nd)) (fun _ _ _ _ _ => t_nil) (fun _ _ _ _ _ => (q_tup (q_cons (q_callTy call_int1 w_int (by rfl) T.bl_int bt_int (q_cons (q_cmp (op_eqQ (hu64 hr)) w_eq (q_var 11) (q_var 8) (by rfl)) q_nil)) (q_cons q_int q_nil)))))))
  (s_one (s_app 6 (r_lf (q_tup (q_cons (q_op op_sub w_sub (q_ix ix_seq w_ix (q_var 1) (q_var 8)) (q_ix ix_seq w_ix (q_ix ix_seq w_ix (q_var 0) q_int) (q_var 8))) (q_cons q_int q_nil))))))) PassesOwn.never)
  (s_one (s_fz 5 (s_fz 6 (s_ret (r_lf (q_call c_solve hr (by decide) (by rfl) (q_cons (q_var 5) (q_cons (q_var 6) (q_cons (q_rep (q_cons (q_tup (q_cons q_int (q_cons q_int q_nil))) q_nil) (q_var 4)) (q_cons (q_lst q_nil) q_nil))))))))))))))
/-! ### plus -/
abbrev st_plus : Stmt := top 12
def gs_plus : Gs :=
  (gRet (lf (cN mm_reduced (cCons (c2 oAdd (c2 oMul (c2 oIx (cVar 0) (cK (.int 0))) (c2 oIx (cVar 1) (cK (.int 1)))) (c2 oMul (c2 oIx (cVar 1) (cK (.int 0))) (c2 oIx (cVar 0) (cK (.int 1))))) (cCons (c2 oMul (c2 oIx (cVar 0) (cK (.int 1))) (c2 oIx (cVar 1) (cK (.int 1)))) cNil)))))
def mm_plus := run 2 2 gs_plus
theorem sc_plus : FnScope ["one", "other"] ["one", "other"] (defScope st_plus) := ⟨rfl, rfl, rfl, by decide +kernel, rfl, by decide +kernel, by decide +kernel⟩
theorem ok_plus {f : Addr} {fd : FuncData} (F : Fun K "plus" "plus" st_plus f fd) (T : Txt mg) (c_reduced : Cal P w K mg base 2 "reduced" (spP K mm_reduced)) : FnOk P w K mg base CX0 3 f fd ["one", "other"] (spP K mm_plus) := by
  have S := sc_plus
  refine okP 2 2 F S rfl rfl (g := gs_plus) fun cdv A outer s H E z hr => ?_
  exact (s_one (s_ret (r_lf (q_call c_reduced hr (by decide) (by rfl) (q_cons (q_op op_addA w_add (q_op op_mulA w_mul (q_ix ix_seq w_ix (q_var 0) q_int) (q_ix ix_seq w_ix (q_var 1) q_int)) (q_op op_mulA w_mul (q_ix ix_seq w_ix (q_var 1) q_int) (q_ix ix_seq w_ix (q_var 0) q_int))) (q_cons (q_op op_mulA w_mul (q_ix ix_seq w_ix (q_var 0) q_int) (q_ix ix_seq w_ix (q_var 1) q_int)) q_nil))))))
/-! ### weights_for -/
abbrev st_weights_for : Stmt := top 55
def gs_weights_for : Gs :=
  (gSeq (gExpr (lf (cN mm_need_all (cCons (cVar 0) (cCons (cVar 1) (cCons (cVar 2) cNil))))))
  (gSeq (gAsg (lf (cN mm_plan (cCons (cVar 0) (cCons (cVar 1) (cCons (cVar 2) cNil))))) (bTp 4 (bCons (bNm 3) (bCons (bNm 4) (bCons (bNm 5) (bCons (bNm 6) bNil))))))
  (gSeq (gIf (lfb (bV (c2 oEq (cVar 3) (cK (.str "none")))))
  (gRet (lf (cK .none)))
  gNx)
  (gRet (lf (cN oTuple (cCons (cLc [7, 8] (iN zp2 (cCons (c2 oIx (cVar 0) (cK (.int 0))) (cCons (cVar 5) cNil))) (bTp 2 (bCons (bNm 7) (bCons (bNm 8) bNil))) bYes (cN mm_plus (cCons (cTup (cCons (cVar 7) (cCons (cK (.int 1)) cNil))) (cCons (cVar 8) cNil)))) cNil)))))))
def mm_weights_for := run 9 3 gs_weights_for
theorem sc_weights_for : FnScope ["web", "highs", "point", "kind", "value", "amounts", "weights", "low", "more"] ["web", "highs", "point"] (defScope st_weights_for) := ⟨rfl, rfl, rfl, by decide +kernel, rfl, by decide +kernel, by decide +kernel⟩
theorem ok_weights_for {f : Addr} {fd : FuncData} (F : Fun K "weights_for" "weights_for" st_weights_for f fd) (T : Txt mg) (c_need_all : Cal P w K mg base 5 "need_all" (spP K mm_need_all)) (c_plan_unsure : Cal P w K mg base 6 "plan_unsure" (spP K mm_plan)) (c_plus : Cal P w K mg base 3 "plus" (spP K mm_plus)) : FnOk P w K mg base CX0 7 f fd ["web", "highs", "point"] (spP K mm_weights_for) := by
  have S := sc_weights_for
  refine okP 9 3 F S rfl rfl (g := gs_weights_for) fun cdv A outer s H E z hr => ?_
  exact (s_cons (s_expr (r_lf (q_call c_need_all hr (by decide) (by rfl) (q_cons (q_var 0) (q_cons (q_var 1) (q_cons (q_var 2) q_nil))))))
  (s_cons (s_asg (r_lf (q_call c_plan_unsure hr (by decide) (by rfl) (q_cons (q_var 0) (q_cons (q_var 1) (q_cons (q_var 2) q_nil))))) (g_tup rfl (g_cons (g_nm 3 S.nd) (g_cons (g_nm 4 S.nd) (g_cons (g_nm 5 S.nd) (g_cons (g_nm 6 S.nd) g_nil))))))
  (s_cons (s_if (r_lfb (b_cmp (op_eqQ (hu64 hr)) w_eq (q_var 3) q_str (by rfl)))
  (s_one (s_ret (r_lf q_non)))
  s_nil)
  (s_one (s_ret (r_lf (q_callTy call_tuple_of w_tuple (by rfl) T.bl_tuple bt_tuple (q_cons (q_lc rfl S.nd (blkOk_by (own := [("low", 7), ("more", 8)]) (by kernel_rfl)) (i_zip (by rfl) T.bl_zip (q_cons (q_ix ix_seq w_ix (q_var 0) q_int) (q_cons (q_var 5) q_nil))) (fun _ _ _ _ _ => (g_tup rfl (g_cons (g_nm 7 S.nd) (g_cons (g_nm 8 S.nd) g_nil)))) (fun _ _ _ _ _ => t_nil) (fun _ _ _ _ _ => (q_call c_plus hr (by decide) (by rfl) (q_cons (q_tup (q_cons (q_var 7) (q_cons q_int q_nil))) (q_cons (q_var 8) q_nil))))) q_nil))))))))
/-! ### over -/
abbrev st_over : Stmt := top 15
def gs_over : Gs :=
  (gRet (lf (cN mm_reduced (cCons (c2 oMul (c2 oIx (cVar 0) (cK (.int 0))) (c2 oIx (cVar 1) (cK (.int 1)))) (cCons (c2 oMul (c2 oIx (cVar 0) (cK (.int 1))) (c2 oIx (cVar 1) (cK (.int 0)))) cNil)))))
def mm_over := run 2 2 gs_over
theorem sc_over : FnScope ["one", "other"] ["one", "other"] (defScope st_over) := ⟨rfl, rfl, rfl, by decide +kernel, rfl, by decide +kernel, by decide +kernel⟩
theorem ok_over {f : Addr} {fd : FuncData} (F : Fun K "over" "over" st_over f fd) (T : Txt mg) (c_reduced : Cal P w K mg base 2 "reduced" (spP K mm_reduced)) : FnOk P w K mg base CX0 3 f fd ["one", "other"] (spP K mm_over) := by
  have S := sc_over
  refine okP 2 2 F S rfl rfl (g := gs_over) fun cdv A outer s H E z hr => ?_
  exact (s_one (s_ret (r_lf (q_call c_reduced hr (by decide) (by rfl) (q_cons (q_op op_mulA w_mul (q_ix ix_seq w_ix (q_var 0) q_int) (q_ix ix_seq w_ix (q_var 1) q_int)) (q_cons (q_op op_mulA w_mul (q_ix ix_seq w_ix (q_var 0) q_int) (q_ix ix_seq w_ix (q_var 1) q_int)) q_nil))))))
/-! ### total -/
abbrev st_total : Stmt := top 42
def gs_total : Gs :=
  (gSeq (gAsg (lf (cTup (cCons (cK (.int 0)) (cCons (cK (.int 1)) cNil)))) (bNm 1))
  (gSeq (gFor (lfs (iS (cVar 0))) (bNm 2)
  (gAsg (lf (cN mm_plus (cCons (cVar 1) (cCons (cVar 2) cNil)))) (bNm 1)))
  (gRet (lf (cVar 1)))))
def mm_total := run 3 1 gs_total
theorem sc_total : FnScope ["values", "found", "one"] ["values"] (defScope st_total) := ⟨rfl, rfl, rfl, by decide +kernel, rfl, by decide +kernel, by decide +kernel⟩
theorem ok_total {f : Addr} {fd : FuncData} (F : Fun K "total" "total" st_total f fd) (T : Txt mg) (c_plus : Cal P w K mg base 3 "plus" (spP K mm_plus)) : FnOk P w K mg base CX0 4 f fd ["values"] (spP K mm_total) := by
  have S := sc_total
  refine okP 3 1 F S rfl rfl (g := gs_total) fun cdv A outer s H E z hr => ?_
  exact (s_cons (s_set 1 S.nd (r_lf (q_tup (q_cons q_int (q_cons q_int q_nil)))))
  (s_cons (s_for rfl (i_lf (i_seq (q_var 0))) (g_nm 2 S.nd)
  (s_one (s_set 1 S.nd (r_lf (q_call c_plus hr (by decide) (by rfl) (q_cons (q_var 1) (q_cons (q_var 2) q_nil)))))) PassesOwn.never)
  (s_one (s_ret (r_lf (q_var 1))))))
/-! ### never_paper -/
abbrev st_never_paper : Stmt := top 56
def gs_never_paper : Gs :=
  (gSeq (gExpr (lf (cN mm_need_all (cCons (cVar 0) (cCons (cVar 1) (cCons (cVar 2) cNil))))))
  (gSeq (gAsg (lf (cN mm_plan (cCons (cVar 0) (cCons (cVar 1) (cCons (cVar 2) cNil))))) (bTp 4 (bCons (bNm 3) (bCons (bNm 4) (bCons (bNm 5) (bCons (bNm 6) bNil))))))
  (gSeq (gIf (lfb (bV (c2 oNe (cVar 3) (cK (.str "none")))))
  (gRet (lf (cK .none)))
  gNx)
  (gSeq (gAsg (lf (cSl (cVar 6) cNoPart (cPart (cN oLen (cCons (c2 oIx (cVar 0) (cK (.int 0))) cNil))))) (bNm 7))
  (gRet (lf (cN oTuple (cCons (cLc [8] (iS (cVar 7)) (bNm 8) bYes (cN mm_over (cCons (cVar 8) (cCons (cN mm_total (cCons (cVar 7) cNil)) cNil)))) cNil))))))))
def mm_never_paper := run 9 3 gs_never_paper
theorem sc_never_paper : FnScope ["web", "highs", "point", "kind", "value", "amounts", "weights", "some", "one"] ["web", "highs", "point"] (defScope st_never_paper) := ⟨rfl, rfl, rfl, by decide +kernel, rfl, by decide +kernel, by decide +kernel⟩
theorem ok_never_paper {f : Addr} {fd : FuncData} (F : Fun K "never_paper" "never_paper" st_never_paper f fd) (T : Txt mg) (c_need_all : Cal P w K mg base 5 "need_all" (spP K mm_need_all)) (c_plan_unsure : Cal P w K mg base 6 "plan_unsure" (spP K mm_plan)) (c_over : Cal P w K mg base 3 "over" (spP K mm_over)) (c_total : Cal P w K mg base 4 "total" (spP K mm_total)) : FnOk P w K mg base CX0 7 f fd ["web", "highs", "point"] (spP K mm_never_paper) := by
  have S := sc_never_paper
  refine okP 9 3 F S rfl rfl (g := gs_never_paper) fun cdv A outer s H E z hr => ?_
  exact (s_cons (s_expr (r_lf (q_call c_need_all hr (by decide) (by rfl) (q_cons (q_var 0) (q_cons (q_var 1) (q_cons (q_var 2) q_nil))))))
  (s_cons (s_asg (r_lf (q_call c_plan_unsure hr (by decide) (by rfl) (q_cons (q_var 0) (q_cons (q_var 1) (q_cons (q_var 2) q_nil))))) (g_tup rfl (g_cons (g_nm 3 S.nd) (g_cons (g_nm 4 S.nd) (g_cons (g_nm 5 S.nd) (g_cons (g_nm 6 S.nd) g_nil))))))
  (s_cons (s_if (r_lfb (b_cmp (op_neQ (hu64 hr)) w_ne (q_var 3) q_str (by rfl)))
  (s_one (s_ret (r_lf q_non)))
  s_nil)
  (s_cons (s_set 7 S.nd (r_lf (q_slice (q_var 6) q_nopart (q_part (q_callB call_len w_len (by rfl) T.bl_len bt_len (q_cons (q_ix ix_seq w_ix (q_var 0) q_int) q_nil))))))
  (s_one (s_ret (r_lf (q_callTy call_tuple_of w_tuple (by rfl) T.bl_tuple bt_tuple (q_cons (q_lc rfl S.nd (blkOk_by (own := [("one", 8)]) (by kernel_rfl)) (i_seq (q_var 7)) (fun _ _ _ _ _ => (g_nm 8 S.nd)) (fun _ _ _ _ _ => t_nil) (fun _ _ _ _ _ => (q_call c_over hr (by decide) (by rfl) (q_cons (q_var 8) (q_cons (q_call c_total hr (by decide) (by rfl) (q_cons (q_var 7) q_nil)) q_nil))))) q_nil)))))))))
/-! ### is_ratio -/
abbrev st_is_ratio : Stmt := top 17
def gs_is_ratio : Gs :=
  (gSeq (gIf (lfb (bOr (bNot (bT (cIsi .tuple (cVar 0)))) (bV (c2 oNe (cN oLen (cCons (cVar 0) cNil)) (cK (.int 2))))))
  (gRet (lf (cK (.bool false))))
  gNx)
  (gSeq (gFor (lfs (iS (cVar 0))) (bNm 1)
  (gIf (lfb (bOr (bNot (bT (cIsi .int (cVar 1)))) (bT (cIsi .bool (cVar 1)))))
  (gRet (lf (cK (.bool false))))
  gNx))
  (gRet (lf (cAnd (c2 oGt (c2 oIx (cVar 0) (cK (.int 1))) (cK (.int 0))) (c2 oEq (cN mm_gcd (cCons (c2 oIx (cVar 0) (cK (.int 0))) (cCons (c2 oIx (cVar 0) (cK (.int 1))) cNil))) (cK (.int 1))))))))
def mm_is_ratio := run 2 1 gs_is_ratio
theorem sc_is_ratio : FnScope ["value", "item"] ["value"] (defScope st_is_ratio) := ⟨rfl, rfl, rfl, by decide +kernel, rfl, by decide +kernel, by decide +kernel⟩
theorem ok_is_ratio {f : Addr} {fd : FuncData} (F : Fun K "is_ratio" "is_ratio" st_is_ratio f fd) (T : Txt mg) (c_gcd : Cal P w K mg base 1 "gcd" (spP K mm_gcd)) : FnOk P w K mg base CX0 2 f fd ["value"] (spP K mm_is_ratio) := by
  have S := sc_is_ratio
  refine okP 2 1 F S rfl rfl (g := gs_is_ratio) fun cdv A outer s H E z hr => ?_
  exact (s_cons (s_if (r_lfb ((b_or (b_not (b_val (q_isi (q_var 0) (by rfl) T.bl_isinstance bt_isinstance (q_ty .tuple (by rfl) T.bl_tuple bt_tuple)))) (b_or1 (b_cmp (op_neQ (hu64 hr)) w_ne (q_callB call_len w_len (by rfl) T.bl_len bt_len (q_cons (q_var 0) q_nil)) q_int (by rfl))))).pt)
  (s_one (s_ret (r_lf q_bl)))
  s_nil)
  (s_cons (s_for rfl (i_lf (i_seq (q_var 0))) (g_nm 1 S.nd)
  (s_one (s_if (r_lfb ((b_or (b_not (b_val (q_isi (q_var 1) (by rfl) T.bl_isinstance bt_isinstance (q_ty .int (by rfl) T.bl_int bt_int)))) (b_or1 (b_val (q_isi (q_var 1) (by rfl) T.bl_isinstance bt_isinstance (q_ty .bool (by rfl) T.bl_bool bt_bool)))))).pt)
  (s_one (s_ret (r_lf q_bl)))
  s_nil)) PassesOwn.never)
  (s_one (s_ret (r_lf (q_and (q_cmp (op_gtD (hu64 hr)) w_gt (q_ix ix_seq w_ix (q_var 0) q_int) q_int (by rfl)) (q_one (q_cmp (op_eqQ (hu64 hr)) w_eq (q_call c_gcd hr (by decide) (by rfl) (q_cons (q_ix ix_seq w_ix (q_var 0) q_int) (q_cons (q_ix ix_seq w_ix (q_var 0) q_int) q_nil))) q_int (by rfl)))))))))
/-! ### are_ratios -/
abbrev st_are_ratios : Stmt := top 57
def gs_are_ratios : Gs :=
  (gSeq (gIf (lfb (bOr (bNot (bT (cIsi .tuple (cVar 0)))) (bV (c2 oNe (cN oLen (cCons (cVar 0) cNil)) (cVar 1)))))
  (gRet (lf (cK (.bool false))))
  gNx)
  (gRet (lf (c2 oEq (cLc [2] (iS (cVar 0)) (bNm 2) (bOr (bNot (bT (cN mm_is_ratio (cCons (cVar 2) cNil)))) (bV (c2 oLt (c2 oIx (cVar 2) (cK (.int 0))) (cK (.int 0))))) (cVar 2)) (cLst cNil)))))
def mm_are_ratios := run 3 2 gs_are_ratios
theorem sc_are_ratios : FnScope ["value", "count", "one"] ["value", "count"] (defScope st_are_ratios) := ⟨rfl, rfl, rfl, by decide +kernel, rfl, by decide +kernel, by decide +kernel⟩
theorem ok_are_ratios {f : Addr} {fd : FuncData} (F : Fun K "are_ratios" "are_ratios" st_are_ratios f fd) (T : Txt mg) (c_is_ratio : Cal P w K mg base 2 "is_ratio" (spP K mm_is_ratio)) : FnOk P w K mg base CX0 3 f fd ["value", "count"] (spP K mm_are_ratios) := by
  have S := sc_are_ratios
  refine okP 3 2 F S rfl rfl (g := gs_are_ratios) fun cdv A outer s H E z hr => ?_
  exact (s_cons (s_if (r_lfb ((b_or (b_not (b_val (q_isi (q_var 0) (by rfl) T.bl_isinstance bt_isinstance (q_ty .tuple (by rfl) T.bl_tuple bt_tuple)))) (b_or1 (b_cmp (op_neQ (hu64 hr)) w_ne (q_callB call_len w_len (by rfl) T.bl_len bt_len (q_cons (q_var 0) q_nil)) (q_var 1) (by rfl))))).pt)
  (s_one (s_ret (r_lf q_bl)))
  s_nil)
  (s_one (s_ret (r_lf (q_cmp (op_eqQ (hu64 hr)) w_eq (q_lc rfl S.nd (blkOk_by (own := [("one", 2)]) (by kernel_rfl)) (i_seq (q_var 0)) (fun _ _ _ _ _ => (g_nm 2 S.nd)) (fun _ _ _ _ _ => (t_one ((b_or (b_not (b_val (q_call c_is_ratio hr (by decide) (by rfl) (q_cons (q_var 2) q_nil)))) (b_or1 (b_cmp (op_ltD (hu64 hr)) w_lt (q_ix ix_seq w_ix (q_var 2) q_int) q_int (by rfl))))).pt)) (fun _ _ _ _ _ => (q_var 2))) (q_lst q_nil) (by rfl))))))
/-! ### shows_never_paper -/
abbrev st_shows_never_paper : Stmt := top 58
def gs_shows_never_paper : Gs :=
  (gSeq (gExpr (lf (cN mm_need_all (cCons (cVar 0) (cCons (cVar 1) (cCons (cVar 2) cNil))))))
  (gSeq (gIf (lfb (bV (c2 oIs (cVar 3) (cK .none))))
  (gRet (lf (c2 oNe (c2 oIx (cN mm_plan (cCons (cVar 0) (cCons (cVar 1) (cCons (cVar 2) cNil)))) (cK (.int 0))) (cK (.str "none")))))
  gNx)
  (gSeq (gIf (lfb (bOr (bNot (bT (cN mm_are_ratios (cCons (cVar 3) (cCons (cN oLen (cCons (cVar 1) cNil)) cNil))))) (bV (c2 oNe (cN mm_total (cCons (cVar 3) cNil)) (cTup (cCons (cK (.int 1)) (cCons (cK (.int 1)) cNil)))))))
  (gRet (lf (cK (.bool false))))
  gNx)
  (gSeq (gPar2 4 5 (wsh (lf (cN mm_table_of (cCons (cVar 0) cNil)))) (wsh (lf (cTup (cCons (cK (.int 0)) (cCons (cK (.int 1)) cNil))))))
  (gSeq (gFor (lfs (iN rg1 (cCons (cN oLen (cCons (cVar 4) cNil)) cNil))) (bNm 6)
  (gSeq (gAsg (lf (cN mm_total (cCons (cLc [9, 10] (iN en1 (cCons (cVar 3) cNil)) (bTp 2 (bCons (bNm 9) (bCons (bNm 10) bNil))) bYes (cN mm_times (cCons (cVar 10) (cCons (cTup (cCons (c2 oSub (c2 oIx (c2 oIx (cVar 4) (cVar 6)) (cVar 2)) (c2 oIx (c2 oIx (cVar 4) (cVar 6)) (cVar 9))) (cCons (cK (.int 1)) cNil))) cNil)))) cNil))) (bNm 7))
  (gSeq (gAsg (lf (cIf (bV (c2 oGt (c2 oIx (cVar 7) (cK (.int 0))) (cK (.int 0)))) (c2 oIx (c2 oIx (cVar 0) (cK (.int 0))) (cVar 6)) (c2 oIx (cVar 1) (cVar 6)))) (bNm 8))
  (gAsg (lf (cN mm_plus (cCons (cVar 5) (cCons (cN mm_times (cCons (cVar 7) (cCons (cTup (cCons (cVar 8) (cCons (cK (.int 1)) cNil))) cNil))) cNil)))) (bNm 5)))))
  (gRet (lf (c2 oGt (c2 oIx (cVar 5) (cK (.int 0))) (cK (.int 0))))))))))
def mm_shows_never_paper := run 11 4 gs_shows_never_paper
theorem sc_shows_never_paper : FnScope ["web", "highs", "point", "value", "rows", "least", "k", "gap", "weight", "y", "one"] ["web", "highs", "point", "value"] (defScope st_shows_never_paper) := ⟨rfl, rfl, rfl, by decide +kernel, rfl, by decide +kernel, by decide +kernel⟩
theorem ok_shows_never_paper {f : Addr} {fd : FuncData} (F : Fun K "shows_never_paper" "shows_never_paper" st_shows_never_paper f fd) (T : Txt mg) (c_need_all : Cal P w K mg base 5 "need_all" (spP K mm_need_all)) (c_plan_unsure : Cal P w K mg base 6 "plan_unsure" (spP K mm_plan)) (c_are_ratios : Cal P w K mg base 3 "are_ratios" (spP K mm_are_ratios)) (c_total : Cal P w K mg base 4 "total" (spP K mm_total)) (c_table_of : Cal P w K mg base 1 "table_of" (spP K mm_table_of)) (c_times : Cal P w K mg base 3 "times" (spP K mm_times)) (c_plus : Cal P w K mg base 3 "plus" (spP K mm_plus)) : FnOk P w K mg base CX0 7 f fd ["web", "highs", "point", "value"] (spP K mm_shows_never_paper) := by
  have S := sc_shows_never_paper
  refine okP 11 4 F S rfl rfl (g := gs_shows_never_paper) fun cdv A outer s H E z hr => ?_
  exact (s_cons (s_expr (r_lf (q_call c_need_all hr (by decide) (by rfl) (q_cons (q_var 0) (q_cons (q_var 1) (q_cons (q_var 2) q_nil))))))
  (s_cons (s_if (r_lfb (b_cmp op_isA w_is (q_var 3) q_non (by rfl)))
  (s_one (s_ret (r_lf (q_cmp (op_neQ (hu64 hr)) w_ne (q_ix ix_seq w_ix (q_call c_plan_unsure hr (by decide) (by rfl) (q_cons (q_var 0) (q_cons (q_var 1) (q_cons (q_var 2) q_nil)))) q_int) q_str (by rfl)))))
  s_nil)
  (s_cons (s_if (r_lfb ((b_or (b_not (b_val (q_call c_are_ratios hr (by decide) (by rfl) (q_cons (q_var 3) (q_cons (q_callB call_len w_len (by rfl) T.bl_len bt_len (q_cons (q_var 1) q_nil)) q_nil))))) (b_or1 (b_cmp (op_neQ (hu64 hr)) w_ne (q_call c_total hr (by decide) (by rfl) (q_cons (q_var 3) q_nil)) (q_tup (q_cons q_int (q_cons q_int q_nil))) (by rfl))))).pt)
  (s_one (s_ret (r_lf q_bl)))
  s_nil)
  (s_cons (s_tup2 4 5 rfl S.nd (w_sh (r_lf (q_call c_table_of hr (by decide) (by rfl) (q_cons (q_var 0) q_nil)))) (w_sh (r_lf (q_tup (q_cons q_int (q_cons q_int q_nil))))))
  (s_cons (s_for rfl (i_lf (i_range1 (by rfl) T.bl_range (q_cons (q_callB call_len w_len (by rfl) T.bl_len bt_len (q_cons (q_var 4) q_nil)) q_nil))) (g_nm 6 S.nd)
  (s_cons (s_set 7 S.nd (r_lf (q_call c_total hr (by decide) (by rfl) (q_cons (q_lc rfl S.nd (blkOk_by (own := [("y", 9), ("one", 10)]) (by kernel_rfl)) (i_enum (by rfl) T.bl_enumerate (q_cons (q_var 3) q_nil)) (fun _ _ _ _ _ => (g_tup rfl (g_cons (g_nm 9 S.nd) (g_cons (g_nm 10 S.nd) g_nil)))) (fun _ _ _ _ _ => t_nil) (fun _ _ _ _ _ => (q_call c_times hr (by decide) (by rfl) (q_cons (q_var 10) (q_cons (q_tup (q_cons (q_op op_sub w_sub (q_ix ix_seq w_ix (q_ix ix_seq w_ix (q_var 4) (q_var 6)) (q_var 2)) (q_ix ix_seq w_ix (q_ix ix_seq w_ix (q_var 4) (q_var 6)) (q_var 9))) (q_cons q_int q_nil))) q_nil))))) q_nil))))
  (s_cons (s_set 8 S.nd (r_lf (q_if (b_cmp (op_gtD (hu64 hr)) w_gt (q_ix ix_seq w_ix (q_var 7) q_int) q_int (by rfl)) (q_ix ix_seq w_ix (q_ix ix_seq w_ix (q_var 0) q_int) (q_var 6)) (q_ix ix_seq w_ix (q_var 1) (q_var 6)))))
  (s_one (s_set 5 S.nd (r_lf (q_call c_plus hr (by decide) (by rfl) (q_cons (q_var 5) (q_cons (q_call c_times hr (by decide) (by rfl) (q_cons (q_var 7) (q_cons (q_tup (q_cons (q_var 8) (q_cons q_int q_nil))) q_nil))) q_nil)))))))) PassesOwn.never)
  (s_one (s_ret (r_lf (q_cmp (op_gtD (hu64 hr)) w_gt (q_ix ix_seq w_ix (q_var 5) q_int) q_int (by rfl))))))))))
/-! ### near_in -/
abbrev st_near_in : Stmt := top 32
def gs_near_in : Gs :=
  (gRet (lf (cLc [2] (iS (cVar 0)) (bNm 2) bYes (cN oMin (cCons (cLc [3] (iS (cVar 1)) (bNm 3) bYes (c2 oIx (cVar 2) (cVar 3))) cNil)))))
def mm_near_in := run 4 2 gs_near_in
theorem sc_near_in : FnScope ["rows", "houses", "row", "x"] ["rows", "houses"] (defScope st_near_in) := ⟨rfl, rfl, rfl, by decide +kernel, rfl, by decide +kernel, by decide +kernel⟩
theorem ok_near_in {f : Addr} {fd : FuncData} (F : Fun K "near_in" "near_in" st_near_in f fd) (T : Txt mg) : FnOk P w K mg base CX0 1 f fd ["rows", "houses"] (spP K mm_near_in) := by
  have S := sc_near_in
  refine okP 4 2 F S rfl rfl (g := gs_near_in) fun cdv A outer s H E z hr => ?_
  exact (s_one (s_ret (r_lf (q_lc rfl S.nd (blkOk_by (own := [("row", 2)]) (by kernel_rfl)) (i_seq (q_var 0)) (fun _ _ _ _ _ => (g_nm 2 S.nd)) (fun _ _ _ _ _ => t_nil) (fun _ _ _ _ _ => (q_callB (cr_minA rfl (hu64 hr)) w_min (by rfl) T.bl_min bt_min (q_cons (q_lc rfl S.nd (blkOk_by (own := [("x", 3)]) (by kernel_rfl)) (i_seq (q_var 1)) (fun _ _ _ _ _ => (g_nm 3 S.nd)) (fun _ _ _ _ _ => t_nil) (fun _ _ _ _ _ => (q_ix ix_seq w_ix (q_var 2) (q_var 3)))) q_nil)))))))
/-! ### sum_in -/
abbrev st_sum_in : Stmt := top 34
def gs_sum_in : Gs :=
  (gRet (lf (cN oSum (cCons (cLc [3, 4] (iN zp2 (cCons (cVar 0) (cCons (cN mm_near_in (cCons (cVar 1) (cCons (cVar 2) cNil))) cNil))) (bTp 2 (bCons (bNm 3) (bCons (bNm 4) bNil))) bYes (c2 oMul (cVar 3) (cVar 4))) cNil))))
def mm_sum_in := run 5 3 gs_sum_in
theorem sc_sum_in : FnScope ["weights", "rows", "houses", "one", "far"] ["weights", "rows", "houses"] (defScope st_sum_in) := ⟨rfl, rfl, rfl, by decide +kernel, rfl, by decide +kernel, by decide +kernel⟩
theorem ok_sum_in {f : Addr} {fd : FuncData} (F : Fun K "sum_in" "sum_in" st_sum_in f fd) (T : Txt mg) (c_near_in : Cal P w K mg base 1 "near_in" (spP K mm_near_in)) : FnOk P w K mg base CX0 2 f fd ["weights", "rows", "houses"] (spP K mm_sum_in) := by
  have S := sc_sum_in
  refine okP 5 3 F S rfl rfl (g := gs_sum_in) fun cdv A outer s H E z hr => ?_
  exact (s_one (s_ret (r_lf (q_callB (cr_sumA rfl) w_sum (by rfl) T.bl_sum bt_sum (q_cons (q_lc rfl S.nd (blkOk_by (own := [("one", 3), ("far", 4)]) (by kernel_rfl)) (i_zip (by rfl) T.bl_zip (q_cons (q_var 0) (q_cons (q_call c_near_in hr (by decide) (by rfl) (q_cons (q_var 1) (q_cons (q_var 2) q_nil))) q_nil))) (fun _ _ _ _ _ => (g_tup rfl (g_cons (g_nm 3 S.nd) (g_cons (g_nm 4 S.nd) g_nil)))) (fun _ _ _ _ _ => t_nil) (fun _ _ _ _ _ => (q_op op_mulA w_mul (q_var 3) (q_var 4)))) q_nil)))))
/-! ### sums_in -/
abbrev st_sums_in : Stmt := top 36
def gs_sums_in : Gs :=
  (gSeq (gAsg (lf (cN mm_table_of (cCons (cVar 0) cNil))) (bNm 1))
  (gRet (lf (cLc [2] (iN rg1 (cCons (cN oLen (cCons (cVar 1) cNil)) cNil)) (bNm 2) bYes (cN mm_sum_in (cCons (c2 oIx (cVar 0) (cK (.int 0))) (cCons (cVar 1) (cCons (cTup (cCons (cVar 2) cNil)) cNil))))))))
def mm_sums_in := run 3 1 gs_sums_in
theorem sc_sums_in : FnScope ["web", "rows", "k"] ["web"] (defScope st_sums_in) := ⟨rfl, rfl, rfl, by decide +kernel, rfl, by decide +kernel, by decide +kernel⟩
theorem ok_sums_in {f : Addr} {fd : FuncData} (F : Fun K "sums_in" "sums_in" st_sums_in f fd) (T : Txt mg) (c_table_of : Cal P w K mg base 1 "table_of" (spP K mm_table_of)) (c_sum_in : Cal P w K mg base 2 "sum_in" (spP K mm_sum_in)) : FnOk P w K mg base CX0 3 f fd ["web"] (spP K mm_sums_in) := by
  have S := sc_sums_in
  refine okP 3 1 F S rfl rfl (g := gs_sums_in) fun cdv A outer s H E z hr => ?_
  exact (s_cons (s_set 1 S.nd (r_lf (q_call c_table_of hr (by decide) (by rfl) (q_cons (q_var 0) q_nil))))
  (s_one (s_ret (r_lf (q_lc rfl S.nd (blkOk_by (own := [("k", 2)]) (by kernel_rfl)) (i_range1 (by rfl) T.bl_range (q_cons (q_callB call_len w_len (by rfl) T.bl_len bt_len (q_cons (q_var 1) q_nil)) q_nil)) (fun _ _ _ _ _ => (g_nm 2 S.nd)) (fun _ _ _ _ _ => t_nil) (fun _ _ _ _ _ => (q_call c_sum_in hr (by decide) (by rfl) (q_cons (q_ix ix_seq w_ix (q_var 0) q_int) (q_cons (q_var 1) (q_cons (q_tup (q_cons (q_var 2) q_nil)) q_nil))))))))))
/-! ### is_below -/
abbrev st_is_below : Stmt := top 16
def gs_is_below : Gs :=
  (gRet (lf (c2 oLt (c2 oMul (c2 oIx (cVar 0) (cK (.int 0))) (c2 oIx (cVar 1) (cK (.int 1)))) (c2 oMul (c2 oIx (cVar 1) (cK (.int 0))) (c2 oIx (cVar 0) (cK (.int 1)))))))
def mm_is_below := run 2 2 gs_is_below
theorem sc_is_below : FnScope ["one", "other"] ["one", "other"] (defScope st_is_below) := ⟨rfl, rfl, rfl, by decide +kernel, rfl, by decide +kernel, by decide +kernel⟩
theorem ok_is_below {f : Addr} {fd : FuncData} (F : Fun K "is_below" "is_below" st_is_below f fd) (T : Txt mg) : FnOk P w K mg base CX0 1 f fd ["one", "other"] (spP K mm_is_below) := by
  have S := sc_is_below
  refine okP 2 2 F S rfl rfl (g := gs_is_below) fun cdv A outer s H E z hr => ?_
  exact (s_one (s_ret (r_lf (q_cmp (op_ltD (hu64 hr)) w_lt (q_op op_mulA w_mul (q_ix ix_seq w_ix (q_var 0) q_int) (q_ix ix_seq w_ix (q_var 1) q_int)) (q_op op_mulA w_mul (q_ix ix_seq w_ix (q_var 1) q_int) (q_ix ix_seq w_ix (q_var 0) q_int)) (by rfl)))))
/-! ### sorted_up -/
abbrev st_sorted_up : Stmt := top 61
def gs_sorted_up : Gs :=
  (gSeq (gAsg (lf (cLst cNil)) (bNm 1))
  (gSeq (gFor (lfs (iS (cVar 0))) (bNm 2)
  (gSeq (gAsg (lf (cN oLen (cCons (cLc [4] (iS (cVar 1)) (bNm 4) (bT (cN mm_is_below (cCons (cVar 4) (cCons (cVar 2) cNil)))) (cVar 4)) cNil))) (bNm 3))
  (gAsg (lf (c2 oAdd (c2 oAdd (cSl (cVar 1) cNoPart (cPart (cVar 3))) (cLst (cCons (cVar 2) cNil))) (cSl (cVar 1) (cPart (cVar 3)) cNoPart))) (bNm 1))))
  (gRet (lf (cVar 1)))))
def mm_sorted_up := run 5 1 gs_sorted_up
theorem sc_sorted_up : FnScope ["some", "found", "one", "at", "x"] ["some"] (defScope st_sorted_up) := ⟨rfl, rfl, rfl, by decide +kernel, rfl, by decide +kernel, by decide +kernel⟩
theorem ok_sorted_up {f : Addr} {fd : FuncData} (F : Fun K "sorted_up" "sorted_up" st_sorted_up f fd) (T : Txt mg) (c_is_below : Cal P w K mg base 1 "is_below" (spP K mm_is_below)) : FnOk P w K mg base CX0 2 f fd ["some"] (spP K mm_sorted_up) := by
  have S := sc_sorted_up
  refine okP 5 1 F S rfl rfl (g := gs_sorted_up) fun cdv A outer s H E z hr => ?_
  exact (s_cons (s_set 1 S.nd (r_lf (q_lst q_nil)))
  (s_cons (s_for rfl (i_lf (i_seq (q_var 0))) (g_nm 2 S.nd)
  (s_cons (s_set 3 S.nd (r_lf (q_callB call_len w_len (by rfl) T.bl_len bt_len (q_cons (q_lc rfl S.nd (blkOk_by (own := [("x", 4)]) (by kernel_rfl)) (i_seq (q_var 1)) (fun _ _ _ _ _ => (g_nm 4 S.nd)) (fun _ _ _ _ _ => (t_one (b_val (q_call c_is_below hr (by decide) (by rfl) (q_cons (q_var 4) (q_cons (q_var 2) q_nil)))))) (fun _ _ _ _ _ => (q_var 4))) q_nil))))
  (s_one (s_set 1 S.nd (r_lf (q_op op_addA w_add (q_op op_addA w_add (q_slice (q_var 1) q_nopart (q_part (q_var 3))) (q_lst (q_cons (q_var 2) q_nil))) (q_slice (q_var 1) (q_part (q_var 3)) q_nopart)))))) PassesOwn.never)
  (s_one (s_ret (r_lf (q_var 1))))))
/-! ### least_at -/
abbrev st_least_at : Stmt := top 59
def gs_least_at : Gs :=
  (gSeq (gAsg (lf (cK .none)) (bNm 3))
  (gSeq (gFor (lfs (iN zp2 (cCons (cVar 0) (cCons (cVar 1) cNil)))) (bTp 2 (bCons (bNm 4) (bCons (bNm 5) bNil)))
  (gSeq (gAsg (lf (cN mm_plus (cCons (cTup (cCons (cVar 4) (cCons (cK (.int 1)) cNil))) (cCons (cN mm_times (cCons (cVar 2) (cCons (cTup (cCons (cVar 5) (cCons (cK (.int 1)) cNil))) cNil))) cNil)))) (bNm 6))
  (gAsg (lf (cIf (bOr (bV (c2 oIs (cVar 3) (cK .none))) (bT (cN mm_is_below (cCons (cVar 6) (cCons (cVar 3) cNil))))) (cVar 6) (cVar 3))) (bNm 3))))
  (gRet (lf (cVar 3)))))
def mm_least_at := run 7 3 gs_least_at
theorem sc_least_at : FnScope ["sums", "row", "more", "found", "one", "far", "here"] ["sums", "row", "more"] (defScope st_least_at) := ⟨rfl, rfl, rfl, by decide +kernel, rfl, by decide +kernel, by decide +kernel⟩
theorem ok_least_at {f : Addr} {fd : FuncData} (F : Fun K "least_at" "least_at" st_least_at f fd) (T : Txt mg) (c_plus : Cal P w K mg base 3 "plus" (spP K mm_plus)) (c_times : Cal P w K mg base 3 "times" (spP K mm_times)) (c_is_below : Cal P w K mg base 1 "is_below" (spP K mm_is_below)) : FnOk P w K mg base CX0 4 f fd ["sums", "row", "more"] (spP K mm_least_at) := by
  have S := sc_least_at
  refine okP 7 3 F S rfl rfl (g := gs_least_at) fun cdv A outer s H E z hr => ?_
  exact (s_cons (s_set 3 S.nd (r_lf q_non))
  (s_cons (s_for rfl (i_lf (i_zip (by rfl) T.bl_zip (q_cons (q_var 0) (q_cons (q_var 1) q_nil)))) (g_tup rfl (g_cons (g_nm 4 S.nd) (g_cons (g_nm 5 S.nd) g_nil)))
  (s_cons (s_set 6 S.nd (r_lf (q_call c_plus hr (by decide) (by rfl) (q_cons (q_tup (q_cons (q_var 4) (q_cons q_int q_nil))) (q_cons (q_call c_times hr (by decide) (by rfl) (q_cons (q_var 2) (q_cons (q_tup (q_cons (q_var 5) (q_cons q_int q_nil))) q_nil))) q_nil)))))
  (s_one (s_set 3 S.nd (r_lf (q_if ((b_or (b_cmp op_isA w_is (q_var 3) q_non (by rfl)) (b_or1 (b_val (q_call c_is_below hr (by decide) (by rfl) (q_cons (q_var 6) (q_cons (q_var 3) q_nil))))))).pt (q_var 6) (q_var 3)))))) PassesOwn.never)
  (s_one (s_ret (r_lf (q_var 3))))))
/-! ### minus -/
abbrev st_minus : Stmt := top 13
def gs_minus : Gs :=
  (gRet (lf (cN mm_reduced (cCons (c2 oSub (c2 oMul (c2 oIx (cVar 0) (cK (.int 0))) (c2 oIx (cVar 1) (cK (.int 1)))) (c2 oMul (c2 oIx (cVar 1) (cK (.int 0))) (c2 oIx (cVar 0) (cK (.int 1))))) (cCons (c2 oMul (c2 oIx (cVar 0) (cK (.int 1))) (c2 oIx (cVar 1) (cK (.int 1)))) cNil)))))
def mm_minus := run 2 2 gs_minus
theorem sc_minus : FnScope ["one", "other"] ["one", "other"] (defScope st_minus) := ⟨rfl, rfl, rfl, by decide +kernel, rfl, by decide +kernel, by decide +kernel⟩
theorem ok_minus {f : Addr} {fd : FuncData} (F : Fun K "minus" "minus" st_minus f fd) (T : Txt mg) (c_reduced : Cal P w K mg base 2 "reduced" (spP K mm_reduced)) : FnOk P w K mg base CX0 3 f fd ["one", "other"] (spP K mm_minus) := by
  have S := sc_minus
  refine okP 2 2 F S rfl rfl (g := gs_minus) fun cdv A outer s H E z hr => ?_
  exact (s_one (s_ret (r_lf (q_call c_reduced hr (by decide) (by rfl) (q_cons (q_op op_sub w_sub (q_op op_mulA w_mul (q_ix ix_seq w_ix (q_var 0) q_int) (q_ix ix_seq w_ix (q_var 1) q_int)) (q_op op_mulA w_mul (q_ix ix_seq w_ix (q_var 1) q_int) (q_ix ix_seq w_ix (q_var 0) q_int))) (q_cons (q_op op_mulA w_mul (q_ix ix_seq w_ix (q_var 0) q_int) (q_ix ix_seq w_ix (q_var 1) q_int)) q_nil))))))
/-! ### is_bend -/
abbrev st_is_bend : Stmt := top 62
def gs_is_bend : Gs :=
  (gSeq (gAsg (lf (cN mm_over (cCons (cN mm_minus (cCons (c2 oIx (cVar 1) (cVar 2)) (cCons (c2 oIx (cVar 1) (c2 oSub (cVar 2) (cK (.int 1)))) cNil))) (cCons (cN mm_minus (cCons (c2 oIx (cVar 0) (cVar 2)) (cCons (c2 oIx (cVar 0) (c2 oSub (cVar 2) (cK (.int 1)))) cNil))) cNil)))) (bNm 3))
  (gRet (lf (c2 oNe (cVar 3) (cN mm_over (cCons (cN mm_minus (cCons (c2 oIx (cVar 1) (c2 oAdd (cVar 2) (cK (.int 1)))) (cCons (c2 oIx (cVar 1) (cVar 2)) cNil))) (cCons (cN mm_minus (cCons (c2 oIx (cVar 0) (c2 oAdd (cVar 2) (cK (.int 1)))) (cCons (c2 oIx (cVar 0) (cVar 2)) cNil))) cNil)))))))
def mm_is_bend := run 4 3 gs_is_bend
theorem sc_is_bend : FnScope ["steps", "values", "k", "rise"] ["steps", "values", "k"] (defScope st_is_bend) := ⟨rfl, rfl, rfl, by decide +kernel, rfl, by decide +kernel, by decide +kernel⟩
theorem ok_is_bend {f : Addr} {fd : FuncData} (F : Fun K "is_bend" "is_bend" st_is_bend f fd) (T : Txt mg) (c_over : Cal P w K mg base 3 "over" (spP K mm_over)) (c_minus : Cal P w K mg base 3 "minus" (spP K mm_minus)) : FnOk P w K mg base CX0 4 f fd ["steps", "values", "k"] (spP K mm_is_bend) := by
  have S := sc_is_bend
  refine okP 4 3 F S rfl rfl (g := gs_is_bend) fun cdv A outer s H E z hr => ?_
  exact (s_cons (s_set 3 S.nd (r_lf (q_call c_over hr (by decide) (by rfl) (q_cons (q_call c_minus hr (by decide) (by rfl) (q_cons (q_ix ix_seq w_ix (q_var 1) (q_var 2)) (q_cons (q_ix ix_seq w_ix (q_var 1) (q_op op_sub w_sub (q_var 2) q_int)) q_nil))) (q_cons (q_call c_minus hr (by decide) (by rfl) (q_cons (q_ix ix_seq w_ix (q_var 0) (q_var 2)) (q_cons (q_ix ix_seq w_ix (q_var 0) (q_op op_sub w_sub (q_var 2) q_int)) q_nil))) q_nil)))))
  (s_one (s_ret (r_lf (q_cmp (op_neQ (hu64 hr)) w_ne (q_var 3) (q_call c_over hr (by decide) (by rfl) (q_cons (q_call c_minus hr (by decide) (by rfl) (q_cons (q_ix ix_seq w_ix (q_var 1) (q_op op_addA w_add (q_var 2) q_int)) (q_cons (q_ix ix_seq w_ix (q_var 1) (q_var 2)) q_nil))) (q_cons (q_call c_minus hr (by decide) (by rfl) (q_cons (q_ix ix_seq w_ix (q_var 0) (q_op op_addA w_add (q_var 2) q_int)) (q_cons (q_ix ix_seq w_ix (q_var 0) (q_var 2)) q_nil))) q_nil))) (by rfl))))))
/-! ### growing_best -/
abbrev st_growing_best : Stmt := top 60
def gs_growing_best : Gs :=
  (gSeq (gExpr (lf (cN mm_need_web (cCons (cVar 0) cNil))))
  (gSeq (gExpr (lf (cN mm_need_point (cCons (cVar 0) (cCons (cVar 1) cNil)))))
  (gSeq (gIf (lfb (bNot (bT (cN mm_is_in (cCons (cVar 2) (cCons (c2 oIx (c2 oIx (cVar 0) (cK (.int 0))) (cVar 1)) (cCons (cK (.int 1000)) cNil)))))))
  gNever
  gNx)
  (gSeq (gPar3 3 4 5 (wsh (lf (cN mm_sums_in (cCons (cVar 0) cNil)))) (wsh (lf (c2 oIx (cN mm_table_of (cCons (cVar 0) cNil)) (cVar 1)))) (wsh (lf (c2 oIx (c2 oIx (cVar 0) (cK (.int 0))) (cVar 1)))))
  (gSeq (gSetW 6 (wN few (lfs (cCons (cTup (cCons (cK (.int 0)) (cCons (cK (.int 1)) cNil))) cNil))))
  (gSeq (gFor (lfs (iN rg1 (cCons (cN oLen (cCons (cVar 4) cNil)) cNil))) (bNm 7)
  (gFor (lfs (iN rg1 (cCons (cN oLen (cCons (cVar 4) cNil)) cNil))) (bNm 12)
  (gIf (lfb (bV (c2 oNe (c2 oIx (cVar 4) (cVar 7)) (c2 oIx (cVar 4) (cVar 12)))))
  (gSeq (gAsg (lf (cN mm_reduced (cCons (c2 oSub (c2 oIx (cVar 3) (cVar 12)) (c2 oIx (cVar 3) (cVar 7))) (cCons (c2 oSub (c2 oIx (cVar 4) (cVar 7)) (c2 oIx (cVar 4) (cVar 12))) cNil)))) (bNm 9))
  (gIf (lfb (bAnd (bV (c2 oGt (c2 oIx (cVar 9) (cK (.int 0))) (cK (.int 0)))) (bAnd (bT (cN mm_is_below (cCons (cVar 9) (cCons (cTup (cCons (c2 oSub (cVar 2) (cVar 5)) (cCons (cK (.int 1)) cNil))) cNil)))) (bBor (bV (c2 oNotIn (cVar 9) (cVar 6)))))))
  (gApp 6 (lf (cVar 9)))
  gNx))
  gNx)))
  (gSeq (gSetW 8 (wN few (lfs (cCons (cTup (cCons (cK (.int 0)) (cCons (cK (.int 1)) cNil))) cNil))))
  (gSeq (gFz 6 (gFor (lfs (iS (cN mm_sorted_up (cCons (cSl (cVar 6) (cPart (cK (.int 1))) cNoPart) cNil)))) (bNm 9)
  (gApp 8 (lf (cVar 9)))))
  (gSeq (gIf (lfb (bV (c2 oGt (cVar 2) (cVar 5))))
  (gApp 8 (lf (cTup (cCons (c2 oSub (cVar 2) (cVar 5)) (cCons (cK (.int 1)) cNil)))))
  gNx)
  (gSeq (gFz 8 (gAsg (lf (cLc [9] (iS (cVar 8)) (bNm 9) bYes (cN mm_least_at (cCons (cVar 3) (cCons (cVar 4) (cCons (cVar 9) cNil)))))) (bNm 10)))
  (gSeq (gAsg (lf (cLc [13] (iN rg1 (cCons (cN oLen (cCons (cVar 8) cNil)) cNil)) (bNm 13) (bOr (bV (c2 oIn (cVar 13) (cTup (cCons (cK (.int 0)) (cCons (c2 oSub (cN oLen (cCons (cVar 8) cNil)) (cK (.int 1))) cNil))))) (bT (cN mm_is_bend (cCons (cVar 8) (cCons (cVar 10) (cCons (cVar 13) cNil)))))) (cVar 13))) (bNm 11))
  (gRet (lf (cN oTuple (cCons (cLc [13] (iS (cVar 11)) (bNm 13) bYes (cTup (cCons (cN mm_plus (cCons (cTup (cCons (cVar 5) (cCons (cK (.int 1)) cNil))) (cCons (c2 oIx (cVar 8) (cVar 13)) cNil))) (cCons (c2 oIx (cVar 10) (cVar 13)) cNil)))) cNil)))))))))))))))
def mm_growing_best := run 14 3 gs_growing_best
theorem sc_growing_best : FnScope ["web", "point", "most", "sums", "row", "first", "steps", "x", "found", "step", "values", "kept", "y", "k"] ["web", "point", "most"] (defScope st_growing_best) := ⟨rfl, rfl, rfl, by decide +kernel, rfl, by decide +kernel, by decide +kernel⟩
theorem ok_growing_best {f : Addr} {fd : FuncData} (F : Fun K "growing_best" "growing_best" st_growing_best f fd) (T : Txt mg) (c_need_web : Cal P w K mg base 3 "need_web" (spP K mm_need_web)) (c_need_point : Cal P w K mg base 2 "need_point" (spP K mm_need_point)) (c_is_in : Cal P w K mg base 1 "is_in" (spP K mm_is_in)) (c_sums_in : Cal P w K mg base 3 "sums_in" (spP K mm_sums_in)) (c_table_of : Cal P w K mg base 1 "table_of" (spP K mm_table_of)) (c_reduced : Cal P w K mg base 2 "reduced" (spP K mm_reduced)) (c_is_below : Cal P w K mg base 1 "is_below" (spP K mm_is_below)) (c_sorted_up : Cal P w K mg base 2 "sorted_up" (spP K mm_sorted_up)) (c_least_at : Cal P w K mg base 4 "least_at" (spP K mm_least_at)) (c_is_bend : Cal P w K mg base 4 "is_bend" (spP K mm_is_bend)) (c_plus : Cal P w K mg base 3 "plus" (spP K mm_plus)) : FnOk P w K mg base CX0 5 f fd ["web", "point", "most"] (spP K mm_growing_best) := by
  have S := sc_growing_best
  refine okP 14 3 F S rfl rfl (g := gs_growing_best) fun cdv A outer s H E z hr => ?_
  exact (s_cons (s_expr (r_lf (q_call c_need_web hr (by decide) (by rfl) (q_cons (q_var 0) q_nil))))
  (s_cons (s_expr (r_lf (q_call c_need_point hr (by decide) (by rfl) (q_cons (q_var 0) (q_cons (q_var 1) q_nil)))))
  (s_cons (s_if (r_lfb (b_not (b_val (q_call c_is_in hr (by decide) (by rfl) (q_cons (q_var 2) (q_cons (q_ix ix_seq w_ix (q_ix ix_seq w_ix (q_var 0) q_int) (q_var 1)) (q_cons (q_glob (by rfl) T.gl_MOST_GROWN) q_nil)))))))
  (s_one s_never)
  s_nil)
  (s_cons (s_tup3 3 4 5 rfl S.nd (w_sh (r_lf (q_call c_sums_in hr (by decide) (by rfl) (q_cons (q_var 0) q_nil)))) (w_sh (r_lf (q_ix ix_seq w_ix (q_call c_table_of hr (by decide) (by rfl) (q_cons (q_var 0) q_nil)) (q_var 1)))) (w_sh (r_lf (q_ix ix_seq w_ix (q_ix ix_seq w_ix (q_var 0) q_int) (q_var 1)))))
  (s_cons (s_setW 6 S.nd (w_lst (r_lfs (q_cons (q_tup (q_cons q_int (q_cons q_int q_nil))) q_nil))))
  (s_cons (s_for rfl (i_lf (i_range1 (by rfl) T.bl_range (q_cons (q_callB call_len w_len (by rfl) T.bl_len bt_len (q_cons (q_var 4) q_nil)) q_nil))) (g_nm 7 S.nd)
  (s_one (s_for rfl (i_lf (i_range1 (by rfl) T.bl_range (q_cons (q_callB call_len w_len (by rfl) T.bl_len bt_len (q_cons (q_var 4) q_nil)) q_nil))) (g_nm 12 S.nd)
  (s_one (s_if (r_lfb (b_cmp (op_neQ (hu64 hr)) w_ne (q_ix ix_seq w_ix (q_var 4) (q_var 7)) (q_ix ix_seq w_ix (q_var 4) (q_var 12)) (by rfl)))
  (s_cons (s_set 9 S.nd (r_lf (q_call c_reduced hr (by decide) (by rfl) (q_cons (q_op op_sub w_sub (q_ix ix_seq w_ix (q_var 3) (q_var 12)) (q_ix ix_seq w_ix (q_var 3) (q_var 7))) (q_cons (q_op op_sub w_sub (q_ix ix_seq w_ix (q_var 4) (q_var 7)) (q_ix ix_seq w_ix (q_var 4) (q_var 12))) q_nil)))))
  (s_one (s_if (r_lfb ((b_and (b_cmp (op_gtD (hu64 hr)) w_gt (q_ix ix_seq w_ix (q_var 9) q_int) q_int (by rfl)) (b_and (b_val (q_call c_is_below hr (by decide) (by rfl) (q_cons (q_var 9) (q_cons (q_tup (q_cons (q_op op_sub w_sub (q_var 2) (q_var 5)) (q_cons q_int q_nil))) q_nil)))) (b_and1 (b_bor fun _ => (b_cmp (op_notInA (hu65 hr)) w_notIn (q_var 9) (q_var 6) (by rfl))))))).pt)
  (s_one (s_app 6 (r_lf (q_var 9))))
  s_nil)))
  s_nil)) PassesOwn.never)) PassesOwn.never)
  (s_cons (s_setW 8 S.nd (w_lst (r_lfs (q_cons (q_tup (q_cons q_int (q_cons q_int q_nil))) q_nil))))
  (s_cons (s_fz 6 (s_for rfl (i_lf (i_seq (q_call c_sorted_up hr (by decide) (by rfl) (q_cons (q_slice (q_var 6) (q_part q_int) q_nopart) q_nil)))) (g_nm 9 S.nd)
  (s_one (s_app 8 (r_lf (q_var 9)))) PassesOwn.never))
  (s_cons (s_if (r_lfb (b_cmp (op_gtD (hu64 hr)) w_gt (q_var 2) (q_var 5) (by rfl)))
  (s_one (s_app 8 (r_lf (q_tup (q_cons (q_op op_sub w_sub (q_var 2) (q_var 5)) (q_cons q_int q_nil))))))
  s_nil)
  (s_cons (s_fz 8 (s_set 10 S.nd (r_lf (q_lc rfl S.nd (blkOk_by (own := [("step", 9)]) (by kernel_rfl)) (i_seq (q_var 8)) (fun _ _ _ _ _ => (g_nm 9 S.nd)) (fun _ _ _ _ _ => t_nil) (fun _ _ _ _ _ => (q_call c_least_at hr (by decide) (by rfl) (q_cons (q_var 3) (q_cons (q_var 4) (q_cons (q_var 9) q_nil)))))))))
  (s_cons (s_lc 11 rfl S.nd (blkOk_by (own := [("k", 13)]) (by kernel_rfl)) (sw_true rfl rfl rfl (by rfl)) (i_range1 (by rfl) T.bl_range (q_cons (q_callB call_len w_len (by rfl) T.bl_len bt_len (q_cons (q_var 8) q_nil)) q_nil)) (fun _ _ _ _ _ => (g_nm 13 S.nd)) (fun _ _ _ _ _ => (t_one ((b_or (b_cmp (op_inA (hu65 hr)) w_in (q_var 13) (q_tup (q_cons q_int (q_cons (q_op op_sub w_sub (q_callB call_len w_len (by rfl) T.bl_len bt_len (q_cons (q_var 8) q_nil)) q_int) q_nil))) (by rfl)) (b_or1 (b_val (q_call c_is_bend hr (by decide) (by rfl) (q_cons (q_var 8) (q_cons (q_var 10) (q_cons (q_var 13) q_nil)))))))).pt)) (fun _ _ _ _ _ => (q_var 13)))
  (s_one (s_ret (r_lf (q_callTy call_tuple_of w_tuple (by rfl) T.bl_tuple bt_tuple (q_cons (q_lc rfl S.nd (blkOk_by (own := [("k", 13)]) (by kernel_rfl)) (i_seq (q_var 11)) (fun _ _ _ _ _ => (g_nm 13 S.nd)) (fun _ _ _ _ _ => t_nil) (fun _ _ _ _ _ => (q_tup (q_cons (q_call c_plus hr (by decide) (by rfl) (q_cons (q_tup (q_cons (q_var 5) (q_cons q_int q_nil))) (q_cons (q_ix ix_seq w_ix (q_var 8) (q_var 13)) q_nil))) (q_cons (q_ix ix_seq w_ix (q_var 10) (q_var 13)) q_nil))))) q_nil))))))))))))))))
/-! ### law -/
abbrev st_law : Stmt := top 83
def gs_law_rest : Gs :=
  (gSeq (gAsg (lf (cTup (cCons (cTup (cCons (cK (.int 2)) (cCons (cK (.int 2)) (cCons (cK (.int 2)) cNil)))) (cCons (cTup (cCons (cTup (cCons (cK (.int 0)) (cCons (cK (.int 1)) (cCons (cVar 2) cNil)))) (cCons (cTup (cCons (cK (.int 1)) (cCons (cK (.int 2)) (cCons (cVar 2) cNil)))) cNil))) cNil)))) (bNm 3))
  (gSeq (gAsg (lf (cLst (cCons (cN mm_serving (cCons (cVar 3) (cCons (cTup (cCons (cK (.int 0)) (cCons (cK (.int 2)) cNil))) (cCons (cTup (cCons (cK (.int 2)) (cCons (cK (.int 4)) cNil))) cNil)))) (cCons (cN mm_serving (cCons (cVar 3) (cCons (cTup (cCons (cK (.int 0)) (cCons (cK (.int 2)) cNil))) (cCons (cTup (cCons (cK (.int 2)) (cCons (cK (.int 3)) cNil))) cNil)))) (cCons (cN mm_room_prices (cCons (cVar 3) (cCons (cTup (cCons (cK (.int 0)) cNil)) (cCons (cTup (cCons (cK (.int 5)) cNil)) cNil)))) cNil))))) (bNm 4))
  (gSeq (gAsg (lf (c2 oAdd (cVar 4) (cLst (cCons (cN mm_crowd (cCons (cVar 3) (cCons (cTup (cCons (cK (.int 0)) (cCons (cK (.int 2)) cNil))) (cCons (cTup (cCons (cK (.int 6)) (cCons (cK (.int 6)) cNil))) (cCons (cK (.int 0)) cNil))))) cNil)))) (bNm 4))
  (gSeq (gIf (lfb (bNot (bT (cN (mm__law_alike 6) (cCons (cVar 4) (cCons (cLst (cCons (cTup (cCons (c2 oMul (cK (.int 2)) (cVar 2)) (cCons (cTup (cCons (cTup (cCons (cK (.int 2)) (cCons (cK (.int 0)) cNil))) (cCons (cTup (cCons (cK (.int 0)) (cCons (cK (.int 2)) cNil))) (cCons (cTup (cCons (cK (.int 0)) (cCons (cK (.int 2)) cNil))) cNil)))) cNil))) (cCons (cK .none) (cCons (cK .none) (cCons (cTup (cCons (cK (.int 1)) cNil)) cNil))))) cNil))))))
  (gRet (lf (cK (.bool false))))
  gNx)
  (gSeq (gAsg (lf (cLst (cCons (cN mm_crowd (cCons (cVar 3) (cCons (cTup (cCons (cK (.int 0)) (cCons (cK (.int 2)) cNil))) (cCons (cTup (cCons (cK (.int 2)) (cCons (cK (.int 4)) cNil))) (cCons (cVar 2) cNil))))) (cCons (cN mm_room_reach (cCons (cVar 3) (cCons (cTup (cCons (cK (.int 0)) (cCons (cK (.int 2)) cNil))) (cCons (cTup (cCons (cK (.int 2)) (cCons (cK (.int 4)) cNil))) cNil)))) cNil)))) (bNm 4))
  (gSeq (gAsg (lf (c2 oAdd (cVar 4) (cLst (cCons (cN mm_room_reach (cCons (cVar 3) (cCons (cTup (cCons (cK (.int 0)) (cCons (cK (.int 2)) cNil))) (cCons (cTup (cCons (cK (.int 6)) (cCons (cK (.int 0)) cNil))) cNil)))) (cCons (cN mm_room_reach (cCons (cVar 3) (cCons (cTup (cCons (cK (.int 0)) cNil)) (cCons (cTup (cCons (cK (.int 5)) cNil)) cNil)))) cNil))))) (bNm 4))
  (gSeq (gIf (lfb (bNot (bT (cN (mm__law_alike 6) (cCons (cVar 4) (cCons (cLst (cCons (cK .none) (cCons (cVar 2) (cCons (c2 oMul (cK (.int 2)) (cVar 2)) (cCons (cK .none) cNil))))) cNil))))))
  (gRet (lf (cK (.bool false))))
  gNx)
  (gSeq (gIf (lfb (bV (c2 oIsNot (cN mm_shows_room_prices (cCons (cVar 3) (cCons (cTup (cCons (cK (.int 0)) (cCons (cK (.int 2)) cNil))) (cCons (cTup (cCons (cK (.int 2)) (cCons (cK (.int 4)) cNil))) (cCons (cTup (cCons (cTup (cCons (cK (.int 0)) (cCons (cVar 2) (cCons (cK (.int 0)) cNil)))) (cCons (cTup (cCons (cK (.int 0)) (cCons (cK (.int 0)) cNil))) cNil))) cNil))))) (cK (.bool true)))))
  (gRet (lf (cK (.bool false))))
  gNx)
  (gSeq (gAsg (lf (cTup (cCons (cTup (cCons (cK (.int 1)) (cCons (cK (.int 1)) cNil))) (cCons (cTup (cCons (cTup (cCons (cK (.int 0)) (cCons (cK (.int 1)) (cCons (cVar 2) cNil)))) cNil)) cNil)))) (bNm 5))
  (gSeq (gAsg (lf (cLst (cCons (cN mm_always_best (cCons (cVar 5) (cCons (cTup (cCons (cK (.int 1)) (cCons (cK (.int 1)) cNil))) cNil))) (cCons (cN mm_always_best (cCons (cVar 5) (cCons (cTup (cCons (cK (.int 2)) (cCons (cK (.int 1)) cNil))) cNil))) (cCons (cN mm_always_best (cCons (cVar 5) (cCons (cTup (cCons (cK (.int 2)) (cCons (cK (.int 2)) cNil))) cNil))) cNil))))) (bNm 4))
  (gSeq (gAsg (lf (c2 oAdd (cVar 4) (cLst (cCons (cN mm_regret (cCons (cVar 5) (cCons (cTup (cCons (cK (.int 3)) (cCons (cK (.int 1)) cNil))) (cCons (cK (.int 1)) cNil)))) (cCons (cN mm_least_regret (cCons (cVar 5) (cCons (cTup (cCons (cK (.int 3)) (cCons (cK (.int 1)) cNil))) cNil))) cNil))))) (bNm 4))
  (gSeq (gIf (lfb (bNot (bT (cN (mm__law_alike 6) (cCons (cVar 4) (cCons (cLst (cCons (cTup (cCons (cK (.int 0)) (cCons (cK (.int 1)) cNil))) (cCons (cTup (cCons (cK (.int 0)) cNil)) (cCons (cTup cNil) (cCons (c2 oMul (cK (.int 2)) (cVar 2)) (cCons (cTup (cCons (cK (.int 0)) (cCons (cTup (cCons (cK (.int 0)) cNil)) cNil))) cNil)))))) cNil))))))
  (gRet (lf (cK (.bool false))))
  gNx)
  (gSeq (gAsg (lf (cTup (cCons (cTup (cCons (cK (.int 5)) (cCons (cK (.int 1)) (cCons (cK (.int 1)) cNil)))) (cCons (cTup (cCons (cTup (cCons (cK (.int 0)) (cCons (cK (.int 1)) (cCons (cVar 2) cNil)))) (cCons (cTup (cCons (cK (.int 1)) (cCons (cK (.int 2)) (cCons (cVar 2) cNil)))) cNil))) cNil)))) (bNm 6))
  (gSeq (gAsg (lf (cLst (cCons (cN mm_weights_for (cCons (cVar 6) (cCons (cTup (cCons (cK (.int 5)) (cCons (cK (.int 1)) (cCons (cK (.int 1)) cNil)))) (cCons (cK (.int 2)) cNil)))) (cCons (cN mm_never_paper (cCons (cVar 6) (cCons (cTup (cCons (cK (.int 5)) (cCons (cK (.int 1)) (cCons (cK (.int 1)) cNil)))) (cCons (cK (.int 0)) cNil)))) (cCons (cN mm_weights_for (cCons (cVar 6) (cCons (cTup (cCons (cK (.int 5)) (cCons (cK (.int 1)) (cCons (cK (.int 1)) cNil)))) (cCons (cK (.int 0)) cNil)))) cNil))))) (bNm 4))
  (gSeq (gIf (lfb (bNot (bT (cN (mm__law_alike 6) (cCons (cVar 4) (cCons (cLst (cCons (cK .none) (cCons (cK .none) (cCons (cTup (cCons (cTup (cCons (cK (.int 5)) (cCons (cK (.int 1)) cNil))) (cCons (cTup (cCons (cK (.int 1)) (cCons (cK (.int 1)) cNil))) (cCons (cTup (cCons (cK (.int 1)) (cCons (cK (.int 1)) cNil))) cNil)))) cNil)))) cNil))))))
  (gRet (lf (cK (.bool false))))
  gNx)
  (gSeq (gIf (lfb (bV (c2 oIsNot (cN mm_shows_never_paper (cCons (cVar 6) (cCons (cTup (cCons (cK (.int 5)) (cCons (cK (.int 2)) (cCons (cK (.int 2)) cNil)))) (cCons (cK (.int 2)) (cCons (cTup (cCons (cTup (cCons (cK (.int 1)) (cCons (cK (.int 1)) cNil))) (cCons (cTup (cCons (cK (.int 0)) (cCons (cK (.int 1)) cNil))) (cCons (cTup (cCons (cK (.int 0)) (cCons (cK (.int 1)) cNil))) cNil)))) cNil))))) (cK (.bool true)))))
  (gRet (lf (cK (.bool false))))
  gNx)
  (gSeq (gAsg (lf (cTup (cCons (cTup (cCons (cTup (cCons (cK (.int 1)) (cCons (cK (.int 1)) cNil))) (cCons (cTup (cCons (cVar 2) (cCons (cK (.int 1)) cNil))) cNil))) (cCons (cTup (cCons (cTup (cCons (cK (.int 4)) (cCons (cK (.int 1)) cNil))) (cCons (cTup (cCons (cVar 2) (cCons (cK (.int 1)) cNil))) cNil))) cNil)))) (bNm 7))
  (gRet (lf (cN (mm__law_alike 6) (cCons (cN mm_growing_best (cCons (cVar 5) (cCons (cK (.int 1)) (cCons (cK (.int 4)) cNil)))) (cCons (cVar 7) cNil))))))))))))))))))))))
def gs_law_head (rest : Gs) : Gs :=
  (gSeq (gSetW 1 (wN few (lfs (cCons (cVar 0) (cCons (cK (.int 0)) (cCons (cK (.int 6368)) (cCons (cK (.int 0)) cNil)))))))
  (gSeq (gAsg (r2 oAdd (lf (cK (.int 1))) (rRow 1 mm__law_taken (lfs (cCons (cK (.int 9)) cNil)))) (bNm 2))
  rest))
def gs_law : Gs :=
  gs_law_head gs_law_rest
def mm_law := run 8 1 gs_law
theorem sc_law : FnScope ["_law_script", "_law_row", "_law_size", "_law_line", "_law_found", "_law_two", "_law_far", "_law_due"] ["_law_script"] (defScope st_law) := ⟨rfl, rfl, rfl, by decide +kernel, rfl, by decide +kernel, by decide +kernel⟩
theorem ok_law {f : Addr} {fd : FuncData} (F : Fun K "law" "law" st_law f fd) (T : Txt mg) (c__law_taken : Cal P w K mg base 1 "_law_taken" (spR K mm__law_taken)) (c_serving : Cal P w K mg base 7 "serving" (spP K mm_serving)) (c_room_prices : Cal P w K mg base 7 "room_prices" (spP K mm_room_prices)) (c_crowd : Cal P w K mg base 7 "crowd" (spP K mm_crowd)) (c__law_alike : Cal P w K mg base 6 "_law_alike" (spP K (mm__law_alike 6))) (c_room_reach : Cal P w K mg base 6 "room_reach" (spP K mm_room_reach)) (c_shows_room_prices : Cal P w K mg base 8 "shows_room_prices" (spP K mm_shows_room_prices)) (c_always_best : Cal P w K mg base 5 "always_best" (spP K mm_always_best)) (c_regret : Cal P w K mg base 6 "regret" (spP K mm_regret)) (c_least_regret : Cal P w K mg base 5 "least_regret" (spP K mm_least_regret)) (c_weights_for : Cal P w K mg base 7 "weights_for" (spP K mm_weights_for)) (c_never_paper : Cal P w K mg base 7 "never_paper" (spP K mm_never_paper)) (c_shows_never_paper : Cal P w K mg base 7 "shows_never_paper" (spP K mm_shows_never_paper)) (c_growing_best : Cal P w K mg base 5 "growing_best" (spP K mm_growing_best)) : FnOk P w K mg base CX0 9 f fd ["_law_script"] (spP K mm_law) := by
  have S := sc_law
  refine okP 8 1 F S rfl rfl (g := gs_law) fun cdv A outer s H E z hr => ?_
  exact (s_cons (s_setW 1 S.nd (w_lst (r_lfs (q_cons (q_var 0) (q_cons q_int (q_cons q_int (q_cons q_int q_nil)))))))
  (s_cons (s_set 2 S.nd (r_op op_addA w_add (r_lf q_int) (r_row 1 c__law_taken hr (by decide) (by rfl) (r_lfs (q_cons q_int q_nil)))))
  (s_cons (s_set 3 S.nd (r_lf (q_tup (q_cons (q_tup (q_cons q_int (q_cons q_int (q_cons q_int q_nil)))) (q_cons (q_tup (q_cons (q_tup (q_cons q_int (q_cons q_int (q_cons (q_var 2) q_nil)))) (q_cons (q_tup (q_cons q_int (q_cons q_int (q_cons (q_var 2) q_nil)))) q_nil))) q_nil)))))
  (s_cons (s_set 4 S.nd (r_lf (q_lst (q_cons (q_call c_serving hr (by decide) (by rfl) (q_cons (q_var 3) (q_cons (q_tup (q_cons q_int (q_cons q_int q_nil))) (q_cons (q_tup (q_cons q_int (q_cons q_int q_nil))) q_nil)))) (q_cons (q_call c_serving hr (by decide) (by rfl) (q_cons (q_var 3) (q_cons (q_tup (q_cons q_int (q_cons q_int q_nil))) (q_cons (q_tup (q_cons q_int (q_cons q_int q_nil))) q_nil)))) (q_cons (q_call c_room_prices hr (by decide) (by rfl) (q_cons (q_var 3) (q_cons (q_tup (q_cons q_int q_nil)) (q_cons (q_tup (q_cons q_int q_nil)) q_nil)))) q_nil))))))
  (s_cons (s_set 4 S.nd (r_lf (q_op op_addA w_add (q_var 4) (q_lst (q_cons (q_call c_crowd hr (by decide) (by rfl) (q_cons (q_var 3) (q_cons (q_tup (q_cons q_int (q_cons q_int q_nil))) (q_cons (q_tup (q_cons q_int (q_cons q_int q_nil))) (q_cons q_int q_nil))))) q_nil)))))
  (s_cons (s_if (r_lfb (b_not (b_val (q_call c__law_alike hr (by decide) (by rfl) (q_cons (q_var 4) (q_cons (q_lst (q_cons (q_tup (q_cons (q_op op_mulA w_mul q_int (q_var 2)) (q_cons (q_tup (q_cons (q_tup (q_cons q_int (q_cons q_int q_nil))) (q_cons (q_tup (q_cons q_int (q_cons q_int q_nil))) (q_cons (q_tup (q_cons q_int (q_cons q_int q_nil))) q_nil)))) q_nil))) (q_cons q_non (q_cons q_non (q_cons (q_tup (q_cons q_int q_nil)) q_nil))))) q_nil))))))
  (s_one (s_ret (r_lf q_bl)))
  s_nil)
  (s_cons (s_set 4 S.nd (r_lf (q_lst (q_cons (q_call c_crowd hr (by decide) (by rfl) (q_cons (q_var 3) (q_cons (q_tup (q_cons q_int (q_cons q_int q_nil))) (q_cons (q_tup (q_cons q_int (q_cons q_int q_nil))) (q_cons (q_var 2) q_nil))))) (q_cons (q_call c_room_reach hr (by decide) (by rfl) (q_cons (q_var 3) (q_cons (q_tup (q_cons q_int (q_cons q_int q_nil))) (q_cons (q_tup (q_cons q_int (q_cons q_int q_nil))) q_nil)))) q_nil)))))
  (s_cons (s_set 4 S.nd (r_lf (q_op op_addA w_add (q_var 4) (q_lst (q_cons (q_call c_room_reach hr (by decide) (by rfl) (q_cons (q_var 3) (q_cons (q_tup (q_cons q_int (q_cons q_int q_nil))) (q_cons (q_tup (q_cons q_int (q_cons q_int q_nil))) q_nil)))) (q_cons (q_call c_room_reach hr (by decide) (by rfl) (q_cons (q_var 3) (q_cons (q_tup (q_cons q_int q_nil)) (q_cons (q_tup (q_cons q_int q_nil)) q_nil)))) q_nil))))))
  (s_cons (s_if (r_lfb (b_not (b_val (q_call c__law_alike hr (by decide) (by rfl) (q_cons (q_var 4) (q_cons (q_lst (q_cons q_non (q_cons (q_var 2) (q_cons (q_op op_mulA w_mul q_int (q_var 2)) (q_cons q_non q_nil))))) q_nil))))))
  (s_one (s_ret (r_lf q_bl)))
  s_nil)
  (s_cons (s_if (r_lfb (b_cmp op_isNotA w_isNot (q_call c_shows_room_prices hr (by decide) (by rfl) (q_cons (q_var 3) (q_cons (q_tup (q_cons q_int (q_cons q_int q_nil))) (q_cons (q_tup (q_cons q_int (q_cons q_int q_nil))) (q_cons (q_tup (q_cons (q_tup (q_cons q_int (q_cons (q_var 2) (q_cons q_int q_nil)))) (q_cons (q_tup (q_cons q_int (q_cons q_int q_nil))) q_nil))) q_nil))))) q_bl (by rfl)))
  (s_one (s_ret (r_lf q_bl)))
  s_nil)
  (s_cons (s_set 5 S.nd (r_lf (q_tup (q_cons (q_tup (q_cons q_int (q_cons q_int q_nil))) (q_cons (q_tup (q_cons (q_tup (q_cons q_int (q_cons q_int (q_cons (q_var 2) q_nil)))) q_nil)) q_nil)))))
  (s_cons (s_set 4 S.nd (r_lf (q_lst (q_cons (q_call c_always_best hr (by decide) (by rfl) (q_cons (q_var 5) (q_cons (q_tup (q_cons q_int (q_cons q_int q_nil))) q_nil))) (q_cons (q_call c_always_best hr (by decide) (by rfl) (q_cons (q_var 5) (q_cons (q_tup (q_cons q_int (q_cons q_int q_nil))) q_nil))) (q_cons (q_call c_always_best hr (by decide) (by rfl) (q_cons (q_var 5) (q_cons (q_tup (q_cons q_int (q_cons q_int q_nil))) q_nil))) q_nil))))))
  (s_cons (s_set 4 S.nd (r_lf (q_op op_addA w_add (q_var 4) (q_lst (q_cons (q_call c_regret hr (by decide) (by rfl) (q_cons (q_var 5) (q_cons (q_tup (q_cons q_int (q_cons q_int q_nil))) (q_cons q_int q_nil)))) (q_cons (q_call c_least_regret hr (by decide) (by rfl) (q_cons (q_var 5) (q_cons (q_tup (q_cons q_int (q_cons q_int q_nil))) q_nil))) q_nil))))))
  (s_cons (s_if (r_lfb (b_not (b_val (q_call c__law_alike hr (by decide) (by rfl) (q_cons (q_var 4) (q_cons (q_lst (q_cons (q_tup (q_cons q_int (q_cons q_int q_nil))) (q_cons (q_tup (q_cons q_int q_nil)) (q_cons (q_tup q_nil) (q_cons (q_op op_mulA w_mul q_int (q_var 2)) (q_cons (q_tup (q_cons q_int (q_cons (q_tup (q_cons q_int q_nil)) q_nil))) q_nil)))))) q_nil))))))
  (s_one (s_ret (r_lf q_bl)))
  s_nil)
  (s_cons (s_set 6 S.nd (r_lf (q_tup (q_cons (q_tup (q_cons q_int (q_cons q_int (q_cons q_int q_nil)))) (q_cons (q_tup (q_cons (q_tup (q_cons q_int (q_cons q_int (q_cons (q_var 2) q_nil)))) (q_cons (q_tup (q_cons q_int (q_cons q_int (q_cons (q_var 2) q_nil)))) q_nil))) q_nil)))))
  (s_cons (s_set 4 S.nd (r_lf (q_lst (q_cons (q_call c_weights_for hr (by decide) (by rfl) (q_cons (q_var 6) (q_cons (q_tup (q_cons q_int (q_cons q_int (q_cons q_int q_nil)))) (q_cons q_int q_nil)))) (q_cons (q_call c_never_paper hr (by decide) (by rfl) (q_cons (q_var 6) (q_cons (q_tup (q_cons q_int (q_cons q_int (q_cons q_int q_nil)))) (q_cons q_int q_nil)))) (q_cons (q_call c_weights_for hr (by decide) (by rfl) (q_cons (q_var 6) (q_cons (q_tup (q_cons q_int (q_cons q_int (q_cons q_int q_nil)))) (q_cons q_int q_nil)))) q_nil))))))
  (s_cons (s_if (r_lfb (b_not (b_val (q_call c__law_alike hr (by decide) (by rfl) (q_cons (q_var 4) (q_cons (q_lst (q_cons q_non (q_cons q_non (q_cons (q_tup (q_cons (q_tup (q_cons q_int (q_cons q_int q_nil))) (q_cons (q_tup (q_cons q_int (q_cons q_int q_nil))) (q_cons (q_tup (q_cons q_int (q_cons q_int q_nil))) q_nil)))) q_nil)))) q_nil))))))
  (s_one (s_ret (r_lf q_bl)))
  s_nil)
  (s_cons (s_if (r_lfb (b_cmp op_isNotA w_isNot (q_call c_shows_never_paper hr (by decide) (by rfl) (q_cons (q_var 6) (q_cons (q_tup (q_cons q_int (q_cons q_int (q_cons q_int q_nil)))) (q_cons q_int (q_cons (q_tup (q_cons (q_tup (q_cons q_int (q_cons q_int q_nil))) (q_cons (q_tup (q_cons q_int (q_cons q_int q_nil))) (q_cons (q_tup (q_cons q_int (q_cons q_int q_nil))) q_nil)))) q_nil))))) q_bl (by rfl)))
  (s_one (s_ret (r_lf q_bl)))
  s_nil)
  (s_cons (s_set 7 S.nd (r_lf (q_tup (q_cons (q_tup (q_cons (q_tup (q_cons q_int (q_cons q_int q_nil))) (q_cons (q_tup (q_cons (q_var 2) (q_cons q_int q_nil))) q_nil))) (q_cons (q_tup (q_cons (q_tup (q_cons q_int (q_cons q_int q_nil))) (q_cons (q_tup (q_cons (q_var 2) (q_cons q_int q_nil))) q_nil))) q_nil)))))
  (s_one (s_ret (r_lf (q_call c__law_alike hr (by decide) (by rfl) (q_cons (q_call c_growing_best hr (by decide) (by rfl) (q_cons (q_var 5) (q_cons q_int (q_cons q_int q_nil)))) (q_cons (q_var 7) q_nil)))))))))))))))))))))))))
end
end DG

namespace DG
open PySem PySem.Spec PyProof.Rows L2 DL
theorem lt_ii (a b : Int) : PySem.W.dataLt (.int a) (.int b) = decide (a < b) := by
  have h := congrFun (congrFun (PySem.W.dataLe_int (fun x : Int => x)) b) a
  rw [PySem.W.dataLe_eq] at h
  have h : (!PySem.W.dataLt (.int a) (.int b)) = decide (b ≤ a) := h
  by_cases q : a < b
  · rw [decide_eq_false (by omega)] at h
    rw [decide_eq_true q]
    simpa using h
  · rw [decide_eq_true (by omega)] at h
    rw [decide_eq_false q]
    simpa using h
theorem oGt_ii (a b : Int) : oGt (.int a) (.int b) = some (.bool (decide (b < a))) := by
  have e : oGt (.int a) (.int b) = some (.bool (PySem.W.dataLt (.int b) (.int a))) := rfl
  rw [e, lt_ii]
theorem oGe_ii (a b : Int) : oGe (.int a) (.int b) = some (.bool (decide (b ≤ a))) := by
  have e : oGe (.int a) (.int b) = some (.bool (!PySem.W.dataLt (.int a) (.int b))) := rfl
  rw [e, lt_ii]
  congr 2
  by_cases q : a < b
  · rw [decide_eq_true q, decide_eq_false (by omega)]; rfl
  · rw [decide_eq_false q, decide_eq_true (by omega)]; rfl
theorem oDiv_ii (a b : Int) (h : b ≠ 0) (h2 : b.natAbs < 1073741824) : oDiv (.int a) (.int b) = some (.int (a.fdiv b)) := by
  unfold oDiv
  simp [h, Nat.lt_of_lt_of_le h2 (show 1073741824 ≤ 2 ^ 200 by decide)]
theorem oMod_ii (a b : Int) (h : b ≠ 0) : oMod (.int a) (.int b) = some (.int (a.fmod b)) := by
  unfold oMod
  simp [h]

def rowD (ns : List Int) (k sd ps : Int) : List D := [.list (ns.map .int), .int k, .int sd, .int ps]
theorem atI_int (ns : List Int) (k : Int) (h0 : 0 ≤ k) (h1 : k < ns.length) : ∃ c : Int, atI (ns.map PyData.int) k = some (.int c) := by
  unfold atI ixN
  rw [if_pos h0, if_pos (by rw [List.length_map]; exact h1)]
  refine ⟨ns[k.toNat]'(by omega), ?_⟩
  show (ns.map PyData.int)[k.toNat]? = _
  rw [List.getElem?_map, List.getElem?_eq_getElem (by omega)]
  rfl
theorem at0 (a b c d : D) : atI [a, b, c, d] 0 = some a := rfl
theorem at1 (a b c d : D) : atI [a, b, c, d] 1 = some b := rfl
theorem at2 (a b c d : D) : atI [a, b, c, d] 2 = some c := rfl
theorem at3 (a b c d : D) : atI [a, b, c, d] 3 = some d := rfl
theorem taken_ok (ns : List Int) (k sd ps m : Int) (hk : 0 ≤ k) (hm : 0 < m) (hm2 : m < 1000000) : ∃ r k' sd' ps', mm__law_taken (rowD ns k sd ps) [.int m] = some (.int r, rowD ns k' sd' ps') ∧ 0 ≤ r ∧ r < m ∧ 0 ≤ k' := by
  have hmz : m ≠ 0 := by omega
  have hma : m.natAbs < 1073741824 := by omega
  have hr : ∀ x : Int, 0 ≤ x.fmod m ∧ x.fmod m < m := fun x => ⟨Int.fmod_nonneg_of_pos _ hm, Int.fmod_lt_of_pos _ hm⟩
  by_cases h1 : 0 < ps
  · refine ⟨ps.fmod m, k, sd, ps.fdiv m, ?_, (hr _).1, (hr _).2, hk⟩
    simp [mm__law_taken, rowD, runR, gs__law_taken, ini, gSeq, gIf, gAsg, gSetI, gRet, lf, lfb, bV, c2, cN, cCons, cNil, cIxO, cVar, cK, bNm, ownL, putL, oGt_ii, oDiv_ii, oMod_ii, hmz, hma, h1, isB, oInt, fin, rowL, atI, ixN]
  · have hmul : ∀ a : Int, oMul (.int a) (.int 48271) = some (.int (a * 48271)) := fun a => by
      show (if (b64 a || b64 48271) = true then some (PyData.int (a * 48271)) else none) = _
      rw [show b64 48271 = true from rfl, Bool.or_true, if_pos rfl]
    have hadd : ∀ a b : Int, oAdd (.int a) (.int b) = some (.int (a + b)) := fun _ _ => rfl
    have hsub : ∀ a b : Int, oSub (.int a) (.int b) = some (.int (a - b)) := fun _ _ => rfl
    have hix : ∀ i : Int, oIx (.list (ns.map .int)) (.int i) = atI (ns.map .int) i := fun _ => rfl
    have hpow : oPow (.int 10) (.int 18) = some (.int 1000000000000000000) := rfl
    have hlen : oLen [.list (ns.map .int)] = some (.int ns.length) := by
      show some (PyData.int ((ns.map PyData.int).length : Nat)) = _
      rw [List.length_map]
    by_cases h2 : (ns.length : Int) < k + 1
    · refine ⟨(((sd * 48271 + 11).fmod 2147483647).fdiv 7).fmod m, k + 1, (sd * 48271 + 11).fmod 2147483647, ps, ?_, (hr _).1, (hr _).2, by omega⟩
      simp [mm__law_taken, rowD, runR, gs__law_taken, ini, gSeq, gIf, gAsg, gSetI, gRet, lf, lfb, bV, c2, cN, cCons, cNil, cIxO, cVar, cK, bNm, ownL, putL, oGt_ii, oDiv_ii, oMod_ii, hmz, hma, h1, isB, oInt, fin, rowL, at0, at1, at2, at3, ixN, hmul, hadd, hlen, h2, gNx]
    · obtain ⟨c, hc⟩ := atI_int ns k hk (by omega)
      have hc' : atI (ns.map PyData.int) (k + 1 - 1) = some (.int c) := by
        rw [show k + 1 - 1 = k by omega]
        exact hc
      by_cases h3 : (1000000000000000000 : Int) ≤ c
      · refine ⟨c.fmod m, k + 1, (sd * 48271 + c + 11).fmod 2147483647, c.fdiv m, ?_, (hr _).1, (hr _).2, by omega⟩
        simp [mm__law_taken, rowD, runR, gs__law_taken, ini, gSeq, gIf, gAsg, gSetI, gRet, lf, lfb, bV, c2, cN, cCons, cNil, cIxO, cVar, cK, bNm, ownL, putL, oGt_ii, oGe_ii, oDiv_ii, oMod_ii, hmz, hma, h1, isB, oInt, fin, rowL, ixN, hmul, hadd, hsub, hlen, h2, hix, hc, hpow, h3, at0, at1, at2, at3, gNx]
      · refine ⟨c.fmod m, k + 1, (sd * 48271 + c + 11).fmod 2147483647, ps, ?_, (hr _).1, (hr _).2, by omega⟩
        simp [mm__law_taken, rowD, runR, gs__law_taken, ini, gSeq, gIf, gAsg, gSetI, gRet, lf, lfb, bV, c2, cN, cCons, cNil, cIxO, cVar, cK, bNm, ownL, putL, oGt_ii, oGe_ii, oDiv_ii, oMod_ii, hmz, hma, h1, isB, oInt, fin, rowL, ixN, hmul, hadd, hsub, hlen, h2, hix, hc, hpow, h3, at0, at1, at2, at3, gNx]

theorem case_0 (x : E) (y : D) : (gs_law_rest [some (.sh y), some x, some (.sh (.int (1 + 0))), none, none, none, none, none]).bind fin = some (.bool true) := by kernel_rfl
theorem case_1 (x : E) (y : D) : (gs_law_rest [some (.sh y), some x, some (.sh (.int (1 + 1))), none, none, none, none, none]).bind fin = some (.bool true) := by kernel_rfl
theorem case_2 (x : E) (y : D) : (gs_law_rest [some (.sh y), some x, some (.sh (.int (1 + 2))), none, none, none, none, none]).bind fin = some (.bool true) := by kernel_rfl
theorem case_3 (x : E) (y : D) : (gs_law_rest [some (.sh y), some x, some (.sh (.int (1 + 3))), none, none, none, none, none]).bind fin = some (.bool true) := by kernel_rfl
theorem case_4 (x : E) (y : D) : (gs_law_rest [some (.sh y), some x, some (.sh (.int (1 + 4))), none, none, none, none, none]).bind fin = some (.bool true) := by kernel_rfl
theorem case_5 (x : E) (y : D) : (gs_law_rest [some (.sh y), some x, some (.sh (.int (1 + 5))), none, none, none, none, none]).bind fin = some (.bool true) := by kernel_rfl
theorem case_6 (x : E) (y : D) : (gs_law_rest [some (.sh y), some x, some (.sh (.int (1 + 6))), none, none, none, none, none]).bind fin = some (.bool true) := by kernel_rfl
theorem case_7 (x : E) (y : D) : (gs_law_rest [some (.sh y), some x, some (.sh (.int (1 + 7))), none, none, none, none, none]).bind fin = some (.bool true) := by kernel_rfl
theorem case_8 (x : E) (y : D) : (gs_law_rest [some (.sh y), some x, some (.sh (.int (1 + 8))), none, none, none, none, none]).bind fin = some (.bool true) := by kernel_rfl
theorem cases_all (r : Int) (h0 : 0 ≤ r) (h1 : r < 9) (x : E) (y : D) : (gs_law_rest [some (.sh y), some x, some (.sh (.int (1 + r))), none, none, none, none, none]).bind fin = some (.bool true) := by
  have hr : r = 0 ∨ r = 1 ∨ r = 2 ∨ r = 3 ∨ r = 4 ∨ r = 5 ∨ r = 6 ∨ r = 7 ∨ r = 8 := by omega
  rcases hr with h | h | h | h | h | h | h | h | h
  · rw [h]
    exact case_0 _ _
  · rw [h]
    exact case_1 _ _
  · rw [h]
    exact case_2 _ _
  · rw [h]
    exact case_3 _ _
  · rw [h]
    exact case_4 _ _
  · rw [h]
    exact case_5 _ _
  · rw [h]
    exact case_6 _ _
  · rw [h]
    exact case_7 _ _
  · rw [h]
    exact case_8 _ _
theorem law_head (rest : Gs) (ns : List Int) : ∃ (r : Int) (x : E), 0 ≤ r ∧ r < 9 ∧ gs_law_head rest (ini 8 [.list (ns.map .int)]) = rest [some (.sh (.list (ns.map .int))), some x, some (.sh (.int (1 + r))), none, none, none, none, none] := by
  obtain ⟨r, k, sd, ps, e, h0, h1, _⟩ := taken_ok ns 0 6368 0 9 (by decide) (by decide) (by decide)
  refine ⟨r, .own (.list (rowD ns k sd ps)), h0, h1, ?_⟩
  have ha : ∀ a b : Int, oAdd (.int a) (.int b) = some (.int (a + b)) := fun _ _ => rfl
  unfold rowD at e
  simp [gs_law_head, ini, gSeq, gSetW, wN, few, lfs, cCons, cNil, cVar, cK, gAsg, r2, lf, rRow, ownL, bNm, putL, e, ha, rowD]
theorem law_true (ns : List Int) (hl : ns.length ≤ 63) : mm_law [.list (ns.map .int)] = some (.bool true) := by
  obtain ⟨r, x, h0, h1, e⟩ := law_head gs_law_rest ns
  have e2 : mm_law [.list (ns.map .int)] = (gs_law_head gs_law_rest (ini 8 [.list (ns.map .int)])).bind fin := rfl
  rw [e2, e]
  exact cases_all r h0 h1 _ _
end DG
namespace DG
open PySem PySem.Spec PyProof.Rows L2 DL

set_option maxHeartbeats 0 in
theorem all_mk {l : PySem.W.OpenLaw} {w : World} {K : PySem.W.Frag} {h : Heap} {mg : Str → Option Value} {fa C f0 f1 f2 f3 f4 f5 f6 f7 f8 f9 f10 f11 f12 f13 f14 f15 f16 f17 f18 f19 f20 f21 f22 f23 f24 f25 f26 f27 f28 f29 f30 f31 f32 f33 f34 f35 f36 f37 f38 f39 f40 f41 f42 f43 f44 f45 f46 f47 f48 f49 f50 f51 f52 f53 f54 f55 f56 f57 f58 f59 f60 f61 f62 f63 : Addr} (X : K.In h) (G : h.Ns mainGlobals mg) (hfa : mg "law" = some (.ref fa))
    {od0 an0 od1 an1 od2 an2 od3 an3 od4 an4 od5 an5 od6 an6 od7 an7 od8 an8 od9 an9 od10 an10 od11 an11 od12 an12 od13 an13 od14 an14 od15 an15 od16 an16 od17 an17 od18 an18 od19 an19 od20 an20 od21 an21 od22 an22 od23 an23 od24 an24 od25 an25 od26 an26 od27 an27 od28 an28 od29 an29 od30 an30 od31 an31 od32 an32 od33 an33 od34 an34 od35 an35 od36 an36 od37 an37 od38 an38 od39 an39 od40 an40 od41 an41 od42 an42 od43 an43 od44 an44 od45 an45 od46 an46 od47 an47 od48 an48 od49 an49 od50 an50 od51 an51 od52 an52 od53 an53 od54 an54 od55 an55 od56 an56 od57 an57 od58 an58 od59 an59 od60 an60 od61 an61 od62 an62 od63 an63 : Option Addr} {sl0 sl1 sl2 sl3 sl4 sl5 sl6 sl7 sl8 sl9 sl10 sl11 sl12 sl13 sl14 sl15 sl16 sl17 sl18 sl19 sl20 sl21 sl22 sl23 sl24 sl25 sl26 sl27 sl28 sl29 sl30 sl31 sl32 sl33 sl34 sl35 sl36 sl37 sl38 sl39 sl40 sl41 sl42 sl43 sl44 sl45 sl46 sl47 sl48 sl49 sl50 sl51 sl52 sl53 sl54 sl55 sl56 sl57 sl58 sl59 sl60 sl61 sl62 sl63 : Array (Option Value)} {oc0 kV0 dc0 pm0 cd0 ct0 oc1 kV1 dc1 pm1 cd1 ct1 oc2 kV2 dc2 pm2 cd2 ct2 oc3 kV3 dc3 pm3 cd3 ct3 oc4 kV4 dc4 pm4 cd4 ct4 oc5 kV5 dc5 pm5 cd5 ct5 oc6 kV6 dc6 pm6 cd6 ct6 oc7 kV7 dc7 pm7 cd7 ct7 oc8 kV8 dc8 pm8 cd8 ct8 oc9 kV9 dc9 pm9 cd9 ct9 oc10 kV10 dc10 pm10 cd10 ct10 oc11 kV11 dc11 pm11 cd11 ct11 oc12 kV12 dc12 pm12 cd12 ct12 oc13 kV13 dc13 pm13 cd13 ct13 oc14 kV14 dc14 pm14 cd14 ct14 oc15 kV15 dc15 pm15 cd15 ct15 oc16 kV16 dc16 pm16 cd16 ct16 oc17 kV17 dc17 pm17 cd17 ct17 oc18 kV18 dc18 pm18 cd18 ct18 oc19 kV19 dc19 pm19 cd19 ct19 oc20 kV20 dc20 pm20 cd20 ct20 oc21 kV21 dc21 pm21 cd21 ct21 oc22 kV22 dc22 pm22 cd22 ct22 oc23 kV23 dc23 pm23 cd23 ct23 oc24 kV24 dc24 pm24 cd24 ct24 oc25 kV25 dc25 pm25 cd25 ct25 oc26 kV26 dc26 pm26 cd26 ct26 oc27 kV27 dc27 pm27 cd27 ct27 oc28 kV28 dc28 pm28 cd28 ct28 oc29 kV29 dc29 pm29 cd29 ct29 oc30 kV30 dc30 pm30 cd30 ct30 oc31 kV31 dc31 pm31 cd31 ct31 oc32 kV32 dc32 pm32 cd32 ct32 oc33 kV33 dc33 pm33 cd33 ct33 oc34 kV34 dc34 pm34 cd34 ct34 oc35 kV35 dc35 pm35 cd35 ct35 oc36 kV36 dc36 pm36 cd36 ct36 oc37 kV37 dc37 pm37 cd37 ct37 oc38 kV38 dc38 pm38 cd38 ct38 oc39 kV39 dc39 pm39 cd39 ct39 oc40 kV40 dc40 pm40 cd40 ct40 oc41 kV41 dc41 pm41 cd41 ct41 oc42 kV42 dc42 pm42 cd42 ct42 oc43 kV43 dc43 pm43 cd43 ct43 oc44 kV44 dc44 pm44 cd44 ct44 oc45 kV45 dc45 pm45 cd45 ct45 oc46 kV46 dc46 pm46 cd46 ct46 oc47 kV47 dc47 pm47 cd47 ct47 oc48 kV48 dc48 pm48 cd48 ct48 oc49 kV49 dc49 pm49 cd49 ct49 oc50 kV50 dc50 pm50 cd50 ct50 oc51 kV51 dc51 pm51 cd51 ct51 oc52 kV52 dc52 pm52 cd52 ct52 oc53 kV53 dc53 pm53 cd53 ct53 oc54 kV54 dc54 pm54 cd54 ct54 oc55 kV55 dc55 pm55 cd55 ct55 oc56 kV56 dc56 pm56 cd56 ct56 oc57 kV57 dc57 pm57 cd57 ct57 oc58 kV58 dc58 pm58 cd58 ct58 oc59 kV59 dc59 pm59 cd59 ct59 oc60 kV60 dc60 pm60 cd60 ct60 oc61 kV61 dc61 pm61 cd61 ct61 oc62 kV62 dc62 pm62 cd62 ct62 oc63 kV63 dc63 pm63 cd63 ct63 : Value} {t_MOST_POINTS t_MOST_WEIGHT t_MOST_LENGTH t_MOST_ROADS t_MOST_ROOM t_MOST_RADIUS t_MOST_GROWN : Tok}
    (H : ∀ ns : List Int, ns.length ≤ 63 → mm_law [.list (ns.map .int)] = some (.bool true))
    (aC : PySem.W.nsIn K mainGlobals "Program" = some (some (.ref C)))
    (pg : PySem.W.plainGet K C Str.empty = true)
    (hd : PySem.W.hasDictIn K C = true)
    (po : PySem.W.plainOver K C = true)
    (sa : PySem.W.findIn K (.ref C) "__setattr__" = some (some (.builtin "object.__setattr__")))
    (mk : PySem.W.makesIn K C = true)
    (kc : PySem.W.keepIn K (.ref C) = true)
    (n_count : PySem.W.findIn K (.ref C) "count" = some none)
    (n_wide : PySem.W.findIn K (.ref C) "wide" = some none)
    (n_bottom : PySem.W.findIn K (.ref C) "bottom" = some none)
    (n_scales : PySem.W.findIn K (.ref C) "scales" = some none)
    (n_signs : PySem.W.findIn K (.ref C) "signs" = some none)
    (n_basis : PySem.W.findIn K (.ref C) "basis" = some none)
    (n_extra : PySem.W.findIn K (.ref C) "extra" = some none)
    (n_table : PySem.W.findIn K (.ref C) "table" = some none)
    (a0 : PySem.W.nsIn K mainGlobals "_law_taken" = some (some (.ref f0)))
    (l0 : K.lookup f0 = some ⟨oc0, od0, .func (PySem.W.fnOf "_law_taken" "_law_taken" (defArgs st__law_taken) (defBody st__law_taken) (defScope st__law_taken) .none kV0 dc0 pm0 an0 cd0 ct0), sl0⟩)
    (c0 : PySem.W.codeIn K cd0 "_law_taken" = true)
    (k0 : PySem.W.keepIn K (.ref f0) = true)
    (a1 : PySem.W.nsIn K mainGlobals "is_in" = some (some (.ref f1)))
    (l1 : K.lookup f1 = some ⟨oc1, od1, .func (PySem.W.fnOf "is_in" "is_in" (defArgs st_is_in) (defBody st_is_in) (defScope st_is_in) .none kV1 dc1 pm1 an1 cd1 ct1), sl1⟩)
    (c1 : PySem.W.codeIn K cd1 "is_in" = true)
    (k1 : PySem.W.keepIn K (.ref f1) = true)
    (a2 : PySem.W.nsIn K mainGlobals "is_weights" = some (some (.ref f2)))
    (l2 : K.lookup f2 = some ⟨oc2, od2, .func (PySem.W.fnOf "is_weights" "is_weights" (defArgs st_is_weights) (defBody st_is_weights) (defScope st_is_weights) .none kV2 dc2 pm2 an2 cd2 ct2), sl2⟩)
    (c2 : PySem.W.codeIn K cd2 "is_weights" = true)
    (k2 : PySem.W.keepIn K (.ref f2) = true)
    (a3 : PySem.W.nsIn K mainGlobals "is_road" = some (some (.ref f3)))
    (l3 : K.lookup f3 = some ⟨oc3, od3, .func (PySem.W.fnOf "is_road" "is_road" (defArgs st_is_road) (defBody st_is_road) (defScope st_is_road) .none kV3 dc3 pm3 an3 cd3 ct3), sl3⟩)
    (c3 : PySem.W.codeIn K cd3 "is_road" = true)
    (k3 : PySem.W.keepIn K (.ref f3) = true)
    (a4 : PySem.W.nsIn K mainGlobals "parts_in" = some (some (.ref f4)))
    (l4 : K.lookup f4 = some ⟨oc4, od4, .func (PySem.W.fnOf "parts_in" "parts_in" (defArgs st_parts_in) (defBody st_parts_in) (defScope st_parts_in) .none kV4 dc4 pm4 an4 cd4 ct4), sl4⟩)
    (c4 : PySem.W.codeIn K cd4 "parts_in" = true)
    (k4 : PySem.W.keepIn K (.ref f4) = true)
    (a5 : PySem.W.nsIn K mainGlobals "need_web" = some (some (.ref f5)))
    (l5 : K.lookup f5 = some ⟨oc5, od5, .func (PySem.W.fnOf "need_web" "need_web" (defArgs st_need_web) (defBody st_need_web) (defScope st_need_web) .none kV5 dc5 pm5 an5 cd5 ct5), sl5⟩)
    (c5 : PySem.W.codeIn K cd5 "need_web" = true)
    (k5 : PySem.W.keepIn K (.ref f5) = true)
    (a6 : PySem.W.nsIn K mainGlobals "need_houses" = some (some (.ref f6)))
    (l6 : K.lookup f6 = some ⟨oc6, od6, .func (PySem.W.fnOf "need_houses" "need_houses" (defArgs st_need_houses) (defBody st_need_houses) (defScope st_need_houses) .none kV6 dc6 pm6 an6 cd6 ct6), sl6⟩)
    (c6 : PySem.W.codeIn K cd6 "need_houses" = true)
    (k6 : PySem.W.keepIn K (.ref f6) = true)
    (a7 : PySem.W.nsIn K mainGlobals "need_both" = some (some (.ref f7)))
    (l7 : K.lookup f7 = some ⟨oc7, od7, .func (PySem.W.fnOf "need_both" "need_both" (defArgs st_need_both) (defBody st_need_both) (defScope st_need_both) .none kV7 dc7 pm7 an7 cd7 ct7), sl7⟩)
    (c7 : PySem.W.codeIn K cd7 "need_both" = true)
    (k7 : PySem.W.keepIn K (.ref f7) = true)
    (a8 : PySem.W.nsIn K mainGlobals "need_rooms" = some (some (.ref f8)))
    (l8 : K.lookup f8 = some ⟨oc8, od8, .func (PySem.W.fnOf "need_rooms" "need_rooms" (defArgs st_need_rooms) (defBody st_need_rooms) (defScope st_need_rooms) .none kV8 dc8 pm8 an8 cd8 ct8), sl8⟩)
    (c8 : PySem.W.codeIn K cd8 "need_rooms" = true)
    (k8 : PySem.W.keepIn K (.ref f8) = true)
    (a9 : PySem.W.nsIn K mainGlobals "table_of" = some (some (.ref f9)))
    (l9 : K.lookup f9 = some ⟨oc9, od9, .func (PySem.W.fnOf "table_of" "table_of" (defArgs st_table_of) (defBody st_table_of) (defScope st_table_of) .none kV9 dc9 pm9 an9 cd9 ct9), sl9⟩)
    (c9 : PySem.W.codeIn K cd9 "table_of" = true)
    (k9 : PySem.W.keepIn K (.ref f9) = true)
    (a10 : PySem.W.nsIn K mainGlobals "gcd" = some (some (.ref f10)))
    (l10 : K.lookup f10 = some ⟨oc10, od10, .func (PySem.W.fnOf "gcd" "gcd" (defArgs st_gcd) (defBody st_gcd) (defScope st_gcd) .none kV10 dc10 pm10 an10 cd10 ct10), sl10⟩)
    (c10 : PySem.W.codeIn K cd10 "gcd" = true)
    (k10 : PySem.W.keepIn K (.ref f10) = true)
    (a11 : PySem.W.nsIn K mainGlobals "spread" = some (some (.ref f11)))
    (l11 : K.lookup f11 = some ⟨oc11, od11, .func (PySem.W.fnOf "spread" "spread" (defArgs st_spread) (defBody st_spread) (defScope st_spread) .none kV11 dc11 pm11 an11 cd11 ct11), sl11⟩)
    (c11 : PySem.W.codeIn K cd11 "spread" = true)
    (k11 : PySem.W.keepIn K (.ref f11) = true)
    (a12 : PySem.W.findIn K (.ref C) "laid" = some (some (.ref f12)))
    (i12 : PySem.W.isFn K (.ref f12) = true)
    (l12 : K.lookup f12 = some ⟨oc12, od12, .func (PySem.W.fnOf "laid" "Program.laid" (defArgs st_Program_laid) (defBody st_Program_laid) (defScope st_Program_laid) .none kV12 dc12 pm12 an12 cd12 ct12), sl12⟩)
    (c12 : PySem.W.codeIn K cd12 "Program.laid" = true)
    (k12 : PySem.W.keepIn K (.ref f12) = true)
    (a13 : PySem.W.findIn K (.ref C) "__init__" = some (some (.ref f13)))
    (i13 : PySem.W.isFn K (.ref f13) = true)
    (l13 : K.lookup f13 = some ⟨oc13, od13, .func (PySem.W.fnOf "__init__" "Program.__init__" (defArgs st_Program___init__) (defBody st_Program___init__) (defScope st_Program___init__) .none kV13 dc13 pm13 an13 cd13 ct13), sl13⟩)
    (c13 : PySem.W.codeIn K cd13 "Program.__init__" = true)
    (k13 : PySem.W.keepIn K (.ref f13) = true)
    (a14 : PySem.W.nsIn K mainGlobals "reduced" = some (some (.ref f14)))
    (l14 : K.lookup f14 = some ⟨oc14, od14, .func (PySem.W.fnOf "reduced" "reduced" (defArgs st_reduced) (defBody st_reduced) (defScope st_reduced) .none kV14 dc14 pm14 an14 cd14 ct14), sl14⟩)
    (c14 : PySem.W.codeIn K cd14 "reduced" = true)
    (k14 : PySem.W.keepIn K (.ref f14) = true)
    (a15 : PySem.W.nsIn K mainGlobals "times" = some (some (.ref f15)))
    (l15 : K.lookup f15 = some ⟨oc15, od15, .func (PySem.W.fnOf "times" "times" (defArgs st_times) (defBody st_times) (defScope st_times) .none kV15 dc15 pm15 an15 cd15 ct15), sl15⟩)
    (c15 : PySem.W.codeIn K cd15 "times" = true)
    (k15 : PySem.W.keepIn K (.ref f15) = true)
    (a16 : PySem.W.findIn K (.ref C) "goal_line" = some (some (.ref f16)))
    (i16 : PySem.W.isFn K (.ref f16) = true)
    (l16 : K.lookup f16 = some ⟨oc16, od16, .func (PySem.W.fnOf "goal_line" "Program.goal_line" (defArgs st_Program_goal_line) (defBody st_Program_goal_line) (defScope st_Program_goal_line) .none kV16 dc16 pm16 an16 cd16 ct16), sl16⟩)
    (c16 : PySem.W.codeIn K cd16 "Program.goal_line" = true)
    (k16 : PySem.W.keepIn K (.ref f16) = true)
    (a17 : PySem.W.findIn K (.ref C) "row_for" = some (some (.ref f17)))
    (i17 : PySem.W.isFn K (.ref f17) = true)
    (l17 : K.lookup f17 = some ⟨oc17, od17, .func (PySem.W.fnOf "row_for" "Program.row_for" (defArgs st_Program_row_for) (defBody st_Program_row_for) (defScope st_Program_row_for) .none kV17 dc17 pm17 an17 cd17 ct17), sl17⟩)
    (c17 : PySem.W.codeIn K cd17 "Program.row_for" = true)
    (k17 : PySem.W.keepIn K (.ref f17) = true)
    (a18 : PySem.W.findIn K (.ref C) "turn" = some (some (.ref f18)))
    (i18 : PySem.W.isFn K (.ref f18) = true)
    (l18 : K.lookup f18 = some ⟨oc18, od18, .func (PySem.W.fnOf "turn" "Program.turn" (defArgs st_Program_turn) (defBody st_Program_turn) (defScope st_Program_turn) .none kV18 dc18 pm18 an18 cd18 ct18), sl18⟩)
    (c18 : PySem.W.codeIn K cd18 "Program.turn" = true)
    (k18 : PySem.W.keepIn K (.ref f18) = true)
    (a19 : PySem.W.findIn K (.ref C) "climb" = some (some (.ref f19)))
    (i19 : PySem.W.isFn K (.ref f19) = true)
    (l19 : K.lookup f19 = some ⟨oc19, od19, .func (PySem.W.fnOf "climb" "Program.climb" (defArgs st_Program_climb) (defBody st_Program_climb) (defScope st_Program_climb) .none kV19 dc19 pm19 an19 cd19 ct19), sl19⟩)
    (c19 : PySem.W.codeIn K cd19 "Program.climb" = true)
    (k19 : PySem.W.keepIn K (.ref f19) = true)
    (a20 : PySem.W.findIn K (.ref C) "weights" = some (some (.ref f20)))
    (i20 : PySem.W.isFn K (.ref f20) = true)
    (l20 : K.lookup f20 = some ⟨oc20, od20, .func (PySem.W.fnOf "weights" "Program.weights" (defArgs st_Program_weights) (defBody st_Program_weights) (defScope st_Program_weights) .none kV20 dc20 pm20 an20 cd20 ct20), sl20⟩)
    (c20 : PySem.W.codeIn K cd20 "Program.weights" = true)
    (k20 : PySem.W.keepIn K (.ref f20) = true)
    (a21 : PySem.W.findIn K (.ref C) "drop" = some (some (.ref f21)))
    (i21 : PySem.W.isFn K (.ref f21) = true)
    (l21 : K.lookup f21 = some ⟨oc21, od21, .func (PySem.W.fnOf "drop" "Program.drop" (defArgs st_Program_drop) (defBody st_Program_drop) (defScope st_Program_drop) .none kV21 dc21 pm21 an21 cd21 ct21), sl21⟩)
    (c21 : PySem.W.codeIn K cd21 "Program.drop" = true)
    (k21 : PySem.W.keepIn K (.ref f21) = true)
    (a22 : PySem.W.nsIn K mainGlobals "solve" = some (some (.ref f22)))
    (l22 : K.lookup f22 = some ⟨oc22, od22, .func (PySem.W.fnOf "solve" "solve" (defArgs st_solve) (defBody st_solve) (defScope st_solve) .none kV22 dc22 pm22 an22 cd22 ct22), sl22⟩)
    (c22 : PySem.W.codeIn K cd22 "solve" = true)
    (k22 : PySem.W.keepIn K (.ref f22) = true)
    (a23 : PySem.W.nsIn K mainGlobals "plan_rooming" = some (some (.ref f23)))
    (l23 : K.lookup f23 = some ⟨oc23, od23, .func (PySem.W.fnOf "plan" "plan" (defArgs st_plan_68) (defBody st_plan_68) (defScope st_plan_68) .none kV23 dc23 pm23 an23 cd23 ct23), sl23⟩)
    (c23 : PySem.W.codeIn K cd23 "plan" = true)
    (k23 : PySem.W.keepIn K (.ref f23) = true)
    (a24 : PySem.W.nsIn K mainGlobals "serving" = some (some (.ref f24)))
    (l24 : K.lookup f24 = some ⟨oc24, od24, .func (PySem.W.fnOf "serving" "serving" (defArgs st_serving) (defBody st_serving) (defScope st_serving) .none kV24 dc24 pm24 an24 cd24 ct24), sl24⟩)
    (c24 : PySem.W.codeIn K cd24 "serving" = true)
    (k24 : PySem.W.keepIn K (.ref f24) = true)
    (a25 : PySem.W.nsIn K mainGlobals "room_prices" = some (some (.ref f25)))
    (l25 : K.lookup f25 = some ⟨oc25, od25, .func (PySem.W.fnOf "room_prices" "room_prices" (defArgs st_room_prices) (defBody st_room_prices) (defScope st_room_prices) .none kV25 dc25 pm25 an25 cd25 ct25), sl25⟩)
    (c25 : PySem.W.codeIn K cd25 "room_prices" = true)
    (k25 : PySem.W.keepIn K (.ref f25) = true)
    (a26 : PySem.W.nsIn K mainGlobals "need_reach" = some (some (.ref f26)))
    (l26 : K.lookup f26 = some ⟨oc26, od26, .func (PySem.W.fnOf "need_reach" "need_reach" (defArgs st_need_reach) (defBody st_need_reach) (defScope st_need_reach) .none kV26 dc26 pm26 an26 cd26 ct26), sl26⟩)
    (c26 : PySem.W.codeIn K cd26 "need_reach" = true)
    (k26 : PySem.W.keepIn K (.ref f26) = true)
    (a27 : PySem.W.nsIn K mainGlobals "is_crowd" = some (some (.ref f27)))
    (l27 : K.lookup f27 = some ⟨oc27, od27, .func (PySem.W.fnOf "is_crowd" "is_crowd" (defArgs st_is_crowd) (defBody st_is_crowd) (defScope st_is_crowd) .none kV27 dc27 pm27 an27 cd27 ct27), sl27⟩)
    (c27 : PySem.W.codeIn K cd27 "is_crowd" = true)
    (k27 : PySem.W.keepIn K (.ref f27) = true)
    (a28 : PySem.W.nsIn K mainGlobals "members" = some (some (.ref f28)))
    (l28 : K.lookup f28 = some ⟨oc28, od28, .func (PySem.W.fnOf "members" "members" (defArgs st_members) (defBody st_members) (defScope st_members) .none kV28 dc28 pm28 an28 cd28 ct28), sl28⟩)
    (c28 : PySem.W.codeIn K cd28 "members" = true)
    (k28 : PySem.W.keepIn K (.ref f28) = true)
    (a29 : PySem.W.nsIn K mainGlobals "crowd_in" = some (some (.ref f29)))
    (l29 : K.lookup f29 = some ⟨oc29, od29, .func (PySem.W.fnOf "crowd_in" "crowd_in" (defArgs st_crowd_in) (defBody st_crowd_in) (defScope st_crowd_in) .none kV29 dc29 pm29 an29 cd29 ct29), sl29⟩)
    (c29 : PySem.W.codeIn K cd29 "crowd_in" = true)
    (k29 : PySem.W.keepIn K (.ref f29) = true)
    (a30 : PySem.W.nsIn K mainGlobals "crowd" = some (some (.ref f30)))
    (l30 : K.lookup f30 = some ⟨oc30, od30, .func (PySem.W.fnOf "crowd" "crowd" (defArgs st_crowd) (defBody st_crowd) (defScope st_crowd) .none kV30 dc30 pm30 an30 cd30 ct30), sl30⟩)
    (c30 : PySem.W.codeIn K cd30 "crowd" = true)
    (k30 : PySem.W.keepIn K (.ref f30) = true)
    (a31 : PySem.W.nsIn K mainGlobals "_law_alike" = some (some (.ref f31)))
    (l31 : K.lookup f31 = some ⟨oc31, od31, .func (PySem.W.fnOf "_law_alike" "_law_alike" (defArgs st__law_alike) (defBody st__law_alike) (defScope st__law_alike) .none kV31 dc31 pm31 an31 cd31 ct31), sl31⟩)
    (c31 : PySem.W.codeIn K cd31 "_law_alike" = true)
    (k31 : PySem.W.keepIn K (.ref f31) = true)
    (a32 : PySem.W.nsIn K mainGlobals "room_reach" = some (some (.ref f32)))
    (l32 : K.lookup f32 = some ⟨oc32, od32, .func (PySem.W.fnOf "room_reach" "room_reach" (defArgs st_room_reach) (defBody st_room_reach) (defScope st_room_reach) .none kV32 dc32 pm32 an32 cd32 ct32), sl32⟩)
    (c32 : PySem.W.codeIn K cd32 "room_reach" = true)
    (k32 : PySem.W.keepIn K (.ref f32) = true)
    (a33 : PySem.W.nsIn K mainGlobals "are_whole" = some (some (.ref f33)))
    (l33 : K.lookup f33 = some ⟨oc33, od33, .func (PySem.W.fnOf "are_whole" "are_whole" (defArgs st_are_whole) (defBody st_are_whole) (defScope st_are_whole) .none kV33 dc33 pm33 an33 cd33 ct33), sl33⟩)
    (c33 : PySem.W.codeIn K cd33 "are_whole" = true)
    (k33 : PySem.W.keepIn K (.ref f33) = true)
    (a34 : PySem.W.nsIn K mainGlobals "least_in" = some (some (.ref f34)))
    (l34 : K.lookup f34 = some ⟨oc34, od34, .func (PySem.W.fnOf "least_in" "least_in" (defArgs st_least_in) (defBody st_least_in) (defScope st_least_in) .none kV34 dc34 pm34 an34 cd34 ct34), sl34⟩)
    (c34 : PySem.W.codeIn K cd34 "least_in" = true)
    (k34 : PySem.W.keepIn K (.ref f34) = true)
    (a35 : PySem.W.nsIn K mainGlobals "shows_room_prices" = some (some (.ref f35)))
    (l35 : K.lookup f35 = some ⟨oc35, od35, .func (PySem.W.fnOf "shows_room_prices" "shows_room_prices" (defArgs st_shows_room_prices) (defBody st_shows_room_prices) (defScope st_shows_room_prices) .none kV35 dc35 pm35 an35 cd35 ct35), sl35⟩)
    (c35 : PySem.W.codeIn K cd35 "shows_room_prices" = true)
    (k35 : PySem.W.keepIn K (.ref f35) = true)
    (a36 : PySem.W.nsIn K mainGlobals "need_highs" = some (some (.ref f36)))
    (l36 : K.lookup f36 = some ⟨oc36, od36, .func (PySem.W.fnOf "need_highs" "need_highs" (defArgs st_need_highs) (defBody st_need_highs) (defScope st_need_highs) .none kV36 dc36 pm36 an36 cd36 ct36), sl36⟩)
    (c36 : PySem.W.codeIn K cd36 "need_highs" = true)
    (k36 : PySem.W.keepIn K (.ref f36) = true)
    (a37 : PySem.W.nsIn K mainGlobals "worst_gap" = some (some (.ref f37)))
    (l37 : K.lookup f37 = some ⟨oc37, od37, .func (PySem.W.fnOf "worst_gap" "worst_gap" (defArgs st_worst_gap) (defBody st_worst_gap) (defScope st_worst_gap) .none kV37 dc37 pm37 an37 cd37 ct37), sl37⟩)
    (c37 : PySem.W.codeIn K cd37 "worst_gap" = true)
    (k37 : PySem.W.keepIn K (.ref f37) = true)
    (a38 : PySem.W.nsIn K mainGlobals "gaps_in" = some (some (.ref f38)))
    (l38 : K.lookup f38 = some ⟨oc38, od38, .func (PySem.W.fnOf "gaps_in" "gaps_in" (defArgs st_gaps_in) (defBody st_gaps_in) (defScope st_gaps_in) .none kV38 dc38 pm38 an38 cd38 ct38), sl38⟩)
    (c38 : PySem.W.codeIn K cd38 "gaps_in" = true)
    (k38 : PySem.W.keepIn K (.ref f38) = true)
    (a39 : PySem.W.nsIn K mainGlobals "regret_in" = some (some (.ref f39)))
    (l39 : K.lookup f39 = some ⟨oc39, od39, .func (PySem.W.fnOf "regret_in" "regret_in" (defArgs st_regret_in) (defBody st_regret_in) (defScope st_regret_in) .none kV39 dc39 pm39 an39 cd39 ct39), sl39⟩)
    (c39 : PySem.W.codeIn K cd39 "regret_in" = true)
    (k39 : PySem.W.keepIn K (.ref f39) = true)
    (a40 : PySem.W.nsIn K mainGlobals "always_best" = some (some (.ref f40)))
    (l40 : K.lookup f40 = some ⟨oc40, od40, .func (PySem.W.fnOf "always_best" "always_best" (defArgs st_always_best) (defBody st_always_best) (defScope st_always_best) .none kV40 dc40 pm40 an40 cd40 ct40), sl40⟩)
    (c40 : PySem.W.codeIn K cd40 "always_best" = true)
    (k40 : PySem.W.keepIn K (.ref f40) = true)
    (a41 : PySem.W.nsIn K mainGlobals "need_point" = some (some (.ref f41)))
    (l41 : K.lookup f41 = some ⟨oc41, od41, .func (PySem.W.fnOf "need_point" "need_point" (defArgs st_need_point) (defBody st_need_point) (defScope st_need_point) .none kV41 dc41 pm41 an41 cd41 ct41), sl41⟩)
    (c41 : PySem.W.codeIn K cd41 "need_point" = true)
    (k41 : PySem.W.keepIn K (.ref f41) = true)
    (a42 : PySem.W.nsIn K mainGlobals "need_all" = some (some (.ref f42)))
    (l42 : K.lookup f42 = some ⟨oc42, od42, .func (PySem.W.fnOf "need_all" "need_all" (defArgs st_need_all) (defBody st_need_all) (defScope st_need_all) .none kV42 dc42 pm42 an42 cd42 ct42), sl42⟩)
    (c42 : PySem.W.codeIn K cd42 "need_all" = true)
    (k42 : PySem.W.keepIn K (.ref f42) = true)
    (a43 : PySem.W.nsIn K mainGlobals "regret" = some (some (.ref f43)))
    (l43 : K.lookup f43 = some ⟨oc43, od43, .func (PySem.W.fnOf "regret" "regret" (defArgs st_regret) (defBody st_regret) (defScope st_regret) .none kV43 dc43 pm43 an43 cd43 ct43), sl43⟩)
    (c43 : PySem.W.codeIn K cd43 "regret" = true)
    (k43 : PySem.W.keepIn K (.ref f43) = true)
    (a44 : PySem.W.nsIn K mainGlobals "least_regret" = some (some (.ref f44)))
    (l44 : K.lookup f44 = some ⟨oc44, od44, .func (PySem.W.fnOf "least_regret" "least_regret" (defArgs st_least_regret) (defBody st_least_regret) (defScope st_least_regret) .none kV44 dc44 pm44 an44 cd44 ct44), sl44⟩)
    (c44 : PySem.W.codeIn K cd44 "least_regret" = true)
    (k44 : PySem.W.keepIn K (.ref f44) = true)
    (a45 : PySem.W.nsIn K mainGlobals "plan_unsure" = some (some (.ref f45)))
    (l45 : K.lookup f45 = some ⟨oc45, od45, .func (PySem.W.fnOf "plan" "plan" (defArgs st_plan) (defBody st_plan) (defScope st_plan) .none kV45 dc45 pm45 an45 cd45 ct45), sl45⟩)
    (c45 : PySem.W.codeIn K cd45 "plan" = true)
    (k45 : PySem.W.keepIn K (.ref f45) = true)
    (a46 : PySem.W.nsIn K mainGlobals "plus" = some (some (.ref f46)))
    (l46 : K.lookup f46 = some ⟨oc46, od46, .func (PySem.W.fnOf "plus" "plus" (defArgs st_plus) (defBody st_plus) (defScope st_plus) .none kV46 dc46 pm46 an46 cd46 ct46), sl46⟩)
    (c46 : PySem.W.codeIn K cd46 "plus" = true)
    (k46 : PySem.W.keepIn K (.ref f46) = true)
    (a47 : PySem.W.nsIn K mainGlobals "weights_for" = some (some (.ref f47)))
    (l47 : K.lookup f47 = some ⟨oc47, od47, .func (PySem.W.fnOf "weights_for" "weights_for" (defArgs st_weights_for) (defBody st_weights_for) (defScope st_weights_for) .none kV47 dc47 pm47 an47 cd47 ct47), sl47⟩)
    (c47 : PySem.W.codeIn K cd47 "weights_for" = true)
    (k47 : PySem.W.keepIn K (.ref f47) = true)
    (a48 : PySem.W.nsIn K mainGlobals "over" = some (some (.ref f48)))
    (l48 : K.lookup f48 = some ⟨oc48, od48, .func (PySem.W.fnOf "over" "over" (defArgs st_over) (defBody st_over) (defScope st_over) .none kV48 dc48 pm48 an48 cd48 ct48), sl48⟩)
    (c48 : PySem.W.codeIn K cd48 "over" = true)
    (k48 : PySem.W.keepIn K (.ref f48) = true)
    (a49 : PySem.W.nsIn K mainGlobals "total" = some (some (.ref f49)))
    (l49 : K.lookup f49 = some ⟨oc49, od49, .func (PySem.W.fnOf "total" "total" (defArgs st_total) (defBody st_total) (defScope st_total) .none kV49 dc49 pm49 an49 cd49 ct49), sl49⟩)
    (c49 : PySem.W.codeIn K cd49 "total" = true)
    (k49 : PySem.W.keepIn K (.ref f49) = true)
    (a50 : PySem.W.nsIn K mainGlobals "never_paper" = some (some (.ref f50)))
    (l50 : K.lookup f50 = some ⟨oc50, od50, .func (PySem.W.fnOf "never_paper" "never_paper" (defArgs st_never_paper) (defBody st_never_paper) (defScope st_never_paper) .none kV50 dc50 pm50 an50 cd50 ct50), sl50⟩)
    (c50 : PySem.W.codeIn K cd50 "never_paper" = true)
    (k50 : PySem.W.keepIn K (.ref f50) = true)
    (a51 : PySem.W.nsIn K mainGlobals "is_ratio" = some (some (.ref f51)))
    (l51 : K.lookup f51 = some ⟨oc51, od51, .func (PySem.W.fnOf "is_ratio" "is_ratio" (defArgs st_is_ratio) (defBody st_is_ratio) (defScope st_is_ratio) .none kV51 dc51 pm51 an51 cd51 ct51), sl51⟩)
    (c51 : PySem.W.codeIn K cd51 "is_ratio" = true)
    (k51 : PySem.W.keepIn K (.ref f51) = true)
    (a52 : PySem.W.nsIn K mainGlobals "are_ratios" = some (some (.ref f52)))
    (l52 : K.lookup f52 = some ⟨oc52, od52, .func (PySem.W.fnOf "are_ratios" "are_ratios" (defArgs st_are_ratios) (defBody st_are_ratios) (defScope st_are_ratios) .none kV52 dc52 pm52 an52 cd52 ct52), sl52⟩)
    (c52 : PySem.W.codeIn K cd52 "are_ratios" = true)
    (k52 : PySem.W.keepIn K (.ref f52) = true)
    (a53 : PySem.W.nsIn K mainGlobals "shows_never_paper" = some (some (.ref f53)))
    (l53 : K.lookup f53 = some ⟨oc53, od53, .func (PySem.W.fnOf "shows_never_paper" "shows_never_paper" (defArgs st_shows_never_paper) (defBody st_shows_never_paper) (defScope st_shows_never_paper) .none kV53 dc53 pm53 an53 cd53 ct53), sl53⟩)
    (c53 : PySem.W.codeIn K cd53 "shows_never_paper" = true)
    (k53 : PySem.W.keepIn K (.ref f53) = true)
    (a54 : PySem.W.nsIn K mainGlobals "near_in" = some (some (.ref f54)))
    (l54 : K.lookup f54 = some ⟨oc54, od54, .func (PySem.W.fnOf "near_in" "near_in" (defArgs st_near_in) (defBody st_near_in) (defScope st_near_in) .none kV54 dc54 pm54 an54 cd54 ct54), sl54⟩)
    (c54 : PySem.W.codeIn K cd54 "near_in" = true)
    (k54 : PySem.W.keepIn K (.ref f54) = true)
    (a55 : PySem.W.nsIn K mainGlobals "sum_in" = some (some (.ref f55)))
    (l55 : K.lookup f55 = some ⟨oc55, od55, .func (PySem.W.fnOf "sum_in" "sum_in" (defArgs st_sum_in) (defBody st_sum_in) (defScope st_sum_in) .none kV55 dc55 pm55 an55 cd55 ct55), sl55⟩)
    (c55 : PySem.W.codeIn K cd55 "sum_in" = true)
    (k55 : PySem.W.keepIn K (.ref f55) = true)
    (a56 : PySem.W.nsIn K mainGlobals "sums_in" = some (some (.ref f56)))
    (l56 : K.lookup f56 = some ⟨oc56, od56, .func (PySem.W.fnOf "sums_in" "sums_in" (defArgs st_sums_in) (defBody st_sums_in) (defScope st_sums_in) .none kV56 dc56 pm56 an56 cd56 ct56), sl56⟩)
    (c56 : PySem.W.codeIn K cd56 "sums_in" = true)
    (k56 : PySem.W.keepIn K (.ref f56) = true)
    (a57 : PySem.W.nsIn K mainGlobals "is_below" = some (some (.ref f57)))
    (l57 : K.lookup f57 = some ⟨oc57, od57, .func (PySem.W.fnOf "is_below" "is_below" (defArgs st_is_below) (defBody st_is_below) (defScope st_is_below) .none kV57 dc57 pm57 an57 cd57 ct57), sl57⟩)
    (c57 : PySem.W.codeIn K cd57 "is_below" = true)
    (k57 : PySem.W.keepIn K (.ref f57) = true)
    (a58 : PySem.W.nsIn K mainGlobals "sorted_up" = some (some (.ref f58)))
    (l58 : K.lookup f58 = some ⟨oc58, od58, .func (PySem.W.fnOf "sorted_up" "sorted_up" (defArgs st_sorted_up) (defBody st_sorted_up) (defScope st_sorted_up) .none kV58 dc58 pm58 an58 cd58 ct58), sl58⟩)
    (c58 : PySem.W.codeIn K cd58 "sorted_up" = true)
    (k58 : PySem.W.keepIn K (.ref f58) = true)
    (a59 : PySem.W.nsIn K mainGlobals "least_at" = some (some (.ref f59)))
    (l59 : K.lookup f59 = some ⟨oc59, od59, .func (PySem.W.fnOf "least_at" "least_at" (defArgs st_least_at) (defBody st_least_at) (defScope st_least_at) .none kV59 dc59 pm59 an59 cd59 ct59), sl59⟩)
    (c59 : PySem.W.codeIn K cd59 "least_at" = true)
    (k59 : PySem.W.keepIn K (.ref f59) = true)
    (a60 : PySem.W.nsIn K mainGlobals "minus" = some (some (.ref f60)))
    (l60 : K.lookup f60 = some ⟨oc60, od60, .func (PySem.W.fnOf "minus" "minus" (defArgs st_minus) (defBody st_minus) (defScope st_minus) .none kV60 dc60 pm60 an60 cd60 ct60), sl60⟩)
    (c60 : PySem.W.codeIn K cd60 "minus" = true)
    (k60 : PySem.W.keepIn K (.ref f60) = true)
    (a61 : PySem.W.nsIn K mainGlobals "is_bend" = some (some (.ref f61)))
    (l61 : K.lookup f61 = some ⟨oc61, od61, .func (PySem.W.fnOf "is_bend" "is_bend" (defArgs st_is_bend) (defBody st_is_bend) (defScope st_is_bend) .none kV61 dc61 pm61 an61 cd61 ct61), sl61⟩)
    (c61 : PySem.W.codeIn K cd61 "is_bend" = true)
    (k61 : PySem.W.keepIn K (.ref f61) = true)
    (a62 : PySem.W.nsIn K mainGlobals "growing_best" = some (some (.ref f62)))
    (l62 : K.lookup f62 = some ⟨oc62, od62, .func (PySem.W.fnOf "growing_best" "growing_best" (defArgs st_growing_best) (defBody st_growing_best) (defScope st_growing_best) .none kV62 dc62 pm62 an62 cd62 ct62), sl62⟩)
    (c62 : PySem.W.codeIn K cd62 "growing_best" = true)
    (k62 : PySem.W.keepIn K (.ref f62) = true)
    (a63 : PySem.W.nsIn K mainGlobals "law" = some (some (.ref f63)))
    (l63 : K.lookup f63 = some ⟨oc63, od63, .func (PySem.W.fnOf "law" "law" (defArgs st_law) (defBody st_law) (defScope st_law) .none kV63 dc63 pm63 an63 cd63 ct63), sl63⟩)
    (c63 : PySem.W.codeIn K cd63 "law" = true)
    (k63 : PySem.W.keepIn K (.ref f63) = true)
    (z_int : PySem.W.nsIn K mainGlobals "int" = some none)
    (z_len : PySem.W.nsIn K mainGlobals "len" = some none)
    (z_isinstance : PySem.W.nsIn K mainGlobals "isinstance" = some none)
    (z_bool : PySem.W.nsIn K mainGlobals "bool" = some none)
    (z_tuple : PySem.W.nsIn K mainGlobals "tuple" = some none)
    (g_MOST_POINTS : PySem.W.nsIn K mainGlobals "MOST_POINTS" = some (some (.int 8 t_MOST_POINTS)))
    (g_MOST_WEIGHT : PySem.W.nsIn K mainGlobals "MOST_WEIGHT" = some (some (.int 100 t_MOST_WEIGHT)))
    (z_sum : PySem.W.nsIn K mainGlobals "sum" = some none)
    (g_MOST_LENGTH : PySem.W.nsIn K mainGlobals "MOST_LENGTH" = some (some (.int 100 t_MOST_LENGTH)))
    (z_list : PySem.W.nsIn K mainGlobals "list" = some none)
    (z_sorted : PySem.W.nsIn K mainGlobals "sorted" = some none)
    (g_MOST_ROADS : PySem.W.nsIn K mainGlobals "MOST_ROADS" = some (some (.int 14 t_MOST_ROADS)))
    (z_enumerate : PySem.W.nsIn K mainGlobals "enumerate" = some none)
    (z_range : PySem.W.nsIn K mainGlobals "range" = some none)
    (z_set : PySem.W.nsIn K mainGlobals "set" = some none)
    (g_MOST_ROOM : PySem.W.nsIn K mainGlobals "MOST_ROOM" = some (some (.int 1000 t_MOST_ROOM)))
    (z_min : PySem.W.nsIn K mainGlobals "min" = some none)
    (z_abs : PySem.W.nsIn K mainGlobals "abs" = some none)
    (z_zip : PySem.W.nsIn K mainGlobals "zip" = some none)
    (g_MOST_RADIUS : PySem.W.nsIn K mainGlobals "MOST_RADIUS" = some (some (.int 10000 t_MOST_RADIUS)))
    (z_str : PySem.W.nsIn K mainGlobals "str" = some none)
    (z_max : PySem.W.nsIn K mainGlobals "max" = some none)
    (g_MOST_GROWN : PySem.W.nsIn K mainGlobals "MOST_GROWN" = some (some (.int 1000 t_MOST_GROWN))) :
    ∃ fd : FuncData, (∀ (s : Shared) (v : Value), BindsTo s fd ⟨[v], []⟩ [("_law_script", v)]) ∧ ∀ base : Heap, K.In base → base.Ns mainGlobals mg → FnOk l.prog w K mg base CX0 9 fa fd ["_law_script"] (spLaw K 63) := by
  have e := hfa.symm.trans (PySem.W.mg_of X G a63)
  cases e
  have T : Txt mg := ⟨PySem.W.mg_none_of X G z_int, PySem.W.mg_none_of X G z_len, PySem.W.mg_none_of X G z_isinstance, PySem.W.mg_none_of X G z_bool, PySem.W.mg_none_of X G z_tuple, ⟨_, PySem.W.mg_of X G g_MOST_POINTS⟩, ⟨_, PySem.W.mg_of X G g_MOST_WEIGHT⟩, PySem.W.mg_none_of X G z_sum, ⟨_, PySem.W.mg_of X G g_MOST_LENGTH⟩, PySem.W.mg_none_of X G z_list, PySem.W.mg_none_of X G z_sorted, ⟨_, PySem.W.mg_of X G g_MOST_ROADS⟩, PySem.W.mg_none_of X G z_enumerate, PySem.W.mg_none_of X G z_range, PySem.W.mg_none_of X G z_set, ⟨_, PySem.W.mg_of X G g_MOST_ROOM⟩, PySem.W.mg_none_of X G z_min, PySem.W.mg_none_of X G z_abs, PySem.W.mg_none_of X G z_zip, ⟨_, PySem.W.mg_of X G g_MOST_RADIUS⟩, PySem.W.mg_none_of X G z_str, PySem.W.mg_none_of X G z_max, ⟨_, PySem.W.mg_of X G g_MOST_GROWN⟩⟩
  have TC : TxC K C := ⟨⟨pg, hd, po, sa⟩, n_count, n_wide, n_bottom, n_scales, n_signs, n_basis, n_extra, n_table⟩
  refine ⟨PySem.W.fnOf "law" "law" (defArgs st_law) (defBody st_law) (defScope st_law) .none kV63 dc63 pm63 an63 cd63 ct63, fun s v => .of_eq rfl, fun base _ _ => ?_⟩
  have F0 := fun_mk (st := st__law_taken) l0 c0 k0
  have B0 := F0.binds (ps := ["_law_row", "_law_many"]) fun _ _ _ _ _ _ us hl => match us, hl with | [_, _], _ => rfl
  have O0 := ok__law_taken (P := l.prog) (w := w) (base := base) F0 T 
  have C0 : Cal l.prog w K mg base 1 "_law_taken" _ := ⟨⟨_, _, _, O0, PySem.W.mg_of X G a0, k0, B0⟩⟩
  have F1 := fun_mk (st := st_is_in) l1 c1 k1
  have B1 := F1.binds (ps := ["value", "least", "most"]) fun _ _ _ _ _ _ us hl => match us, hl with | [_, _, _], _ => rfl
  have O1 := ok_is_in (P := l.prog) (w := w) (base := base) F1 T 
  have C1 : Cal l.prog w K mg base 1 "is_in" _ := ⟨⟨_, _, _, O1, PySem.W.mg_of X G a1, k1, B1⟩⟩
  have F2 := fun_mk (st := st_is_weights) l2 c2 k2
  have B2 := F2.binds (ps := ["value"]) fun _ _ _ _ _ _ us hl => match us, hl with | [_], _ => rfl
  have O2 := ok_is_weights (P := l.prog) (w := w) (base := base) F2 T C1
  have C2 : Cal l.prog w K mg base 2 "is_weights" _ := ⟨⟨_, _, _, O2, PySem.W.mg_of X G a2, k2, B2⟩⟩
  have F3 := fun_mk (st := st_is_road) l3 c3 k3
  have B3 := F3.binds (ps := ["value", "count"]) fun _ _ _ _ _ _ us hl => match us, hl with | [_, _], _ => rfl
  have O3 := ok_is_road (P := l.prog) (w := w) (base := base) F3 T C1
  have C3 : Cal l.prog w K mg base 2 "is_road" _ := ⟨⟨_, _, _, O3, PySem.W.mg_of X G a3, k3, B3⟩⟩
  have F4 := fun_mk (st := st_parts_in) l4 c4 k4
  have B4 := F4.binds (ps := ["points", "roads"]) fun _ _ _ _ _ _ us hl => match us, hl with | [_, _], _ => rfl
  have O4 := ok_parts_in (P := l.prog) (w := w) (base := base) F4 T 
  have C4 : Cal l.prog w K mg base 1 "parts_in" _ := ⟨⟨_, _, _, O4, PySem.W.mg_of X G a4, k4, B4⟩⟩
  have F5 := fun_mk (st := st_need_web) l5 c5 k5
  have B5 := F5.binds (ps := ["web"]) fun _ _ _ _ _ _ us hl => match us, hl with | [_], _ => rfl
  have O5 := ok_need_web (P := l.prog) (w := w) (base := base) F5 T C2 C3 C4
  have C5 : Cal l.prog w K mg base 3 "need_web" _ := ⟨⟨_, _, _, O5, PySem.W.mg_of X G a5, k5, B5⟩⟩
  have F6 := fun_mk (st := st_need_houses) l6 c6 k6
  have B6 := F6.binds (ps := ["web", "houses"]) fun _ _ _ _ _ _ us hl => match us, hl with | [_, _], _ => rfl
  have O6 := ok_need_houses (P := l.prog) (w := w) (base := base) F6 T C1
  have C6 : Cal l.prog w K mg base 2 "need_houses" _ := ⟨⟨_, _, _, O6, PySem.W.mg_of X G a6, k6, B6⟩⟩
  have F7 := fun_mk (st := st_need_both) l7 c7 k7
  have B7 := F7.binds (ps := ["web", "houses"]) fun _ _ _ _ _ _ us hl => match us, hl with | [_, _], _ => rfl
  have O7 := ok_need_both (P := l.prog) (w := w) (base := base) F7 T C5 C6
  have C7 : Cal l.prog w K mg base 4 "need_both" _ := ⟨⟨_, _, _, O7, PySem.W.mg_of X G a7, k7, B7⟩⟩
  have F8 := fun_mk (st := st_need_rooms) l8 c8 k8
  have B8 := F8.binds (ps := ["web", "houses", "rooms"]) fun _ _ _ _ _ _ us hl => match us, hl with | [_, _, _], _ => rfl
  have O8 := ok_need_rooms (P := l.prog) (w := w) (base := base) F8 T C7 C1
  have C8 : Cal l.prog w K mg base 5 "need_rooms" _ := ⟨⟨_, _, _, O8, PySem.W.mg_of X G a8, k8, B8⟩⟩
  have F9 := fun_mk (st := st_table_of) l9 c9 k9
  have B9 := F9.binds (ps := ["web"]) fun _ _ _ _ _ _ us hl => match us, hl with | [_], _ => rfl
  have O9 := ok_table_of (P := l.prog) (w := w) (base := base) F9 T 
  have C9 : Cal l.prog w K mg base 1 "table_of" _ := ⟨⟨_, _, _, O9, PySem.W.mg_of X G a9, k9, B9⟩⟩
  have F10 := fun_mk (st := st_gcd) l10 c10 k10
  have B10 := F10.binds (ps := ["one", "other"]) fun _ _ _ _ _ _ us hl => match us, hl with | [_, _], _ => rfl
  have O10 := ok_gcd (P := l.prog) (w := w) (base := base) F10 T 
  have C10 : Cal l.prog w K mg base 1 "gcd" _ := ⟨⟨_, _, _, O10, PySem.W.mg_of X G a10, k10, B10⟩⟩
  have F11 := fun_mk (st := st_spread) l11 c11 k11
  have B11 := F11.binds (ps := ["values"]) fun _ _ _ _ _ _ us hl => match us, hl with | [_], _ => rfl
  have O11 := ok_spread (P := l.prog) (w := w) (base := base) F11 T C10
  have C11 : Cal l.prog w K mg base 2 "spread" _ := ⟨⟨_, _, _, O11, PySem.W.mg_of X G a11, k11, B11⟩⟩
  have F12 := fun_mk (st := st_Program_laid) l12 c12 k12
  have B12 := F12.binds (ps := ["self", "body"]) fun _ _ _ _ _ _ us hl => match us, hl with | [_, _], _ => rfl
  have O12 := ok_Program_laid (P := l.prog) (w := w) (base := base) TC F12 T  
  have M12 : CalM l.prog w K mg base 1 C "laid" _ := ⟨TC.cl, _, _, _, O12, ⟨a12, i12, k12⟩, B12⟩
  have F13 := fun_mk (st := st_Program___init__) l13 c13 k13
  have B13 := F13.binds (ps := ["self", "rows", "limits", "ties"]) fun _ _ _ _ _ _ us hl => match us, hl with | [_, _, _, _], _ => rfl
  have O13 := ok_Program___init__ (P := l.prog) (w := w) (base := base) TC F13 T C11 M12
  have M13 : CalM l.prog w K mg base 3 C "__init__" _ := ⟨TC.cl, _, _, _, O13, ⟨a13, i13, k13⟩, B13⟩
  have F14 := fun_mk (st := st_reduced) l14 c14 k14
  have B14 := F14.binds (ps := ["numerator", "denominator"]) fun _ _ _ _ _ _ us hl => match us, hl with | [_, _], _ => rfl
  have O14 := ok_reduced (P := l.prog) (w := w) (base := base) F14 T C10
  have C14 : Cal l.prog w K mg base 2 "reduced" _ := ⟨⟨_, _, _, O14, PySem.W.mg_of X G a14, k14, B14⟩⟩
  have F15 := fun_mk (st := st_times) l15 c15 k15
  have B15 := F15.binds (ps := ["one", "other"]) fun _ _ _ _ _ _ us hl => match us, hl with | [_, _], _ => rfl
  have O15 := ok_times (P := l.prog) (w := w) (base := base) F15 T C14
  have C15 : Cal l.prog w K mg base 3 "times" _ := ⟨⟨_, _, _, O15, PySem.W.mg_of X G a15, k15, B15⟩⟩
  have F16 := fun_mk (st := st_Program_goal_line) l16 c16 k16
  have B16 := F16.binds (ps := ["self", "gains"]) fun _ _ _ _ _ _ us hl => match us, hl with | [_, _], _ => rfl
  have O16 := ok_Program_goal_line (P := l.prog) (w := w) (base := base) TC F16 T  
  have M16 : CalM l.prog w K mg base 1 C "goal_line" _ := ⟨TC.cl, _, _, _, O16, ⟨a16, i16, k16⟩, B16⟩
  have F17 := fun_mk (st := st_Program_row_for) l17 c17 k17
  have B17 := F17.binds (ps := ["self", "column"]) fun _ _ _ _ _ _ us hl => match us, hl with | [_, _], _ => rfl
  have O17 := ok_Program_row_for (P := l.prog) (w := w) (base := base) TC F17 T  
  have M17 : CalM l.prog w K mg base 1 C "row_for" _ := ⟨TC.cl, _, _, _, O17, ⟨a17, i17, k17⟩, B17⟩
  have F18 := fun_mk (st := st_Program_turn) l18 c18 k18
  have B18 := F18.binds (ps := ["self", "goal", "row", "column"]) fun _ _ _ _ _ _ us hl => match us, hl with | [_, _, _, _], _ => rfl
  have O18 := ok_Program_turn (P := l.prog) (w := w) (base := base) (C := C) F18 T  
  have M18 : CalM l.prog w K mg base 1 C "turn" _ := ⟨TC.cl, _, _, _, O18, ⟨a18, i18, k18⟩, B18⟩
  have F19 := fun_mk (st := st_Program_climb) l19 c19 k19
  have B19 := F19.binds (ps := ["self", "goal", "barred"]) fun _ _ _ _ _ _ us hl => match us, hl with | [_, _, _], _ => rfl
  have O19 := ok_Program_climb (P := l.prog) (w := w) (base := base) TC F19 T  M17 M18
  have M19 : CalM l.prog w K mg base 2 C "climb" _ := ⟨TC.cl, _, _, _, O19, ⟨a19, i19, k19⟩, B19⟩
  have F20 := fun_mk (st := st_Program_weights) l20 c20 k20
  have B20 := F20.binds (ps := ["self", "goal", "gains"]) fun _ _ _ _ _ _ us hl => match us, hl with | [_, _, _], _ => rfl
  have O20 := ok_Program_weights (P := l.prog) (w := w) (base := base) TC F20 T C14 C15 
  have M20 : CalM l.prog w K mg base 4 C "weights" _ := ⟨TC.cl, _, _, _, O20, ⟨a20, i20, k20⟩, B20⟩
  have F21 := fun_mk (st := st_Program_drop) l21 c21 k21
  have B21 := F21.binds (ps := ["self", "row"]) fun _ _ _ _ _ _ us hl => match us, hl with | [_, _], _ => rfl
  have O21 := ok_Program_drop (P := l.prog) (w := w) (base := base) (C := C) F21 T  M18
  have M21 : CalM l.prog w K mg base 2 C "drop" _ := ⟨TC.cl, _, _, _, O21, ⟨a21, i21, k21⟩, B21⟩
  have F22 := fun_mk (st := st_solve) l22 c22 k22
  have B22 := F22.binds (ps := ["rows", "limits", "gains", "ties"]) fun _ _ _ _ _ _ us hl => match us, hl with | [_, _, _, _], _ => rfl
  have O22 := ok_solve (P := l.prog) (w := w) (base := base) TC F22 T C11 C14 C15 ⟨mk, a13, i13, kc⟩ O13 B13 (PySem.W.mg_of X G aC) M16 M19 M20 M21
  have C22 : Cal l.prog w K mg base 5 "solve" _ := ⟨⟨_, _, _, O22, PySem.W.mg_of X G a22, k22, B22⟩⟩
  have F23 := fun_mk (st := st_plan_68) l23 c23 k23
  have B23 := F23.binds (ps := ["web", "houses", "rooms"]) fun _ _ _ _ _ _ us hl => match us, hl with | [_, _, _], _ => rfl
  have O23 := ok_plan_68 (P := l.prog) (w := w) (base := base) F23 T C9 C22
  have C23 : Cal l.prog w K mg base 6 "plan_rooming" _ := ⟨⟨_, _, _, O23, PySem.W.mg_of X G a23, k23, B23⟩⟩
  have F24 := fun_mk (st := st_serving) l24 c24 k24
  have B24 := F24.binds (ps := ["web", "houses", "rooms"]) fun _ _ _ _ _ _ us hl => match us, hl with | [_, _, _], _ => rfl
  have O24 := ok_serving (P := l.prog) (w := w) (base := base) F24 T C8 C23
  have C24 : Cal l.prog w K mg base 7 "serving" _ := ⟨⟨_, _, _, O24, PySem.W.mg_of X G a24, k24, B24⟩⟩
  have F25 := fun_mk (st := st_room_prices) l25 c25 k25
  have B25 := F25.binds (ps := ["web", "houses", "rooms"]) fun _ _ _ _ _ _ us hl => match us, hl with | [_, _, _], _ => rfl
  have O25 := ok_room_prices (P := l.prog) (w := w) (base := base) F25 T C8 C23
  have C25 : Cal l.prog w K mg base 7 "room_prices" _ := ⟨⟨_, _, _, O25, PySem.W.mg_of X G a25, k25, B25⟩⟩
  have F26 := fun_mk (st := st_need_reach) l26 c26 k26
  have B26 := F26.binds (ps := ["web", "houses", "rooms", "reach"]) fun _ _ _ _ _ _ us hl => match us, hl with | [_, _, _, _], _ => rfl
  have O26 := ok_need_reach (P := l.prog) (w := w) (base := base) F26 T C8 C1
  have C26 : Cal l.prog w K mg base 6 "need_reach" _ := ⟨⟨_, _, _, O26, PySem.W.mg_of X G a26, k26, B26⟩⟩
  have F27 := fun_mk (st := st_is_crowd) l27 c27 k27
  have B27 := F27.binds (ps := ["web", "table", "houses", "rooms", "reach", "points"]) fun _ _ _ _ _ _ us hl => match us, hl with | [_, _, _, _, _, _], _ => rfl
  have O27 := ok_is_crowd (P := l.prog) (w := w) (base := base) F27 T 
  have C27 : Cal l.prog w K mg base 1 "is_crowd" _ := ⟨⟨_, _, _, O27, PySem.W.mg_of X G a27, k27, B27⟩⟩
  have F28 := fun_mk (st := st_members) l28 c28 k28
  have B28 := F28.binds (ps := ["number", "count"]) fun _ _ _ _ _ _ us hl => match us, hl with | [_, _], _ => rfl
  have O28 := ok_members (P := l.prog) (w := w) (base := base) F28 T 
  have C28 : Cal l.prog w K mg base 1 "members" _ := ⟨⟨_, _, _, O28, PySem.W.mg_of X G a28, k28, B28⟩⟩
  have F29 := fun_mk (st := st_crowd_in) l29 c29 k29
  have B29 := F29.binds (ps := ["web", "houses", "rooms", "reach"]) fun _ _ _ _ _ _ us hl => match us, hl with | [_, _, _, _], _ => rfl
  have O29 := ok_crowd_in (P := l.prog) (w := w) (base := base) F29 T C9 C27 C28
  have C29 : Cal l.prog w K mg base 2 "crowd_in" _ := ⟨⟨_, _, _, O29, PySem.W.mg_of X G a29, k29, B29⟩⟩
  have F30 := fun_mk (st := st_crowd) l30 c30 k30
  have B30 := F30.binds (ps := ["web", "houses", "rooms", "reach"]) fun _ _ _ _ _ _ us hl => match us, hl with | [_, _, _, _], _ => rfl
  have O30 := ok_crowd (P := l.prog) (w := w) (base := base) F30 T C26 C29
  have C30 : Cal l.prog w K mg base 7 "crowd" _ := ⟨⟨_, _, _, O30, PySem.W.mg_of X G a30, k30, B30⟩⟩
  have F31 := fun_mk (st := st__law_alike) l31 c31 k31
  have B31 := F31.binds (ps := ["_law_found", "_law_due"]) fun _ _ _ _ _ _ us hl => match us, hl with | [_, _], _ => rfl
  have O31 := ok__law_alike (P := l.prog) (w := w) (base := base) F31 T  (PySem.W.mg_of X G a31) B31 6
  have C31 : Cal l.prog w K mg base 6 "_law_alike" _ := ⟨⟨_, _, _, O31, PySem.W.mg_of X G a31, k31, B31⟩⟩
  have F32 := fun_mk (st := st_room_reach) l32 c32 k32
  have B32 := F32.binds (ps := ["web", "houses", "rooms"]) fun _ _ _ _ _ _ us hl => match us, hl with | [_, _, _], _ => rfl
  have O32 := ok_room_reach (P := l.prog) (w := w) (base := base) F32 T C8 C9 C29
  have C32 : Cal l.prog w K mg base 6 "room_reach" _ := ⟨⟨_, _, _, O32, PySem.W.mg_of X G a32, k32, B32⟩⟩
  have F33 := fun_mk (st := st_are_whole) l33 c33 k33
  have B33 := F33.binds (ps := ["value", "count"]) fun _ _ _ _ _ _ us hl => match us, hl with | [_, _], _ => rfl
  have O33 := ok_are_whole (P := l.prog) (w := w) (base := base) F33 T 
  have C33 : Cal l.prog w K mg base 1 "are_whole" _ := ⟨⟨_, _, _, O33, PySem.W.mg_of X G a33, k33, B33⟩⟩
  have F34 := fun_mk (st := st_least_in) l34 c34 k34
  have B34 := F34.binds (ps := ["web", "houses", "rooms"]) fun _ _ _ _ _ _ us hl => match us, hl with | [_, _, _], _ => rfl
  have O34 := ok_least_in (P := l.prog) (w := w) (base := base) F34 T C23
  have C34 : Cal l.prog w K mg base 7 "least_in" _ := ⟨⟨_, _, _, O34, PySem.W.mg_of X G a34, k34, B34⟩⟩
  have F35 := fun_mk (st := st_shows_room_prices) l35 c35 k35
  have B35 := F35.binds (ps := ["web", "houses", "rooms", "value"]) fun _ _ _ _ _ _ us hl => match us, hl with | [_, _, _, _], _ => rfl
  have O35 := ok_shows_room_prices (P := l.prog) (w := w) (base := base) F35 T C8 C33 C9 C34
  have C35 : Cal l.prog w K mg base 8 "shows_room_prices" _ := ⟨⟨_, _, _, O35, PySem.W.mg_of X G a35, k35, B35⟩⟩
  have F36 := fun_mk (st := st_need_highs) l36 c36 k36
  have B36 := F36.binds (ps := ["web", "highs"]) fun _ _ _ _ _ _ us hl => match us, hl with | [_, _], _ => rfl
  have O36 := ok_need_highs (P := l.prog) (w := w) (base := base) F36 T C5 C1
  have C36 : Cal l.prog w K mg base 4 "need_highs" _ := ⟨⟨_, _, _, O36, PySem.W.mg_of X G a36, k36, B36⟩⟩
  have F37 := fun_mk (st := st_worst_gap) l37 c37 k37
  have B37 := F37.binds (ps := ["web", "highs", "gaps"]) fun _ _ _ _ _ _ us hl => match us, hl with | [_, _, _], _ => rfl
  have O37 := ok_worst_gap (P := l.prog) (w := w) (base := base) F37 T 
  have C37 : Cal l.prog w K mg base 1 "worst_gap" _ := ⟨⟨_, _, _, O37, PySem.W.mg_of X G a37, k37, B37⟩⟩
  have F38 := fun_mk (st := st_gaps_in) l38 c38 k38
  have B38 := F38.binds (ps := ["rows", "x", "y"]) fun _ _ _ _ _ _ us hl => match us, hl with | [_, _, _], _ => rfl
  have O38 := ok_gaps_in (P := l.prog) (w := w) (base := base) F38 T 
  have C38 : Cal l.prog w K mg base 1 "gaps_in" _ := ⟨⟨_, _, _, O38, PySem.W.mg_of X G a38, k38, B38⟩⟩
  have F39 := fun_mk (st := st_regret_in) l39 c39 k39
  have B39 := F39.binds (ps := ["web", "rows", "highs", "x"]) fun _ _ _ _ _ _ us hl => match us, hl with | [_, _, _, _], _ => rfl
  have O39 := ok_regret_in (P := l.prog) (w := w) (base := base) F39 T C37 C38
  have C39 : Cal l.prog w K mg base 2 "regret_in" _ := ⟨⟨_, _, _, O39, PySem.W.mg_of X G a39, k39, B39⟩⟩
  have F40 := fun_mk (st := st_always_best) l40 c40 k40
  have B40 := F40.binds (ps := ["web", "highs"]) fun _ _ _ _ _ _ us hl => match us, hl with | [_, _], _ => rfl
  have O40 := ok_always_best (P := l.prog) (w := w) (base := base) F40 T C36 C9 C39
  have C40 : Cal l.prog w K mg base 5 "always_best" _ := ⟨⟨_, _, _, O40, PySem.W.mg_of X G a40, k40, B40⟩⟩
  have F41 := fun_mk (st := st_need_point) l41 c41 k41
  have B41 := F41.binds (ps := ["web", "point"]) fun _ _ _ _ _ _ us hl => match us, hl with | [_, _], _ => rfl
  have O41 := ok_need_point (P := l.prog) (w := w) (base := base) F41 T C1
  have C41 : Cal l.prog w K mg base 2 "need_point" _ := ⟨⟨_, _, _, O41, PySem.W.mg_of X G a41, k41, B41⟩⟩
  have F42 := fun_mk (st := st_need_all) l42 c42 k42
  have B42 := F42.binds (ps := ["web", "highs", "point"]) fun _ _ _ _ _ _ us hl => match us, hl with | [_, _, _], _ => rfl
  have O42 := ok_need_all (P := l.prog) (w := w) (base := base) F42 T C36 C41
  have C42 : Cal l.prog w K mg base 5 "need_all" _ := ⟨⟨_, _, _, O42, PySem.W.mg_of X G a42, k42, B42⟩⟩
  have F43 := fun_mk (st := st_regret) l43 c43 k43
  have B43 := F43.binds (ps := ["web", "highs", "point"]) fun _ _ _ _ _ _ us hl => match us, hl with | [_, _, _], _ => rfl
  have O43 := ok_regret (P := l.prog) (w := w) (base := base) F43 T C42 C39 C9
  have C43 : Cal l.prog w K mg base 6 "regret" _ := ⟨⟨_, _, _, O43, PySem.W.mg_of X G a43, k43, B43⟩⟩
  have F44 := fun_mk (st := st_least_regret) l44 c44 k44
  have B44 := F44.binds (ps := ["web", "highs"]) fun _ _ _ _ _ _ us hl => match us, hl with | [_, _], _ => rfl
  have O44 := ok_least_regret (P := l.prog) (w := w) (base := base) F44 T C36 C9 C39
  have C44 : Cal l.prog w K mg base 5 "least_regret" _ := ⟨⟨_, _, _, O44, PySem.W.mg_of X G a44, k44, B44⟩⟩
  have F45 := fun_mk (st := st_plan) l45 c45 k45
  have B45 := F45.binds (ps := ["web", "highs", "point"]) fun _ _ _ _ _ _ us hl => match us, hl with | [_, _, _], _ => rfl
  have O45 := ok_plan (P := l.prog) (w := w) (base := base) F45 T C9 C38 C22
  have C45 : Cal l.prog w K mg base 6 "plan_unsure" _ := ⟨⟨_, _, _, O45, PySem.W.mg_of X G a45, k45, B45⟩⟩
  have F46 := fun_mk (st := st_plus) l46 c46 k46
  have B46 := F46.binds (ps := ["one", "other"]) fun _ _ _ _ _ _ us hl => match us, hl with | [_, _], _ => rfl
  have O46 := ok_plus (P := l.prog) (w := w) (base := base) F46 T C14
  have C46 : Cal l.prog w K mg base 3 "plus" _ := ⟨⟨_, _, _, O46, PySem.W.mg_of X G a46, k46, B46⟩⟩
  have F47 := fun_mk (st := st_weights_for) l47 c47 k47
  have B47 := F47.binds (ps := ["web", "highs", "point"]) fun _ _ _ _ _ _ us hl => match us, hl with | [_, _, _], _ => rfl
  have O47 := ok_weights_for (P := l.prog) (w := w) (base := base) F47 T C42 C45 C46
  have C47 : Cal l.prog w K mg base 7 "weights_for" _ := ⟨⟨_, _, _, O47, PySem.W.mg_of X G a47, k47, B47⟩⟩
  have F48 := fun_mk (st := st_over) l48 c48 k48
  have B48 := F48.binds (ps := ["one", "other"]) fun _ _ _ _ _ _ us hl => match us, hl with | [_, _], _ => rfl
  have O48 := ok_over (P := l.prog) (w := w) (base := base) F48 T C14
  have C48 : Cal l.prog w K mg base 3 "over" _ := ⟨⟨_, _, _, O48, PySem.W.mg_of X G a48, k48, B48⟩⟩
  have F49 := fun_mk (st := st_total) l49 c49 k49
  have B49 := F49.binds (ps := ["values"]) fun _ _ _ _ _ _ us hl => match us, hl with | [_], _ => rfl
  have O49 := ok_total (P := l.prog) (w := w) (base := base) F49 T C46
  have C49 : Cal l.prog w K mg base 4 "total" _ := ⟨⟨_, _, _, O49, PySem.W.mg_of X G a49, k49, B49⟩⟩
  have F50 := fun_mk (st := st_never_paper) l50 c50 k50
  have B50 := F50.binds (ps := ["web", "highs", "point"]) fun _ _ _ _ _ _ us hl => match us, hl with | [_, _, _], _ => rfl
  have O50 := ok_never_paper (P := l.prog) (w := w) (base := base) F50 T C42 C45 C48 C49
  have C50 : Cal l.prog w K mg base 7 "never_paper" _ := ⟨⟨_, _, _, O50, PySem.W.mg_of X G a50, k50, B50⟩⟩
  have F51 := fun_mk (st := st_is_ratio) l51 c51 k51
  have B51 := F51.binds (ps := ["value"]) fun _ _ _ _ _ _ us hl => match us, hl with | [_], _ => rfl
  have O51 := ok_is_ratio (P := l.prog) (w := w) (base := base) F51 T C10
  have C51 : Cal l.prog w K mg base 2 "is_ratio" _ := ⟨⟨_, _, _, O51, PySem.W.mg_of X G a51, k51, B51⟩⟩
  have F52 := fun_mk (st := st_are_ratios) l52 c52 k52
  have B52 := F52.binds (ps := ["value", "count"]) fun _ _ _ _ _ _ us hl => match us, hl with | [_, _], _ => rfl
  have O52 := ok_are_ratios (P := l.prog) (w := w) (base := base) F52 T C51
  have C52 : Cal l.prog w K mg base 3 "are_ratios" _ := ⟨⟨_, _, _, O52, PySem.W.mg_of X G a52, k52, B52⟩⟩
  have F53 := fun_mk (st := st_shows_never_paper) l53 c53 k53
  have B53 := F53.binds (ps := ["web", "highs", "point", "value"]) fun _ _ _ _ _ _ us hl => match us, hl with | [_, _, _, _], _ => rfl
  have O53 := ok_shows_never_paper (P := l.prog) (w := w) (base := base) F53 T C42 C45 C52 C49 C9 C15 C46
  have C53 : Cal l.prog w K mg base 7 "shows_never_paper" _ := ⟨⟨_, _, _, O53, PySem.W.mg_of X G a53, k53, B53⟩⟩
  have F54 := fun_mk (st := st_near_in) l54 c54 k54
  have B54 := F54.binds (ps := ["rows", "houses"]) fun _ _ _ _ _ _ us hl => match us, hl with | [_, _], _ => rfl
  have O54 := ok_near_in (P := l.prog) (w := w) (base := base) F54 T 
  have C54 : Cal l.prog w K mg base 1 "near_in" _ := ⟨⟨_, _, _, O54, PySem.W.mg_of X G a54, k54, B54⟩⟩
  have F55 := fun_mk (st := st_sum_in) l55 c55 k55
  have B55 := F55.binds (ps := ["weights", "rows", "houses"]) fun _ _ _ _ _ _ us hl => match us, hl with | [_, _, _], _ => rfl
  have O55 := ok_sum_in (P := l.prog) (w := w) (base := base) F55 T C54
  have C55 : Cal l.prog w K mg base 2 "sum_in" _ := ⟨⟨_, _, _, O55, PySem.W.mg_of X G a55, k55, B55⟩⟩
  have F56 := fun_mk (st := st_sums_in) l56 c56 k56
  have B56 := F56.binds (ps := ["web"]) fun _ _ _ _ _ _ us hl => match us, hl with | [_], _ => rfl
  have O56 := ok_sums_in (P := l.prog) (w := w) (base := base) F56 T C9 C55
  have C56 : Cal l.prog w K mg base 3 "sums_in" _ := ⟨⟨_, _, _, O56, PySem.W.mg_of X G a56, k56, B56⟩⟩
  have F57 := fun_mk (st := st_is_below) l57 c57 k57
  have B57 := F57.binds (ps := ["one", "other"]) fun _ _ _ _ _ _ us hl => match us, hl with | [_, _], _ => rfl
  have O57 := ok_is_below (P := l.prog) (w := w) (base := base) F57 T 
  have C57 : Cal l.prog w K mg base 1 "is_below" _ := ⟨⟨_, _, _, O57, PySem.W.mg_of X G a57, k57, B57⟩⟩
  have F58 := fun_mk (st := st_sorted_up) l58 c58 k58
  have B58 := F58.binds (ps := ["some"]) fun _ _ _ _ _ _ us hl => match us, hl with | [_], _ => rfl
  have O58 := ok_sorted_up (P := l.prog) (w := w) (base := base) F58 T C57
  have C58 : Cal l.prog w K mg base 2 "sorted_up" _ := ⟨⟨_, _, _, O58, PySem.W.mg_of X G a58, k58, B58⟩⟩
  have F59 := fun_mk (st := st_least_at) l59 c59 k59
  have B59 := F59.binds (ps := ["sums", "row", "more"]) fun _ _ _ _ _ _ us hl => match us, hl with | [_, _, _], _ => rfl
  have O59 := ok_least_at (P := l.prog) (w := w) (base := base) F59 T C46 C15 C57
  have C59 : Cal l.prog w K mg base 4 "least_at" _ := ⟨⟨_, _, _, O59, PySem.W.mg_of X G a59, k59, B59⟩⟩
  have F60 := fun_mk (st := st_minus) l60 c60 k60
  have B60 := F60.binds (ps := ["one", "other"]) fun _ _ _ _ _ _ us hl => match us, hl with | [_, _], _ => rfl
  have O60 := ok_minus (P := l.prog) (w := w) (base := base) F60 T C14
  have C60 : Cal l.prog w K mg base 3 "minus" _ := ⟨⟨_, _, _, O60, PySem.W.mg_of X G a60, k60, B60⟩⟩
  have F61 := fun_mk (st := st_is_bend) l61 c61 k61
  have B61 := F61.binds (ps := ["steps", "values", "k"]) fun _ _ _ _ _ _ us hl => match us, hl with | [_, _, _], _ => rfl
  have O61 := ok_is_bend (P := l.prog) (w := w) (base := base) F61 T C48 C60
  have C61 : Cal l.prog w K mg base 4 "is_bend" _ := ⟨⟨_, _, _, O61, PySem.W.mg_of X G a61, k61, B61⟩⟩
  have F62 := fun_mk (st := st_growing_best) l62 c62 k62
  have B62 := F62.binds (ps := ["web", "point", "most"]) fun _ _ _ _ _ _ us hl => match us, hl with | [_, _, _], _ => rfl
  have O62 := ok_growing_best (P := l.prog) (w := w) (base := base) F62 T C5 C41 C1 C56 C9 C14 C57 C58 C59 C61 C46
  have C62 : Cal l.prog w K mg base 5 "growing_best" _ := ⟨⟨_, _, _, O62, PySem.W.mg_of X G a62, k62, B62⟩⟩
  have F63 := fun_mk (st := st_law) l63 c63 k63
  exact DL.ok_law (ok_law F63 T C0 C24 C25 C30 C31 C32 C35 C40 C43 C44 C47 C50 C53 C62) H
theorem walk {l : PySem.W.OpenLaw} {q : Program} {loose : List Str} {XP : (Str → Option Value) → Heap → Prop} {YP : World → Heap → Prop} {d : DefRec} {K : Params → PySem.W.Frag} (hn : l.most = some 63) (hdf : d.params.defaults = [])
    (hY : ∀ (w : World) (h : Heap), YP w h → (K w.params).In h)
    (F : ∀ (w : World) (mg : Str → Option Value) (fa : Addr) (h : Heap), (K w.params).In h → h.Ns mainGlobals mg → mg d.name = some (.ref fa) →
      ∃ fd : FuncData, (∀ (s : Shared) (u : Value), BindsTo s fd ⟨[u], []⟩ [("_law_script", u)]) ∧ ∀ base : Heap, (K w.params).In base → base.Ns mainGlobals mg → FnOk l.prog w (K w.params) mg base CX0 9 fa fd ["_law_script"] (spLaw (K w.params) 63)) :
    PySem.W.WalkO q loose XP YP l.row.toRowW d [] (fun f vs => PySem.call f vs) :=
  L2.walk_of (n := 63) (k := 9) (x := "_law_script") (CX := fun _ => CX0) (sp := fun w => spLaw (K w.params) 63) hn (by decide) hdf ⟨rfl, by decide, by decide⟩ hY F (fun _ _ a ns hl _ hS => ⟨a, ns, rfl, hS, hl, fun _ => rfl⟩) fun _ _ _ _ _ z => z
end DG

open PySem PySem.W PyProof.Rows in
set_option maxRecDepth 100000 in
set_option maxHeartbeats 0 in
theorem PySem.Challenge.cw_nearhouses_k68_known_rooms_and_weights_holds : PySem.Challenge.rw_nearhouses_k68_known_rooms_and_weights.Holds := by
  w_on; o_law; k_head; (case hw => w_witness2)
  k_fill
  refine DG.walk (l := PySem.Challenge.rw_nearhouses_k68_known_rooms_and_weights) rfl rfl (fun w h Y => PySem.W.kIn_of Y) ?F
  case F =>
    intro w mg fa h KX G hmg
    refine' DG.all_mk KX G hmg DG.law_true ?aC ?pg ?hd ?po ?sa ?mk ?kc ?n_count ?n_wide ?n_bottom ?n_scales ?n_signs ?n_basis ?n_extra ?n_table ?a0 ?l0 ?c0 ?k0 ?a1 ?l1 ?c1 ?k1 ?a2 ?l2 ?c2 ?k2 ?a3 ?l3 ?c3 ?k3 ?a4 ?l4 ?c4 ?k4 ?a5 ?l5 ?c5 ?k5 ?a6 ?l6 ?c6 ?k6 ?a7 ?l7 ?c7 ?k7 ?a8 ?l8 ?c8 ?k8 ?a9 ?l9 ?c9 ?k9 ?a10 ?l10 ?c10 ?k10 ?a11 ?l11 ?c11 ?k11 ?a12 ?i12 ?l12 ?c12 ?k12 ?a13 ?i13 ?l13 ?c13 ?k13 ?a14 ?l14 ?c14 ?k14 ?a15 ?l15 ?c15 ?k15 ?a16 ?i16 ?l16 ?c16 ?k16 ?a17 ?i17 ?l17 ?c17 ?k17 ?a18 ?i18 ?l18 ?c18 ?k18 ?a19 ?i19 ?l19 ?c19 ?k19 ?a20 ?i20 ?l20 ?c20 ?k20 ?a21 ?i21 ?l21 ?c21 ?k21 ?a22 ?l22 ?c22 ?k22 ?a23 ?l23 ?c23 ?k23 ?a24 ?l24 ?c24 ?k24 ?a25 ?l25 ?c25 ?k25 ?a26 ?l26 ?c26 ?k26 ?a27 ?l27 ?c27 ?k27 ?a28 ?l28 ?c28 ?k28 ?a29 ?l29 ?c29 ?k29 ?a30 ?l30 ?c30 ?k30 ?a31 ?l31 ?c31 ?k31 ?a32 ?l32 ?c32 ?k32 ?a33 ?l33 ?c33 ?k33 ?a34 ?l34 ?c34 ?k34 ?a35 ?l35 ?c35 ?k35 ?a36 ?l36 ?c36 ?k36 ?a37 ?l37 ?c37 ?k37 ?a38 ?l38 ?c38 ?k38 ?a39 ?l39 ?c39 ?k39 ?a40 ?l40 ?c40 ?k40 ?a41 ?l41 ?c41 ?k41 ?a42 ?l42 ?c42 ?k42 ?a43 ?l43 ?c43 ?k43 ?a44 ?l44 ?c44 ?k44 ?a45 ?l45 ?c45 ?k45 ?a46 ?l46 ?c46 ?k46 ?a47 ?l47 ?c47 ?k47 ?a48 ?l48 ?c48 ?k48 ?a49 ?l49 ?c49 ?k49 ?a50 ?l50 ?c50 ?k50 ?a51 ?l51 ?c51 ?k51 ?a52 ?l52 ?c52 ?k52 ?a53 ?l53 ?c53 ?k53 ?a54 ?l54 ?c54 ?k54 ?a55 ?l55 ?c55 ?k55 ?a56 ?l56 ?c56 ?k56 ?a57 ?l57 ?c57 ?k57 ?a58 ?l58 ?c58 ?k58 ?a59 ?l59 ?c59 ?k59 ?a60 ?l60 ?c60 ?k60 ?a61 ?l61 ?c61 ?k61 ?a62 ?l62 ?c62 ?k62 ?a63 ?l63 ?c63 ?k63 ?z_int ?z_len ?z_isinstance ?z_bool ?z_tuple ?g_MOST_POINTS ?g_MOST_WEIGHT ?z_sum ?g_MOST_LENGTH ?z_list ?z_sorted ?g_MOST_ROADS ?z_enumerate ?z_range ?z_set ?g_MOST_ROOM ?z_min ?z_abs ?z_zip ?g_MOST_RADIUS ?z_str ?z_max ?g_MOST_GROWN
    (case aC => k_is)
    (case pg => k_is)
    (case hd => k_is)
    (case po => k_is)
    (case sa => k_is)
    (case mk => k_is)
    (case kc => k_is)
    (case n_count => k_is)
    (case n_wide => k_is)
    (case n_bottom => k_is)
    (case n_scales => k_is)
    (case n_signs => k_is)
    (case n_basis => k_is)
    (case n_extra => k_is)
    (case n_table => k_is)
    (case a0 => k_is)
    (case l0 => k_is)
    (case c0 => k_is)
    (case k0 => k_is)
    (case a1 => k_is)
    (case l1 => k_is)
    (case c1 => k_is)
    (case k1 => k_is)
    (case a2 => k_is)
    (case l2 => k_is)
    (case c2 => k_is)
    (case k2 => k_is)
    (case a3 => k_is)
    (case l3 => k_is)
    (case c3 => k_is)
    (case k3 => k_is)
    (case a4 => k_is)
    (case l4 => k_is)
    (case c4 => k_is)
    (case k4 => k_is)
    (case a5 => k_is)
    (case l5 => k_is)
    (case c5 => k_is)
    (case k5 => k_is)
    (case a6 => k_is)
    (case l6 => k_is)
    (case c6 => k_is)
    (case k6 => k_is)
    (case a7 => k_is)
    (case l7 => k_is)
    (case c7 => k_is)
    (case k7 => k_is)
    (case a8 => k_is)
    (case l8 => k_is)
    (case c8 => k_is)
    (case k8 => k_is)
    (case a9 => k_is)
    (case l9 => k_is)
    (case c9 => k_is)
    (case k9 => k_is)
    (case a10 => k_is)
    (case l10 => k_is)
    (case c10 => k_is)
    (case k10 => k_is)
    (case a11 => k_is)
    (case l11 => k_is)
    (case c11 => k_is)
    (case k11 => k_is)
    (case a12 => k_is)
    (case i12 => k_is)
    (case l12 => k_is)
    (case c12 => k_is)
    (case k12 => k_is)
    (case a13 => k_is)
    (case i13 => k_is)
    (case l13 => k_is)
    (case c13 => k_is)
    (case k13 => k_is)
    (case a14 => k_is)
    (case l14 => k_is)
    (case c14 => k_is)
    (case k14 => k_is)
    (case a15 => k_is)
    (case l15 => k_is)
    (case c15 => k_is)
    (case k15 => k_is)
    (case a16 => k_is)
    (case i16 => k_is)
    (case l16 => k_is)
    (case c16 => k_is)
    (case k16 => k_is)
    (case a17 => k_is)
    (case i17 => k_is)
    (case l17 => k_is)
    (case c17 => k_is)
    (case k17 => k_is)
    (case a18 => k_is)
    (case i18 => k_is)
    (case l18 => k_is)
    (case c18 => k_is)
    (case k18 => k_is)
    (case a19 => k_is)
    (case i19 => k_is)
    (case l19 => k_is)
    (case c19 => k_is)
    (case k19 => k_is)
    (case a20 => k_is)
    (case i20 => k_is)
    (case l20 => k_is)
    (case c20 => k_is)
    (case k20 => k_is)
    (case a21 => k_is)
    (case i21 => k_is)
    (case l21 => k_is)
    (case c21 => k_is)
    (case k21 => k_is)
    (case a22 => k_is)
    (case l22 => k_is)
    (case c22 => k_is)
    (case k22 => k_is)
    (case a23 => k_is)
    (case l23 => k_is)
    (case c23 => k_is)
    (case k23 => k_is)
    (case a24 => k_is)
    (case l24 => k_is)
    (case c24 => k_is)
    (case k24 => k_is)
    (case a25 => k_is)
    (case l25 => k_is)
    (case c25 => k_is)
    (case k25 => k_is)
    (case a26 => k_is)
    (case l26 => k_is)
    (case c26 => k_is)
    (case k26 => k_is)
    (case a27 => k_is)
    (case l27 => k_is)
    (case c27 => k_is)
    (case k27 => k_is)
    (case a28 => k_is)
    (case l28 => k_is)
    (case c28 => k_is)
    (case k28 => k_is)
    (case a29 => k_is)
    (case l29 => k_is)
    (case c29 => k_is)
    (case k29 => k_is)
    (case a30 => k_is)
    (case l30 => k_is)
    (case c30 => k_is)
    (case k30 => k_is)
    (case a31 => k_is)
    (case l31 => k_is)
    (case c31 => k_is)
    (case k31 => k_is)
    (case a32 => k_is)
    (case l32 => k_is)
    (case c32 => k_is)
    (case k32 => k_is)
    (case a33 => k_is)
    (case l33 => k_is)
    (case c33 => k_is)
    (case k33 => k_is)
    (case a34 => k_is)
    (case l34 => k_is)
    (case c34 => k_is)
    (case k34 => k_is)
    (case a35 => k_is)
    (case l35 => k_is)
    (case c35 => k_is)
    (case k35 => k_is)
    (case a36 => k_is)
    (case l36 => k_is)
    (case c36 => k_is)
    (case k36 => k_is)
    (case a37 => k_is)
    (case l37 => k_is)
    (case c37 => k_is)
    (case k37 => k_is)
    (case a38 => k_is)
    (case l38 => k_is)
    (case c38 => k_is)
    (case k38 => k_is)
    (case a39 => k_is)
    (case l39 => k_is)
    (case c39 => k_is)
    (case k39 => k_is)
    (case a40 => k_is)
    (case l40 => k_is)
    (case c40 => k_is)
    (case k40 => k_is)
    (case a41 => k_is)
    (case l41 => k_is)
    (case c41 => k_is)
    (case k41 => k_is)
    (case a42 => k_is)
    (case l42 => k_is)
    (case c42 => k_is)
    (case k42 => k_is)
    (case a43 => k_is)
    (case l43 => k_is)
    (case c43 => k_is)
    (case k43 => k_is)
    (case a44 => k_is)
    (case l44 => k_is)
    (case c44 => k_is)
    (case k44 => k_is)
    (case a45 => k_is)
    (case l45 => k_is)
    (case c45 => k_is)
    (case k45 => k_is)
    (case a46 => k_is)
    (case l46 => k_is)
    (case c46 => k_is)
    (case k46 => k_is)
    (case a47 => k_is)
    (case l47 => k_is)
    (case c47 => k_is)
    (case k47 => k_is)
    (case a48 => k_is)
    (case l48 => k_is)
    (case c48 => k_is)
    (case k48 => k_is)
    (case a49 => k_is)
    (case l49 => k_is)
    (case c49 => k_is)
    (case k49 => k_is)
    (case a50 => k_is)
    (case l50 => k_is)
    (case c50 => k_is)
    (case k50 => k_is)
    (case a51 => k_is)
    (case l51 => k_is)
    (case c51 => k_is)
    (case k51 => k_is)
    (case a52 => k_is)
    (case l52 => k_is)
    (case c52 => k_is)
    (case k52 => k_is)
    (case a53 => k_is)
    (case l53 => k_is)
    (case c53 => k_is)
    (case k53 => k_is)
    (case a54 => k_is)
    (case l54 => k_is)
    (case c54 => k_is)
    (case k54 => k_is)
    (case a55 => k_is)
    (case l55 => k_is)
    (case c55 => k_is)
    (case k55 => k_is)
    (case a56 => k_is)
    (case l56 => k_is)
    (case c56 => k_is)
    (case k56 => k_is)
    (case a57 => k_is)
    (case l57 => k_is)
    (case c57 => k_is)
    (case k57 => k_is)
    (case a58 => k_is)
    (case l58 => k_is)
    (case c58 => k_is)
    (case k58 => k_is)
    (case a59 => k_is)
    (case l59 => k_is)
    (case c59 => k_is)
    (case k59 => k_is)
    (case a60 => k_is)
    (case l60 => k_is)
    (case c60 => k_is)
    (case k60 => k_is)
    (case a61 => k_is)
    (case l61 => k_is)
    (case c61 => k_is)
    (case k61 => k_is)
    (case a62 => k_is)
    (case l62 => k_is)
    (case c62 => k_is)
    (case k62 => k_is)
    (case a63 => k_is)
    (case l63 => k_is)
    (case c63 => k_is)
    (case k63 => k_is)
    (case z_int => k_is)
    (case z_len => k_is)
    (case z_isinstance => k_is)
    (case z_bool => k_is)
    (case z_tuple => k_is)
    (case g_MOST_POINTS => k_is)
    (case g_MOST_WEIGHT => k_is)
    (case z_sum => k_is)
    (case g_MOST_LENGTH => k_is)
    (case z_list => k_is)
    (case z_sorted => k_is)
    (case g_MOST_ROADS => k_is)
    (case z_enumerate => k_is)
    (case z_range => k_is)
    (case z_set => k_is)
    (case g_MOST_ROOM => k_is)
    (case z_min => k_is)
    (case z_abs => k_is)
    (case z_zip => k_is)
    (case g_MOST_RADIUS => k_is)
    (case z_str => k_is)
    (case z_max => k_is)
    (case g_MOST_GROWN => k_is)
