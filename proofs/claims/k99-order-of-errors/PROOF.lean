import PyProof.Rows.All
import Wide.All
import OpenK.AllK
import Wide.FinOn
import HandS.ForMost
import HandS.IsInst
import HandS.TupAny
import HandS.TupMul
import HandS.Wide
import HandS.Style
import HandS.Flow
import HandS.Deep
import KE.DataMinMax
import KE.DataCmp
import KE.SortData
import KE.DataFind
import PyProof.Rows.InDataRows
import KE.SortKeyHeap
import KE.GoesEnum
import KE.GoesMore
import HandS.Conv
import HandS.Strs
import HandS.SetFor
import KE.SortCalls
import HandS.TupSets
import KE.KSortKey
import HandS.Small
import HandS.DictTup
import KE.KDictSum
import KE.KDictList
import HandS.CallLocal
import KE.KDictCopyH
import HandS.WordsExc
import HandS.CallSlots
import HandS.ExcInit
import HandS.ExcField
import HandS.ExcIs
import KE.KExcIs
import KE.KExcSuper
import HandS.Lambda
import HandS.Nested
import HandS.EndOwn
import KE.KNestM
import HandS.Text
import PySem.Challenge.RW_nearhouses_k99_order_of_errors
set_option Elab.async false
set_option linter.all false
set_option maxRecDepth 100000
namespace L2
open PySem PySem.Spec PyProof.Rows
theorem sameT {K : PySem.W.Frag} {H H' : Hp} {a : Addr} {xs : List V} (e : Same H H') (h : SqT K H a xs) : SqT K H' a xs := by
  rcases h with (h | ⟨o, h⟩) | h
  · exact .inl (.inl (e _ _ h))
  · exact .inl (.inr ⟨o, e _ _ h⟩)
  · exact .inr h
end L2
namespace DL
open PySem PySem.Spec PyProof.Rows L2
def kD : Key → PyData
  | .inl i => .int i
  | .inr x => .str x
theorem sqT_of {K : PySem.W.Frag} {H : Hp} {a : Addr} {xs : List V} (h : H a = some (.tup xs)) : SqT K H a xs := .inl (.inl h)
mutual
inductive Dp (K : PySem.W.Frag) (H : Hp) : V → PyData → Prop
  | non : Dp K H .non .none
  | bl (b : Bool) : Dp K H (.bl b) (.bool b)
  | int (i : Int) : Dp K H (.int i) (.int i)
  | str (x : Str) : Dp K H (.str x) (.str x)
  | dic {a : Addr} {kvs : List (Key × V)} {ks : List (PyData × PyData)} : Rd H a (.dK kvs) → ks.map (·.1) = kvs.map (fun p => kD p.1) → DpAll K H (kvs.map (·.2)) (ks.map (·.2)) → Dp K H (.ref a) (.dict ks)
  | lst {a : Addr} {xs : List V} {ds : List PyData} : SqL K H a xs → DpAll K H xs ds → Dp K H (.ref a) (.list ds)
  | tup {a : Addr} {xs : List V} {ds : List PyData} : H a = some (.tup xs) → DpAll K H xs ds → Dp K H (.ref a) (.tuple ds)
inductive DpAll (K : PySem.W.Frag) (H : Hp) : List V → List PyData → Prop
  | nil : DpAll K H [] []
  | cons {v : V} {vs : List V} {d : PyData} {ds : List PyData} : Dp K H v d → DpAll K H vs ds → DpAll K H (v :: vs) (d :: ds)
end
section
variable {X : Cx} {pins : List (Addr × Obj)} {σ : L2.St} {H : Hp} {s : Shared}
theorem dic_reads {P : Program} {w : World} {h : Heap} : ∀ {kvs : List (Key × V)} {zs : List (Key × Value)} {es : List DictEntry}, KV kvs zs → Pairs (mixKind P w) es zs → Vals (kvs.map (·.2)) (es.map (·.val)) ∧ ∃ as, ReadsAll h (es.map (·.key)) (kvs.map fun p => kD p.1) as
  | _, _, _, .nil, .nil => ⟨.nil, _, .nil⟩
  | _, _, _, .cons r t, .cons e1 e2 e3 => by
    obtain ⟨v1, as, v2⟩ := dic_reads t e3
    refine ⟨.cons (by have q := r.2; rw [← e2] at q; exact q) v1, ?_⟩
    have e1 : keyIs _ _ = true := e1
    rw [← r.1] at e1
    rcases keyIs_shape e1 with ⟨i, t, e4, e5⟩ | ⟨x, t, e4, e5⟩
    · refine ⟨[] ++ as, ?_⟩
      rw [List.map_cons, List.map_cons, e4, e5]
      exact .cons (.int i t) v2
    · refine ⟨[] ++ as, ?_⟩
      rw [List.map_cons, List.map_cons, e4, e5]
      exact .cons (.str x t) v2
mutual
theorem Dp.reads (I : Inv X pins σ H s) : ∀ (d : PyData) (v : V) (u : Value), Dp X.K H v d → RelV v u → ∃ as, Reads s.heap u d as
  | _, _, _, .non, r => by cases r; exact ⟨[], .none⟩
  | _, _, _, .bl b, r => by cases r; exact ⟨[], .bool b⟩
  | _, _, _, .int i, ⟨t, r⟩ => by subst r; exact ⟨[], .int i t⟩
  | _, _, _, .str x, ⟨t, r⟩ => by subst r; exact ⟨[], .str x t⟩
  | _, _, _, .dic k ek ks, r => by
    cases r
    obtain ⟨_, _, zs, pz, ob, arr, e0, h1, h2, h3, _, h4, _⟩ := k.ok I.hok
    obtain ⟨rv, as, ra⟩ := dic_reads (h := s.heap) pz h4
    obtain ⟨bs, rb⟩ := Dp.readsAll I _ _ _ ks rv
    exact ⟨_, .dict h1 h2.1 h3 (by rw [ek]; exact ra) rb⟩
  | _, _, _, .lst k ks, r => by
    cases r
    obtain ⟨zs, vz, ⟨ob, m, h1, h2, _, h3⟩, _⟩ := I.list k
    obtain ⟨bs, hb⟩ := Dp.readsAll I _ _ zs ks vz
    exact ⟨_, .list h1 h2 h3 hb⟩
  | _, _, _, .tup k ks, r => by
    cases r
    obtain ⟨zs, vz, ⟨ob, h1, h2, m, h3⟩, _⟩ := I.tuple (sqT_of k)
    obtain ⟨bs, hb⟩ := Dp.readsAll I _ _ zs ks vz
    exact ⟨_, .tuple h1 h2 h3 hb⟩
theorem Dp.readsAll (I : Inv X pins σ H s) : ∀ (ds : List PyData) (vs : List V) (us : List Value), DpAll X.K H vs ds → Vals vs us → ∃ as, ReadsAll s.heap us ds as
  | _, _, _, .nil, r => by cases r; exact ⟨[], .nil⟩
  | _, _, _, .cons k ks, r => by
    cases r with
    | cons r1 r2 =>
      obtain ⟨a1, h1⟩ := Dp.reads I _ _ _ k r1
      obtain ⟨a2, h2⟩ := Dp.readsAll I _ _ _ ks r2
      exact ⟨a1 ++ a2, .cons h1 h2⟩
end
end
theorem rdMono {F F' : Hp} {a : Addr} {u : HO} (e : Same F F') (h : Rd F a u) : Rd F' a u := by
  rcases h with h | ⟨o, h⟩
  · exact .inl (e _ _ h)
  · exact .inr ⟨o, e _ _ h⟩
section
variable {K : PySem.W.Frag} {F F' : Hp}
mutual
theorem Dp.mono (e : Same F F') : ∀ {v : V} {d : PyData}, Dp K F v d → Dp K F' v d
  | _, _, .non => .non
  | _, _, .bl b => .bl b
  | _, _, .int i => .int i
  | _, _, .str s => .str s
  | _, _, .dic h ek t => .dic (rdMono e h) ek (DpAll.mono e t)
  | _, _, .tup h t => .tup (e _ _ h) (DpAll.mono e t)
  | _, _, .lst h t => .lst (e.seq h) (DpAll.mono e t)
theorem DpAll.mono (e : Same F F') : ∀ {vs : List V} {ds : List PyData}, DpAll K F vs ds → DpAll K F' vs ds
  | _, _, .nil => .nil
  | _, _, .cons h t => .cons (Dp.mono e h) (DpAll.mono e t)
end
theorem DpAll.length : ∀ {vs : List V} {ds : List PyData}, DpAll K F vs ds → vs.length = ds.length
  | _, _, .nil => rfl
  | _, _, .cons _ t => congrArg (· + 1) t.length
theorem DpAll.get : ∀ {vs : List V} {ds : List PyData} {i : Nat} {d : PyData}, DpAll K F vs ds → ds[i]? = some d → ∃ v, vs[i]? = some v ∧ Dp K F v d
  | _, _, _, _, .nil, e => by simp at e
  | _, _, 0, _, .cons h _, e => by
    simp at e
    subst e
    exact ⟨_, rfl, h⟩
  | _, _, i + 1, _, .cons _ t, e => by
    obtain ⟨v, h1, h2⟩ := DpAll.get (i := i) t (by simpa using e)
    exact ⟨v, by simpa using h1, h2⟩
theorem DpAll.append : ∀ {vs ws : List V} {ds es : List PyData}, DpAll K F vs ds → DpAll K F ws es → DpAll K F (vs ++ ws) (ds ++ es)
  | _, _, _, _, .nil, s => s
  | _, _, _, _, .cons r t, s => .cons r (DpAll.append t s)
theorem DpAll.take : ∀ {vs : List V} {ds : List PyData} (n : Nat), DpAll K F vs ds → DpAll K F (vs.take n) (ds.take n)
  | _, _, 0, _ => .nil
  | _, _, _ + 1, .nil => .nil
  | _, _, n + 1, .cons r t => .cons r (DpAll.take n t)
theorem DpAll.drop : ∀ {vs : List V} {ds : List PyData} (n : Nat), DpAll K F vs ds → DpAll K F (vs.drop n) (ds.drop n)
  | _, _, 0, r => r
  | _, _, _ + 1, .nil => .nil
  | _, _, n + 1, .cons _ t => DpAll.drop n t
theorem DpAll.set : ∀ {vs : List V} {ds : List PyData} {v : V} {d : PyData} (n : Nat), DpAll K F vs ds → Dp K F v d → DpAll K F (vs.set n v) (ds.set n d)
  | _, _, _, _, _, .nil, _ => .nil
  | _, _, _, _, 0, .cons _ t, r => .cons r t
  | _, _, _, _, n + 1, .cons h t, r => .cons h (DpAll.set n t r)
theorem DpAll.rep {vs : List V} {ds : List PyData} (h : DpAll K F vs ds) : ∀ n : Nat, DpAll K F (List.replicate n vs).flatten (List.replicate n ds).flatten
  | 0 => .nil
  | n + 1 => by
    rw [List.replicate_succ, List.replicate_succ, List.flatten_cons, List.flatten_cons]
    exact h.append (DpAll.rep h n)
theorem DpAll.reverse : ∀ {vs : List V} {ds : List PyData}, DpAll K F vs ds → DpAll K F vs.reverse ds.reverse
  | _, _, .nil => .nil
  | _, _, .cons h t => by
    rw [List.reverse_cons, List.reverse_cons]
    exact (DpAll.reverse t).append (.cons h .nil)
theorem DpAll.ints : ∀ {vs : List V} {ns : List Int}, DpAll K F vs (ns.map PyData.int) → vs = ns.map V.int
  | _, [], .nil => rfl
  | _, n :: ns, .cons (.int _) t => congrArg (V.int n :: ·) (DpAll.ints t)
theorem DpAll.of_ints : ∀ (ns : List Int), DpAll K F (ns.map V.int) (ns.map PyData.int)
  | [] => .nil
  | n :: ns => .cons (.int n) (DpAll.of_ints ns)
end
abbrev D := PyData
abbrev Rep (K : PySem.W.Frag) (F : Hp) : V → D → Prop := Dp K F
abbrev RepL (K : PySem.W.Frag) (F : Hp) : List V → List D → Prop := DpAll K F
def ext (F H H' : Hp) : Hp := fun a => if (H a).isSome then F a else H' a
section
variable {F H H' H1 H2 : Hp}
theorem ext_self (s : Same F H) : ext F H H = F := by
  funext a
  unfold ext
  cases h : H a with
  | none => simp [s.free h]
  | some o => simp
theorem ext_ext (s1 : Same H H1) (s2 : Same H1 H2) : ext (ext F H H1) H1 H2 = ext F H H2 := by
  funext a
  unfold ext
  cases h : H a with
  | some o => simp [s1 _ _ h]
  | none =>
    cases h1 : H1 a with
    | none => simp
    | some o => simp [s2 _ _ h1]
theorem same_ext (s : Same F H) : Same F (ext F H H') := fun a o e => by
  unfold ext
  simp [s _ _ e, e]
theorem ext_sub (s : Same F H) (s1 : Same H H') : Same (ext F H H') H' := fun a o e => by
  unfold ext at e
  cases h : H a with
  | none => simpa [h] using e
  | some u =>
    simp [h] at e
    exact s1 _ _ (s _ _ e)
theorem ext_new (s : Same F H) {p : Addr} {o : HO} (h : H p = none) : ext F H (upd H p o) = upd F p o := by
  funext a
  unfold ext
  by_cases e : a = p
  · subst e
    rw [upd_same, upd_same]
    simp [h]
  · rw [upd_ne e, upd_ne e]
    cases q : H a with
    | none => simp [s.free q]
    | some u => simp
theorem same_new {p : Addr} {o : HO} (h : H p = none) : Same H (upd H p o) := fun b x e => by
  rw [upd_ne (ne_of_none e h)]
  exact e
theorem ext_mono {F1 : Hp} (s : Same F F1) : Same (ext F H H') (ext F1 H H') := fun a o e => by
  unfold ext at e ⊢
  cases h : H a with
  | none => simpa [h] using e
  | some u =>
    simp [h] at e
    simp
    exact s _ _ e
theorem Same.upd2 (s : Same F H) {p : Addr} {o : HO} (hn : F p = none) : Same F (upd H p o) := fun a x e => by
  rw [upd_ne (ne_of_none e hn)]
  exact s _ _ e
end
/-- a field of an object of one's own -/
inductive Fd where
  | sh (d : D)
  | own (d : D)
  | own2 (d : D)
/-- an error: its class by its name, its one field -/
structure Er where
  cls : Str
  fld : Option (Str × D)
/-- entries of frames with defs and lambdas as values -/
inductive Odd where
  | exc (e : Er)
  | tab (d : D)
  | at (n : Nat)
  | fns (js : List Nat)
  | lams (js : List Nat)
inductive E where
  | sh (d : D)
  | own (d : D)
  | own2 (d : D)
  | row (d : D)
  | dk (l : Bool) (ks : List (Key × D))
  | dt (l : Bool) (ks : List (List Key × D))
  | fn (j : Nat) (f : Addr)
  | ob (m : Nat) (fs : List (Str × Fd))
  | obs (fs : List (Str × D))
  | odd (o : Odd)
abbrev Env := List (Option E)
/-- what a frame knows of addresses: things at ad n, tables of code objects, lambdas by number -/
structure Zx where
  ad : Nat → Addr
  tab : Hp → Hp → Addr → Prop
  lam : Nat → Hp → Addr → Prop
  exc : Er → Hp → Addr → Prop
  tabS : ∀ {F F' H H' : Hp} {P : Addr}, Same F F' → H' P = H P → tab F H P → tab F' H' P
  lamS : ∀ {j : Nat} {F F' : Hp} {f : Addr}, Same F F' → lam j F f → lam j F' f
  excS : ∀ {e : Er} {F F' : Hp} {a : Addr}, Same F F' → exc e F a → exc e F' a
def Zx.no : Zx := ⟨fun _ => 0, fun _ _ _ => False, fun _ _ _ => False, fun _ _ _ => False, fun _ _ h => h, fun _ h => h, fun _ h => h⟩
structure Z where
  H0 : Hp
  F0 : Hp
  B : Addr → Prop
  cl : Addr
  fp : List Addr
  x : Zx
/-- a mutable object at p, its items shared -/
def Obj1 (K : PySem.W.Frag) (F H : Hp) (p : Addr) : D → Prop
  | .list ds => ∃ vs, H p = some (.lst vs) ∧ RepL K F vs ds
  | _ => False
inductive Objs (K : PySem.W.Frag) (F H : Hp) : List Addr → List D → Prop
  | nil : Objs K F H [] []
  | cons {p : Addr} {ps : List Addr} {d : D} {ds : List D} : Obj1 K F H p d → Objs K F H ps ds → Objs K F H (p :: ps) (d :: ds)
/-- an object of one's own, or one that is locked -/
def LkO (z : Z) (F H : Hp) (p : Addr) (u : HO) (l : Bool) (as : List Addr) : Prop := (l = false ∧ as = [p] ∧ z.H0 p = none ∧ H p = some u) ∨ (l = true ∧ as = [] ∧ ∃ o, F p = some (.frz o u))
theorem LkO.mono {z : Z} {F F' H H' : Hp} {p : Addr} {u : HO} {l : Bool} {as : List Addr} (h : LkO z F H p u l as) (s : Same F F') (k : ∀ a ∈ as, H' a = H a) : LkO z F' H' p u l as := by
  rcases h with ⟨h1, h2, h3, h4⟩ | ⟨h1, h2, o, h3⟩
  · exact .inl ⟨h1, h2, h3, (k p (by rw [h2]; exact List.mem_cons_self)).trans h4⟩
  · exact .inr ⟨h1, h2, o, s _ _ h3⟩
/-- the fields of an object -/
inductive Fds (K : PySem.W.Frag) (F H : Hp) : List (Str × V) → List (Str × Fd) → List Addr → Prop
  | nil : Fds K F H [] [] []
  | sh {n : Str} {v : V} {d : D} {xs : List (Str × V)} {fs : List (Str × Fd)} {as : List Addr} : Rep K F v d → Fds K F H xs fs as → Fds K F H ((n, v) :: xs) ((n, .sh d) :: fs) as
  | own {n : Str} {p : Addr} {d : D} {xs : List (Str × V)} {fs : List (Str × Fd)} {as : List Addr} : Obj1 K F H p d → Fds K F H xs fs as → Fds K F H ((n, .ref p) :: xs) ((n, .own d) :: fs) (p :: as)
  | own2 {n : Str} {p : Addr} {qs : List Addr} {ds : List D} {xs : List (Str × V)} {fs : List (Str × Fd)} {as : List Addr} : H p = some (.lst (qs.map V.ref)) → Objs K F H qs ds → Fds K F H xs fs as → Fds K F H ((n, .ref p) :: xs) ((n, .own2 (.list ds)) :: fs) (p :: (qs ++ as))
/-- a class of one's own with such fields -/
structure OkC (K : PySem.W.Frag) (C : Addr) (ns : List Str) : Prop where
  cls : Cls K C
  no : ∀ n ∈ ns, NoAttr K C n
inductive Lams (L : Nat → Hp → Addr → Prop) (F : Hp) : List Addr → List Nat → Prop
  | nil : Lams L F [] []
  | cons {f : Addr} {fs : List Addr} {j : Nat} {js : List Nat} : L j F f → Lams L F fs js → Lams L F (f :: fs) (j :: js)
theorem Lams.mono {x : Zx} {F F' : Hp} (s : Same F F') : ∀ {fs : List Addr} {js : List Nat}, Lams x.lam F fs js → Lams x.lam F' fs js
  | _, _, .nil => .nil
  | _, _, .cons h t => .cons (x.lamS s h) (t.mono s)
def EntO (K : PySem.W.Frag) (z : Z) (F H : Hp) (v : V) : Odd → List Addr → Prop
  | .exc e, as => as = [] ∧ ∃ a, v = .ref a ∧ z.x.exc e F a
  | .tab d, as => Rep K F v d ∧ ∃ P, as = [P] ∧ z.B P ∧ z.x.tab F H P
  | .at n, as => v = .ref (z.x.ad n) ∧ (n = 0 → as = []) ∧ (n ≠ 0 → ∃ P, as = [P] ∧ z.B P ∧ z.x.tab F H P)
  | .fns js, as => as = [] ∧ ∃ p, v = .ref p ∧ Rd F p (.lst (js.map fun j => V.ref (z.x.ad j)))
  | .lams js, as => ∃ p fs, v = .ref p ∧ as = [p] ∧ z.H0 p = none ∧ H p = some (.lst (fs.map V.ref)) ∧ Lams z.x.lam F fs js
def Ent (K : PySem.W.Frag) (z : Z) (F H : Hp) (v : V) : E → List Addr → Prop
  | .odd o, as => EntO K z F H v o as
  | .sh d, as => as = [] ∧ Rep K F v d
  | .own d, as => ∃ p, v = .ref p ∧ as = [p] ∧ z.H0 p = none ∧ Obj1 K F H p d
  | .row d, as => ∃ p, v = .ref p ∧ as = [p] ∧ z.B p ∧ Obj1 K F H p d
  | .dk l ks, as => ∃ p kvs, v = .ref p ∧ kvs.map (·.1) = ks.map (·.1) ∧ RepL K F (kvs.map (·.2)) (ks.map (·.2)) ∧ LkO z F H p (.dK kvs) l as
  | .dt l ks, as => ∃ p kvs, v = .ref p ∧ kvs.map (·.1) = ks.map (·.1) ∧ RepL K F (kvs.map (·.2)) (ks.map (·.2)) ∧ LkO z F H p (.dT kvs) l as
  | .fn _ f, as => as = [] ∧ v = .ref f
  | .ob m fs, as => ∃ p dx xs as', v = .ref p ∧ as = p :: as' ∧ H p = some (.ins z.cl dx xs) ∧ OkC K z.cl (fs.map (·.1)) ∧ as.Nodup ∧ ((∀ a ∈ as, z.H0 a = none ∨ z.B a) ∧ (m = 1 → as = z.fp) ∧ (m = 2 → z.fp.head? = some p) ∧ (m = 0 → ∀ a ∈ as, z.H0 a = none)) ∧ Fds K F H xs fs as'
  | .obs fs, as => as = [] ∧ ∃ p C dx xs, v = .ref p ∧ F p = some (.ins C dx xs) ∧ OkC K C (fs.map (·.1)) ∧ xs.map (·.1) = fs.map (·.1) ∧ RepL K F (xs.map (·.2)) (fs.map (·.2))
  | .own2 d, as => ∃ p qs ds, v = .ref p ∧ as = p :: qs ∧ d = .list ds ∧ H p = some (.lst (qs.map V.ref)) ∧ (p :: qs).Nodup ∧ (∀ a ∈ p :: qs, z.H0 a = none) ∧ Objs K F H qs ds
theorem Obj1.mono {K : PySem.W.Frag} {F F' H H' : Hp} {p : Addr} {d : D} (h : Obj1 K F H p d) (s : Same F F') (e : H' p = H p) : Obj1 K F' H' p d := by
  cases d with
  | list ds =>
    obtain ⟨vs, h1, h2⟩ := h
    exact ⟨vs, e.trans h1, h2.mono s⟩
  | _ => exact h.elim
theorem Obj1.some {K : PySem.W.Frag} {F H : Hp} {p : Addr} {d : D} (h : Obj1 K F H p d) : ∃ o, H p = some o := by
  cases d with
  | list ds =>
    obtain ⟨vs, h1, _⟩ := h
    exact ⟨_, h1⟩
  | _ => exact h.elim
theorem Objs.mono {K : PySem.W.Frag} {F F' H H' : Hp} (s : Same F F') : ∀ {ps : List Addr} {ds : List D}, Objs K F H ps ds → (∀ p ∈ ps, H' p = H p) → Objs K F' H' ps ds
  | _, _, .nil, _ => .nil
  | _, _, .cons h t, e => .cons (h.mono s (e _ List.mem_cons_self)) (t.mono s fun p hp => e p (List.mem_cons_of_mem _ hp))
theorem Objs.length {K : PySem.W.Frag} {F H : Hp} : ∀ {ps : List Addr} {ds : List D}, Objs K F H ps ds → ps.length = ds.length
  | _, _, .nil => rfl
  | _, _, .cons _ t => congrArg (· + 1) t.length
theorem Objs.get {K : PySem.W.Frag} {F H : Hp} : ∀ {ps : List Addr} {ds : List D} {i : Nat} {d : D}, Objs K F H ps ds → ds[i]? = some d → ∃ p, ps[i]? = some p ∧ Obj1 K F H p d
  | _, _, _, _, .nil, e => by simp at e
  | _, _, 0, _, .cons h _, e => by
    simp at e
    subst e
    exact ⟨_, rfl, h⟩
  | _, _, i + 1, _, .cons _ t, e => by
    obtain ⟨v, h1, h2⟩ := Objs.get (i := i) t (by simpa using e)
    exact ⟨v, by simpa using h1, h2⟩
theorem Objs.some {K : PySem.W.Frag} {F H : Hp} : ∀ {ps : List Addr} {ds : List D}, Objs K F H ps ds → ∀ p ∈ ps, ∃ o, H p = some o
  | _, _, .nil, _, h => by cases h
  | _, _, .cons h t, p, hp => by
    rcases List.mem_cons.mp hp with e | hp
    · subst e
      exact h.some
    · exact t.some p hp
theorem Fds.mono {K : PySem.W.Frag} {F F' H H' : Hp} (s : Same F F') : ∀ {xs : List (Str × V)} {fs : List (Str × Fd)} {as : List Addr}, Fds K F H xs fs as → (∀ a ∈ as, H' a = H a) → Fds K F' H' xs fs as
  | _, _, _, .nil, _ => .nil
  | _, _, _, .sh r t, e => .sh (r.mono s) (t.mono s e)
  | _, _, _, .own o t, e => .own (o.mono s (e _ List.mem_cons_self)) (t.mono s fun a ha => e a (List.mem_cons_of_mem _ ha))
  | _, _, _, .own2 h o t, e => .own2 ((e _ List.mem_cons_self).trans h) (o.mono s fun a ha => e a (List.mem_cons_of_mem _ (List.mem_append_left _ ha))) (t.mono s fun a ha => e a (List.mem_cons_of_mem _ (List.mem_append_right _ ha)))
theorem Ent.mono {K : PySem.W.Frag} {z : Z} {F F' H H' : Hp} {v : V} {e : E} {as : List Addr} (h : Ent K z F H v e as) (s : Same F F') (k : ∀ a ∈ as, H' a = H a) : Ent K z F' H' v e as := by
  cases e with
  | sh d => exact ⟨h.1, h.2.mono s⟩
  | fn j f => exact h
  | ob m fs =>
    obtain ⟨p, dx, xs, as', e1, e2, h1, h2, h3, h4, h5⟩ := h
    subst e2
    exact ⟨p, dx, xs, as', e1, rfl, (k p List.mem_cons_self).trans h1, h2, h3, h4, h5.mono s fun a ha => k a (List.mem_cons_of_mem _ ha)⟩
  | obs fs =>
    obtain ⟨e0, p, C, dx, xs, e1, h1, h2, h3, h4⟩ := h
    exact ⟨e0, p, C, dx, xs, e1, s _ _ h1, h2, h3, h4.mono s⟩
  | odd o =>
    have h : EntO K z F H v o as := h
    show EntO K z F' H' v o as
    cases o with
    | tab d =>
      obtain ⟨h1, P, e1, h2, h3⟩ := h
      subst e1
      exact ⟨h1.mono s, P, rfl, h2, z.x.tabS s (k P List.mem_cons_self) h3⟩
    | «at» n =>
      obtain ⟨h1, h2, h3⟩ := h
      refine ⟨h1, h2, fun hn => ?_⟩
      obtain ⟨P, e1, hb, ht⟩ := h3 hn
      subst e1
      exact ⟨P, rfl, hb, z.x.tabS s (k P List.mem_cons_self) ht⟩
    | exc e =>
      obtain ⟨e0, a, e1, h1⟩ := h
      exact ⟨e0, a, e1, z.x.excS s h1⟩
    | fns js =>
      obtain ⟨e0, p, e1, h1⟩ := h
      exact ⟨e0, p, e1, rdMono s h1⟩
    | lams js =>
      obtain ⟨p, fs, e1, e2, e3, h1, h2⟩ := h
      subst e2
      exact ⟨p, fs, e1, rfl, e3, (k p List.mem_cons_self).trans h1, h2.mono s⟩
  | own d =>
    obtain ⟨p, e1, e2, e3, h⟩ := h
    subst e2
    exact ⟨p, e1, rfl, e3, h.mono s (k p List.mem_cons_self)⟩
  | row d =>
    obtain ⟨p, e1, e2, e3, h⟩ := h
    subst e2
    exact ⟨p, e1, rfl, e3, h.mono s (k p List.mem_cons_self)⟩
  | dk l ks =>
    obtain ⟨p, kvs, e1, e2, e3, h⟩ := h
    exact ⟨p, kvs, e1, e2, e3.mono s, h.mono s k⟩
  | dt l ks =>
    obtain ⟨p, kvs, e1, e2, e3, h⟩ := h
    exact ⟨p, kvs, e1, e2, e3.mono s, h.mono s k⟩
  | own2 d =>
    obtain ⟨p, qs, ds, e1, e2, e3, h1, h2, h3, h4⟩ := h
    subst e2
    exact ⟨p, qs, ds, e1, rfl, e3, (k p List.mem_cons_self).trans h1, h2, h3, h4.mono s fun q hq => k q (List.mem_cons_of_mem _ hq)⟩
/-- all tuples of the heap are shared -/
def AllT (F H : Hp) : Prop := ∀ a vs, H a = some (.tup vs) → F a = some (.tup vs)
theorem AllT.refl (H : Hp) : AllT H H := fun _ _ h => h
theorem AllT.ext {F H H' : Hp} (t : AllT F H) (s : Same H H') : AllT (DL.ext F H H') H' := fun a vs e => by
  unfold DL.ext
  cases q : H a with
  | none => simpa using e
  | some o =>
    have := s _ _ q
    rw [e] at this
    cases this
    simpa using t a vs q
theorem AllT.up {F H : Hp} (t : AllT F H) {p : Addr} {o : HO} (ho : ∀ vs, o ≠ .tup vs) : AllT F (upd H p o) := fun a vs e => by
  by_cases q : a = p
  · rw [q, upd_same] at e
    exact absurd (Option.some.inj e) (ho vs)
  · rw [upd_ne q] at e
    exact t a vs e
structure Rel (K : PySem.W.Frag) (z : Z) (ρ : Env) (σ : L2.St) (F H : Hp) (O : Nat → List Addr) : Prop where
  len : ρ.length = σ.length
  sub : Same F H
  ent : ∀ (i : Nat) (e : E), ρ[i]? = some (some e) → ∃ v, σ[i]? = some (some v) ∧ Ent K z F H v e (O i)
  off : ∀ (i : Nat) (a : Addr), a ∈ O i → F a = none ∧ H a ≠ none
  apt : ∀ (i j : Nat) (a : Addr), a ∈ O i → a ∈ O j → i = j
  old : ∀ a, z.H0 a ≠ none → z.F0 a = none → F a = none
  oldH : ∀ a, z.H0 a ≠ none → H a ≠ none
  keep : ∀ a o, z.H0 a = some o → ¬ z.B a → H a = some o
  f0 : Same z.F0 F
  tup : AllT F H
/-- nothing tracked has changed: the shared part may take in what is new -/
theorem Rel.grow {K : PySem.W.Frag} {z : Z} {ρ : Env} {σ : L2.St} {F H H' : Hp} {O : Nat → List Addr} (R : Rel K z ρ σ F H O) (s : Same H H') : Rel K z ρ σ (ext F H H') H' O where
  len := R.len
  sub := ext_sub R.sub s
  ent := fun i e h => by
    obtain ⟨v, h1, h2⟩ := R.ent i e h
    refine ⟨v, h1, h2.mono (same_ext R.sub) fun a ha => ?_⟩
    obtain ⟨_, n⟩ := R.off i a ha
    cases q : H a with
    | none => exact absurd q n
    | some o => exact s _ _ q
  off := fun i a ha => by
    obtain ⟨f, n⟩ := R.off i a ha
    cases q : H a with
    | none => exact absurd q n
    | some o =>
      refine ⟨?_, by rw [s _ _ q]; exact fun z => nomatch z⟩
      unfold ext
      simp [q, f]
  apt := R.apt
  old := fun a h0 f0 => by
    have f := R.old a h0 f0
    have n := R.oldH a h0
    unfold ext
    cases q : H a with
    | none => exact absurd q n
    | some o => simp [f]
  oldH := fun a h0 => by
    have n := R.oldH a h0
    cases q : H a with
    | none => exact absurd q n
    | some o =>
      rw [s _ _ q]
      exact fun z => nomatch z
  keep := fun a o h b => s _ _ (R.keep a o h b)
  f0 := R.f0.trans (same_ext R.sub)
  tup := R.tup.ext s
def tP (K : PySem.W.Frag) (z : Z) (f : Env → Option D) : TE := fun σ H Q => ∃ ρ F O d, Rel K z ρ σ F H O ∧ f ρ = some d ∧ ∀ v H', Same H H' → Rep K (ext F H H') v d → Q v H'
def tPs (K : PySem.W.Frag) (z : Z) (f : Env → Option (List D)) : TA := fun σ H Q => ∃ ρ F O ds, Rel K z ρ σ F H O ∧ f ρ = some ds ∧ ∀ vs H', Same H H' → RepL K (ext F H H') vs ds → Q vs H'
def tB (K : PySem.W.Frag) (z : Z) (f : Env → Option Bool) : TT := fun σ H Q => ∃ ρ F O b, Rel K z ρ σ F H O ∧ f ρ = some b ∧ ∀ H', Same H H' → Q b H'
section
variable {X : Cx}
theorem _root_.L2.PE.mono {e : Expr} {t t' : TE} (h : PE X e t) (i : ∀ σ H Q, t' σ H Q → t σ H Q) : PE X e t' := ⟨fun pins s σ H Q I q => h.run pins s σ H Q I (i _ _ _ q)⟩
theorem _root_.L2.PT.mono {e : Expr} {t t' : TT} (h : PT X e t) (i : ∀ σ H Q, t' σ H Q → t σ H Q) : PT X e t' := ⟨fun pins s σ H Q I q => h.run pins s σ H Q I (i _ _ _ q)⟩
theorem _root_.L2.PA.mono {es : List Expr} {t t' : TA} (h : PA X es t) (i : ∀ σ H Q, t' σ H Q → t σ H Q) : PA X es t' := ⟨fun pos pins s σ H Q I q => h.run pos pins s σ H Q I (i _ _ _ q)⟩
theorem _root_.L2.PW.mono {e : Expr} {t t' : TT} (h : PW X e t) (i : ∀ σ H Q, t' σ H Q → t σ H Q) : PW X e t' := ⟨fun w pins s σ H Q I q => h.run w pins s σ H Q I (i _ _ _ q)⟩
theorem _root_.L2.PS.mono {st : Stmt} {t t' : TS} (h : PS X st t) (i : ∀ D σ H, t' D σ H → t D σ H) : PS X st t' := ⟨fun pins s σ H D I q => h.run pins s σ H D I (i _ _ _ q)⟩
theorem _root_.L2.PSs.mono {st : List Stmt} {t t' : TS} (h : PSs X st t) (i : ∀ D σ H, t' D σ H → t D σ H) : PSs X st t' := ⟨fun pins s σ H D I q => h.run pins s σ H D I (i _ _ _ q)⟩
theorem _root_.L2.PI.mono {tg e : Expr} {t t' : TI} (h : PI X tg e t) (i : ∀ σ H Q, t' σ H Q → t σ H Q) : PI X tg e t' := ⟨fun pins s σ H Q I q => h.run pins s σ H Q I (i _ _ _ q)⟩
def cVar (i : Nat) : Env → Option D := fun ρ => match ρ[i]? with
  | some (some (.sh d)) => some d
  | _ => none
def cK (d : D) : Env → Option D := fun _ => some d
variable {z : Z}
theorem q_var (i : Nat) {x : Str} {pos : Pos} (hN : X.N[i]? = some x := by rfl) (hv : Vis X.env.scope x := by first | exact Or.inl rfl | exact Or.inr (Or.inl rfl) | exact Or.inr (Or.inr rfl)) (hd : (x == ("__debug__" : Str)) = false := by decide)
    (hcd : (x == ("__classdict__" : Str)) = false := by decide) : PE X (.Name x pos) (tP X.K z (cVar i)) := by
  refine (pe_var hN hv hd hcd).mono fun σ H Q ⟨ρ, F, O, d, R, e, q⟩ => ?_
  unfold cVar at e
  split at e
  · next d' h =>
    cases e
    obtain ⟨v, h1, _, h2⟩ := R.ent i _ h
    refine ⟨v, h1, q v H (Same.refl _) ?_⟩
    rw [ext_self R.sub]
    exact h2
  · cases e
theorem q_const {e : Expr} {v : V} {d : D} (h : PE X e (tC v)) (r : ∀ F, Rep X.K F v d) : PE X e (tP X.K z (cK d)) :=
  h.mono fun σ H Q ⟨ρ, F, O, d', R, e, q⟩ => by
    cases e
    exact q v H (Same.refl _) (r _)
theorem q_int {i : Int} {j pos} : PE X (.Constant (.int i) j pos) (tP X.K z (cK (.int i))) := q_const pe_int fun _ => .int i
theorem q_bl {b j pos} : PE X (.Constant (.bool b) j pos) (tP X.K z (cK (.bool b))) := q_const pe_bl fun _ => .bl b
theorem q_str {s j pos} : PE X (.Constant (.str s) j pos) (tP X.K z (cK (.str s))) := q_const pe_str fun _ => .str s
theorem q_non {j pos} : PE X (.Constant .none j pos) (tP X.K z (cK .none)) := q_const pe_non fun _ => .non
theorem q_globI {x : Str} {i : Int} {u : Value} {pos : Pos} (hg : Gl X x) (hm : X.mg x = some u) (r : RelV (.int i) u) (hd : (x == ("__debug__" : Str)) = false := by decide) : PE X (.Name x pos) (tP X.K z (cK (.int i))) := q_const (pe_glob hg hm r hd) fun _ => .int i
structure Op2 (K : PySem.W.Frag) (r : R2) (o : D → D → Option D) : Prop where
  run : ∀ (F H : Hp) (x y : V) (a b d : D) (Q : VK), Same F H → Rep K F x a → Rep K F y b → o a b = some d → (∀ v H', Same H H' → Rep K (ext F H H') v d → Q v H') → r x y H Q
def c2 (o : D → D → Option D) (f g : Env → Option D) : Env → Option D := fun ρ => (f ρ).bind fun a => (g ρ).bind fun b => o a b
theorem bind_some {α β : Type} {x : Option α} {f : α → Option β} {b : β} (h : x.bind f = some b) : ∃ a, x = some a ∧ f a = some b := by
  cases x with
  | none => cases h
  | some a => exact ⟨a, rfl, h⟩
theorem tP2 {K : PySem.W.Frag} {r : R2} {o : D → D → Option D} (ho : Op2 K r o) {f g : Env → Option D} {σ : L2.St} {H : Hp} {Q : VK} (h : tP K z (c2 o f g) σ H Q) : tOp r (tP K z f) (tP K z g) σ H Q := by
  obtain ⟨ρ, F, O, d, R, e, q⟩ := h
  obtain ⟨a, ea, e⟩ := bind_some e
  obtain ⟨b, eb, e⟩ := bind_some e
  refine ⟨ρ, F, O, a, R, ea, fun v1 H1 s1 r1 => ?_⟩
  refine ⟨ρ, _, O, b, R.grow s1, eb, fun v2 H2 s2 r2 => ?_⟩
  rw [ext_ext s1 s2] at r2
  have R2 := R.grow (s1.trans s2)
  refine ho.run (ext F H H2) H2 v1 v2 a b d Q R2.sub (r1.mono ?_) r2 e fun v H3 s3 r3 => ?_
  · rw [← ext_ext s1 s2]
    exact same_ext (R.grow s1).sub
  · rw [ext_ext (s1.trans s2) s3] at r3
    exact q v H3 ((s1.trans s2).trans s3) r3
theorem q_op {a b : Expr} {pos : Pos} {op : Operator} {r : R2} {o : D → D → Option D} {f g : Env → Option D} (hr : OpR X (binaryOp op) r) (ho : Op2 X.K r o) (ha : PE X a (tP X.K z f)) (hb : PE X b (tP X.K z g)) : PE X (.BinOp a op b pos) (tP X.K z (c2 o f g)) :=
  (pe_op hr ha hb).mono fun _ _ _ h => tP2 ho h
theorem q_cmp {a b : Expr} {pos : Pos} {op : CmpOp} {r : R2} {o : D → D → Option D} {f g : Env → Option D} (hr : OpR X (compareOp op) r) (ho : Op2 X.K r o) (ha : PE X a (tP X.K z f)) (hb : PE X b (tP X.K z g)) (hm : behindInMarks op b = false) : PE X (.Compare a [op] [b] pos) (tP X.K z (c2 o f g)) :=
  (pe_cmpR hr ha hb hm).mono fun _ _ _ h => tP2 ho h
theorem q_ix {a b : Expr} {pos : Pos} {r : R2} {o : D → D → Option D} {f g : Env → Option D} (hr : IxR X r) (ho : Op2 X.K r o) (ha : PE X a (tP X.K z f)) (hb : PE X b (tP X.K z g)) (hs : PlainIx b := by exact fun _ _ => rfl) : PE X (.Subscript a b pos) (tP X.K z (c2 o f g)) :=
  (pe_ix hr ha hb hs).mono fun _ _ _ h => tP2 ho h
structure Op1 (K : PySem.W.Frag) (r : V → Hp → VK → Prop) (o : D → Option D) : Prop where
  run : ∀ (F H : Hp) (x : V) (a d : D) (Q : VK), Same F H → Rep K F x a → o a = some d → (∀ v H', Same H H' → Rep K (ext F H H') v d → Q v H') → r x H Q
structure OpN (K : PySem.W.Frag) (r : List V → Hp → VK → Prop) (o : List D → Option D) : Prop where
  run : ∀ (F H : Hp) (xs : List V) (as : List D) (d : D) (Q : VK), Same F H → RepL K F xs as → o as = some d → (∀ v H', Same H H' → Rep K (ext F H H') v d → Q v H') → r xs H Q
def c1 (o : D → Option D) (f : Env → Option D) : Env → Option D := fun ρ => (f ρ).bind o
def cN (o : List D → Option D) (f : Env → Option (List D)) : Env → Option D := fun ρ => (f ρ).bind o
def cNil : Env → Option (List D) := fun _ => some []
def cCons (f : Env → Option D) (g : Env → Option (List D)) : Env → Option (List D) := fun ρ => (f ρ).bind fun a => (g ρ).bind fun as => some (a :: as)
theorem tP1 {K : PySem.W.Frag} {r : V → Hp → VK → Prop} {o : D → Option D} (ho : Op1 K r o) {f : Env → Option D} {σ : L2.St} {H : Hp} {Q : VK} (h : tP K z (c1 o f) σ H Q) : tP K z f σ H fun x H1 => r x H1 Q := by
  obtain ⟨ρ, F, O, d, R, e, q⟩ := h
  obtain ⟨a, ea, e⟩ := bind_some e
  refine ⟨ρ, F, O, a, R, ea, fun v1 H1 s1 r1 => ho.run _ H1 v1 a d Q (R.grow s1).sub r1 e fun v H3 s3 r3 => ?_⟩
  rw [ext_ext s1 s3] at r3
  exact q v H3 (s1.trans s3) r3
theorem tPN {K : PySem.W.Frag} {r : List V → Hp → VK → Prop} {o : List D → Option D} (ho : OpN K r o) {f : Env → Option (List D)} {σ : L2.St} {H : Hp} {Q : VK} (h : tP K z (cN o f) σ H Q) : tPs K z f σ H fun x H1 => r x H1 Q := by
  obtain ⟨ρ, F, O, d, R, e, q⟩ := h
  obtain ⟨a, ea, e⟩ := bind_some e
  refine ⟨ρ, F, O, a, R, ea, fun v1 H1 s1 r1 => ho.run _ H1 v1 a d Q (R.grow s1).sub r1 e fun v H3 s3 r3 => ?_⟩
  rw [ext_ext s1 s3] at r3
  exact q v H3 (s1.trans s3) r3
theorem q_un {a : Expr} {pos : Pos} {op : UnaryOp} {r : V → Hp → VK → Prop} {o : D → Option D} {f : Env → Option D} (hr : UnR X (unaryOp op) r) (ho : Op1 X.K r o) (ha : PE X a (tP X.K z f)) : PE X (.UnaryOp op a pos) (tP X.K z (c1 o f)) :=
  (pe_un hr ha).mono fun _ _ _ h => tP1 ho h
theorem q_nil : PA X [] (tPs X.K z cNil) := pa_nil.mono fun σ H Q ⟨ρ, F, O, ds, R, e, q⟩ => by
  cases e
  exact q [] H (Same.refl _) .nil
theorem q_cons {e : Expr} {es : List Expr} {f : Env → Option D} {g : Env → Option (List D)} (ha : PE X e (tP X.K z f)) (hr : PA X es (tPs X.K z g)) (hs : starEach (e :: es) X.env = (false, eval e X.env) :: starEach es X.env := by rfl) : PA X (e :: es) (tPs X.K z (cCons f g)) := by
  refine (pa_cons ha hr hs).mono fun σ H Q ⟨ρ, F, O, ds, R, e, q⟩ => ?_
  obtain ⟨a, ea, e⟩ := bind_some e
  obtain ⟨as, eb, e⟩ := bind_some e
  cases e
  refine ⟨ρ, F, O, a, R, ea, fun v1 H1 s1 r1 => ?_⟩
  refine ⟨ρ, _, O, as, R.grow s1, eb, fun v2 H2 s2 r2 => ?_⟩
  rw [ext_ext s1 s2] at r2
  refine q _ _ (s1.trans s2) (.cons (r1.mono ?_) r2)
  rw [← ext_ext s1 s2]
  exact same_ext (R.grow s1).sub
theorem q_callB {x : Str} {p pos : Pos} {e : Expr} {es : List Expr} {id : String} {r : List V → Hp → VK → Prop} {o : List D → Option D} {f : Env → Option (List D)} (hc : CallR X (.builtin id) r) (ho : OpN X.K r o) (hg : Gl X x) (hm : X.mg x = none) (hv : bootBuiltins x = some (.builtin id))
    (ha : PA X (e :: es) (tPs X.K z f)) (hn : x ≠ "__name__" := by decide) (hdb : (x == ("__debug__" : Str)) = false := by decide)
    (he : starEach (e :: es) X.env = (false, eval e X.env) :: starEach es X.env := by rfl) (hpl : (backTo pos (starEach es X.env)).any (·.1) = false := by rfl) : PE X (.Call (.Name x p) (e :: es) [] pos) (tP X.K z (cN o f)) :=
  (pe_callB hc hg hm hv ha hn hdb he hpl).mono fun _ _ _ h => tPN ho h
theorem q_callTy {x : Str} {p pos : Pos} {e : Expr} {es : List Expr} {id : String} {r : List V → Hp → VK → Prop} {o : List D → Option D} {f : Env → Option (List D)} (hc : CallR X (.type id) r) (ho : OpN X.K r o) (hg : Gl X x) (hm : X.mg x = none) (hv : bootBuiltins x = some (.type id))
    (ha : PA X (e :: es) (tPs X.K z f)) (hn : x ≠ "__name__" := by decide) (hdb : (x == ("__debug__" : Str)) = false := by decide)
    (he : starEach (e :: es) X.env = (false, eval e X.env) :: starEach es X.env := by rfl) (hpl : (backTo pos (starEach es X.env)).any (·.1) = false := by rfl) : PE X (.Call (.Name x p) (e :: es) [] pos) (tP X.K z (cN o f)) :=
  (pe_callTy hc hg hm hv ha hn hdb he hpl).mono fun _ _ _ h => tPN ho h
/-- displays -/
def cTup (f : Env → Option (List D)) : Env → Option D := fun ρ => (f ρ).bind fun ds => if ds.length ≤ 1000 then some (.tuple ds) else none
def cLst (f : Env → Option (List D)) : Env → Option D := fun ρ => (f ρ).bind fun ds => if ds.length ≤ 1000 then some (.list ds) else none
theorem le1000 {n : Nat} (h : n ≤ 1000) : n ≤ sizeLine := Nat.le_of_lt (small1000 h)
theorem q_tup {es : List Expr} {x1} {pos : Pos} {f : Env → Option (List D)} (h : PA X es (tPs X.K z f)) : PE X (.Tuple es x1 pos) (tP X.K z (cTup f)) := by
  refine (pe_tup h).mono fun σ H Q ⟨ρ, F, O, d, R, e, q⟩ => ?_
  obtain ⟨ds, ea, e⟩ := bind_some e
  split at e
  · next hl =>
    cases e
    refine ⟨ρ, F, O, ds, R, ea, fun vs H1 s1 r1 => ⟨le1000 (by rw [r1.length]; exact hl), fun p hp => ?_⟩⟩
    have R1 := R.grow s1
    refine q _ _ (s1.trans (same_new hp)) ?_
    rw [← ext_ext s1 (same_new hp), ext_new R1.sub hp]
    exact .tup upd_same (r1.mono (same_new (R1.sub.free hp)))
  · cases e
theorem q_lst {es : List Expr} {pos : Pos} {f : Env → Option (List D)} (h : PA X es (tPs X.K z f)) : PE X (.List es pos) (tP X.K z (cLst f)) := by
  refine (pe_lst h).mono fun σ H Q ⟨ρ, F, O, d, R, e, q⟩ => ?_
  obtain ⟨ds, ea, e⟩ := bind_some e
  split at e
  · next hl =>
    cases e
    refine ⟨ρ, F, O, ds, R, ea, fun vs H1 s1 r1 => ⟨le1000 (by rw [r1.length]; exact hl), fun p hp => ?_⟩⟩
    have R1 := R.grow s1
    refine q _ _ (s1.trans (same_new hp)) ?_
    rw [← ext_ext s1 (same_new hp), ext_new R1.sub hp]
    exact .lst (.of upd_same) (r1.mono (same_new (R1.sub.free hp)))
  · cases e
end
end DL
namespace DL
open PySem PySem.Spec PyProof.Rows L2
theorem OpR.or {X : Cx} {f : Value → Value → Sem Value} {r r' : R2} (h : OpR X f r) (h' : OpR X f r') : OpR X f (fun x y H Q => r x y H Q ∨ r' x y H Q) := by
  intro pins s σ H x y v u Q I rx ry q
  rcases q with q | q
  · exact h pins s σ H x y v u Q I rx ry q
  · exact h' pins s σ H x y v u Q I rx ry q
theorem done {K : PySem.W.Frag} {F H : Hp} {v : V} {d : D} {Q : VK} (s : Same F H) (h : ∀ v H', Same H H' → Rep K (ext F H H') v d → Q v H') (r : Rep K F v d) : Q v H := h v H (Same.refl _) (by rw [ext_self s]; exact r)
theorem doneL {K : PySem.W.Frag} {F H : Hp} {vs : List V} {ds : List D} {Q : VK} (s : Same F H) (h : ∀ v H', Same H H' → Rep K (ext F H H') v (.list ds) → Q v H') (r : RepL K F vs ds) {p : Addr} (hp : H p = none) : Q (.ref p) (upd H p (.lst vs)) :=
  h _ _ (same_new hp) (by rw [ext_new s hp]; exact .lst (.of upd_same) (r.mono (same_new (s.free hp))))
theorem doneT {K : PySem.W.Frag} {F H : Hp} {vs : List V} {ds : List D} {Q : VK} (s : Same F H) (h : ∀ v H', Same H H' → Rep K (ext F H H') v (.tuple ds) → Q v H') (r : RepL K F vs ds) {p : Addr} (hp : H p = none) : Q (.ref p) (upd H p (.tup vs)) :=
  h _ _ (same_new hp) (by rw [ext_new s hp]; exact .tup upd_same (r.mono (same_new (s.free hp))))
def b64 (i : Int) : Bool := decide (-18446744073709551616 < i) && decide (i < 18446744073709551616)
def oAdd : D → D → Option D
  | .int i, .int j => some (.int (i + j))
  | .tuple xs, .tuple ys => if xs.length + ys.length ≤ 1000000 then some (.tuple (xs ++ ys)) else none
  | .list xs, .list ys => if xs.length + ys.length ≤ 1000000 then some (.list (xs ++ ys)) else none
  | .str x, .str y => if x.length + y.length ≤ 1000000 then some (.str (x ++ y)) else none
  | _, _ => none
def oSub : D → D → Option D
  | .int i, .int j => some (.int (i - j))
  | _, _ => none
def oMul : D → D → Option D
  | .int i, .int j => if b64 i || b64 j then some (.int (i * j)) else none
  | .tuple xs, .int k => if xs.length ≤ 1000 then (if xs.isEmpty then none else if 2 ≤ k then (if k ≤ 1000 then some (.tuple (List.replicate k.toNat xs).flatten) else none) else (if k = 1 then some (.tuple xs) else (if k = 0 then some (.tuple []) else none))) else none
  | _, _ => none
def oDiv : D → D → Option D
  | .int i, .int j => if j = 0 then none else if j.natAbs < 2 ^ 200 then some (.int (i.fdiv j)) else none
  | _, _ => none
def oMod : D → D → Option D
  | .int i, .int j => if j = 0 then none else some (.int (i.fmod j))
  | _, _ => none
def oPow : D → D → Option D
  | .int i, .int j => if 0 ≤ j then (if j ≤ 1000 then (if i.natAbs < 1000000 then some (.int (i ^ j.toNat)) else none) else none) else none
  | _, _ => none
def oNeg : D → Option D
  | .int i => some (.int (-i))
  | _ => none
section
variable {K : PySem.W.Frag}
theorem op2I {g : Int → Int → Int} {o : D → D → Option D} (h : ∀ a b d, o a b = some d → ∃ i j, a = .int i ∧ b = .int j ∧ d = .int (g i j)) : Op2 K (rI0 fun i j => .int (g i j)) o := ⟨fun F H x y a b d Q s ra rb e q => by
  obtain ⟨i, j, rfl, rfl, rfl⟩ := h a b d e
  cases ra
  cases rb
  exact ⟨i, j, rfl, rfl, done s q (.int _)⟩⟩
theorem op2C {C : Int → Int → Prop} {g : Int → Int → Int} {o : D → D → Option D} (h : ∀ a b d, o a b = some d → ∃ i j, a = .int i ∧ b = .int j ∧ C i j ∧ d = .int (g i j)) : Op2 K (rI C fun i j => .int (g i j)) o := ⟨fun F H x y a b d Q s ra rb e q => by
  obtain ⟨i, j, rfl, rfl, c, rfl⟩ := h a b d e
  cases ra
  cases rb
  exact ⟨i, j, rfl, rfl, c, done s q (.int _)⟩⟩
theorem w_sub : Op2 K (rI0 fun i j => .int (i - j)) oSub := op2I fun a b d e => by
  unfold oSub at e
  split at e
  · cases e
    exact ⟨_, _, rfl, rfl, rfl⟩
  · cases e
def CDivW (i j : Int) : Prop := j ≠ 0 ∧ j.natAbs < 2 ^ 200
theorem op_fdivW : OpR X (binaryOp .FloorDiv) (rI CDivW fun i j => .int (i.fdiv j)) := opI fun _ j _ _ _ _ _ hc q => floordiv_int hc.1 q (.inl (PyProof.noPylong_of_log2 (by
  have h1 : j ≠ 0 := hc.1
  have h2 : j.natAbs < 2 ^ 200 := hc.2
  have : j.natAbs.log2 < 200 := (Nat.log2_lt (by omega)).mpr h2
  omega)))
theorem w_div : Op2 K (rI CDivW fun i j => .int (i.fdiv j)) oDiv := op2C fun a b d e => by
  unfold oDiv at e
  split at e
  · split at e
    · cases e
    · split at e
      · cases e
        exact ⟨_, _, rfl, rfl, ⟨by assumption, by assumption⟩, rfl⟩
      · cases e
  · cases e
theorem w_mod : Op2 K (rI (fun _ j => j ≠ 0) fun i j => .int (i.fmod j)) oMod := op2C fun a b d e => by
  unfold oMod at e
  split at e
  · split at e
    · cases e
    · cases e
      exact ⟨_, _, rfl, rfl, by assumption, rfl⟩
  · cases e
theorem cpow_of {i j : Int} (h0 : 0 ≤ j) (h1 : j ≤ 1000) (h2 : i.natAbs < 1000000) : CPow i j := ⟨h0, by omega, by omega⟩
theorem w_pow : Op2 K (rI CPow fun i j => .int (i ^ j.toNat)) oPow := op2C fun a b d e => by
  unfold oPow at e
  split at e
  · split at e
    · split at e
      · split at e
        · cases e
          exact ⟨_, _, rfl, rfl, cpow_of (by assumption) (by assumption) (by assumption), rfl⟩
        · cases e
      · cases e
    · cases e
  · cases e
def rNeg : V → Hp → VK → Prop := rU fun i => .int (-i)
theorem w_neg : Op1 K rNeg oNeg := ⟨fun F H x a d Q s ra e q => by
  unfold oNeg at e
  split at e
  · cases e
    cases ra
    exact ⟨_, rfl, done s q (.int _)⟩
  · cases e⟩
/-- list + list, whatever the lists -/
def rCatL (K : PySem.W.Frag) : R2 := fun x y H Q => ∃ l b xs zs, x = .ref l ∧ y = .ref b ∧ SqL K H l xs ∧ SqL K H b zs ∧ xs.length + zs.length ≤ sizeLine ∧ ∀ p, H p = none → Q (.ref p) (upd H p (.lst (xs ++ zs)))
theorem op_catL {X : Cx} : OpR X (binaryOp .Add) (rCatL X.K) := by
  intro pins s σ H x y v u Q I rx ry h
  obtain ⟨l, b, xs, zs, rfl, rfl, hH, hB, hz, q⟩ := h
  cases rx
  cases ry
  obtain ⟨its, r, pl, _⟩ := I.list hH
  obtain ⟨its2, r2, pl2, _⟩ := I.list hB
  obtain ⟨⟨cls, dd, data, sl⟩, ho, hc, n, hd⟩ := pl.isList
  obtain ⟨⟨cls2, dd2, data2, sl2⟩, ho2, hc2, n2, hd2⟩ := pl2.isList
  simp only at hc hd hc2 hd2
  subst hc hd hc2 hd2
  have l1 := r.length
  have l2 := r2.length
  have ea : its.toArray ++ its2.toArray = (its ++ its2).toArray := by simp
  refine PySem.concat_meets ⟨_, ho, rfl⟩ ⟨_, ho2, rfl⟩ PySem.noFill_list_add PySem.seq_list_add PySem.F.slot_list_add PySem.F.entry_list_add (PySem.F.args_list_add_2 _ _) (PyProof.Rows.list_addW l b its.toArray its2.toArray n n2 dd dd2 sl sl2 (by simp only [List.size_toArray]; omega)) ⟨ho, ho2, ?_⟩
  rw [ea]
  exact ⟨.ref _, _, I.lnew (t' := s.toks) (r.append r2) (by rw [List.length_append]; omega), rfl, q _ I.fresh⟩
def rAddA (K : PySem.W.Frag) : R2 := fun x y H Q => (rI0 (fun i j => .int (i + j)) x y H Q ∨ rCatA K x y H Q) ∨ (rCatL K x y H Q ∨ ∃ i j, x = .str i ∧ y = .str j ∧ i.length + j.length ≤ sizeLine ∧ Q (.str (i ++ j)) H)
theorem op_addA {X : Cx} : OpR X (binaryOp .Add) (rAddA X.K) := OpR.or (OpR.or op_add op_catA) (OpR.or op_catL op_add_str)
theorem leM {n : Nat} (h : n ≤ 1000000) : n ≤ sizeLine := by rw [sizeLine_eq]; omega
theorem w_add : Op2 K (rAddA K) oAdd := ⟨fun F H x y a b d Q s ra rb e q => by
  unfold oAdd at e
  split at e
  · cases e
    cases ra
    cases rb
    exact .inl (.inl ⟨_, _, rfl, rfl, done s q (.int _)⟩)
  · next xs ys =>
    split at e
    · next hl =>
      cases e
      cases ra with
      | tup h1 t1 =>
        cases rb with
        | tup h2 t2 =>
          have l1 := t1.length
          have l2 := t2.length
          refine .inl (.inr ⟨_, _, _, _, rfl, rfl, sameT s (sqT_of h1), sameT s (sqT_of h2), leM (by omega), fun z => ?_, fun _ z => ?_, fun _ _ p hp => ?_⟩)
          · subst z
            cases t1
            exact done s q (.tup h2 t2)
          · subst z
            cases t2
            rw [List.append_nil] at q
            exact done s q (.tup h1 t1)
          · exact doneT s q (t1.append t2) hp
    · cases e
  · next xs ys =>
    split at e
    · next hl =>
      cases e
      cases ra with
      | lst h1 t1 =>
        cases rb with
        | lst h2 t2 =>
          have l1 := t1.length
          have l2 := t2.length
          exact .inr (.inl ⟨_, _, _, _, rfl, rfl, s.seq h1, s.seq h2, leM (by omega), fun p hp => doneL s q (t1.append t2) hp⟩)
    · cases e
  · split at e
    · next hl =>
      cases e
      cases ra
      cases rb
      exact .inr (.inr ⟨_, _, rfl, rfl, leM hl, done s q (.str _)⟩)
    · cases e
  · cases e⟩
theorem tuple_mul1 (l : Addr) (items : Array Value) (n : Nat) (dd : Option Addr) (sl : Array (Option Value)) (u : Tok) :
    Meets (Builtin.«tuple.__mul__» ⟨[.ref l, .int 1 u], []⟩) (fun _ R s => s.heap.get? l = some { cls := .type "tuple", dict := dd, data := .seq items n, slots := sl } ∧ R (.ok (.ret (Value.ref l))) s) :=
  .of_wp fun prog w A R s h => by
    obtain ⟨hp, g, d, tk, os⟩ := s
    obtain ⟨hl, h⟩ := h
    have f1 := AutoSeq1.idx_int
    have c1 : (items.isEmpty || (1 : Int) == 1) = true := by simp
    wp_walk using wpAny_loadPart' hl
    repeat (first
      | (refine wpAny_ite_false (decide_eq_false (by decide)) ?_; wp_walk using wpAny_loadPart' hl)
      | (refine wpAny_ite_true (decide_eq_true c1) ?_; wp_walk using wpAny_loadPart' hl))
    exact ⟨_, rfl, h⟩
/-- a tuple taken once is itself -/
def rRep1 (K : PySem.W.Frag) : R2 := fun x y H Q => ∃ l xs, x = .ref l ∧ y = .int 1 ∧ SqT K H l xs ∧ Q (.ref l) H
theorem op_rep1 {X : Cx} : OpR X (binaryOp .Mult) (rRep1 X.K) := by
  intro pins s σ H x y v u Q I rx ry h
  obtain ⟨l, xs, rfl, rfl, hT, q⟩ := h
  cases rx
  obtain ⟨t, rfl⟩ := ry
  obtain ⟨its, r, ⟨⟨cls, dd, data, sl⟩, ho, hc, n, hd⟩, hs⟩ := I.tuple hT
  simp only at hc hd
  subst hc hd
  exact wpAny_binaryOp_repeat_ref (T := "tuple") (U := "int") (by decide) ⟨_, ho, rfl⟩ (fun s' => typeIs_int s' 1 t) noFill_tuple_mul F.fills_int_mul F.slot_int_rmul repeat_tuple F.slot_int_index.lookup
    (call_meets F.slot_int_rmul (typeIs_int s 1 t) F.entry_int_rmul (F.args_int_rmul_2 _ _) (int_rmul_tuple 1 t l its.toArray n dd sl)
      ⟨ho, rfl, ⟨_, ho, rfl⟩, call_meets F.slot_tuple_mul ⟨_, ho, rfl⟩ F.entry_tuple_mul (F.args_tuple_mul_2 _ _) (tuple_mul1 l its.toArray n dd sl t) ⟨ho, ⟨.ref l, H, I, rfl, q⟩⟩⟩)
theorem tuple_mul0 (l : Addr) (items : Array Value) (n : Nat) (dd : Option Addr) (sl : Array (Option Value)) (u : Tok) (c1 : (items.isEmpty || (0 : Int) == 1) = false) :
    Meets (Builtin.«tuple.__mul__» ⟨[.ref l, .int 0 u], []⟩) (fun _ R s => s.heap.get? l = some { cls := .type "tuple", dict := dd, data := .seq items n, slots := sl } ∧
      R (.ok (.ret (Value.ref s.heap.objs.size))) { s with heap := s.heap.push { cls := Value.type "tuple", data := Data.seq #[] }, toks := s.toks }) :=
  .of_wp fun prog w A R s h => by
    obtain ⟨hp, g, d, tk, os⟩ := s
    obtain ⟨hl, h⟩ := h
    have f1 := AutoSeq1.idx_int
    have c2 : (decide ((0 : Int) ≤ 0) || items.isEmpty) = true := by simp
    have hsz : (#[] : Array Value).size ≤ sizeLine := by rw [sizeLine_eq]; decide
    wp_walk using wpAny_loadPart' hl
    repeat (first
      | (refine wpAny_ite_false (decide_eq_false (by decide)) ?_; wp_walk using wpAny_loadPart' hl)
      | (refine wpAny_ite_false (decide_eq_false (by rw [c1]; exact Bool.false_ne_true)) ?_; wp_walk using wpAny_loadPart' hl)
      | (refine wpAny_ite_true (decide_eq_true c2) ?_; wp_walk using wpAny_loadPart' hl)
      | (refine wpAny_ite_false (decide_eq_false (Nat.not_lt.mpr hsz)) ?_; wp_walk using wpAny_loadPart' hl))
    exact ⟨_, rfl, h⟩
/-- a tuple taken no time is a new empty one -/
def rRep0 (K : PySem.W.Frag) : R2 := fun x y H Q => ∃ l xs, x = .ref l ∧ y = .int 0 ∧ SqT K H l xs ∧ xs ≠ [] ∧ ∀ p, H p = none → Q (.ref p) (upd H p (.tup []))
theorem op_rep0 {X : Cx} : OpR X (binaryOp .Mult) (rRep0 X.K) := by
  intro pins s σ H x y v u Q I rx ry h
  obtain ⟨l, xs, rfl, rfl, hT, hne, q⟩ := h
  cases rx
  obtain ⟨t, rfl⟩ := ry
  obtain ⟨its, r, ⟨⟨cls, dd, data, sl⟩, ho, hc, n, hd⟩, hs⟩ := I.tuple hT
  simp only at hc hd
  subst hc hd
  have hle : its.length = xs.length := r.length.symm
  have hn : its ≠ [] := fun e => hne (by
    rw [e] at hle
    exact List.eq_nil_of_length_eq_zero hle.symm)
  have hi : its.toArray.isEmpty = false := by
    cases its with
    | nil => exact absurd rfl hn
    | cons a b => rfl
  have c1 : (its.toArray.isEmpty || (0 : Int) == 1) = false := by
    rw [hi, Bool.false_or]
    rfl
  refine wpAny_binaryOp_repeat_ref (T := "tuple") (U := "int") (by decide) ⟨_, ho, rfl⟩ (fun s' => typeIs_int s' 0 t) noFill_tuple_mul F.fills_int_mul F.slot_int_rmul repeat_tuple F.slot_int_index.lookup
    (call_meets F.slot_int_rmul (typeIs_int s 0 t) F.entry_int_rmul (F.args_int_rmul_2 _ _) (int_rmul_tuple 0 t l its.toArray n dd sl)
      ⟨ho, rfl, ⟨_, ho, rfl⟩, call_meets F.slot_tuple_mul ⟨_, ho, rfl⟩ F.entry_tuple_mul (F.args_tuple_mul_2 _ _) (tuple_mul0 l its.toArray n dd sl t c1) ⟨ho, ?_⟩⟩)
  refine ⟨.ref s.heap.objs.size, _, I.laid (t' := s.toks) (o := .tup []) (fun b ob q => Heap.get?_push_of_some _ q) (Nat.le_refl _) ?_, rfl, q _ (I.hok.fresh (Nat.le_refl _))⟩
  exact ⟨by rw [sizeLine_eq]; decide, _, .nil, IsTup.new _ _⟩
def rMulA (K : PySem.W.Frag) : R2 := fun x y H Q => ((rI CMul (fun i j => .int (i * j)) x y H Q ∨ rRepT K x y H Q) ∨ rRep1 K x y H Q) ∨ rRep0 K x y H Q
theorem op_mulA {X : Cx} : OpR X (binaryOp .Mult) (rMulA X.K) := OpR.or (OpR.or (OpR.or op_mul op_repT) op_rep1) op_rep0
theorem b64_of {i : Int} (h : b64 i = true) : -(2 ^ 64) < i ∧ i < 2 ^ 64 := by
  unfold b64 at h
  rw [Bool.and_eq_true] at h
  have h1 := of_decide_eq_true h.1
  have h2 := of_decide_eq_true h.2
  exact ⟨by omega, by omega⟩
theorem w_mul : Op2 K (rMulA K) oMul := ⟨fun F H x y a b d Q s ra rb e q => by
  unfold oMul at e
  split at e
  · split at e
    · next i j hb =>
      cases e
      cases ra
      cases rb
      refine .inl (.inl (.inl ⟨_, _, rfl, rfl, ?_, done s q (.int _)⟩))
      rcases Bool.or_eq_true_iff.mp hb with h | h
      · exact .inl (b64_of h)
      · exact .inr (b64_of h)
    · cases e
  · next xs k =>
    split at e
    · next hl =>
      split at e
      · cases e
      · next hne =>
        split at e
        · next h2 =>
          split at e
          · next h1k =>
            cases e
            cases rb
            cases ra with
            | tup h1 t1 =>
              have l1 := t1.length
              refine .inl (.inl (.inr ⟨_, _, _, rfl, rfl, sameT s (sqT_of h1), fun z => ?_, h2, h1k, by omega, fun p hp => doneT s q (t1.rep _) hp⟩))
              subst z
              cases t1
              exact hne rfl
          · cases e
        · split at e
          · next h1k =>
            cases e
            cases rb
            cases ra with
            | tup h1 t1 =>
              subst h1k
              exact .inl (.inr ⟨_, _, rfl, rfl, sameT s (sqT_of h1), done s q (.tup h1 t1)⟩)
          · split at e
            · next h0k =>
              cases e
              cases rb
              cases ra with
              | tup h1 t1 =>
                subst h0k
                refine .inr ⟨_, _, rfl, rfl, sameT s (sqT_of h1), fun z => ?_, fun p hp => doneT s q .nil hp⟩
                subst z
                cases t1
                exact hne rfl
            · cases e
    · cases e
  · cases e⟩
def okD (d : D) : Bool := SeqAt.shaped d
def oEq (a b : D) : Option D := if okD a && okD b then some (.bool (PyData.eqv a b)) else none
def oNe (a b : D) : Option D := if okD a && okD b then some (.bool (!PyData.eqv a b)) else none
/-- equality of plain data -/
def rEqQ (K : PySem.W.Frag) : R2 := fun x y H Q => ∃ a b, (Dp K H x a ∧ Dp K H y b) ∧ (okD a = true ∧ okD b = true) ∧ Q (.bl (PyData.eqv a b)) H
def rNeQ (K : PySem.W.Frag) : R2 := fun x y H Q => ∃ a b, (Dp K H x a ∧ Dp K H y b) ∧ (okD a = true ∧ okD b = true) ∧ Q (.bl (!PyData.eqv a b)) H
def rInQ (K : PySem.W.Frag) : R2 := fun x y H Q => ∃ a bs, (Dp K H x a ∧ Dp K H y (.list bs)) ∧ (okD a = true ∧ okD (.list bs) = true) ∧ Q (.bl (bs.any fun z => PyData.eqv z a)) H
def rNotInQ (K : PySem.W.Frag) : R2 := fun x y H Q => ∃ a bs, (Dp K H x a ∧ Dp K H y (.list bs)) ∧ (okD a = true ∧ okD (.list bs) = true) ∧ Q (.bl (!bs.any fun z => PyData.eqv z a)) H
section
variable {X : Cx}
theorem op_eqQ (hu : X.A.units + 64 < cLine) : OpR X (compareOp .Eq) (rEqQ X.K) := fun _ _ _ H _ _ _ _ _ I rx ry ⟨_, _, ⟨ka, kb⟩, ⟨sa, sb⟩, q⟩ =>
  (Dp.reads I _ _ _ ka rx).elim fun _ h1 => (Dp.reads I _ _ _ kb ry).elim fun _ h2 => SeqAt.compareEq_shaped h1 h2 sa sb hu ⟨.bl _, H, I, rfl, q⟩
theorem op_neQ (hu : X.A.units + 64 < cLine) : OpR X (compareOp .NotEq) (rNeQ X.K) := fun _ _ _ H _ _ _ _ _ I rx ry ⟨_, _, ⟨ka, kb⟩, ⟨sa, sb⟩, q⟩ =>
  (Dp.reads I _ _ _ ka rx).elim fun _ h1 => (Dp.reads I _ _ _ kb ry).elim fun _ h2 => SeqAt.compareNe_shaped h1 h2 sa sb hu ⟨.bl _, H, I, rfl, q⟩
theorem op_inQ (hu : X.A.units + 65 < cLine) : OpR X (compareOp .In) (rInQ X.K) := fun _ _ _ H _ _ _ _ _ I rx ry ⟨_, _, ⟨ka, kb⟩, ⟨sa, sb⟩, q⟩ =>
  (Dp.reads I _ _ _ ka rx).elim fun _ h1 => (Dp.reads I _ _ _ kb ry).elim fun _ h2 => SeqAt.in_list_reads h2 h1 (SeqAt.canLay_of_shaped sb) (SeqAt.canLay_of_shaped sa) (room_in_shaped sa hu) ⟨.bl _, H, I, rfl, q⟩
theorem op_notInQ (hu : X.A.units + 65 < cLine) : OpR X (compareOp .NotIn) (rNotInQ X.K) := fun _ _ _ H _ _ _ _ _ I rx ry ⟨_, _, ⟨ka, kb⟩, ⟨sa, sb⟩, q⟩ =>
  (Dp.reads I _ _ _ ka rx).elim fun _ h1 => (Dp.reads I _ _ _ kb ry).elim fun _ h2 => SeqAt.notIn_list_reads h2 h1 (SeqAt.canLay_of_shaped sb) (SeqAt.canLay_of_shaped sa) (room_in_shaped sa hu) ⟨.bl _, H, I, rfl, q⟩
end
theorem w_eq : Op2 K (rEqQ K) oEq := ⟨fun F H x y a b d Q s ra rb e q => by
  unfold oEq at e
  split at e
  · next h =>
    cases e
    rw [Bool.and_eq_true] at h
    exact ⟨a, b, ⟨ra.mono s, rb.mono s⟩, h, done s q (.bl _)⟩
  · cases e⟩
theorem w_ne : Op2 K (rNeQ K) oNe := ⟨fun F H x y a b d Q s ra rb e q => by
  unfold oNe at e
  split at e
  · next h =>
    cases e
    rw [Bool.and_eq_true] at h
    exact ⟨a, b, ⟨ra.mono s, rb.mono s⟩, h, done s q (.bl _)⟩
  · cases e⟩
def isN : D → Bool
  | .none => true
  | _ => false
theorem isN_not {d : D} (h : isN d = false) : d ≠ .none := fun e => by
  subst e
  cases h
def cmpOk (a b : D) : Bool := PySem.W.alike a b && !isN a && decide (a.depth ≤ 60)
def oLt (a b : D) : Option D := if cmpOk a b then some (.bool (PySem.W.dataLt a b)) else none
def oGt (a b : D) : Option D := if cmpOk a b then some (.bool (PySem.W.dataLt b a)) else none
def oLe (a b : D) : Option D := if cmpOk a b then some (.bool (!PySem.W.dataLt b a)) else none
def oGe (a b : D) : Option D := if cmpOk a b then some (.bool (!PySem.W.dataLt a b)) else none
def rCmp (K : PySem.W.Frag) (g : D → D → Bool) : R2 := fun x y H Q => ∃ d e, Dp K H x d ∧ Dp K H y e ∧ cmpOk d e = true ∧ Q (.bl (g d e)) H
theorem cmpOk_of {a b : D} (h : cmpOk a b = true) : PySem.W.alike a b = true ∧ a ≠ .none ∧ a.depth ≤ 60 := by
  unfold cmpOk at h
  rw [Bool.and_eq_true, Bool.and_eq_true] at h
  exact ⟨h.1.1, isN_not (by simpa using h.1.2), of_decide_eq_true h.2⟩
section
variable {X : Cx}
theorem op_cmpD {op : CmpOp} {g : D → D → Bool} (hu : X.A.units + 64 < cLine)
    (rule : ∀ {A : Around} {E : Value → Shared → Prop} {s : Shared} {a b : Value} {da db : PyData} {as bs : List Addr} {Q : Value → Shared → Prop}, Reads s.heap a da as → Reads s.heap b db bs → PySem.W.alike da db = true → da ≠ .none → A.units + min da.depth db.depth < cLine → Q (.bool (g da db)) s → wpAny (model X.prog X.w) A (compareOp op a b) Q E s) : OpR X (compareOp op) (rCmp X.K g) := by
  intro pins s σ H x y v u Q I rx ry h
  obtain ⟨d, e, hd, he, c, q⟩ := h
  obtain ⟨as, r1⟩ := Dp.reads I d x v hd rx
  obtain ⟨bs, r2⟩ := Dp.reads I e y u he ry
  obtain ⟨c1, c2, c3⟩ := cmpOk_of c
  have := Nat.min_le_left d.depth e.depth
  exact rule r1 r2 c1 c2 (by omega) ⟨.bl _, H, I, rfl, q⟩
theorem op_ltD (hu : X.A.units + 64 < cLine) : OpR X (compareOp .Lt) (rCmp X.K fun a b => PySem.W.dataLt a b) := op_cmpD hu PySem.W.lt_data
theorem op_gtD (hu : X.A.units + 64 < cLine) : OpR X (compareOp .Gt) (rCmp X.K fun a b => PySem.W.dataLt b a) := op_cmpD hu PySem.W.gt_data
theorem op_leD (hu : X.A.units + 64 < cLine) : OpR X (compareOp .LtE) (rCmp X.K fun a b => !PySem.W.dataLt b a) := op_cmpD hu PySem.W.le_data
theorem op_geD (hu : X.A.units + 64 < cLine) : OpR X (compareOp .GtE) (rCmp X.K fun a b => !PySem.W.dataLt a b) := op_cmpD hu PySem.W.ge_data
end
theorem w_cmp {g : D → D → Bool} : Op2 K (rCmp K g) (fun a b => if cmpOk a b then some (.bool (g a b)) else none) := ⟨fun F H x y a b d Q s ra rb e q => by
  split at e
  · next h =>
    cases e
    exact ⟨a, b, ra.mono s, rb.mono s, h, done s q (.bl _)⟩
  · cases e⟩
theorem w_lt : Op2 K (rCmp K fun a b => PySem.W.dataLt a b) oLt := w_cmp
theorem w_gt : Op2 K (rCmp K fun a b => PySem.W.dataLt b a) oGt := w_cmp
theorem w_le : Op2 K (rCmp K fun a b => !PySem.W.dataLt b a) oLe := w_cmp
theorem w_ge : Op2 K (rCmp K fun a b => !PySem.W.dataLt a b) oGe := w_cmp
/-- x in xs -/
def oIn : D → D → Option D
  | d, .list ds => if okD d && okD (.list ds) then some (.bool (ds.any fun z => PyData.eqv z d)) else none
  | d, .tuple ds => if okD d && okD (.tuple ds) then some (.bool (ds.any fun z => PyData.eqv z d)) else none
  | _, _ => none
def oNotIn : D → D → Option D
  | d, .list ds => if okD d && okD (.list ds) then some (.bool (!ds.any fun z => PyData.eqv z d)) else none
  | d, .tuple ds => if okD d && okD (.tuple ds) then some (.bool (!ds.any fun z => PyData.eqv z d)) else none
  | _, _ => none
def rInT (K : PySem.W.Frag) : R2 := fun x y H Q => ∃ d ds, Dp K H x d ∧ Dp K H y (.tuple ds) ∧ SeqAt.shaped d = true ∧ SeqAt.shaped (.tuple ds) = true ∧ Q (.bl (ds.any fun z => PyData.eqv z d)) H
def rNotInT (K : PySem.W.Frag) : R2 := fun x y H Q => ∃ d ds, Dp K H x d ∧ Dp K H y (.tuple ds) ∧ SeqAt.shaped d = true ∧ SeqAt.shaped (.tuple ds) = true ∧ Q (.bl (!ds.any fun z => PyData.eqv z d)) H
section
variable {X : Cx}
theorem op_inT (hu : X.A.units + 65 < cLine) : OpR X (compareOp .In) (rInT X.K) := by
  intro pins s σ H x y v u Q I rx ry h
  obtain ⟨d, ds, hd, he, sd, se, q⟩ := h
  obtain ⟨as, r1⟩ := Dp.reads I d x v hd rx
  obtain ⟨bs, r2⟩ := Dp.reads I (.tuple ds) y u he ry
  exact SeqAt.in_tuple_reads r2 r1 (SeqAt.canLay_of_shaped se) (SeqAt.canLay_of_shaped sd) (room_in_shaped sd hu) ⟨.bl _, H, I, rfl, q⟩
theorem op_notInT (hu : X.A.units + 65 < cLine) : OpR X (compareOp .NotIn) (rNotInT X.K) := by
  intro pins s σ H x y v u Q I rx ry h
  obtain ⟨d, ds, hd, he, sd, se, q⟩ := h
  obtain ⟨as, r1⟩ := Dp.reads I d x v hd rx
  obtain ⟨bs, r2⟩ := Dp.reads I (.tuple ds) y u he ry
  exact SeqAt.notIn_tuple_reads r2 r1 (SeqAt.canLay_of_shaped se) (SeqAt.canLay_of_shaped sd) (room_in_shaped sd hu) ⟨.bl _, H, I, rfl, q⟩
def rInA (K : PySem.W.Frag) : R2 := fun x y H Q => rInQ K x y H Q ∨ rInT K x y H Q
def rNotInA (K : PySem.W.Frag) : R2 := fun x y H Q => rNotInQ K x y H Q ∨ rNotInT K x y H Q
theorem op_inA (hu : X.A.units + 65 < cLine) : OpR X (compareOp .In) (rInA X.K) := OpR.or (op_inQ hu) (op_inT hu)
theorem op_notInA (hu : X.A.units + 65 < cLine) : OpR X (compareOp .NotIn) (rNotInA X.K) := OpR.or (op_notInQ hu) (op_notInT hu)
end
theorem w_in : Op2 K (rInA K) oIn := ⟨fun F H x y a b d Q s ra rb e q => by
  unfold oIn at e
  split at e
  · split at e
    · next h =>
      cases e
      rw [Bool.and_eq_true] at h
      exact .inl ⟨_, _, ⟨ra.mono s, rb.mono s⟩, h, done s q (.bl _)⟩
    · cases e
  · split at e
    · next h =>
      cases e
      rw [Bool.and_eq_true] at h
      exact .inr ⟨_, _, ra.mono s, rb.mono s, h.1, h.2, done s q (.bl _)⟩
    · cases e
  · cases e⟩
theorem w_notIn : Op2 K (rNotInA K) oNotIn := ⟨fun F H x y a b d Q s ra rb e q => by
  unfold oNotIn at e
  split at e
  · split at e
    · next h =>
      cases e
      rw [Bool.and_eq_true] at h
      exact .inl ⟨_, _, ⟨ra.mono s, rb.mono s⟩, h, done s q (.bl _)⟩
    · cases e
  · split at e
    · next h =>
      cases e
      rw [Bool.and_eq_true] at h
      exact .inr ⟨_, _, ra.mono s, rb.mono s, h.1, h.2, done s q (.bl _)⟩
    · cases e
  · cases e⟩
def oIx : D → D → Option D
  | .list ds, .int i => atI ds i
  | .tuple ds, .int i => atI ds i
  | .str z, .int i => if z.length ≤ 1000000 then (atI z.cps.toList i).map fun c => .str ⟨#[c]⟩ else none
  | _, _ => none
theorem atI_rep {F : Hp} {vs : List V} {ds : List D} {i : Int} {d : D} (t : RepL K F vs ds) (e : atI ds i = some d) : ∃ v, atI vs i = some v ∧ Rep K F v d := by
  unfold atI at e ⊢
  obtain ⟨j, ej, e⟩ := bind_some e
  rw [t.length, ej]
  exact t.get e
theorem w_ix : Op2 K (rIx K) oIx := ⟨fun F H x y a b d Q s ra rb e q => by
  unfold oIx at e
  split at e
  · cases rb
    cases ra with
    | lst h1 t1 =>
      obtain ⟨v, h2, r⟩ := atI_rep t1 e
      exact .inl ⟨_, _, _, _, rfl, rfl, s.seq h1, h2, done s q r⟩
  · cases rb
    cases ra with
    | tup h1 t1 =>
      obtain ⟨v, h2, r⟩ := atI_rep t1 e
      exact .inr (.inl ⟨_, _, _, _, rfl, rfl, sameT s (sqT_of h1), h2, done s q r⟩)
  · split at e
    · next hl =>
      cases rb
      cases ra
      rw [Option.map_eq_some_iff] at e
      obtain ⟨c, h1, h2⟩ := e
      subst h2
      exact .inr (.inr ⟨_, _, _, rfl, rfl, leM hl, h1, done s q (.str _)⟩)
    · cases e
  · cases e⟩
def cutD (ds : List D) (lo hi : Option Int) : List D := (ds.drop (HT.sIx ds.length 0 lo)).take (HT.sIx ds.length ds.length hi - HT.sIx ds.length 0 lo)
def cNoPart : Env → Option (Option Int) := fun _ => some none
def cPart (f : Env → Option D) : Env → Option (Option Int) := fun ρ => (f ρ).bind fun d => match d with
  | .int i => some (some i)
  | _ => none
def tO (K : PySem.W.Frag) (z : Z) (f : Env → Option (Option Int)) : TO := fun σ H Q => ∃ ρ F O o, Rel K z ρ σ F H O ∧ f ρ = some o ∧ ∀ H', Same H H' → Q o H'
def oSl : D → Option Int → Option Int → Option D
  | .list ds, lo, hi => some (.list (cutD ds lo hi))
  | .tuple ds, lo, hi => some (.tuple (cutD ds lo hi))
  | .str z, lo, hi => none
  | _, _, _ => none
def cSl (f : Env → Option D) (l h : Env → Option (Option Int)) : Env → Option D := fun ρ => (f ρ).bind fun d => (l ρ).bind fun lo => (h ρ).bind fun hi => oSl d lo hi
section
variable {X : Cx} {z : Z}
theorem _root_.L2.PO.mono {e : Option Expr} {t t' : TO} (h : PO X e t) (i : ∀ σ H Q, t' σ H Q → t σ H Q) : PO X e t' := ⟨fun pins s σ H Q I q => h.run pins s σ H Q I (i _ _ _ q)⟩
theorem q_nopart : PO X none (tO X.K z cNoPart) := po_none.mono fun σ H Q ⟨ρ, F, O, o, R, e, q⟩ => by
  cases e
  exact q H (Same.refl _)
theorem q_part {e : Expr} {f : Env → Option D} (h : PE X e (tP X.K z f)) : PO X (some e) (tO X.K z (cPart f)) := (po_some h).mono fun σ H Q ⟨ρ, F, O, o, R, e, q⟩ => by
  obtain ⟨d, h1, h2⟩ := bind_some e
  split at h2
  · cases h2
    refine ⟨ρ, F, O, _, R, h1, fun v H1 s1 r1 => ?_⟩
    cases r1
    exact ⟨_, rfl, q H1 s1⟩
  · cases h2
theorem cutV_rep {K : PySem.W.Frag} {F : Hp} {vs : List V} {ds : List D} (t : RepL K F vs ds) (lo hi : Option Int) : RepL K F (cutV vs lo hi) (cutD ds lo hi) := by
  unfold cutV cutD
  rw [t.length]
  exact (t.drop _).take _
def rSlAll (K : PySem.W.Frag) : V → Option Int → Option Int → Hp → VK → Prop := fun x lo hi H Q => rSlL K x lo hi H Q ∨ rSlA K x lo hi H Q
theorem q_slice {e : Expr} {lo hi : Option Expr} {pos p2 : Pos} {f : Env → Option D} {l h : Env → Option (Option Int)} (he : PE X e (tP X.K z f)) (hl : PO X lo (tO X.K z l)) (hh : PO X hi (tO X.K z h)) : PE X (.Subscript e (.Slice lo hi none p2) pos) (tP X.K z (cSl f l h)) := by
  refine (pe_slice (r := rSlAll X.K) (SlR.or sl_list sl_tupA) he hl hh).mono fun σ H Q ⟨ρ, F, O, d, R, e, q⟩ => ?_
  obtain ⟨a, ea, e⟩ := bind_some e
  obtain ⟨li, el, e⟩ := bind_some e
  obtain ⟨hi, eh, e⟩ := bind_some e
  refine ⟨ρ, F, O, a, R, ea, fun v1 H1 s1 r1 => ?_⟩
  refine ⟨ρ, _, O, li, R.grow s1, el, fun H2 s2 => ?_⟩
  refine ⟨ρ, _, O, hi, R.grow (s1.trans s2), eh, fun H3 s3 => ?_⟩
  have s13 := (s1.trans s2).trans s3
  have R3 := R.grow s13
  have r3 : Rep X.K (ext F H H3) v1 a := r1.mono (by
    rw [← ext_ext s1 (s2.trans s3)]
    exact same_ext (R.grow s1).sub)
  have q3 : ∀ v H', Same H3 H' → Rep X.K (ext (ext F H H3) H3 H') v d → Q v H' := fun v H' s' r' => q v H' (s13.trans s') (by
    rw [ext_ext s13 s'] at r'
    exact r')
  unfold oSl at e
  split at e
  · cases e
    cases r3 with
    | lst h1 t1 => exact .inl ⟨_, _, rfl, R3.sub.seq h1, fun p hp => doneL R3.sub q3 (cutV_rep t1 li hi) hp⟩
  · next ds lo' hi' =>
    cases e
    cases r3 with
    | tup h1 t1 =>
      refine .inr ⟨_, _, rfl, sameT R3.sub (sqT_of h1), fun ⟨z1, z2⟩ => ?_, fun _ p hp => doneT R3.sub q3 (cutV_rep t1 li hi) hp⟩
      refine done R3.sub q3 ?_
      have e1 : cutD ds li hi = ds := by
        unfold cutD
        rw [← t1.length, z1, z2, t1.length]
        simp
      rw [e1]
      exact .tup h1 t1
  · cases e
  · cases e
end
end
end DL
namespace DL
open PySem PySem.Spec PyProof.Rows L2
def oLen : List D → Option D
  | [.list ds] => some (.int ds.length)
  | [.tuple ds] => some (.int ds.length)
  | [.str z] => if z.length ≤ 1000000 then some (.int z.length) else none
  | _ => none
def oAbs : List D → Option D
  | [.int i] => some (.int (if i < 0 then -i else i))
  | _ => none
def oInt : List D → Option D
  | [.int i] => some (.int i)
  | [.bool k] => some (.int (if k then 1 else 0))
  | _ => none
def oList : List D → Option D
  | [.list ds] => some (.list ds)
  | [.tuple ds] => some (.list ds)
  | _ => none
def oTuple : List D → Option D
  | [.list ds] => some (.tuple ds)
  | [.tuple ds] => some (.tuple ds)
  | _ => none
def intsOf : List D → Option (List Int)
  | [] => some []
  | .int i :: r => (intsOf r).map (i :: ·)
  | _ :: _ => none
theorem intsOf_eq : ∀ {ds : List D} {ns : List Int}, intsOf ds = some ns → ds = ns.map PyData.int
  | [], ns, h => by
    cases h
    rfl
  | .int i :: r, ns, h => by
    unfold intsOf at h
    rw [Option.map_eq_some_iff] at h
    obtain ⟨m, h1, h2⟩ := h
    subst h2
    rw [intsOf_eq h1]
    rfl
  | .none :: _, _, h => by cases h
  | .bool _ :: _, _, h => by cases h
  | .str _ :: _, _, h => by cases h
  | .list _ :: _, _, h => by cases h
  | .tuple _ :: _, _, h => by cases h
  | .dict _ :: _, _, h => by cases h
def sumI : List Int → Int
  | [] => 0
  | i :: r => i + sumI r
theorem sumI_eq : ∀ ns : List Int, sumI ns = ns.sum
  | [] => rfl
  | i :: r => by
    rw [List.sum_cons, ← sumI_eq r]
    rfl
def oSum : List D → Option D
  | [.list ds] => (intsOf ds).map fun ns => .int (sumI ns)
  | [.tuple ds] => (intsOf ds).map fun ns => .int (sumI ns)
  | _ => none
def allAlike (xs : List D) : Bool := xs.all fun x => xs.all fun y => PySem.W.alike x y
section
variable {X : Cx} {K : PySem.W.Frag}
def rLen (K : PySem.W.Frag) : List V → Hp → VK → Prop := fun xs H Q => ∃ x n, xs = [x] ∧ LenV K x H n ∧ Q (.int n) H
theorem w_len : OpN K (rLen K) oLen := ⟨fun F H xs as d Q s ra e q => by
  unfold oLen at e
  split at e
  · cases e
    cases ra with
    | cons r t =>
      cases t
      cases r with
      | lst h1 t1 => exact ⟨_, _, rfl, .inl ⟨_, s.seq h1, rfl⟩, done s q (by rw [t1.length]; exact .int _)⟩
  · cases e
    cases ra with
    | cons r t =>
      cases t
      cases r with
      | tup h1 t1 => exact ⟨_, _, rfl, .inr ⟨_, sameT s (sqT_of h1), rfl⟩, done s q (by rw [t1.length]; exact .int _)⟩
  · split at e
    · next hl =>
      cases e
      cases ra with
      | cons r t =>
        cases t
        cases r
        exact ⟨_, _, rfl, ⟨leM hl, rfl⟩, done s q (.int _)⟩
    · cases e
  · cases e⟩
def rAbs : List V → Hp → VK → Prop := fun xs H Q => ∃ i, xs = [.int i] ∧ Q (.int (if i < 0 then -i else i)) H
theorem w_abs : OpN K rAbs oAbs := ⟨fun F H xs as d Q s ra e q => by
  unfold oAbs at e
  split at e
  · cases e
    cases ra with
    | cons r t =>
      cases t
      cases r
      exact ⟨_, rfl, done s q (.int _)⟩
  · cases e⟩
def rInt : List V → Hp → VK → Prop := fun xs H Q => (∃ i, xs = [.int i] ∧ Q (.int i) H) ∨ ∃ k, xs = [.bl k] ∧ Q (.int (if k then 1 else 0)) H
theorem w_int : OpN K rInt oInt := ⟨fun F H xs as d Q s ra e q => by
  unfold oInt at e
  split at e
  · cases e
    cases ra with
    | cons r t =>
      cases t
      cases r
      exact .inl ⟨_, rfl, done s q (.int _)⟩
  · cases e
    cases ra with
    | cons r t =>
      cases t
      cases r
      exact .inr ⟨_, rfl, done s q (.int _)⟩
  · cases e⟩
def rListOf (K : PySem.W.Frag) : List V → Hp → VK → Prop := fun xs H Q => ∃ p ys, xs = [.ref p] ∧ (SqL K H p ys ∨ SqT K H p ys) ∧ ∀ l, H l = none → Q (.ref l) (upd H l (.lst ys))
theorem w_list : OpN K (rListOf K) oList := ⟨fun F H xs as d Q s ra e q => by
  unfold oList at e
  split at e
  · cases e
    cases ra with
    | cons r t =>
      cases t
      cases r with
      | lst h1 t1 => exact ⟨_, _, rfl, .inl (s.seq h1), fun p hp => doneL s q t1 hp⟩
  · cases e
    cases ra with
    | cons r t =>
      cases t
      cases r with
      | tup h1 t1 => exact ⟨_, _, rfl, .inr (sameT s (sqT_of h1)), fun p hp => doneL s q t1 hp⟩
  · cases e⟩
def rTupleOf (K : PySem.W.Frag) : List V → Hp → VK → Prop := fun xs H Q => ∃ p ys, xs = [.ref p] ∧ ((SqL K H p ys ∧ ∀ l, H l = none → Q (.ref l) (upd H l (.tup ys))) ∨ (SqT K H p ys ∧ Q (.ref p) H))
theorem w_tuple : OpN K (rTupleOf K) oTuple := ⟨fun F H xs as d Q s ra e q => by
  unfold oTuple at e
  split at e
  · cases e
    cases ra with
    | cons r t =>
      cases t
      cases r with
      | lst h1 t1 => exact ⟨_, _, rfl, .inl ⟨s.seq h1, fun p hp => doneT s q t1 hp⟩⟩
  · cases e
    cases ra with
    | cons r t =>
      cases t
      cases r with
      | tup h1 t1 => exact ⟨_, _, rfl, .inr ⟨sameT s (sqT_of h1), done s q (.tup h1 t1)⟩⟩
  · cases e⟩
section
variable {prog : Program} {w : World} {A : Around} {E : Value → Shared → Prop} {s : Shared}
theorem iter_tupleI {l : Addr} {items : Array Value} {Q : Value → Shared → Prop} (hl : s.heap.IsTuple l items)
    (h : ∀ s₂ : Shared, s₂ = { s with heap := s.heap.push { cls := .type "tuple_iterator", data := .fields #[.ref l, .int 0 0] } } →
      (s₂.heap.IsTupleIter s.heap.objs.size l 0 ∧ s₂.heap.IsTuple l items) → (∀ b ∈ [s.heap.objs.size, l], b < s₂.heap.objs.size) → l ≠ s.heap.objs.size → Q (.ref s.heap.objs.size) s₂) :
    wpAny (model prog w) A (pyIter (.ref l)) Q E s := by
  have hlt : l < s.heap.objs.size := by obtain ⟨_, e, _⟩ := hl; exact Heap.lt_size e
  refine PyProof.Rows.iter_tuple hl (h _ rfl ⟨⟨_, Heap.get?_push_size _ rfl, rfl, rfl⟩, ?_⟩ (fun b hb => ?_) (Nat.ne_of_lt hlt))
  · obtain ⟨o, e, c⟩ := hl
    exact ⟨o, Heap.get?_push_of_some _ e, c⟩
  · show b < (s.heap.push _).objs.size
    rw [Heap.size_push]
    rcases List.mem_cons.mp hb with rfl | hb
    · exact Nat.lt_succ_self _
    · rcases List.mem_cons.mp hb with rfl | hb
      · exact Nat.lt_succ_of_lt hlt
      · cases hb
theorem tuple_kept {l : Addr} {h' : Heap} (hk : ∀ b o, b ∉ [s.heap.objs.size] → (s.heap.push { cls := .type "tuple_iterator", data := .fields #[.ref l, .int 0 0] }).get? b = some o → h'.get? b = some o) :
    ∀ b o, s.heap.get? b = some o → h'.get? b = some o := fun b o e => by
  refine hk b o (fun hm => ?_) (Heap.get?_push_of_some _ e)
  rcases List.mem_cons.mp hm with e1 | hm
  · exact absurd (e1 ▸ Heap.lt_size e) (Nat.lt_irrefl _)
  · cases hm
theorem tuple_sum_raw {l : Addr} {its : List Value} {ns : List Int} {Q : Value → Shared → Prop} (hh : A.handled = none) (hl : s.heap.IsTuple l its.toArray) (hi : IntsAre its ns)
    (h : ∀ h' tk t', (∀ b o, s.heap.get? b = some o → h'.get? b = some o) → Q (.int ns.sum t') { s with heap := h', toks := tk }) : wpAny (model prog w) A (call (.builtin "sum") [.ref l]) Q E s := by
  obtain ⟨xs, e⟩ := hi.allInts.items
  have hn : numsOf (intItems xs).toList = ns := by rw [← e]; exact hi.numsOf
  rw [nums_intItems] at hn
  rw [e] at hl
  refine PySem.call_sum_walkG (iter_tupleI hl fun s₂ e st hfp hlI => ?_)
  subst e
  refine ⟨_, _, _, _, _, _, numAt xs, rfl, Walks.tuple (A := A.in1) hh _ l hlI (intItems xs), st, hfp, (fun _ _ => intItems_at), fun h' tk t' hk => ?_⟩
  have := h h' tk t' (tuple_kept hk)
  rw [← hn] at this
  have e2 : preSum (numAt xs) (intItems xs).size = (List.map (·.1) xs.toList).sum := by
    rw [preSum_eq, List.take_of_length_le (by simp [intItems])]
  rw [e2]
  exact this
end
def rSumA (K : PySem.W.Frag) : List V → Hp → VK → Prop := fun vs H Q => rSum K vs H Q ∨ ∃ (a : Addr) (ns : List Int), vs = [V.ref a] ∧ SqT K H a (ns.map V.int) ∧ Q (.int ns.sum) H
theorem cr_sumA (hc : X.calm = true) : CallR X (.builtin "sum") (rSumA X.K) := CallR.or (cr_sum hc) (by
  intro pins s σ H vs us Q I r h
  obtain ⟨a, ns, rfl, hs, q⟩ := h
  obtain ⟨its, rv, hl, _⟩ := I.tuple hs
  rw [Vals.ref1 r]
  exact tuple_sum_raw (I.ok.hd hc) hl rv.ints fun h' tk t' hk => ⟨.int _, H, I.kept hk, ⟨_, rfl⟩, q⟩)
theorem w_sum : OpN K (rSumA K) oSum := ⟨fun F H xs as d Q s ra e q => by
  unfold oSum at e
  split at e
  · rw [Option.map_eq_some_iff] at e
    obtain ⟨ns, h1, h2⟩ := e
    subst h2
    have e2 := intsOf_eq h1
    subst e2
    cases ra with
    | cons r t =>
      cases t
      cases r with
      | lst h1 t1 =>
        rw [t1.ints] at h1
        exact .inl ⟨_, _, rfl, s.seq h1, done s q (by rw [sumI_eq]; exact .int _)⟩
  · rw [Option.map_eq_some_iff] at e
    obtain ⟨ns, h1, h2⟩ := e
    subst h2
    have e2 := intsOf_eq h1
    subst e2
    cases ra with
    | cons r t =>
      cases t
      cases r with
      | tup h1 t1 =>
        rw [t1.ints] at h1
        exact .inr ⟨_, _, rfl, sameT s (sqT_of h1), done s q (by rw [sumI_eq]; exact .int _)⟩
  · cases e⟩
theorem alike_of {xs : List D} (h : allAlike xs = true) : ∀ x ∈ xs, ∀ y ∈ xs, PySem.W.alike x y = true := fun x hx y hy => by
  unfold allAlike at h
  rw [List.all_eq_true] at h
  have h1 := h x hx
  rw [List.all_eq_true] at h1
  exact h1 y hy
def ins {α : Type} (le : α → α → Bool) (x : α) : List α → List α
  | [] => [x]
  | y :: r => if le x y then x :: y :: r else y :: ins le x r
def isort {α : Type} (le : α → α → Bool) : List α → List α
  | [] => []
  | x :: r => ins le x (isort le r)
section
variable {α : Type} {le : α → α → Bool}
theorem ins_mem {x z : α} : ∀ {l : List α}, z ∈ ins le x l ↔ z = x ∨ z ∈ l
  | [] => by simp [ins]
  | y :: r => by
    unfold ins
    split
    · simp
    · simp only [List.mem_cons, ins_mem (l := r)]
      constructor
      · rintro (h | h | h)
        · exact .inr (.inl h)
        · exact .inl h
        · exact .inr (.inr h)
      · rintro (h | h | h)
        · exact .inr (.inl h)
        · exact .inl h
        · exact .inr (.inr h)
theorem ins_pw (T : PySem.W.TotalLe le) {x : α} : ∀ {l : List α}, l.Pairwise (fun a b => le a b = true) → (ins le x l).Pairwise (fun a b => le a b = true)
  | [], _ => by simp [ins]
  | y :: r, h => by
    have h1 := List.pairwise_cons.mp h
    unfold ins
    split
    · next e => exact List.pairwise_cons.mpr ⟨fun z hz => by
        rcases List.mem_cons.mp hz with q | q
        · rw [q]
          exact e
        · exact T.trans _ _ _ e (h1.1 z q), h⟩
    · next e =>
      refine List.pairwise_cons.mpr ⟨fun z hz => ?_, ins_pw T h1.2⟩
      rcases ins_mem.mp hz with q | q
      · rw [q]
        exact (T.total x y).resolve_left e
      · exact h1.1 z q
theorem isort_pw (T : PySem.W.TotalLe le) : ∀ l : List α, (isort le l).Pairwise (fun a b => le a b = true)
  | [] => List.Pairwise.nil
  | x :: r => ins_pw T (isort_pw T r)
theorem ins_filter (T : PySem.W.TotalLe le) (c : α) {x : α} : ∀ {l : List α}, (ins le x l).filter (PySem.W.sameRank le c) = (x :: l).filter (PySem.W.sameRank le c)
  | [] => rfl
  | y :: r => by
    unfold ins
    split
    · rfl
    · next e =>
      have ih := ins_filter T c (x := x) (l := r)
      rw [List.filter_cons, ih, List.filter_cons, List.filter_cons, List.filter_cons]
      by_cases hx : PySem.W.sameRank le c x = true
      · have hy : PySem.W.sameRank le c y = false := by
          rw [Bool.eq_false_iff]
          intro hy
          unfold PySem.W.sameRank at hx hy
          rw [Bool.and_eq_true] at hx hy
          exact e (T.trans _ _ _ hx.2 hy.1)
        rw [hx, hy]
        simp
      · rw [if_neg hx, if_neg hx]
theorem isort_filter (T : PySem.W.TotalLe le) (c : α) : ∀ l : List α, (isort le l).filter (PySem.W.sameRank le c) = l.filter (PySem.W.sameRank le c)
  | [] => rfl
  | x :: r => by
    show (ins le x (isort le r)).filter _ = _
    rw [ins_filter T c, List.filter_cons, List.filter_cons, isort_filter T c r]
theorem isort_eq (T : PySem.W.TotalLe le) (l : List α) : isort le l = l.mergeSort le := PySem.W.sort_unique T (isort_pw T l) fun c => isort_filter T c l
end
def leD (a b : D) : Bool := !PySem.W.dataLt b a
theorem leD_total : PySem.W.TotalLe leD := PySem.W.sortLe_total (PyProof.Rows.listOrd PyProof.Rows.itemOrd) false PySem.W.keyToks
def sortOk (ds : List D) : Bool := allAlike ds && (ds.all (fun d => match d with
  | .tuple (_ :: _) => true
  | _ => false) || ds.all (fun d => match d with
  | .none => false
  | .tuple _ => false
  | _ => true)) && decide (PyData.depthAll ds ≤ 60)
theorem depth_mem : ∀ {ds : List PyData} {d : PyData}, d ∈ ds → d.depth ≤ PyData.depthAll ds
  | x :: r, d, h => by
    rw [PyData.depthAll]
    rcases List.mem_cons.mp h with e | e
    · rw [e]
      exact Nat.le_max_left _ _
    · exact Nat.le_trans (depth_mem e) (Nat.le_max_right _ _)
theorem sortOk_of {ds : List D} (h : sortOk ds = true) : PySem.W.AllAlike ds ∧ PySem.W.Sortable ds ∧ PyData.depthAll ds ≤ 60 := by
  unfold sortOk at h
  rw [Bool.and_eq_true, Bool.and_eq_true] at h
  refine ⟨fun x hx y hy => alike_of h.1.1 x hx y hy, ?_, of_decide_eq_true h.2⟩
  rcases Bool.or_eq_true_iff.mp h.1.2 with q | q
  · refine .inl fun d hd => ?_
    rw [List.all_eq_true] at q
    have := q d hd
    split at this
    · exact ⟨_, _, rfl⟩
    · cases this
  · refine .inr fun d hd => ?_
    rw [List.all_eq_true] at q
    have := q d hd
    split at this
    · cases this
    · cases this
    · next h1 h2 => exact ⟨h1, fun xs => h2 xs⟩
theorem each_of {K : PySem.W.Frag} {F : Hp} : ∀ {vs : List V} {ds : List D}, RepL K F vs ds → PySem.W.EachIs (Rep K F) vs ds
  | _, _, .nil => .nil
  | _, _, .cons h t => .cons h (each_of t)
theorem of_each {K : PySem.W.Frag} {F : Hp} : ∀ {vs : List V} {ds : List D}, PySem.W.EachIs (Rep K F) vs ds → RepL K F vs ds
  | _, _, .nil => .nil
  | _, _, .cons h t => .cons h (of_each t)
theorem each_vals {Φ : V → D → Prop} : ∀ {vs : List V} {us : List Value} {ds : List D}, Vals vs us → PySem.W.EachIs Φ vs ds → PySem.W.EachIs (fun u d => ∃ v, RelV v u ∧ Φ v d) us ds
  | _, _, _, .nil, .nil => .nil
  | _, _, _, .cons r t, .cons h k => .cons ⟨_, r, h⟩ (each_vals t k)
theorem vals_each {Φ : V → D → Prop} : ∀ {us : List Value} {ds : List D}, PySem.W.EachIs (fun u d => ∃ v, RelV v u ∧ Φ v d) us ds → ∃ vs, Vals vs us ∧ PySem.W.EachIs Φ vs ds
  | _, _, .nil => ⟨[], .nil, .nil⟩
  | _, _, .cons ⟨v, r, h⟩ t => by
    obtain ⟨vs, h1, h2⟩ := vals_each t
    exact ⟨v :: vs, .cons r h1, .cons h h2⟩
def rSortedD (K : PySem.W.Frag) : List V → Hp → VK → Prop := fun xs H Q => ∃ (a : Addr) (vs : List V) (ds : List D) (Φ : V → D → Prop), xs = [V.ref a] ∧ SqL K H a vs ∧ DpAll K H vs ds ∧ PySem.W.EachIs Φ vs ds ∧ sortOk ds = true ∧
  ∀ vs' p, H p = none → PySem.W.EachIs Φ vs' (isort leD ds) → Q (.ref p) (upd H p (.lst vs'))
section
variable {X : Cx} {K : PySem.W.Frag}
theorem cr_sortedD (hu : X.A.units + 64 < cLine) : CallR X (.builtin "sorted") (rSortedD X.K) := by
  intro pins s σ H xs us Q I r h
  obtain ⟨a, vs, ds, Φ, rfl, hs, hd, hΦ, ok, q⟩ := h
  rw [Vals.ref1 r]
  obtain ⟨al, so, dp⟩ := sortOk_of ok
  obtain ⟨its, rv, hl, hz⟩ := I.list hs
  obtain ⟨as, hr⟩ := Dp.readsAll I _ _ its hd rv
  have l1 := hd.length
  have ms : ds.map (fun d => d) = ds := List.map_id' ds
  refine PySem.W.sorted_data (enc := fun d : PyData => d) (R := fun u d => ∃ v, RelV v u ∧ Φ v d) hl.isList (each_vals rv hΦ) (PySem.W.readsAll_each (fun d => d) (by rw [ms]; exact hr)) (by rw [ms]; exact al) (by rw [ms]; exact so) (by omega) (fun d hd => ?_) fun out hlen he => ?_
  · have := depth_mem hd
    omega
  · obtain ⟨vs', rv', hv'⟩ := vals_each he
    obtain ⟨ep, he'⟩ := PyProof.Rows.sortedAll_at s.heap its out.toArray
    have e : ds.mergeSort (PySem.W.dataLe false fun d => d) = isort leD ds := (isort_eq leD_total ds).symm
    rw [e] at hv'
    refine ⟨.ref _, upd H (s.heap.objs.size + 1) (.lst vs'), I.laid (t' := s.toks) (fun _ _ => PyProof.Rows.sortedAll_old) (Nat.le_succ _) ⟨?_, out, ep, rv', he'⟩, rfl, q _ _ (I.hok.fresh (Nat.le_succ _)) hv'⟩
    rw [rv'.length, hlen]
    omega
def tyName : D → String
  | .none => "NoneType"
  | .bool _ => "bool"
  | .int _ => "int"
  | .str _ => "str"
  | .list _ => "list"
  | .tuple _ => "tuple"
  | .dict _ => "dict"
theorem ty_of {F : Hp} {v : V} {d : D} (r : Rep K F v d) : TyX K F v (.type (tyName d)) := by
  cases r with
  | non => exact .base .non
  | bl b => exact .base (.bl b)
  | int i => exact .base (.int i)
  | str s => exact .base (.str s)
  | dic h _ _ =>
    rcases h with h | ⟨o, h⟩
    · exact .base (.dK h)
    · exact .fDict h
  | lst h t =>
    rcases h with (h | ⟨o, h⟩) | ⟨o, its, n, h, c, _⟩
    · exact .base (.lst h)
    · exact .base (.frz h)
    · exact .kList h c
  | tup h t => exact .base (.tup h)
/-- the built-in types that are asked for -/
inductive Ty where
  | int | bool | str | list | tuple
def Ty.name : Ty → String
  | .int => "int"
  | .bool => "bool"
  | .str => "str"
  | .list => "list"
  | .tuple => "tuple"
def isTyN : Ty → String → Bool
  | .int, n => n == "int" || n == "bool"
  | .bool, n => n == "bool"
  | .str, n => n == "str"
  | .list, n => n == "list"
  | .tuple, n => n == "tuple"
def isTy : Ty → D → Bool
  | .int, .int _ => true
  | .int, .bool _ => true
  | .bool, .bool _ => true
  | .str, .str _ => true
  | .list, .list _ => true
  | .tuple, .tuple _ => true
  | _, _ => false
theorem kit_all (t : Ty) : ["NoneType", "bool", "int", "str", "list", "tuple", "dict"].all (fun n => decide (kitB n t.name = some (isTyN t n))) = true := by
  cases t <;> decide +kernel
theorem isTy_N (t : Ty) (d : D) : isTyN t (tyName d) = isTy t d := by
  cases t <;> cases d <;> simp [isTyN, isTy, tyName]
theorem isTy_kit (t : Ty) (d : D) : kitB (tyName d) t.name = some (isTy t d) := by
  have h := List.all_eq_true.mp (kit_all t) (tyName d) (by cases d <;> simp [tyName])
  rw [of_decide_eq_true h, isTy_N]
def cIsi (T : Ty) (f : Env → Option D) : Env → Option D := fun ρ => (f ρ).bind fun d => some (.bool (isTy T d))
variable {z : Z}
theorem q_isi {e : Expr} {T : Ty} {x : Str} {p q pos : Pos} {f : Env → Option D} (he : PE X e (tP X.K z f)) (hg : Gl X "isinstance") (hm : X.mg "isinstance" = none) (hb : bootBuiltins "isinstance" = some (.builtin "isinstance")) (ht : PE X (.Name x q) (tC (.ty T.name)))
    (hes : starEach [e, .Name x q] X.env = (false, eval e X.env) :: starEach [.Name x q] X.env := by rfl) (hes2 : starEach [.Name x q] X.env = (false, eval (.Name x q) X.env) :: starEach [] X.env := by rfl) (hpl : (backTo pos (starEach [.Name x q] X.env)).any (·.1) = false := by rfl) :
    PE X (.Call (.Name "isinstance" p) [e, .Name x q] [] pos) (tP X.K z (cIsi T f)) := by
  refine (pe_callB call_isi hg hm hb (pa_cons he (pa_cons ht pa_nil hes2) hes) (by decide) (by decide) hes hpl).mono fun σ H Q ⟨ρ, F, O, d, R, e, q⟩ => ?_
  obtain ⟨a, ea, e⟩ := bind_some e
  cases e
  refine ⟨ρ, F, O, a, R, ea, fun v1 H1 s1 r1 => ?_⟩
  have R1 := R.grow s1
  exact ⟨v1, .ty T.name, _, _, _, rfl, .ty T.name, ty_of (r1.mono R1.sub), kit_ty (isTy_kit T a), q _ H1 s1 (.bl _)⟩
end
end
end DL
namespace DL
open PySem PySem.Spec PyProof.Rows L2
structure Kp (F H F' H' : Hp) (O : Nat → List Addr) : Prop where
  same : Same F F'
  keep : ∀ a o, H a = some o → (∀ i, a ∉ O i) → H' a = some o
  out : ∀ a, H a ≠ none → F a = none → F' a = none
  dom : ∀ a, H a ≠ none → H' a ≠ none
theorem Kp.refl {F H : Hp} {O : Nat → List Addr} : Kp F H F H O := ⟨Same.refl _, fun _ _ h _ => h, fun _ _ h => h, fun _ h => h⟩
theorem Kp.trans {F H F1 H1 F2 H2 : Hp} {O : Nat → List Addr} (a : Kp F H F1 H1 O) (b : Kp F1 H1 F2 H2 O) : Kp F H F2 H2 O :=
  ⟨a.same.trans b.same, fun x o h n => b.keep x o (a.keep x o h n) n, fun x h f => b.out x (a.dom x h) (a.out x h f), fun x h => b.dom x (a.dom x h)⟩
theorem ne_none {α : Type} {x : Option α} {a : α} (h : x = some a) : x ≠ none := by
  rw [h]
  exact fun z => nomatch z
theorem some_of {α : Type} {x : Option α} (h : x ≠ none) : ∃ a, x = some a := by
  cases x with
  | none => exact absurd rfl h
  | some a => exact ⟨a, rfl⟩
theorem Kp.of_same {F H H' : Hp} {O : Nat → List Addr} (s0 : Same F H) (s : Same H H') : Kp F H (ext F H H') H' O :=
  ⟨same_ext s0, fun a o h _ => s _ _ h, fun a h f => by
    obtain ⟨o, q⟩ := some_of h
    unfold ext
    simp [q, f], fun a h => by
    obtain ⟨o, q⟩ := some_of h
    exact ne_none (s _ _ q)⟩
section
variable {K : PySem.W.Frag} {z : Z} {ρ : Env} {σ : L2.St} {F H : Hp} {O : Nat → List Addr}
/-- an address that nothing tells of changes -/
theorem Rel.other (R : Rel K z ρ σ F H O) {p : Addr} {o : HO} (hF : F p = none) (hO : ∀ i, p ∉ O i) (h0 : z.H0 p = none) (ho : ∀ vs, o ≠ .tup vs := by intro _ q; cases q) : Rel K z ρ σ F (upd H p o) O where
  len := R.len
  sub := DL.Same.upd2 R.sub hF
  ent := fun i e h => by
    obtain ⟨v, h1, h2⟩ := R.ent i e h
    exact ⟨v, h1, h2.mono (Same.refl _) fun a ha => upd_ne (show a ≠ p from fun q => hO i (q ▸ ha))⟩
  off := fun i a ha => ⟨(R.off i a ha).1, by
    rw [upd_ne (show a ≠ p from fun q => hO i (q ▸ ha))]
    exact (R.off i a ha).2⟩
  apt := R.apt
  old := R.old
  oldH := fun a h => by
    by_cases e : a = p
    · rw [e, upd_same]
      exact fun z => nomatch z
    · rw [upd_ne e]
      exact R.oldH a h
  keep := fun a o' h b => by
    have e : a ≠ p := fun e => by
      rw [e, h0] at h
      cases h
    rw [upd_ne e]
    exact R.keep a o' h b
  f0 := R.f0
  tup := R.tup.up ho
/-- slot i gets a new entry with its own addresses -/
def setO (O : Nat → List Addr) (i : Nat) (as : List Addr) : Nat → List Addr := fun j => if j = i then as else O j
theorem Rel.setE (R : Rel K z ρ σ F H O) {i : Nat} {e : E} {v : V} {as : List Addr} (h : Ent K z F H v e as) (hn : ∀ a ∈ as, F a = none ∧ H a ≠ none ∧ ∀ j, j ≠ i → a ∉ O j) : Rel K z (ρ.set i (some e)) (σ.set i (some v)) F H (setO O i as) where
  len := by rw [List.length_set, List.length_set, R.len]
  sub := R.sub
  ent := fun j e' hj => by
    unfold setO
    by_cases q : j = i
    · subst q
      have hl : j < ρ.length := by
        have := (List.getElem?_eq_some_iff.mp hj).1
        rw [List.length_set] at this
        exact this
      rw [List.getElem?_set_self hl] at hj
      cases hj
      rw [if_pos rfl]
      exact ⟨v, List.getElem?_set_self (by rw [← R.len]; exact hl), h⟩
    · rw [List.getElem?_set_ne (Ne.symm q)] at hj
      rw [if_neg q, List.getElem?_set_ne (Ne.symm q)]
      exact R.ent j e' hj
  off := fun j a ha => by
    unfold setO at ha
    by_cases q : j = i
    · rw [if_pos q] at ha
      exact ⟨(hn a ha).1, (hn a ha).2.1⟩
    · rw [if_neg q] at ha
      exact R.off j a ha
  apt := fun j k a hj hk => by
    unfold setO at hj hk
    by_cases q : j = i
    · by_cases q2 : k = i
      · rw [q, q2]
      · rw [if_pos q] at hj
        rw [if_neg q2] at hk
        exact absurd hk ((hn a hj).2.2 k q2)
    · by_cases q2 : k = i
      · rw [if_neg q] at hj
        rw [if_pos q2] at hk
        exact absurd hj ((hn a hk).2.2 j q)
      · rw [if_neg q] at hj
        rw [if_neg q2] at hk
        exact R.apt j k a hj hk
  old := R.old
  oldH := R.oldH
  keep := R.keep
  f0 := R.f0
  tup := R.tup
theorem Rel.setD (R : Rel K z ρ σ F H O) {i : Nat} {d : D} {v : V} (h : Rep K F v d) : Rel K z (ρ.set i (some (.sh d))) (σ.set i (some v)) F H (setO O i []) :=
  R.setE (e := .sh d) ⟨rfl, h⟩ fun a ha => by cases ha
/-- some slots are forgotten -/
theorem Rel.weak (R : Rel K z ρ σ F H O) {ρ' : Env} {σ' : L2.St} (hl : ρ'.length = σ'.length) (h : ∀ (i : Nat) e, ρ'[i]? = some (some e) → ρ[i]? = some (some e) ∧ σ'[i]? = σ[i]?) : Rel K z ρ' σ' F H O where
  len := hl
  sub := R.sub
  ent := fun i e hi => by
    obtain ⟨h1, h2⟩ := h i e hi
    obtain ⟨v, h3, h4⟩ := R.ent i e h1
    exact ⟨v, h2.trans h3, h4⟩
  off := R.off
  apt := R.apt
  old := R.old
  oldH := R.oldH
  keep := R.keep
  f0 := R.f0
  tup := R.tup
end
def tR (K : PySem.W.Frag) (z : Z) (f : Env → Option (D × Env)) : TE := fun σ H Q => ∃ ρ F O d ρ', Rel K z ρ σ F H O ∧ f ρ = some (d, ρ') ∧ ∀ v F' H', Rel K z ρ' σ F' H' O → Kp F H F' H' O → Rep K F' v d → Q v H'
def tRs (K : PySem.W.Frag) (z : Z) (f : Env → Option (List D × Env)) : TA := fun σ H Q => ∃ ρ F O ds ρ', Rel K z ρ σ F H O ∧ f ρ = some (ds, ρ') ∧ ∀ vs F' H', Rel K z ρ' σ F' H' O → Kp F H F' H' O → RepL K F' vs ds → Q vs H'
def tBR (K : PySem.W.Frag) (z : Z) (f : Env → Option (Bool × Env)) : TT := fun σ H Q => ∃ ρ F O b ρ', Rel K z ρ σ F H O ∧ f ρ = some (b, ρ') ∧ ∀ F' H', Rel K z ρ' σ F' H' O → Kp F H F' H' O → Q b H'
/-- a new value with objects of its own -/
def tW (K : PySem.W.Frag) (z : Z) (f : Env → Option (E × Env)) : TE := fun σ H Q => ∃ ρ F O e ρ', Rel K z ρ σ F H O ∧ f ρ = some (e, ρ') ∧ ∀ v F' H' as, Rel K z ρ' σ F' H' O → Kp F H F' H' O → Ent K z F' H' v e as → (∀ a ∈ as, H a = none ∧ F' a = none ∧ H' a ≠ none) → Q v H'
def lf (f : Env → Option D) : Env → Option (D × Env) := fun ρ => (f ρ).map fun d => (d, ρ)
def lfs (f : Env → Option (List D)) : Env → Option (List D × Env) := fun ρ => (f ρ).map fun d => (d, ρ)
def lfb (f : Env → Option Bool) : Env → Option (Bool × Env) := fun ρ => (f ρ).map fun d => (d, ρ)
def wsh (f : Env → Option (D × Env)) : Env → Option (E × Env) := fun ρ => (f ρ).map fun p => (.sh p.1, p.2)
section
variable {X : Cx} {z : Z}
theorem map_some {α β : Type} {x : Option α} {f : α → β} {b : β} (h : x.map f = some b) : ∃ a, x = some a ∧ f a = b := Option.map_eq_some_iff.mp h
theorem r_lf {e : Expr} {f : Env → Option D} (h : PE X e (tP X.K z f)) : PE X e (tR X.K z (lf f)) := h.mono fun σ H Q ⟨ρ, F, O, d, ρ', R, e, q⟩ => by
  obtain ⟨a, h1, h2⟩ := map_some e
  cases h2
  exact ⟨ρ, F, O, d, R, h1, fun v H' s r => q v _ H' (R.grow s) (.of_same R.sub s) r⟩
theorem r_lfs {es : List Expr} {f : Env → Option (List D)} (h : PA X es (tPs X.K z f)) : PA X es (tRs X.K z (lfs f)) := h.mono fun σ H Q ⟨ρ, F, O, d, ρ', R, e, q⟩ => by
  obtain ⟨a, h1, h2⟩ := map_some e
  cases h2
  exact ⟨ρ, F, O, d, R, h1, fun v H' s r => q v _ H' (R.grow s) (.of_same R.sub s) r⟩
theorem r_lfb {e : Expr} {f : Env → Option Bool} (h : PT X e (tB X.K z f)) : PT X e (tBR X.K z (lfb f)) := h.mono fun σ H Q ⟨ρ, F, O, d, ρ', R, e, q⟩ => by
  obtain ⟨a, h1, h2⟩ := map_some e
  cases h2
  exact ⟨ρ, F, O, d, R, h1, fun H' s => q _ H' (R.grow s) (.of_same R.sub s)⟩
theorem w_sh {e : Expr} {f : Env → Option (D × Env)} (h : PE X e (tR X.K z f)) : PE X e (tW X.K z (wsh f)) := h.mono fun σ H Q ⟨ρ, F, O, en, ρ', R, e, q⟩ => by
  obtain ⟨⟨d, ρ2⟩, h1, h2⟩ := map_some e
  cases h2
  exact ⟨ρ, F, O, d, _, R, h1, fun v F' H' R' k r => q v F' H' [] R' k ⟨rfl, r⟩ fun a ha => by cases ha⟩
/-- own objects are shared -/
def frzE : E → D
  | .sh d => d
  | .own d => d
  | .own2 d => d
  | .row d => d
  | .dk _ ks => .dict (ks.map fun p => (kD p.1, p.2))
  | .dt _ _ => .none
  | .fn _ _ => .none
  | .ob _ _ => .none
  | .obs _ => .none
  | .odd _ => .none
def canFz : E → Bool
  | .row _ => false
  | .dt _ _ => false
  | .fn _ _ => false
  | .ob _ _ => false
  | .obs _ => false
  | .odd _ => false
  | _ => true
theorem objs_rep {K : PySem.W.Frag} {F H : Hp} : ∀ {qs : List Addr} {ds : List D}, Objs K F H qs ds → (∀ q ∈ qs, F q = none) → ∃ F', Same F F' ∧ (∀ a, F' a ≠ F a → a ∈ qs ∧ F' a = H a) ∧ RepL K F' (qs.map V.ref) ds
  | _, _, .nil, _ => ⟨F, Same.refl _, fun a h => absurd rfl h, .nil⟩
  | _, _, .cons (p := p) (ps := ps) (d := d) (ds := ds) h t, hn => by
    obtain ⟨F1, s1, c1, r1⟩ := objs_rep t fun q hq => hn q (List.mem_cons_of_mem _ hq)
    cases d with
    | list es =>
      obtain ⟨vs, h1, h2⟩ := h
      by_cases hp : F1 p = none
      · refine ⟨upd F1 p (.lst vs), s1.trans (same_new hp), fun a ha => ?_, .cons (.lst (.of upd_same) ((h2.mono s1).mono (same_new hp))) (r1.mono (same_new hp))⟩
        by_cases e : a = p
        · rw [e, upd_same]
          exact ⟨List.mem_cons_self, h1.symm⟩
        · rw [upd_ne e] at ha ⊢
          exact ⟨List.mem_cons_of_mem _ (c1 a ha).1, (c1 a ha).2⟩
      · have e1 : F1 p = H p := (c1 p (by
          rw [hn p List.mem_cons_self]
          exact hp)).2
        exact ⟨F1, s1, fun a ha => ⟨List.mem_cons_of_mem _ (c1 a ha).1, (c1 a ha).2⟩, .cons (.lst (.of (e1.trans h1)) (h2.mono s1)) r1⟩
    | _ => exact h.elim
/-- the shared part may take in the addresses of one entry -/
theorem ent_rep {K : PySem.W.Frag} {z : Z} {F H : Hp} {v : V} {e : E} {as : List Addr} (h : Ent K z F H v e as) (hr : canFz e = true) (hn : ∀ a ∈ as, F a = none) : ∃ F', Same F F' ∧ (∀ a, F' a ≠ F a → a ∈ as ∧ F' a = H a) ∧ Rep K F' v (frzE e) := by
  cases e with
  | sh d => exact ⟨F, Same.refl _, fun a q => absurd rfl q, h.2⟩
  | row d => cases hr
  | dt l ks => cases hr
  | fn j f => cases hr
  | ob m fs => cases hr
  | obs fs => cases hr
  | odd o => cases hr
  | dk l ks =>
    obtain ⟨p, kvs, e1, e2, e3, h⟩ := h
    subst e1
    have ek : (ks.map fun p => (kD p.1, p.2)).map (·.1) = kvs.map (fun p => kD p.1) := by
      have := congrArg (List.map kD) e2
      rw [List.map_map, List.map_map] at this
      rw [List.map_map]
      exact this.symm
    have ev : (ks.map fun p => (kD p.1, p.2)).map (·.2) = ks.map (·.2) := by rw [List.map_map]; rfl
    rcases h with ⟨h1, h2, _, h4⟩ | ⟨h1, h2, o, h3⟩
    · subst h2
      have hp := hn p List.mem_cons_self
      refine ⟨upd F p (.dK kvs), same_new hp, fun a ha => ?_, .dic (.of upd_same) ek (by rw [ev]; exact e3.mono (same_new hp))⟩
      by_cases e : a = p
      · rw [e, upd_same]
        exact ⟨List.mem_cons_self, h4.symm⟩
      · rw [upd_ne e] at ha
        exact absurd rfl ha
    · exact ⟨F, Same.refl _, fun a q => absurd rfl q, .dic (.inr ⟨o, h3⟩) ek (by rw [ev]; exact e3)⟩
  | own d =>
    obtain ⟨p, e1, e2, _, h⟩ := h
    subst e1 e2
    cases d with
    | list es =>
      obtain ⟨vs, h1, h2⟩ := h
      have hp := hn p List.mem_cons_self
      refine ⟨upd F p (.lst vs), same_new hp, fun a ha => ?_, .lst (.of upd_same) (h2.mono (same_new hp))⟩
      by_cases e : a = p
      · rw [e, upd_same]
        exact ⟨List.mem_cons_self, h1.symm⟩
      · rw [upd_ne e] at ha
        exact absurd rfl ha
    | _ => exact h.elim
  | own2 d =>
    obtain ⟨p, qs, ds, e1, e2, e3, h1, h2, _, h4⟩ := h
    subst e1 e2 e3
    obtain ⟨F1, s1, c1, r1⟩ := objs_rep h4 fun q hq => hn q (List.mem_cons_of_mem _ hq)
    have hp : F1 p = none := by
      cases q : F1 p with
      | none => rfl
      | some o =>
        have := (c1 p (by rw [q, hn p List.mem_cons_self]; exact fun z => nomatch z)).1
        exact absurd this (List.nodup_cons.mp h2).1
    refine ⟨upd F1 p (.lst (qs.map V.ref)), s1.trans (same_new hp), fun a ha => ?_, .lst (.of upd_same) (r1.mono (same_new hp))⟩
    by_cases e : a = p
    · rw [e, upd_same]
      exact ⟨List.mem_cons_self, h1.symm⟩
    · rw [upd_ne e] at ha ⊢
      exact ⟨List.mem_cons_of_mem _ (c1 a ha).1, (c1 a ha).2⟩
def r2 (o : D → D → Option D) (f g : Env → Option (D × Env)) : Env → Option (D × Env) := fun ρ => (f ρ).bind fun p => (g p.2).bind fun q => (o p.1 q.1).map fun d => (d, q.2)
def r1 (o : D → Option D) (f : Env → Option (D × Env)) : Env → Option (D × Env) := fun ρ => (f ρ).bind fun p => (o p.1).map fun d => (d, p.2)
def rNil : Env → Option (List D × Env) := fun ρ => some ([], ρ)
def rCons (f : Env → Option (D × Env)) (g : Env → Option (List D × Env)) : Env → Option (List D × Env) := fun ρ => (f ρ).bind fun p => (g p.2).bind fun q => some (p.1 :: q.1, q.2)
theorem tR2 {K : PySem.W.Frag} {r : R2} {o : D → D → Option D} (ho : Op2 K r o) {f g : Env → Option (D × Env)} {σ : L2.St} {H : Hp} {Q : VK} (h : tR K z (r2 o f g) σ H Q) : tOp r (tR K z f) (tR K z g) σ H Q := by
  obtain ⟨ρ, F, O, d, ρ', R, e, q⟩ := h
  obtain ⟨⟨a, ρ1⟩, ea, e⟩ := bind_some e
  obtain ⟨⟨b, ρ2⟩, eb, e⟩ := bind_some e
  obtain ⟨d2, ed, e⟩ := map_some e
  cases e
  refine ⟨ρ, F, O, a, ρ1, R, ea, fun v1 F1 H1 R1 k1 r1 => ?_⟩
  refine ⟨ρ1, F1, O, b, ρ2, R1, eb, fun v2 F2 H2 R2 k2 r2 => ?_⟩
  exact ho.run F2 H2 v1 v2 a b d Q R2.sub (r1.mono k2.same) r2 ed fun v H3 s3 r3 => q v _ H3 (R2.grow s3) ((k1.trans k2).trans (.of_same R2.sub s3)) r3
theorem r_op {a b : Expr} {pos : Pos} {op : Operator} {r : R2} {o : D → D → Option D} {f g : Env → Option (D × Env)} (hr : OpR X (binaryOp op) r) (ho : Op2 X.K r o) (ha : PE X a (tR X.K z f)) (hb : PE X b (tR X.K z g)) : PE X (.BinOp a op b pos) (tR X.K z (r2 o f g)) :=
  (pe_op hr ha hb).mono fun _ _ _ h => tR2 ho h
theorem r_nil : PA X [] (tRs X.K z rNil) := pa_nil.mono fun σ H Q ⟨ρ, F, O, ds, ρ', R, e, q⟩ => by
  cases e
  exact q [] F H R .refl .nil
theorem r_cons {e : Expr} {es : List Expr} {f : Env → Option (D × Env)} {g : Env → Option (List D × Env)} (ha : PE X e (tR X.K z f)) (hr : PA X es (tRs X.K z g)) (hs : starEach (e :: es) X.env = (false, eval e X.env) :: starEach es X.env := by rfl) : PA X (e :: es) (tRs X.K z (rCons f g)) := by
  refine (pa_cons ha hr hs).mono fun σ H Q ⟨ρ, F, O, ds, ρ', R, e, q⟩ => ?_
  obtain ⟨⟨a, ρ1⟩, ea, e⟩ := bind_some e
  obtain ⟨⟨as, ρ2⟩, eb, e⟩ := bind_some e
  cases e
  refine ⟨ρ, F, O, a, ρ1, R, ea, fun v1 F1 H1 R1 k1 r1 => ?_⟩
  refine ⟨ρ1, F1, O, as, ρ2, R1, eb, fun v2 F2 H2 R2 k2 r2 => ?_⟩
  exact q _ F2 H2 R2 (k1.trans k2) (.cons (r1.mono k2.same) r2)
theorem Rel.newS {K : PySem.W.Frag} {ρ : Env} {σ : L2.St} {F H : Hp} {O : Nat → List Addr} {p : Addr} {o : HO} (R : Rel K z ρ σ F H O) (hp : H p = none) : Rel K z ρ σ (upd F p o) (upd H p o) O := by
  have := R.grow (same_new (o := o) hp)
  rwa [ext_new R.sub hp] at this
/-- a fresh list that is nobody's yet -/
theorem Rel.newW {K : PySem.W.Frag} {ρ : Env} {σ : L2.St} {F H : Hp} {O : Nat → List Addr} {p : Addr} {o : HO} (R : Rel K z ρ σ F H O) (hp : H p = none) (ho : ∀ vs, o ≠ .tup vs := by intro _ q; cases q) : Rel K z ρ σ F (upd H p o) O :=
  R.other (R.sub.free hp) (fun i hi => (R.off i p hi).2 hp) (by
    cases q : z.H0 p with
    | none => rfl
    | some u => exact absurd hp (R.oldH p (ne_none q))) ho
theorem newW_kp {F H : Hp} {O : Nat → List Addr} {p : Addr} {o : HO} (s0 : Same F H) (hp : H p = none) : Kp F H F (upd H p o) O :=
  ⟨Same.refl _, fun a x h _ => by rw [upd_ne (ne_of_none h hp)]; exact h, fun a _ f => f, fun a h => by
    obtain ⟨x, q⟩ := some_of h
    rw [upd_ne (ne_of_none q hp)]
    exact h⟩
theorem H0_of {K : PySem.W.Frag} {ρ : Env} {σ : L2.St} {F H : Hp} {O : Nat → List Addr} {p : Addr} (R : Rel K z ρ σ F H O) (hp : H p = none) : z.H0 p = none := by
  cases q : z.H0 p with
  | none => rfl
  | some u => exact absurd hp (R.oldH p (ne_none q))
theorem Kp.none_back {F H F' H' : Hp} {O : Nat → List Addr} (k : Kp F H F' H' O) {p : Addr} (h : H' p = none) : H p = none := by
  cases q : H p with
  | none => rfl
  | some o => exact absurd h (k.dom p (ne_none q))
/-- Q of a fresh list p of vs: as an own object -/
theorem fin_own {K : PySem.W.Frag} {ρ' : Env} {σ : L2.St} {F H F1 H1 : Hp} {O : Nat → List Addr} {Q : VK} {vs : List V} {ds : List D} {p : Addr} (R1 : Rel K z ρ' σ F1 H1 O) (k1 : Kp F H F1 H1 O)
    (q : ∀ v F' H' as, Rel K z ρ' σ F' H' O → Kp F H F' H' O → Ent K z F' H' v (.own (.list ds)) as → (∀ a ∈ as, H a = none ∧ F' a = none ∧ H' a ≠ none) → Q v H') (r : RepL K F1 vs ds) (hp : H1 p = none) : Q (.ref p) (upd H1 p (.lst vs)) :=
  q _ F1 _ [p] (R1.newW hp) (k1.trans (newW_kp R1.sub hp)) ⟨p, rfl, rfl, H0_of R1 hp, vs, upd_same, r⟩ fun a ha => by
    rcases List.mem_cons.mp ha with e | e
    · subst e
      exact ⟨k1.none_back hp, R1.sub.free hp, by rw [upd_same]; exact fun z => nomatch z⟩
    · cases e
def wN (o : List D → Option (List D)) (f : Env → Option (List D × Env)) : Env → Option (E × Env) := fun ρ => (f ρ).bind fun p => (o p.1).map fun ds => (.own (.list ds), p.2)
def few (ds : List D) : Option (List D) := if ds.length ≤ 1000 then some ds else none
theorem w_lst {es : List Expr} {pos : Pos} {f : Env → Option (List D × Env)} (h : PA X es (tRs X.K z f)) : PE X (.List es pos) (tW X.K z (wN few f)) := by
  refine (pe_lst h).mono fun σ H Q ⟨ρ, F, O, en, ρ', R, e, q⟩ => ?_
  obtain ⟨⟨ds, ρ1⟩, ea, e⟩ := bind_some e
  obtain ⟨d2, ed, e⟩ := map_some e
  cases e
  have ed : few ds = some d2 := ed
  unfold few at ed
  split at ed
  · next hl =>
    cases ed
    exact ⟨ρ, F, O, ds, _, R, ea, fun vs F1 H1 R1 k1 r1 => ⟨le1000 (by rw [r1.length]; exact hl), fun p hp => fin_own R1 k1 q r1 hp⟩⟩
  · cases ed
end
end DL
namespace DL
open PySem PySem.Spec PyProof.Rows L2
section
open Sem (wp)
open AutoSeq1 (wpAny_loadPart')
set_option maxHeartbeats 1000000 in
theorem meets_enum1 {v : Value} {o : Obj} {H : Heap → Prop} (B : PySem.Begins v o H) :
    Meets (Builtin.«enumerate.__new__» ⟨[.type "enumerate", v], []⟩) (fun _ R s => H s.heap ∧
      R (.ok (.ret (.ref (s.heap.push o).objs.size))) { s with heap := (s.heap.push o).push { cls := .type "enumerate", data := .fields #[.none, .bool false, .ref s.heap.objs.size, rawInt 0, .none, .none] } }) :=
  .of_wp fun prog w A R s h => by
    obtain ⟨hp, g, d, tk, os⟩ := s; obtain ⟨h1, h⟩ := h
    have hsub := sub_enumerate
    have q1 : ∀ {A' : Around} {E : Value → Shared → Prop} {Q : Value → Shared → Prop}, Q (.ref hp.objs.size) ⟨hp.push o, g, d, tk, os⟩ → wpAny (model prog w) A' (pyIter v) Q E ⟨hp, g, d, tk, os⟩ :=
      fun q => B.iter prog w _ _ ⟨hp, g, d, tk, os⟩ _ h1 q
    wp_walk using q1
    refine wpAny_stack_any fun st => wpAny_pure ?_
    split
    · rename_i c _ _ _ _ _
      cases (c == Value.type "enumerate")
      · wp_walk using q1
        exact ⟨_, rfl, h⟩
      · wp_walk using q1
        exact ⟨_, rfl, h⟩
    · wp_walk using q1
      exact ⟨_, rfl, h⟩
end
section
variable {prog : Program} {w : World} {A : Around} {E : Value → Shared → Prop} {s : Shared}
theorem enum_begins1 {v : Value} {o : Obj} {H : Heap → Prop} {Q : Value → Shared → Prop} (B : PySem.Begins v o H) (h1 : H s.heap)
    (h : ∀ h', IsEnum h' (s.heap.objs.size + 1) s.heap.objs.size 0 .none → h'.get? s.heap.objs.size = some o → h'.objs.size = s.heap.objs.size + 2 →
      (∀ b o, s.heap.get? b = some o → h'.get? b = some o) → Q (.ref (s.heap.objs.size + 1)) { s with heap := h' }) :
    wpAny (model prog w) A (call (.type "enumerate") [v]) Q E s := by
  refine callType_new F.called_enumerate (by decide) (F.typeCall_enumerate_1 _) (F.newCall_enumerate_1 _) (fun obj => F.args_object_init_2 obj _) F.entry_enumerate_new
    (meets_enum1 B) ⟨h1, ?_⟩
  have hz : (s.heap.push o).objs.size = s.heap.objs.size + 1 := Heap.size_push ..
  show _ ∧ _
  rw [hz]
  have he : IsEnum ((s.heap.push o).push { cls := .type "enumerate", data := .fields #[.none, .bool false, .ref s.heap.objs.size, rawInt 0, .none, .none] }) (s.heap.objs.size + 1) s.heap.objs.size 0 .none := by
    have := Heap.get?_push_size (s.heap.push o) (o := { cls := .type "enumerate", data := .fields #[.none, .bool false, .ref s.heap.objs.size, rawInt 0, .none, .none] }) rfl
    rw [hz] at this; exact this
  refine ⟨⟨_, he, rfl⟩, h _ he (Heap.get?_push_of_some _ (Heap.get?_push_size _ B.free)) (by rw [Heap.size_push, hz]) fun b o x => Heap.get?_push_of_some _ (Heap.get?_push_of_some _ x)⟩
end
/-- a list (true) or a tuple (false) of xs stands at a -/
def Sq (K : PySem.W.Frag) (H : Hp) (k : Bool) (a : Addr) (xs : List V) : Prop := match k with
  | true => SqL K H a xs
  | false => SqT K H a xs
theorem Sq.mono {K : PySem.W.Frag} {H H' : Hp} {k : Bool} {a : Addr} {xs : List V} (h : Sq K H k a xs) (s : Same H H') : Sq K H' k a xs := by
  cases k with
  | true => exact s.seq h
  | false => exact sameT s h
def ItAt (k : Bool) (h : Heap) (it a : Addr) (i : Nat) : Prop := match k with
  | true => h.IsListIter it a i
  | false => h.IsTupleIter it a i
def HSeq (k : Bool) (h : Heap) (a : Addr) (its : Array Value) : Prop := match k with
  | true => h.IsList a its
  | false => h.IsTuple a its
theorem ItAt.at {k : Bool} {h h' : Heap} {it a : Addr} {i : Nat} (x : ItAt k h it a i) (e : ∀ o, h.get? it = some o → h'.get? it = some o) : ItAt k h' it a i := by
  cases k with
  | true => exact Heap.IsListIter.at x e
  | false => exact Heap.IsTupleIter.at x e
theorem ItAt.ob {k : Bool} {h : Heap} {it a : Addr} {i : Nat} (x : ItAt k h it a i) : ∃ o, h.get? it = some o ∧ ∀ v, o.data ≠ .cell v := by
  cases k with
  | true =>
    obtain ⟨o, ho, _, hd⟩ := x
    exact ⟨o, ho, fun v q => by rw [hd] at q; cases q⟩
  | false =>
    obtain ⟨o, ho, _, hd⟩ := x
    exact ⟨o, ho, fun v q => by rw [hd] at q; cases q⟩
theorem draws (k : Bool) {prog : Program} {w : World} {A : Around} (hh : A.handled = none) (it a : Addr) (hne : a ≠ it) (items : Array Value) :
    Draws prog w A it [it, a] items.size (fun i v => items[i]? = some v) (fun i h => ItAt k h it a i ∧ HSeq k h a items) := by
  cases k with
  | true => exact Draws.list hh it a hne items
  | false => exact Draws.tuple hh it a hne items
def itObj (k : Bool) (a : Addr) : Obj := match k with
  | true => { cls := .type "list_iterator", data := .fields #[.ref a, .int 0 0] }
  | false => { cls := .type "tuple_iterator", data := .fields #[.ref a, .int 0 0] }
theorem begins (k : Bool) (a : Addr) (items : Array Value) : PySem.Begins (.ref a) (itObj k a) fun h => HSeq k h a items := by
  cases k with
  | true => exact begins_list a items
  | false => exact begins_tuple a items
theorem itObj_at {k : Bool} {h : Heap} {it a : Addr} (e : h.get? it = some (itObj k a)) : ItAt k h it a 0 := by
  cases k with
  | true => exact ⟨_, e, rfl, rfl⟩
  | false => exact ⟨_, e, rfl, rfl⟩
section
variable {X : Cx} {pins : List (Addr × Obj)} {σ : L2.St} {H : Hp} {s : Shared}
theorem invSq (I : Inv X pins σ H s) {k : Bool} {a : Addr} {xs : List V} (h : Sq X.K H k a xs) : ∃ its : List Value, Vals xs its ∧ HSeq k s.heap a its.toArray := by
  cases k with
  | true =>
    obtain ⟨its, r, pl, _⟩ := I.list h
    exact ⟨its, r, pl.isList⟩
  | false =>
    obtain ⟨its, r, pl, _⟩ := I.tuple h
    exact ⟨its, r, pl⟩
theorem invSq_inj (I : Inv X pins σ H s) {k : Bool} {a : Addr} {xs ys : List V} (h : Sq X.K H k a xs) (h' : Sq X.K H k a ys) : xs = ys := by
  cases k with
  | true => exact I.list_inj h h'
  | false => exact I.tuple_inj h h'
end
theorem HSeq.lt {k : Bool} {h : Heap} {a : Addr} {its : Array Value} (x : HSeq k h a its) : a < h.objs.size := by
  cases k with
  | true =>
    obtain ⟨o, e, _⟩ := x
    exact Heap.lt_size e
  | false =>
    obtain ⟨o, e, _⟩ := x
    exact Heap.lt_size e
/-- enumerate: each item in a new pair -/
def ItE (K : PySem.W.Frag) (k : Bool) (a : Addr) : It :=
  ⟨fun i H => ∃ (xs : List V) (x : V), Sq K H k a xs ∧ xs[i]? = some x, fun i H v H' => ∃ T x, v = .ref T ∧ H T = none ∧ H' = upd H T (.tup [.int (i : Nat), x]) ∧ ∀ xs, Sq K H k a xs → xs[i]? = some x, fun i H => ∃ xs : List V, Sq K H k a xs ∧ xs.length = i⟩
theorem turn_enumK {P : Program} {w : World} {K : PySem.W.Frag} {elts : List Expr} {kk : Nat} {tpos : Pos} {k : Bool} (a e it : Addr) :
    Turn P w K (.Tuple elts kk tpos) (ItE K k a) [e, it] e (fun i h => (∃ old, IsEnum h e it ((i : Nat) : Int) old) ∧ ItAt k h it a i ∧ e ≠ it ∧ a ≠ it ∧ a ≠ e) where
  mem := by simp
  obj := fun i h st b hb => by
    obtain ⟨⟨old, he⟩, hi, _⟩ := st
    have e' : b = e ∨ b = it := by simpa using hb
    rcases e' with z | z
    · rw [z]; exact ⟨_, he, fun v q => nomatch q⟩
    · rw [z]; exact hi.ob
  keep := fun i h h' st k => let ⟨⟨old, he⟩, hi, hne⟩ := st; ⟨⟨old, k e (by simp) _ he⟩, hi.at fun o q => k it (by simp) o q, hne⟩
  item := by
    intro X hP hw hK hc i pins s σ H E I hf st hg
    subst hP hw hK
    obtain ⟨⟨old, he⟩, hit, hne, hai, hae⟩ := st
    obtain ⟨xs, x, hq, hx⟩ := hg
    obtain ⟨its, rv, p⟩ := invSq I hq
    obtain ⟨u, hu, ru⟩ := rv.get hx
    have hlt : i < its.toArray.size := by
      have := (List.getElem?_eq_some_iff.mp hu).1
      simpa using this
    have hel : e < s.heap.objs.size := Heap.lt_size he
    have hil : it < s.heap.objs.size := by obtain ⟨_, q, _⟩ := hit.ob; exact Heap.lt_size q
    have D := draws k (prog := X.prog) (w := X.w) (A := X.A.in1) (I.ok.hd hc) it a hai its.toArray
    refine wpAny_pyNext_enum_itemD D he ⟨hit, p⟩ hlt hne (by simp [hne, hae.symm]) fun x' h' tk hP ho hit' hT hsz hk => ?_
    have ex : x' = u := by
      have hP' : its[i]? = some x' := by simpa using hP
      rw [hu] at hP'
      exact (Option.some.inj hP').symm
    subst ex
    refine ⟨_, rfl, wpAny_letOwnedTupleGo_enum (s := { s with heap := h', toks := tk + 1 }) ho fun h'' he' sb => ?_⟩
    have hT2 : h''.get? s.heap.objs.size = some { cls := .type "tuple", data := .seq #[.int i tk, x'] } := (sb.2 _ (Nat.ne_of_gt hel)).trans hT
    have new : ObjOk X.prog X.w (upd H s.heap.objs.size (.tup [.int (i : Nat), x])) h'' s.heap.objs.size (.tup [.int (i : Nat), x]) :=
      ⟨by show 2 ≤ sizeLine; decide, [.int i tk, x'], .cons ⟨_, rfl⟩ (.cons ru .nil), ⟨_, hT2, rfl, _, rfl⟩⟩
    have I1 : Inv X pins σ (upd H s.heap.objs.size (.tup [.int (i : Nat), x])) { s with heap := h'', toks := tk + 1 } :=
      I.turnedNew (ch := [e, it]) (fun b ob hb q => (sb.2 b (fun z => hb (by simp [z]))).trans (hk b ob (fun z => hb (by simp [z])) (fun z => hb (by simp [z])) q)) hf (Nat.le_refl _) new
    refine ⟨.ref s.heap.objs.size, _, I1, rfl, ⟨_, x, rfl, I.hok.fresh (Nat.le_refl _), rfl, fun ys hy => by rw [invSq_inj I hy hq]; exact hx⟩, ⟨⟨x', ?_⟩, hit'.1.at fun o q => (sb.2 it (Ne.symm hne)).trans q, hne, hai, hae⟩, fun b hb => ?_⟩
    · have e1 : ((i + 1 : Nat) : Int) = (i : Int) + 1 := by omega
      rw [e1]; exact he'
    · have hb' : b < s.heap.objs.size := by
        have e' : b = e ∨ b = it := by simpa using hb
        rcases e' with z | z
        · rw [z]; exact hel
        · rw [z]; exact hil
      rw [upd_ne (Nat.ne_of_lt hb')]
      exact (hf b hb).1
  done := by
    intro X hP hw hK hc i pins s σ H E I hf st hg
    subst hP hw hK
    obtain ⟨⟨old, he⟩, hit, hne, hai, hae⟩ := st
    obtain ⟨xs, hq, hx⟩ := hg
    obtain ⟨its, rv, p⟩ := invSq I hq
    obtain ⟨f0, f1, f2, f3, f4, f5⟩ := hf it (by simp)
    have hl := rv.length
    have D := draws k (prog := X.prog) (w := X.w) (A := X.A.in1) (I.ok.hd hc) it a hai its.toArray
    have hi : i = its.toArray.size := by
      rw [List.size_toArray]
      omega
    exact wpAny_pyNext_enum_endD D he (by rw [← hi]; exact ⟨hit, p⟩) fun h' eb => ⟨rfl, I.turned (t' := s.toks) (fun b o hb q => eb b o hb q) f0 f1 f3 f4 f5⟩
  self := fun A i s Q E st h => let ⟨⟨_, he⟩, _⟩ := st; wpAny_pyIter_enum he h
def iEnumK (K : PySem.W.Frag) (k : Bool) (ta : TA) : TI := fun σ H R => ta σ H fun vs H1 => ∃ a xs, vs = [.ref a] ∧ Sq K H1 k a xs ∧ R (ItE K k a) H1
theorem pi_enumK {X : Cx} {e : Expr} {ta : TA} {p pos tpos : Pos} {elts : List Expr} {kk : Nat} {k : Bool} (hg : Gl X "enumerate") (hm : X.mg "enumerate" = none) (ha : PA X [e] ta) (hs : starEach [e] X.env = [(false, eval e X.env)] := by rfl) :
    PI X (.Tuple elts kk tpos) (.Call (.Name "enumerate" p) [e] [] pos) (iEnumK X.K k ta) := by
  refine ⟨fun pins s σ H R I h => ?_⟩
  refine Call_ (ld_blt I hg hm boot_enumerate (PyProof.Rows.callWith_type1 (thn (ha.run pos pins s σ H _ I h) fun us s1 ⟨vs, H1, I1, r1, q1⟩ => ?_) hs rfl))
  obtain ⟨a, xs, ex, hq, q⟩ := q1
  subst ex
  cases r1 with
  | cons r rr =>
    cases rr
    cases r
    obtain ⟨its, rv, p'⟩ := invSq I1 hq
    have la := p'.lt
    refine enum_begins1 (begins k a its.toArray) p' fun h' he hit hsz hk => wpAny_pyIter_enum he ?_
    have I2 : Inv X pins σ H1 { s1 with heap := h' } := I1.kept (t' := s1.toks) hk
    refine ⟨s1.heap.objs.size + 1, [s1.heap.objs.size + 1, s1.heap.objs.size], _, _, H1, rfl, I2, turn_enumK a (s1.heap.objs.size + 1) s1.heap.objs.size, ⟨⟨.none, he⟩, itObj_at hit, Nat.succ_ne_self _, Nat.ne_of_lt la, Nat.ne_of_lt (Nat.lt_succ_of_lt la)⟩, fun b hb => ?_, q⟩
    have e' : b = s1.heap.objs.size + 1 ∨ b = s1.heap.objs.size := by simpa using hb
    have hle : s1.heap.objs.size ≤ b := by
      rcases e' with z | z
      · rw [z]; exact Nat.le_add_right _ _
      · rw [z]; exact Nat.le_refl _
    exact I1.fpOk hle (I1.hok.fresh hle)
end DL
namespace DL
open PySem PySem.Spec PyProof.Rows L2
def truth : D → Option Bool
  | .none => some false
  | .bool b => some b
  | .int i => some (i != 0)
  | .str s => if s.length ≤ 1000000 then some ((s.length : Int) != 0) else none
  | .list ds => some (!ds.isEmpty)
  | .tuple ds => some (!ds.isEmpty)
  | .dict _ => none
def isB : D → Option Bool
  | .bool b => some b
  | _ => none
def bT (f : Env → Option D) : Env → Option Bool := fun ρ => (f ρ).bind truth
def bV (f : Env → Option D) : Env → Option Bool := fun ρ => (f ρ).bind isB
def bAnd (f g : Env → Option Bool) : Env → Option Bool := fun ρ => (f ρ).bind fun a => if a = true then g ρ else some false
def bOr (f g : Env → Option Bool) : Env → Option Bool := fun ρ => (f ρ).bind fun a => if a = true then some true else g ρ
def bNot (f : Env → Option Bool) : Env → Option Bool := fun ρ => (f ρ).bind fun a => some (!a)
section
variable {X : Cx} {z : Z}
theorem rep_len {K : PySem.W.Frag} {F : Hp} {vs : List V} {ds : List D} (t : RepL K F vs ds) : vs.isEmpty = ds.isEmpty := by
  cases t <;> rfl
theorem truth_ok {K : PySem.W.Frag} {F H : Hp} {v : V} {d : D} {b : Bool} (s : Same F H) (r : Rep K F v d) (e : truth d = some b) : TruV K v H b := by
  cases r with
  | non =>
    cases e
    exact rfl
  | bl b =>
    cases e
    exact rfl
  | int i =>
    cases e
    exact rfl
  | str x =>
    have e : (if x.length ≤ 1000000 then some ((x.length : Int) != 0) else none) = some b := e
    split at e
    · cases e
      exact ⟨leM (by assumption), rfl⟩
    · cases e
  | dic h _ _ => cases e
  | lst h t =>
    cases e
    exact .inl ⟨_, s.seq h, by rw [rep_len t]⟩
  | tup h t =>
    cases e
    exact .inr (.inl ⟨_, sameT s (sqT_of h), by rw [rep_len t]⟩)
abbrev PlainT (X : Cx) (e : Expr) : Prop := ∀ whole, isTrue e X.env whole = (do let v ← whole; standAt e.pos; holding [v] (truthy v))
theorem b_val {e : Expr} {f : Env → Option D} (h : PE X e (tP X.K z f)) (he : PlainT X e := by intro _; rfl) : PT X e (tB X.K z (bT f)) :=
  (pt_truth h he).mono fun σ H Q ⟨ρ, F, O, b, R, e, q⟩ => by
    obtain ⟨d, h1, h2⟩ := bind_some e
    exact ⟨ρ, F, O, d, R, h1, fun v H' s r => ⟨b, truth_ok (R.grow s).sub r h2, q H' s⟩⟩
theorem isB_of {d : D} {b : Bool} (h : isB d = some b) : d = .bool b := by
  unfold isB at h
  split at h
  · cases h
    rfl
  · cases h
theorem b_cmp {a b : Expr} {pos : Pos} {op : CmpOp} {r : R2} {o : D → D → Option D} {f g : Env → Option D} (hr : OpR X (compareOp op) r) (ho : Op2 X.K r o) (ha : PE X a (tP X.K z f)) (hb : PE X b (tP X.K z g)) (hm : behindInMarks op b = false) : PT X (.Compare a [op] [b] pos) (tB X.K z (bV (c2 o f g))) :=
  (pt_cmpR hr ha hb hm).mono fun σ H Q ⟨ρ, F, O, b, R, e, q⟩ => by
    obtain ⟨d, h1, h2⟩ := bind_some e
    refine tP2 (z := z) ho ⟨ρ, F, O, d, R, h1, fun v H' s r => ⟨b, ?_, q H' s⟩⟩
    rw [isB_of h2] at r
    cases r
    rfl
theorem b_not {a : Expr} {pos : Pos} {f : Env → Option Bool} (h : PT X a (tB X.K z f)) : PT X (.UnaryOp .Not a pos) (tB X.K z (bNot f)) :=
  (pt_not h).mono fun σ H Q ⟨ρ, F, O, b, R, e, q⟩ => by
    obtain ⟨d, h1, h2⟩ := bind_some e
    cases h2
    exact ⟨ρ, F, O, d, R, h1, fun H' s => q H' s⟩
theorem b_and1 {a : Expr} {pos : Pos} {f : Env → Option Bool} (h : PT X a (tB X.K z f)) : PW X (.BoolOp .And [a] pos) (tB X.K z f) := pw_and1 h
theorem b_or1 {a : Expr} {pos : Pos} {f : Env → Option Bool} (h : PT X a (tB X.K z f)) : PW X (.BoolOp .Or [a] pos) (tB X.K z f) := pw_or1 h
theorem b_and {a b : Expr} {rest : List Expr} {pos : Pos} {f g : Env → Option Bool} (h : PT X a (tB X.K z f)) (k : PW X (.BoolOp .And (b :: rest) pos) (tB X.K z g)) : PW X (.BoolOp .And (a :: b :: rest) pos) (tB X.K z (bAnd f g)) :=
  (pw_and h k).mono fun σ H Q ⟨ρ, F, O, c, R, e, q⟩ => by
    obtain ⟨d, h1, h2⟩ := bind_some e
    refine ⟨ρ, F, O, d, R, h1, fun H' s => ?_⟩
    split at h2
    · next hd =>
      rw [if_pos hd]
      exact ⟨ρ, _, O, c, R.grow s, h2, fun H2 s2 => q H2 (s.trans s2)⟩
    · next hd =>
      rw [if_neg hd]
      cases h2
      exact q H' s
theorem b_or {a b : Expr} {rest : List Expr} {pos : Pos} {f g : Env → Option Bool} (h : PT X a (tB X.K z f)) (k : PW X (.BoolOp .Or (b :: rest) pos) (tB X.K z g)) : PW X (.BoolOp .Or (a :: b :: rest) pos) (tB X.K z (bOr f g)) :=
  (pw_or h k).mono fun σ H Q ⟨ρ, F, O, c, R, e, q⟩ => by
    obtain ⟨d, h1, h2⟩ := bind_some e
    refine ⟨ρ, F, O, d, R, h1, fun H' s => ?_⟩
    split at h2
    · next hd =>
      rw [if_pos hd]
      cases h2
      exact q H' s
    · next hd =>
      rw [if_neg hd]
      exact ⟨ρ, _, O, c, R.grow s, h2, fun H2 s2 => q H2 (s.trans s2)⟩
def cAnd (f g : Env → Option D) : Env → Option D := fun ρ => (f ρ).bind fun d => (isB d).bind fun a => if a = true then g ρ else some (.bool false)
def cNot (f : Env → Option D) : Env → Option D := fun ρ => (f ρ).bind fun d => (isB d).bind fun a => some (.bool (!a))
def cIf (c : Env → Option Bool) (f g : Env → Option D) : Env → Option D := fun ρ => (c ρ).bind fun b => if b = true then f ρ else g ρ
theorem q_one {op} {a : Expr} {pos : Pos} {t : TE} (h : PE X a t) : PE X (.BoolOp op [a] pos) t := pe_one h
theorem q_and {a b : Expr} {rest : List Expr} {pos : Pos} {f g : Env → Option D} (h : PE X a (tP X.K z f)) (k : PE X (.BoolOp .And (b :: rest) pos) (tP X.K z g)) : PE X (.BoolOp .And (a :: b :: rest) pos) (tP X.K z (cAnd f g)) :=
  (pe_and h k).mono fun σ H Q ⟨ρ, F, O, c, R, e, q⟩ => by
    obtain ⟨d, h1, h2⟩ := bind_some e
    obtain ⟨a, ha, h2⟩ := bind_some h2
    rw [isB_of ha] at h1
    refine ⟨ρ, F, O, _, R, h1, fun v H' s r => ?_⟩
    cases r
    refine ⟨a, rfl, ?_⟩
    split at h2
    · next hd =>
      rw [if_pos hd]
      refine ⟨ρ, _, O, c, R.grow s, h2, fun v2 H2 s2 r2 => q v2 H2 (s.trans s2) ?_⟩
      rw [ext_ext s s2] at r2
      exact r2
    · next hd =>
      rw [if_neg hd]
      cases h2
      exact q _ H' s (.bl _)
theorem q_not {a : Expr} {pos : Pos} {f : Env → Option D} (h : PE X a (tP X.K z f)) : PE X (.UnaryOp .Not a pos) (tP X.K z (cNot f)) :=
  (pe_not h).mono fun σ H Q ⟨ρ, F, O, c, R, e, q⟩ => by
    obtain ⟨d, h1, h2⟩ := bind_some e
    obtain ⟨a, ha, h2⟩ := bind_some h2
    rw [isB_of ha] at h1
    cases h2
    refine ⟨ρ, F, O, _, R, h1, fun v H' s r => ?_⟩
    cases r
    exact ⟨a, rfl, q _ H' s (.bl _)⟩
theorem q_if {c a b : Expr} {pos : Pos} {t : Env → Option Bool} {f g : Env → Option D} (hc : PT X c (tB X.K z t)) (ha : PE X a (tP X.K z f)) (hb : PE X b (tP X.K z g)) : PE X (.IfExp c a b pos) (tP X.K z (cIf t f g)) :=
  (pe_ifExp hc ha hb).mono fun σ H Q ⟨ρ, F, O, d, R, e, q⟩ => by
    obtain ⟨k, h1, h2⟩ := bind_some e
    refine ⟨ρ, F, O, k, R, h1, fun H' s => ?_⟩
    split at h2
    · next hd =>
      rw [if_pos hd]
      refine ⟨ρ, _, O, d, R.grow s, h2, fun v2 H2 s2 r2 => q v2 H2 (s.trans s2) ?_⟩
      rw [ext_ext s s2] at r2
      exact r2
    · next hd =>
      rw [if_neg hd]
      refine ⟨ρ, _, O, d, R.grow s, h2, fun v2 H2 s2 r2 => q v2 H2 (s.trans s2) ?_⟩
      rw [ext_ext s s2] at r2
      exact r2
/-- a op1 b op2 c -/
def cChain (o o' : D → D → Option D) (f g h : Env → Option D) : Env → Option D := fun ρ => (f ρ).bind fun a => (g ρ).bind fun b => (o a b).bind fun d => (isB d).bind fun k => if k = true then (h ρ).bind fun c => o' b c else some (.bool false)
theorem chain_ok {r r' : R2} {o o' : D → D → Option D} {f g h : Env → Option D} (h1 : Op2 X.K r o) (h2 : Op2 X.K r' o') {σ : L2.St} {H : Hp} {Q : VK} (hq : tP X.K z (cChain o o' f g h) σ H Q) : tChain r r' (tP X.K z f) (tP X.K z g) (tP X.K z h) σ H Q := by
  obtain ⟨ρ, F, O, d, R, e, q⟩ := hq
  obtain ⟨a, ea, e⟩ := bind_some e
  obtain ⟨b, eb, e⟩ := bind_some e
  obtain ⟨d1, ed, e⟩ := bind_some e
  obtain ⟨k, ek, e⟩ := bind_some e
  rw [isB_of ek] at ed
  refine ⟨ρ, F, O, a, R, ea, fun v1 H1 s1 r1 => ?_⟩
  refine ⟨ρ, _, O, b, R.grow s1, eb, fun v2 H2 s2 r2 => ?_⟩
  rw [ext_ext s1 s2] at r2
  have R2 := R.grow (s1.trans s2)
  have r1' : Rep X.K (ext F H H2) v1 a := r1.mono (by
    rw [← ext_ext s1 s2]
    exact same_ext (R.grow s1).sub)
  refine h1.run (ext F H H2) H2 v1 v2 a b (.bool k) _ R2.sub r1' r2 ed fun v H3 s3 r3 => ?_
  cases r3
  refine ⟨k, rfl, ?_⟩
  split at e
  · next hk =>
    rw [if_pos hk]
    obtain ⟨c, ec, e⟩ := bind_some e
    have s13 := (s1.trans s2).trans s3
    refine ⟨ρ, _, O, c, R.grow s13, ec, fun v4 H4 s4 r4 => ?_⟩
    rw [ext_ext s13 s4] at r4
    have s14 := s13.trans s4
    have R4 := R.grow s14
    have r24 : Rep X.K (ext F H H4) v2 b := r2.mono (by
      rw [← ext_ext (s1.trans s2) (s3.trans s4)]
      exact same_ext R2.sub)
    refine h2.run (ext F H H4) H4 v2 v4 b c d Q R4.sub r24 r4 e fun v H5 s5 r5 => q v H5 (s14.trans s5) ?_
    rw [ext_ext s14 s5] at r5
    exact r5
  · next hk =>
    rw [if_neg hk]
    cases e
    exact q _ H3 ((s1.trans s2).trans s3) (.bl _)
theorem q_chain {a b c : Expr} {pos : Pos} {op op' : CmpOp} {r r' : R2} {o o' : D → D → Option D} {f g h : Env → Option D} (hr : OpR X (compareOp op) r) (ho : Op2 X.K r o) (hr' : OpR X (compareOp op') r') (ho' : Op2 X.K r' o') (ha : PE X a (tP X.K z f)) (hb : PE X b (tP X.K z g)) (hc : PE X c (tP X.K z h))
    (hm : lastMarks [op, op'] [b, c] = false := by with_unfolding_all rfl) : PE X (.Compare a [op, op'] [b, c] pos) (tP X.K z (cChain o o' f g h)) := (pe_chain hr hr' ha hb hc hm).mono fun _ _ _ hq => chain_ok ho ho' hq
theorem b_chain {a b c : Expr} {pos : Pos} {op op' : CmpOp} {r r' : R2} {o o' : D → D → Option D} {f g h : Env → Option D} (hr : OpR X (compareOp op) r) (ho : Op2 X.K r o) (hr' : OpR X (compareOp op') r') (ho' : Op2 X.K r' o') (ha : PE X a (tP X.K z f)) (hb : PE X b (tP X.K z g)) (hc : PE X c (tP X.K z h))
    (hm : lastMarks [op, op'] [b, c] = false := by with_unfolding_all rfl) : PT X (.Compare a [op, op'] [b, c] pos) (tB X.K z (bV (cChain o o' f g h))) := (pt_chain hr hr' ha hb hc hm).mono fun σ H Q ⟨ρ, F, O, b, R, e, q⟩ => by
    obtain ⟨d, h1, h2⟩ := bind_some e
    refine chain_ok ho ho' ⟨ρ, F, O, d, R, h1, fun v H' s r => ⟨b, ?_, q H' s⟩⟩
    rw [isB_of h2] at r
    cases r
    rfl
end
structure Yld0 (K : PySem.W.Frag) (J : It) (F : Hp) (ds : List D) : Prop where
  go : ∀ i H, Same F H → i < ds.length → J.go i H
  yld : ∀ (i : Nat) H x H' d, Same F H → J.yld i H x H' → ds[i]? = some d → Same H H' ∧ Rep K (ext F H H') x d
  stop : ∀ i H, Same F H → i = ds.length → J.stop i H
structure Yld (K : PySem.W.Frag) (J : It) (F : Hp) (ds : List D) : Prop where
  go : ∀ i H, Same F H → i < ds.length → J.go i H
  yld : ∀ (i : Nat) F' H x H' d, Same F F' → Same F' H → AllT F' H → J.yld i H x H' → ds[i]? = some d → Same H H' ∧ Rep K (ext F' H H') x d
  stop : ∀ i H, Same F H → i = ds.length → J.stop i H
theorem Yld0.of {K : PySem.W.Frag} {J : It} {F : Hp} {ds : List D} (y : Yld0 K J F ds) : Yld K J F ds :=
  ⟨y.go, fun i F' H x H' d s h _ hy hd => by
    obtain ⟨h1, h2⟩ := y.yld i H x H' d (s.trans h) hy hd
    exact ⟨h1, h2.mono (ext_mono s)⟩, y.stop⟩
theorem Yld.mono {K : PySem.W.Frag} {J : It} {F F' : Hp} {ds : List D} (y : Yld K J F ds) (s : Same F F') : Yld K J F' ds :=
  ⟨fun i H h hi => y.go i H (s.trans h) hi, fun i F2 H x H' d s2 h t hy hd => y.yld i F2 H x H' d (s.trans s2) h t hy hd, fun i H h hi => y.stop i H (s.trans h) hi⟩
theorem yld_list0 {K : PySem.W.Frag} {F : Hp} {a : Addr} {vs : List V} {ds : List D} (h : SqL K F a vs) (t : RepL K F vs ds) : Yld0 K (Itl K a) F ds where
  go := fun i H s hi => by
    have hl := t.length
    exact ⟨vs, vs[i]'(by omega), s.seq h, List.getElem?_eq_getElem _⟩
  yld := fun i H x H' d s ⟨e, hx⟩ hd => by
    subst e
    refine ⟨Same.refl _, ?_⟩
    rw [ext_self s]
    obtain ⟨v, h1, h2⟩ := t.get hd
    rw [hx _ (s.seq h)] at h1
    cases h1
    exact h2
  stop := fun i H s hi => ⟨vs, s.seq h, by rw [t.length]; omega⟩
theorem yld_list {K : PySem.W.Frag} {F : Hp} {a : Addr} {vs : List V} {ds : List D} (h : SqL K F a vs) (t : RepL K F vs ds) : Yld K (Itl K a) F ds := (yld_list0 h t).of
theorem yld_tup0 {K : PySem.W.Frag} {F : Hp} {a : Addr} {vs : List V} {ds : List D} (h : SqT K F a vs) (t : RepL K F vs ds) : Yld0 K (Itt K a) F ds where
  go := fun i H s hi => by
    have hl := t.length
    exact ⟨vs, vs[i]'(by omega), sameT s h, List.getElem?_eq_getElem _⟩
  yld := fun i H x H' d s ⟨e, hx⟩ hd => by
    subst e
    refine ⟨Same.refl _, ?_⟩
    rw [ext_self s]
    obtain ⟨v, h1, h2⟩ := t.get hd
    rw [hx _ (sameT s h)] at h1
    cases h1
    exact h2
  stop := fun i H s hi => ⟨vs, sameT s h, by rw [t.length]; omega⟩
theorem yld_tup {K : PySem.W.Frag} {F : Hp} {a : Addr} {vs : List V} {ds : List D} (h : SqT K F a vs) (t : RepL K F vs ds) : Yld K (Itt K a) F ds := (yld_tup0 h t).of
def rangeD (lo : Int) (n : Nat) : List D := (List.range n).map fun i => .int (lo + (i : Nat))
theorem rangeD_len {lo : Int} {n : Nat} : (rangeD lo n).length = n := by
  unfold rangeD
  rw [List.length_map, List.length_range]
theorem yld_range0 {K : PySem.W.Frag} {F : Hp} {lo : Int} {n : Nat} : Yld0 K (Itr lo n) F (rangeD lo n) where
  go := fun i H s hi => by
    rw [rangeD_len] at hi
    exact hi
  yld := fun i H x H' d s ⟨e, hx⟩ hd => by
    subst e hx
    refine ⟨Same.refl _, ?_⟩
    unfold rangeD at hd
    rw [List.getElem?_map] at hd
    obtain ⟨j, h1, h2⟩ := map_some hd
    have h3 := (List.getElem?_eq_some_iff.mp h1).2
    rw [List.getElem_range] at h3
    subst h3 h2
    exact .int _
  stop := fun i H s hi => by
    rw [rangeD_len] at hi
    exact Nat.le_of_eq hi.symm
theorem yld_range {K : PySem.W.Frag} {F : Hp} {lo : Int} {n : Nat} : Yld K (Itr lo n) F (rangeD lo n) := (yld_range0).of
def enumD : Nat → List D → List D
  | _, [] => []
  | k, d :: r => .tuple [.int k, d] :: enumD (k + 1) r
theorem enumD_len : ∀ (k : Nat) (ds : List D), (enumD k ds).length = ds.length
  | _, [] => rfl
  | k, d :: r => congrArg (· + 1) (enumD_len (k + 1) r)
theorem enumD_get : ∀ (k : Nat) (ds : List D) (i : Nat) (x : D), (enumD k ds)[i]? = some x → ∃ d, ds[i]? = some d ∧ x = .tuple [.int ((k + i : Nat) : Int), d]
  | _, [], i, x, h => by simp [enumD] at h
  | k, d :: r, 0, x, h => by
    cases h
    exact ⟨d, rfl, rfl⟩
  | k, d :: r, i + 1, x, h => by
    obtain ⟨d', h1, h2⟩ := enumD_get (k + 1) r i x h
    refine ⟨d', h1, ?_⟩
    rw [h2, show k + 1 + i = k + (i + 1) by omega]
theorem Sq.of_rep {K : PySem.W.Frag} {F : Hp} {v : V} {ds : List D} {k : Bool} (r : Rep K F v (if k then .list ds else .tuple ds)) : ∃ a vs, v = .ref a ∧ Sq K F k a vs ∧ RepL K F vs ds := by
  cases k with
  | true =>
    cases r with
    | lst h t => exact ⟨_, _, rfl, h, t⟩
  | false =>
    cases r with
    | tup h t => exact ⟨_, _, rfl, sqT_of h, t⟩
theorem yld_enum0 {K : PySem.W.Frag} {F : Hp} {k : Bool} {a : Addr} {vs : List V} {ds : List D} (h : Sq K F k a vs) (t : RepL K F vs ds) : Yld0 K (ItE K k a) F (enumD 0 ds) where
  go := fun i H s hi => by
    have hl := t.length
    rw [enumD_len] at hi
    exact ⟨vs, vs[i]'(by omega), h.mono s, List.getElem?_eq_getElem _⟩
  yld := fun i H x H' d s ⟨T, y, e1, hT, e2, hy⟩ hd => by
    subst e1 e2
    obtain ⟨d', h1, h2⟩ := enumD_get 0 ds i d hd
    obtain ⟨v, h3, h4⟩ := t.get h1
    rw [hy _ (h.mono s)] at h3
    cases h3
    refine ⟨same_new hT, ?_⟩
    rw [ext_new s hT, h2, Nat.zero_add]
    exact .tup upd_same (.cons (.int _) (.cons (h4.mono (same_new (s.free hT))) .nil))
  stop := fun i H s hi => ⟨vs, h.mono s, by rw [t.length]; rw [enumD_len] at hi; omega⟩
theorem yld_enum {K : PySem.W.Frag} {F : Hp} {k : Bool} {a : Addr} {vs : List V} {ds : List D} (h : Sq K F k a vs) (t : RepL K F vs ds) : Yld K (ItE K k a) F (enumD 0 ds) := (yld_enum0 h t).of
def tIP (K : PySem.W.Frag) (z : Z) (it : Env → Option (List D)) : TI := fun σ H R => ∃ ρ F O ds, Rel K z ρ σ F H O ∧ it ρ = some ds ∧ ∀ J H', Same H H' → Yld K J (ext F H H') ds → R J H'
def tIR (K : PySem.W.Frag) (z : Z) (it : Env → Option (List D × Env)) : TI := fun σ H R => ∃ ρ F O ds ρ', Rel K z ρ σ F H O ∧ it ρ = some (ds, ρ') ∧ ∀ J F' H', Rel K z ρ' σ F' H' O → Kp F H F' H' O → Yld K J F' ds → R J H'
def seqOf : D → Option (List D)
  | .list ds => some ds
  | .tuple ds => some ds
  | _ => none
def ok62 (i : Int) : Bool := decide (-4611686018427387904 ≤ i) && decide (i < 4611686018427387904)
theorem ok62_of {i : Int} (h : ok62 i = true) : -(2 ^ 62) ≤ i ∧ i < 2 ^ 62 := by
  unfold ok62 at h
  rw [Bool.and_eq_true] at h
  have h1 := of_decide_eq_true h.1
  have h2 := of_decide_eq_true h.2
  exact ⟨by omega, by omega⟩
def rg1 : List D → Option (List D)
  | [.int j] => if ok62 j then some (rangeD 0 j.toNat) else none
  | _ => none
def en1 : List D → Option (List D)
  | [.list ds] => some (enumD 0 ds)
  | [.tuple ds] => some (enumD 0 ds)
  | _ => none
def iS (f : Env → Option D) : Env → Option (List D) := fun ρ => (f ρ).bind seqOf
def iN (o : List D → Option (List D)) (f : Env → Option (List D)) : Env → Option (List D) := fun ρ => (f ρ).bind o
section
variable {X : Cx} {z : Z} {tg : Expr}
theorem i_lf {e : Expr} {it : Env → Option (List D)} (h : PI X tg e (tIP X.K z it)) : PI X tg e (tIR X.K z (lfs it)) := h.mono fun σ H Q ⟨ρ, F, O, ds, ρ', R, e, q⟩ => by
  obtain ⟨a, h1, h2⟩ := map_some e
  cases h2
  exact ⟨ρ, F, O, _, R, h1, fun J H' s y => q J _ H' (R.grow s) (.of_same R.sub s) y⟩
theorem seqOf_of {d : D} {ds : List D} (h : seqOf d = some ds) : d = .list ds ∨ d = .tuple ds := by
  unfold seqOf at h
  split at h
  · cases h
    exact .inl rfl
  · cases h
    exact .inr rfl
  · cases h
theorem i_seq {e : Expr} {f : Env → Option D} (h : PE X e (tP X.K z f)) : PI X tg e (tIP X.K z (iS f)) := by
  refine ⟨fun pins s σ H Rr I ⟨ρ, F, O, ds, R, e, q⟩ => ?_⟩
  obtain ⟨d, h1, h2⟩ := bind_some e
  rcases seqOf_of h2 with k | k
  · subst k
    refine (pi_list h).run pins s σ H Rr I ⟨ρ, F, O, _, R, h1, fun v H' s r => ?_⟩
    cases r with
    | lst hs t => exact ⟨_, rfl, ⟨_, (R.grow s).sub.seq hs⟩, q _ H' s (yld_list hs t)⟩
  · subst k
    refine (pi_tup h).run pins s σ H Rr I ⟨ρ, F, O, _, R, h1, fun v H' s r => ?_⟩
    cases r with
    | tup hs t => exact ⟨_, rfl, ⟨_, sameT (R.grow s).sub (sqT_of hs)⟩, q _ H' s (yld_tup (sqT_of hs) t)⟩
theorem rg1_of {as ds : List D} (h : rg1 as = some ds) : ∃ j, as = [.int j] ∧ (-(2 ^ 62) ≤ j ∧ j < 2 ^ 62) ∧ ds = rangeD 0 j.toNat := by
  unfold rg1 at h
  split at h
  · split at h
    · cases h
      exact ⟨_, rfl, ok62_of (by assumption), rfl⟩
    · cases h
  · cases h
theorem reps1 {K : PySem.W.Frag} {F : Hp} {vs : List V} {j : Int} (r : RepL K F vs [.int j]) : vs = [.int j] := by
  cases r with
  | cons r t =>
    cases r
    cases t
    rfl
theorem i_range1 {a : Expr} {f : Env → Option (List D)} {p pos : Pos} (hg : Gl X "range") (hm : X.mg "range" = none) (ha : PA X [a] (tPs X.K z f)) (hs : starEach [a] X.env = [(false, eval a X.env)] := by rfl) : PI X tg (.Call (.Name "range" p) [a] [] pos) (tIP X.K z (iN rg1 f)) :=
  (pi_range1 hg hm ha hs).mono fun σ H Q ⟨ρ, F, O, ds, R, e, q⟩ => by
    obtain ⟨as, h1, h2⟩ := bind_some e
    obtain ⟨j, e1, b1, e2⟩ := rg1_of h2
    subst e1 e2
    exact ⟨ρ, F, O, _, R, h1, fun vs H' s r => ⟨j, reps1 r, b1.1, b1.2, q _ H' s yld_range⟩⟩
theorem en1_of {as ds : List D} (h : en1 as = some ds) : ∃ (k : Bool) (es : List D), as = [if k then .list es else .tuple es] ∧ ds = enumD 0 es := by
  unfold en1 at h
  split at h
  · cases h
    exact ⟨true, _, rfl, rfl⟩
  · cases h
    exact ⟨false, _, rfl, rfl⟩
  · cases h
theorem i_enum {e : Expr} {f : Env → Option (List D)} {p pos tpos : Pos} {elts : List Expr} {kk : Nat} (hg : Gl X "enumerate") (hm : X.mg "enumerate" = none) (ha : PA X [e] (tPs X.K z f)) (hs : starEach [e] X.env = [(false, eval e X.env)] := by rfl) :
    PI X (.Tuple elts kk tpos) (.Call (.Name "enumerate" p) [e] [] pos) (tIP X.K z (iN en1 f)) := by
  refine ⟨fun pins s σ H Rr I ⟨ρ, F, O, ds, R, e, q⟩ => ?_⟩
  obtain ⟨as, h1, h2⟩ := bind_some e
  obtain ⟨k, es, e1, e2⟩ := en1_of h2
  subst e1 e2
  refine (pi_enumK (k := k) hg hm ha hs).run pins s σ H Rr I ⟨ρ, F, O, _, R, h1, fun vs H' s r => ?_⟩
  cases r with
  | cons r t =>
    cases t
    obtain ⟨a, ws, e3, h3, h4⟩ := Sq.of_rep r
    subst e3
    exact ⟨a, ws, rfl, h3.mono (R.grow s).sub, q _ H' s (yld_enum h3 h4)⟩
end
end DL
namespace DL
open PySem PySem.Spec PyProof.Rows L2
/-- what a target may have stored to: the slots js -/
structure Stp (js : Nat → Bool) (σ σ' : L2.St) (O O' : Nat → List Addr) : Prop where
  wp : ∀ vs : List Nat, (∀ j, js j = true → j ∈ vs) → wipe σ' vs = wipe σ vs
  oo : ∀ i, js i = false → O' i = O i
  sub : ∀ i a, a ∈ O' i → a ∈ O i
theorem Stp.refl {js : Nat → Bool} {σ : L2.St} {O : Nat → List Addr} : Stp js σ σ O O := ⟨fun _ _ => rfl, fun _ _ => rfl, fun _ _ h => h⟩
theorem Stp.trans {js : Nat → Bool} {σ σ1 σ2 : L2.St} {O O1 O2 : Nat → List Addr} (a : Stp js σ σ1 O O1) (b : Stp js σ1 σ2 O1 O2) : Stp js σ σ2 O O2 :=
  ⟨fun vs h => (b.wp vs h).trans (a.wp vs h), fun i h => (b.oo i h).trans (a.oo i h), fun i x h => a.sub i x (b.sub i x h)⟩
theorem wipe_set {σ : L2.St} {i : Nat} {v : Option V} : ∀ {vs : List Nat}, i ∈ vs → wipe (σ.set i v) vs = wipe σ vs
  | w :: vs, h => by
    show (wipe (σ.set i v) vs).set w none = (wipe σ vs).set w none
    by_cases hi : i ∈ vs
    · rw [wipe_set hi]
    · have e : i = w := by
        rcases List.mem_cons.mp h with h | h
        · exact h
        · exact absurd h hi
      subst e
      have aux : ∀ {us : List Nat}, i ∉ us → wipe (σ.set i v) us = (wipe σ us).set i v := fun {us} => by
        induction us with
        | nil => exact fun _ => rfl
        | cons u us ih =>
          intro hu
          show (wipe (σ.set i v) us).set u none = ((wipe σ us).set u none).set i v
          rw [ih fun m => hu (List.mem_cons_of_mem _ m), List.set_comm _ _ (fun e => hu (by rw [e]; exact List.mem_cons_self))]
      rw [aux hi, List.set_set]
theorem Stp.set {js : Nat → Bool} {σ : L2.St} {O : Nat → List Addr} {i : Nat} {v : Option V} (h : js i = true) : Stp js σ (σ.set i v) O (setO O i []) :=
  ⟨fun vs hv => wipe_set (hv i h), fun j hj => by
    unfold setO
    rw [if_neg (fun e => by rw [e, h] at hj; cases hj)], fun j a ha => by
    unfold setO at ha
    split at ha
    · cases ha
    · exact ha⟩
abbrev allJ : Nat → Bool := fun _ => true
abbrev ofJ (vs : List Nat) : Nat → Bool := fun i => vs.contains i
def tG (K : PySem.W.Frag) (z : Z) (js : Nat → Bool) (b : D → Env → Option Env) : TG := fun v σ H Q => ∃ ρ F O d ρ', Rel K z ρ σ F H O ∧ Rep K F v d ∧ b d ρ = some ρ' ∧ ∀ σ' O', Rel K z ρ' σ' F H O' → Stp js σ σ' O O' → Q σ' H
def tGs (K : PySem.W.Frag) (z : Z) (js : Nat → Bool) (b : List D → Env → Option Env) : TGs := fun vs σ H Q => ∃ ρ F O ds ρ', Rel K z ρ σ F H O ∧ RepL K F vs ds ∧ b ds ρ = some ρ' ∧ ∀ σ' O', Rel K z ρ' σ' F H O' → Stp js σ σ' O O' → Q σ' H
def bNm (i : Nat) : D → Env → Option Env := fun d ρ => some (ρ.set i (some (.sh d)))
def bNil : List D → Env → Option Env := fun ds ρ => match ds with
  | [] => some ρ
  | _ => none
def bCons (b : D → Env → Option Env) (g : List D → Env → Option Env) : List D → Env → Option Env := fun ds ρ => match ds with
  | d :: r => (b d ρ).bind (g r)
  | [] => none
def bTp (n : Nat) (g : List D → Env → Option Env) : D → Env → Option Env := fun d ρ => match d with
  | .tuple ds => if ds.length = n then g ds ρ else none
  | _ => none
section
variable {X : Cx} {z : Z} {js : Nat → Bool}
theorem _root_.L2.PG.mono {e : Expr} {t t' : TG} (h : PG X e t) (i : ∀ v σ H Q, t' v σ H Q → t v σ H Q) : PG X e t' := ⟨fun pins s σ H v u Q I r q => h.run pins s σ H v u Q I r (i _ _ _ _ q)⟩
theorem _root_.L2.PGs.mono {e : List Expr} {t t' : TGs} (h : PGs X e t) (i : ∀ v σ H Q, t' v σ H Q → t v σ H Q) : PGs X e t' := ⟨fun pins s σ H v u Q I r q => h.run pins s σ H v u Q I r (i _ _ _ _ q)⟩
theorem g_nm (i : Nat) {x : Str} {pos : Pos} (hN : X.N.Nodup) (hi : X.N[i]? = some x := by rfl) (hx : Loc X.env.scope x := by first | exact Or.inl rfl | exact Or.inr rfl) (hf : X.fn x = true ∨ X.env.scope.names.lookup x = some .local := by first | exact .inl rfl | exact .inr rfl) (hj : js i = true := by rfl) : PG X (.Name x pos) (tG X.K z js (bNm i)) :=
  (pg_name hN hi hx hf).mono fun v σ H Q ⟨ρ, F, O, d, ρ', R, r, e, q⟩ => by
    cases e
    exact q _ _ (R.setD r) (.set hj)
theorem g_nil : PGs X [] (tGs X.K z js bNil) := pgs_nil.mono fun vs σ H Q ⟨ρ, F, O, ds, ρ', R, r, e, q⟩ => by
  unfold bNil at e
  split at e
  · cases e
    cases r
    exact ⟨rfl, q _ _ R .refl⟩
  · cases e
theorem g_cons {e : Expr} {es : List Expr} {b : D → Env → Option Env} {g : List D → Env → Option Env} (h1 : PG X e (tG X.K z js b)) (h2 : PGs X es (tGs X.K z js g))
    (hs : (assignEach (e :: es) X.env).map (·.2) = assign e X.env :: (assignEach es X.env).map (·.2) := by rfl) : PGs X (e :: es) (tGs X.K z js (bCons b g)) :=
  (pgs_cons h1 h2 hs).mono fun vs σ H Q ⟨ρ, F, O, ds, ρ', R, r, e, q⟩ => by
    unfold bCons at e
    split at e
    · obtain ⟨ρ1, h1, h2⟩ := bind_some e
      cases r with
      | cons r t => exact ⟨_, _, rfl, ρ, F, O, _, ρ1, R, r, h1, fun σ' O' R' s => ⟨ρ1, F, O', _, ρ', R', t, h2, fun σ2 O2 R2 s2 => q σ2 O2 R2 (s.trans s2)⟩⟩
    · cases e
theorem g_tup {es : List Expr} {k n : Nat} {pos : Pos} {g : List D → Env → Option Env} (hc : X.calm = true) (h : PGs X es (tGs X.K z js g))
    (hn : (assignEach es X.env).length = n := by rfl) (hst : (assignEach es X.env).findIdx? (·.1) = none := by rfl) : PG X (.Tuple es k pos) (tG X.K z js (bTp n g)) :=
  (pg_tup hc h hn hst).mono fun v σ H Q ⟨ρ, F, O, d, ρ', R, r, e, q⟩ => by
    unfold bTp at e
    split at e
    · split at e
      · cases r with
        | tup hs t => exact ⟨_, _, rfl, sameT R.sub (sqT_of hs), by rw [t.length]; assumption, ρ, F, O, _, ρ', R, t, e, q⟩
      · cases e
    · cases e
end
inductive Fl where
  | nx
  | bk
  | ct
  | ret (d : D)
abbrev Gs := Env → Option (Fl × Env)
def FinS (K : PySem.W.Frag) (z : Z) (F : Hp) (D : Ends) (ρ : Env) : Fl → Prop
  | .nx => ∀ σ F' H O, Rel K z ρ σ F' H O → Same F F' → D.nx σ H
  | .bk => ∀ σ F' H O, Rel K z ρ σ F' H O → Same F F' → D.bk σ H
  | .ct => ∀ σ F' H O, Rel K z ρ σ F' H O → Same F F' → D.ct σ H
  | .ret d => ∀ v σ F' H O, Rel K z ρ σ F' H O → Same F F' → Rep K F' v d → D.rt v H
theorem FinS.from {K : PySem.W.Frag} {z : Z} {F F1 : Hp} {D : Ends} {ρ : Env} {fl : Fl} (h : FinS K z F D ρ fl) (s : Same F F1) : FinS K z F1 D ρ fl := by
  cases fl with
  | nx => exact fun σ F' H O R s' => h σ F' H O R (s.trans s')
  | bk => exact fun σ F' H O R s' => h σ F' H O R (s.trans s')
  | ct => exact fun σ F' H O R s' => h σ F' H O R (s.trans s')
  | ret d => exact fun v σ F' H O R s' => h v σ F' H O R (s.trans s')
def tS (K : PySem.W.Frag) (z : Z) (g : Gs) : TS := fun D σ H => ∃ ρ F O fl ρ', Rel K z ρ σ F H O ∧ g ρ = some (fl, ρ') ∧ FinS K z F D ρ' fl
def gNx : Gs := fun ρ => some (.nx, ρ)
def gNever : Gs := fun _ => none
def gSeq (g h : Gs) : Gs := fun ρ => (g ρ).bind fun p => match p.1 with
  | .nx => h p.2
  | _ => some p
def gAsg (f : Env → Option (D × Env)) (b : D → Env → Option Env) : Gs := fun ρ => (f ρ).bind fun p => (b p.1 p.2).map fun ρ' => (.nx, ρ')
def gSetW (i : Nat) (f : Env → Option (E × Env)) : Gs := fun ρ => (f ρ).map fun p => (.nx, p.2.set i (some p.1))
def gRet (f : Env → Option (D × Env)) : Gs := fun ρ => (f ρ).map fun p => (.ret p.1, p.2)
def gIf (c : Env → Option (Bool × Env)) (g h : Gs) : Gs := fun ρ => (c ρ).bind fun p => if p.1 = true then g p.2 else h p.2
def gLoop (b : D → Env → Option Env) (g : Gs) : List D → Gs
  | [], ρ => some (.nx, ρ)
  | d :: r, ρ => (b d ρ).bind fun ρ1 => (g ρ1).bind fun p => match p.1 with
    | .nx => gLoop b g r p.2
    | .ct => gLoop b g r p.2
    | .bk => some (.nx, p.2)
    | .ret d => some (.ret d, p.2)
def gFor (it : Env → Option (List D × Env)) (b : D → Env → Option Env) (g : Gs) : Gs := fun ρ => (it ρ).bind fun p => gLoop b g p.1 p.2
def gWhile (c : Env → Option (Bool × Env)) (g : Gs) : Nat → Gs
  | 0, _ => none
  | n + 1, ρ => (c ρ).bind fun p => if p.1 = true then (g p.2).bind fun q => match q.1 with
      | .nx => gWhile c g n q.2
      | .ct => gWhile c g n q.2
      | .bk => some (.nx, q.2)
      | .ret d => some (.ret d, q.2)
    else some (.nx, p.2)
section
variable {X : Cx} {z : Z}
theorem s_nil : PSs X [] (tS X.K z gNx) := pss_nil.mono fun D σ H ⟨ρ, F, O, fl, ρ', R, e, q⟩ => by
  cases e
  exact q σ F H O R (Same.refl _)
theorem s_cons {st : Stmt} {rest : List Stmt} {g h : Gs} (h1 : PS X st (tS X.K z g)) (h2 : PSs X rest (tS X.K z h)) : PSs X (st :: rest) (tS X.K z (gSeq g h)) :=
  (pss_cons h1 h2).mono fun D σ H ⟨ρ, F, O, fl, ρ', R, e, q⟩ => by
    obtain ⟨⟨fl1, ρ1⟩, h1, h2⟩ := bind_some e
    refine ⟨ρ, F, O, fl1, ρ1, R, h1, ?_⟩
    cases fl1 with
    | nx => exact fun σ' F' H' O' R' s => ⟨ρ1, F', O', fl, ρ', R', h2, q.from s⟩
    | bk =>
      cases h2
      exact q
    | ct =>
      cases h2
      exact q
    | ret d =>
      cases h2
      exact q
theorem s_one {st : Stmt} {g : Gs} (h : PS X st (tS X.K z g)) : PSs X [st] (tS X.K z g) := pss_one h
theorem s_never {st : Stmt} : PS X st (tS X.K z gNever) := ps_never.mono fun D σ H ⟨ρ, F, O, fl, ρ', R, e, q⟩ => by cases e
theorem s_set (i : Nat) {x : Str} {e : Expr} {pos pos' : Pos} {f : Env → Option (D × Env)} (hN : X.N.Nodup) (he : PE X e (tR X.K z f)) (hi : X.N[i]? = some x := by rfl) (hx : Loc X.env.scope x := by first | exact Or.inl rfl | exact Or.inr rfl)
    (hs : swapsWith e (some (.Name x pos')) pos.line X.env = pure false := by rfl) (hf : X.fn x = true ∨ X.env.scope.names.lookup x = some .local := by first | exact .inl rfl | exact .inr rfl) : PS X (.Assign [.Name x pos'] e pos) (tS X.K z (gAsg f (bNm i))) :=
  (ps_set hN hi hx he hs hf).mono fun D σ H ⟨ρ, F, O, fl, ρ', R, e, q⟩ => by
    obtain ⟨⟨d, ρ1⟩, h1, h2⟩ := bind_some e
    cases h2
    exact ⟨ρ, F, O, d, ρ1, R, h1, fun v F' H' R' k r => q _ _ _ _ (R'.setD r) k.same⟩
theorem setE_new {K : PySem.W.Frag} {ρ : Env} {σ : L2.St} {H F' H' : Hp} {O : Nat → List Addr} {e : E} {v : V} {as : List Addr} {i : Nat} (R0 : ∀ i a, a ∈ O i → H a ≠ none) (R : Rel K z ρ σ F' H' O) (h : Ent K z F' H' v e as) (hf : ∀ a ∈ as, H a = none ∧ F' a = none ∧ H' a ≠ none) :
    Rel K z (ρ.set i (some e)) (σ.set i (some v)) F' H' (setO O i as) :=
  R.setE h fun a ha => ⟨(hf a ha).2.1, (hf a ha).2.2, fun j _ hj => R0 j a hj (hf a ha).1⟩
theorem s_setW (i : Nat) {x : Str} {e : Expr} {pos pos' : Pos} {f : Env → Option (E × Env)} (hN : X.N.Nodup) (he : PE X e (tW X.K z f)) (hi : X.N[i]? = some x := by rfl) (hx : Loc X.env.scope x := by first | exact Or.inl rfl | exact Or.inr rfl)
    (hs : swapsWith e (some (.Name x pos')) pos.line X.env = pure false := by rfl) (hf : X.fn x = true ∨ X.env.scope.names.lookup x = some .local := by first | exact .inl rfl | exact .inr rfl) : PS X (.Assign [.Name x pos'] e pos) (tS X.K z (gSetW i f)) :=
  (ps_set hN hi hx he hs hf).mono fun D σ H ⟨ρ, F, O, fl, ρ', R, e, q⟩ => by
    obtain ⟨⟨d, ρ1⟩, h1, h2⟩ := map_some e
    cases h2
    exact ⟨ρ, F, O, d, ρ1, R, h1, fun v F' H' as R' k r hf => q _ _ _ _ (setE_new (fun i a ha => (R.off i a ha).2) R' r hf) k.same⟩
theorem s_ret {e : Expr} {pos : Pos} {f : Env → Option (D × Env)} (he : PE X e (tR X.K z f)) : PS X (.Return (some e) pos) (tS X.K z (gRet f)) :=
  (ps_ret he).mono fun D σ H ⟨ρ, F, O, fl, ρ', R, e, q⟩ => by
    obtain ⟨⟨d, ρ1⟩, h1, h2⟩ := map_some e
    cases h2
    exact ⟨ρ, F, O, d, ρ1, R, h1, fun v F' H' R' k r => q v σ F' H' O R' k.same r⟩
theorem s_if {c : Expr} {a b : List Stmt} {pos : Pos} {tc : Env → Option (Bool × Env)} {g h : Gs} (hc : PT X c (tBR X.K z tc)) (ha : PSs X a (tS X.K z g)) (hb : PSs X b (tS X.K z h)) : PS X (.If c a b pos) (tS X.K z (gIf tc g h)) :=
  (ps_if hc ha hb).mono fun D σ H ⟨ρ, F, O, fl, ρ', R, e, q⟩ => by
    obtain ⟨⟨b, ρ1⟩, h1, h2⟩ := bind_some e
    refine ⟨ρ, F, O, b, ρ1, R, h1, fun F' H' R' k => ?_⟩
    cases b with
    | true => exact ⟨ρ1, F', O, fl, ρ', R', h2, q.from k.same⟩
    | false => exact ⟨ρ1, F', O, fl, ρ', R', h2, q.from k.same⟩
theorem s_for {tg iter : Expr} {body : List Stmt} {pos : Pos} {it : Env → Option (List D × Env)} {b : D → Env → Option Env} {g : Gs} (hc : X.calm = true) (hi : PI X tg iter (tIR X.K z it)) (hg : PG X tg (tG X.K z allJ b)) (hb : PSs X body (tS X.K z g))
    (hp : PassesOwn (model X.prog X.w) X.A X.env X.xe) (hs : ∀ x, foldedSetIterable iter X.env x = pure x := by intro _; rfl) : PS X (.For tg iter body [] pos) (tS X.K z (gFor it b g)) :=
  (ps_for hp hc hi hg hb hs).mono fun D σ H ⟨ρ, F, O, fl, ρ', R, e, q⟩ => by
    obtain ⟨⟨ds, ρ1⟩, h1, h2⟩ := bind_some e
    refine ⟨ρ, F, O, ds, ρ1, R, h1, fun J F1 H1 R1 k1 y => ?_⟩
    refine ⟨fun i m σ H => m = ds.length - i ∧ i ≤ ds.length ∧ ∃ ρ2 F2 O2, Rel X.K z ρ2 σ F2 H O2 ∧ Same F1 F2 ∧ gLoop b g (ds.drop i) ρ2 = some (fl, ρ'), ⟨ds.length, by simp, Nat.zero_le _, ρ1, F1, O, R1, Same.refl _, h2⟩, ?_⟩
    rintro i m σ2 H2 ⟨rfl, hi, ρ2, F2, O2, R2, s2, e2⟩
    by_cases hlt : i < ds.length
    · have ed : ds.drop i = ds[i] :: ds.drop (i + 1) := by rw [List.drop_eq_getElem_cons hlt]
      rw [ed] at e2
      obtain ⟨ρ3, e3, e4⟩ := bind_some e2
      obtain ⟨⟨fl4, ρ4⟩, e5, e6⟩ := bind_some e4
      have sH : Same F1 H2 := s2.trans R2.sub
      refine .inr ⟨y.go i H2 sH hlt, fun σ' H' => ∃ ρ2 F2 O2, Rel X.K z ρ2 σ' F2 H' O2 ∧ Same F1 F2 ∧ gLoop b g (ds.drop (i + 1)) ρ2 = some (fl, ρ'), fun σ' H' n => ⟨ds.length - (i + 1), by omega, rfl, by omega, n⟩, fun x H' yx => ?_⟩
      obtain ⟨sx, rx⟩ := y.yld i F2 H2 x H' _ s2 R2.sub R2.tup yx (List.getElem?_eq_getElem hlt)
      have R3 := R2.grow sx
      refine ⟨ρ2, _, O2, _, ρ3, R3, rx, e3, fun σ5 O5 R5 _ => ⟨ρ3, _, O5, fl4, ρ4, R5, e5, ?_⟩⟩
      have s5 : Same F1 (ext F2 H2 H') := s2.trans (same_ext R2.sub)
      cases fl4 with
      | nx => exact fun σ6 F6 H6 O6 R6 s6 => ⟨ρ4, F6, O6, R6, s5.trans s6, e6⟩
      | ct => exact fun σ6 F6 H6 O6 R6 s6 => ⟨ρ4, F6, O6, R6, s5.trans s6, e6⟩
      | bk =>
        cases e6
        exact fun σ6 F6 H6 O6 R6 s6 => q σ6 F6 H6 O6 R6 ((k1.same.trans s5).trans s6)
      | ret d =>
        cases e6
        exact fun v σ6 F6 H6 O6 R6 s6 r => q v σ6 F6 H6 O6 R6 ((k1.same.trans s5).trans s6) r
    · have ei : i = ds.length := by omega
      subst ei
      rw [List.drop_length] at e2
      cases e2
      exact .inl ⟨y.stop _ H2 (s2.trans R2.sub) rfl, q σ2 F2 H2 O2 R2 (k1.same.trans s2)⟩
theorem s_while {c : Expr} {body : List Stmt} {pos : Pos} {tc : Env → Option (Bool × Env)} {g : Gs} (n : Nat) (hc : PT X c (tBR X.K z tc)) (hb : PSs X body (tS X.K z g)) (hp : PassesOwn (model X.prog X.w) X.A X.env X.xe) : PS X (.While c body [] pos) (tS X.K z (gWhile tc g n)) :=
  (ps_while hp hc hb).mono fun D σ H ⟨ρ, F, O, fl, ρ', R, e, q⟩ => by
    refine ⟨fun m σ H => ∃ ρ2 F2 O2, Rel X.K z ρ2 σ F2 H O2 ∧ Same F F2 ∧ gWhile tc g m ρ2 = some (fl, ρ'), ⟨n, ρ, F, O, R, Same.refl _, e⟩, ?_⟩
    rintro m σ2 H2 ⟨ρ2, F2, O2, R2, s2, e2⟩
    cases m with
    | zero => cases e2
    | succ m =>
      obtain ⟨⟨b, ρ3⟩, e3, e4⟩ := bind_some e2
      refine ⟨ρ2, F2, O2, b, ρ3, R2, e3, fun F' H' R' k => ?_⟩
      have sF := s2.trans k.same
      cases b with
      | false =>
        show D.nx σ2 H'
        rw [if_neg Bool.false_ne_true] at e4
        cases e4
        exact q σ2 F' H' O2 R' sF
      | true =>
        rw [if_pos rfl] at e4
        obtain ⟨⟨fl4, ρ4⟩, e5, e6⟩ := bind_some e4
        refine ⟨fun σ' H' => ∃ ρ2 F2 O2, Rel X.K z ρ2 σ' F2 H' O2 ∧ Same F F2 ∧ gWhile tc g m ρ2 = some (fl, ρ'), fun σ' H' h => ⟨m, Nat.lt_succ_self _, h⟩, ρ3, F', O2, fl4, ρ4, R', e5, ?_⟩
        cases fl4 with
        | nx => exact fun σ6 F6 H6 O6 R6 s6 => ⟨ρ4, F6, O6, R6, sF.trans s6, e6⟩
        | ct => exact fun σ6 F6 H6 O6 R6 s6 => ⟨ρ4, F6, O6, R6, sF.trans s6, e6⟩
        | bk =>
          cases e6
          exact fun σ6 F6 H6 O6 R6 s6 => q σ6 F6 H6 O6 R6 (sF.trans s6)
        | ret d =>
          cases e6
          exact fun v σ6 F6 H6 O6 R6 s6 r => q v σ6 F6 H6 O6 R6 (sF.trans s6) r
end
end DL
namespace DL
open PySem PySem.Spec PyProof.Rows L2
def isAt : D → Bool
  | .none => true
  | .bool _ => true
  | .int _ => true
  | .str _ => true
  | _ => false
def thF : Fd → D
  | .sh d => d
  | .own d => d
  | .own2 d => d
def thE : Option E → Option E
  | some (.own d) => some (.sh d)
  | some (.own2 d) => some (.sh d)
  | some (.row d) => some (.sh d)
  | some (.dk l ks) => some (.sh (frzE (.dk l ks)))
  | some (.dt _ _) => none
  | some (.fn _ _) => none
  | some (.odd _) => none
  | some (.ob _ fs) => some (.obs (fs.map fun p => (p.1, thF p.2)))
  | e => e
def cBor (f : Env → Option D) : Env → Option D := fun ρ => (f (ρ.map thE)).bind fun d => if isAt d then some d else none
def bBor (f : Env → Option Bool) : Env → Option Bool := fun ρ => f (ρ.map thE)
section
variable {X : Cx} {z : Z}
theorem Obj1.rep {K : PySem.W.Frag} {F H : Hp} {p : Addr} {d : D} (s : Same F H) (h : Obj1 K F H p d) : Rep K H (.ref p) d := by
  cases d with
  | list ds =>
    obtain ⟨vs, h1, h2⟩ := h
    exact .lst (.of h1) (h2.mono s)
  | _ => exact h.elim
theorem Objs.rep {K : PySem.W.Frag} {F H : Hp} (s : Same F H) : ∀ {ps : List Addr} {ds : List D}, Objs K F H ps ds → RepL K H (ps.map V.ref) ds
  | _, _, .nil => .nil
  | _, _, .cons h t => .cons (h.rep s) (Objs.rep s t)
theorem Ent.rep {K : PySem.W.Frag} {z : Z} {F H : Hp} {v : V} {e : E} {as : List Addr} (s : Same F H) (h : Ent K z F H v e as) (hd : ((∀ l ks, e ≠ .dt l ks) ∧ (∀ j f, e ≠ .fn j f) ∧ ∀ o, e ≠ .odd o) ∧ (∀ m fs, e ≠ .ob m fs) ∧ ∀ fs, e ≠ .obs fs) : Rep K H v (frzE e) := by
  cases e with
  | ob m fs => exact absurd rfl (hd.2.1 m fs)
  | obs fs => exact absurd rfl (hd.2.2 fs)
  | dt l ks => exact absurd rfl (hd.1.1 l ks)
  | fn j f => exact absurd rfl (hd.1.2.1 j f)
  | odd o => exact absurd rfl (hd.1.2.2 o)
  | dk l ks =>
    obtain ⟨p, kvs, e1, e2, e3, h⟩ := h
    subst e1
    have ek : (ks.map fun p => (kD p.1, p.2)).map (·.1) = kvs.map (fun p => kD p.1) := by
      have := congrArg (List.map kD) e2
      rw [List.map_map, List.map_map] at this
      rw [List.map_map]
      exact this.symm
    have ev : (ks.map fun p => (kD p.1, p.2)).map (·.2) = ks.map (·.2) := by rw [List.map_map]; rfl
    refine .dic ?_ ek (by rw [ev]; exact e3.mono s)
    rcases h with ⟨_, _, _, h4⟩ | ⟨_, _, o, h3⟩
    · exact .of h4
    · exact .inr ⟨o, s _ _ h3⟩
  | sh d => exact h.2.mono s
  | own d =>
    obtain ⟨p, e1, _, _, h⟩ := h
    subst e1
    exact h.rep s
  | row d =>
    obtain ⟨p, e1, _, _, h⟩ := h
    subst e1
    exact h.rep s
  | own2 d =>
    obtain ⟨p, qs, ds, e1, e2, e3, h1, h2, _, h4⟩ := h
    subst e1 e3
    exact .lst (.of h1) (h4.rep s)
theorem thE_some {e : Option E} {e' : E} (h : thE e = some e') : ∃ e0, e = some e0 ∧ ((e' = .sh (frzE e0) ∧ ((∀ l ks, e0 ≠ .dt l ks) ∧ (∀ j f, e0 ≠ .fn j f) ∧ ∀ o, e0 ≠ .odd o) ∧ (∀ m fs, e0 ≠ .ob m fs) ∧ ∀ fs, e0 ≠ .obs fs) ∨ (∃ m fs, e0 = .ob m fs ∧ e' = .obs (fs.map fun p => (p.1, thF p.2))) ∨ ∃ fs, e0 = .obs fs ∧ e' = .obs fs) := by
  cases e with
  | none => cases h
  | some e =>
    refine ⟨e, rfl, ?_⟩
    cases e <;> first | (cases h; exact .inl ⟨rfl, ⟨(fun _ _ q => nomatch q), (fun _ _ q => nomatch q), fun _ q => nomatch q⟩, (fun _ _ q => nomatch q), fun _ q => nomatch q⟩) | (cases h; exact .inr (.inl ⟨_, _, rfl, rfl⟩)) | (cases h; exact .inr (.inr ⟨_, rfl, rfl⟩)) | cases h
theorem Fds.rep {K : PySem.W.Frag} {F H : Hp} (s : Same F H) : ∀ {xs : List (Str × V)} {fs : List (Str × Fd)} {as : List Addr}, Fds K F H xs fs as → xs.map (·.1) = (fs.map fun p => (p.1, thF p.2)).map (·.1) ∧ RepL K H (xs.map (·.2)) ((fs.map fun p => (p.1, thF p.2)).map (·.2))
  | _, _, _, .nil => ⟨rfl, .nil⟩
  | _, _, _, .sh r t => ⟨congrArg (_ :: ·) (Fds.rep s t).1, .cons (r.mono s) (Fds.rep s t).2⟩
  | _, _, _, .own o t => ⟨congrArg (_ :: ·) (Fds.rep s t).1, .cons (o.rep s) (Fds.rep s t).2⟩
  | _, _, _, .own2 h o t => ⟨congrArg (_ :: ·) (Fds.rep s t).1, .cons (.lst (.of h) (o.rep s)) (Fds.rep s t).2⟩
theorem Rel.thaw {K : PySem.W.Frag} {z : Z} {ρ : Env} {σ : L2.St} {F H : Hp} {O : Nat → List Addr} (R : Rel K z ρ σ F H O) : Rel K ⟨H, H, fun _ => False, z.cl, [], z.x⟩ (ρ.map thE) σ H H (fun _ => []) where
  len := by rw [List.length_map, R.len]
  sub := Same.refl _
  ent := fun i e h => by
    rw [List.getElem?_map] at h
    obtain ⟨e1, h1, h2⟩ := map_some h
    obtain ⟨e0, h3, h4⟩ := thE_some h2
    subst h3
    obtain ⟨v, hv, hE⟩ := R.ent i e0 h1
    rcases h4 with ⟨h4, h5⟩ | ⟨m, fs, h4, h5⟩ | ⟨fs, h4, h5⟩
    · subst h4
      exact ⟨v, hv, rfl, hE.rep R.sub h5⟩
    · subst h4 h5
      obtain ⟨p, dx, xs, as', e1, e2, h1, h2, h3, h4, h5⟩ := hE
      obtain ⟨n1, n2⟩ := h5.rep R.sub
      exact ⟨v, hv, rfl, p, _, dx, xs, e1, h1, by rw [List.map_map]; exact h2, n1, n2⟩
    · subst h4 h5
      obtain ⟨_, p, C, dx, xs, e1, h1, h2, h3, h4⟩ := hE
      exact ⟨v, hv, rfl, p, C, dx, xs, e1, R.sub _ _ h1, h2, h3, h4.mono R.sub⟩
  off := fun i a ha => by cases ha
  apt := fun i j a ha => by cases ha
  old := fun a h f => absurd f h
  oldH := fun a h => h
  keep := fun a o h _ => h
  f0 := Same.refl _
  tup := AllT.refl _
theorem rep_at {K : PySem.W.Frag} {F F' : Hp} {v : V} {d : D} (h : isAt d = true) (r : Rep K F v d) : Rep K F' v d := by
  cases r with
  | non => exact .non
  | bl b => exact .bl b
  | int i => exact .int i
  | str s => exact .str s
  | _ => cases h
theorem q_bor {e : Expr} {f : Env → Option D} (h : ∀ z : Z, PE X e (tP X.K z f)) : PE X e (tP X.K z (cBor f)) :=
  ⟨fun pins s σ H Q I ⟨ρ, F, O, d, R, e, q⟩ => by
    obtain ⟨d', h1, h2⟩ := bind_some e
    split at h2
    · next ha =>
      cases h2
      exact (h ⟨H, H, fun _ => False, z.cl, [], z.x⟩).run pins s σ H Q I ⟨_, H, _, _, R.thaw, h1, fun v H' sm r => q v H' sm (rep_at ha r)⟩
    · cases h2⟩
theorem b_bor {e : Expr} {f : Env → Option Bool} (h : ∀ z : Z, PT X e (tB X.K z f)) : PT X e (tB X.K z (bBor f)) :=
  ⟨fun pins s σ H Q I ⟨ρ, F, O, b, R, e, q⟩ =>
    (h ⟨H, H, fun _ => False, z.cl, [], z.x⟩).run pins s σ H Q I ⟨_, H, _, _, R.thaw, e, q⟩⟩
def ownL (e : Option (Option E)) : Option (List D) := match e with
  | some (some (.own (.list ds))) => some ds
  | some (some (.row (.list ds))) => some ds
  | _ => none
theorem ownL_of {K : PySem.W.Frag} {z : Z} {ρ : Env} {σ : L2.St} {F H : Hp} {O : Nat → List Addr} {i : Nat} {ds : List D} (R : Rel K z ρ σ F H O) (h : ownL ρ[i]? = some ds) : ∃ p vs, σ[i]? = some (some (.ref p)) ∧ O i = [p] ∧ H p = some (.lst vs) ∧ RepL K F vs ds ∧ (z.H0 p = none ∨ z.B p) ∧ ((ρ[i]? = some (some (.own (.list ds))) ∧ z.H0 p = none) ∨ (ρ[i]? = some (some (.row (.list ds))) ∧ z.B p)) := by
  unfold ownL at h
  split at h
  · next hi =>
    cases h
    obtain ⟨v, h1, p, e1, e2, e3, vs, h2, h3⟩ := R.ent i _ hi
    subst e1
    exact ⟨p, vs, h1, e2, h2, h3, .inl e3, .inl ⟨hi, e3⟩⟩
  · next hi =>
    cases h
    obtain ⟨v, h1, p, e1, e2, e3, vs, h2, h3⟩ := R.ent i _ hi
    subst e1
    exact ⟨p, vs, h1, e2, h2, h3, .inr e3, .inr ⟨hi, e3⟩⟩
  · cases h
def cIxO (i : Nat) (f : Env → Option D) : Env → Option D := fun ρ => (ownL ρ[i]?).bind fun ds => (f ρ).bind fun k => match k with
  | .int k => atI ds k
  | _ => none
theorem q_ixO (i : Nat) {x : Str} {e : Expr} {pos p2 : Pos} {f : Env → Option D} (he : PE X e (tP X.K z f)) (hN : X.N[i]? = some x := by rfl) (hv : Vis X.env.scope x := by first | exact Or.inl rfl | exact Or.inr (Or.inl rfl) | exact Or.inr (Or.inr rfl)) (hd : (x == ("__debug__" : Str)) = false := by decide)
    (hcd : (x == ("__classdict__" : Str)) = false := by decide) (hs : PlainIx e := by exact fun _ _ => rfl) : PE X (.Subscript (.Name x pos) e p2) (tP X.K z (cIxO i f)) :=
  (pe_ix ix_seq (pe_var hN hv hd hcd) he hs).mono fun σ H Q ⟨ρ, F, O, d, R, e, q⟩ => by
    obtain ⟨ds, h1, e⟩ := bind_some e
    obtain ⟨k, h2, e⟩ := bind_some e
    obtain ⟨p, vs, s1, s2, s3, s4, _⟩ := ownL_of R h1
    refine ⟨_, s1, ρ, F, O, k, R, h2, fun v H1 sm r => ?_⟩
    split at e
    · cases r
      obtain ⟨w, w1, w2⟩ := atI_rep s4 e
      exact .inl ⟨p, vs, _, w, rfl, rfl, .of (sm _ _ s3), w1, q w H1 sm (w2.mono (same_ext R.sub))⟩
    · cases e
theorem Rel.freeze {K : PySem.W.Frag} {ρ : Env} {σ : L2.St} {F H : Hp} {O : Nat → List Addr} {i : Nat} {e : E} (R : Rel K z ρ σ F H O) (h : ρ[i]? = some (some e)) (hr : canFz e = true) : ∃ F', Same F F' ∧ Rel K z (ρ.set i (some (.sh (frzE e)))) σ F' H (setO O i []) := by
  obtain ⟨v, hv, hE⟩ := R.ent i e h
  obtain ⟨F', s, c, r⟩ := ent_rep hE hr fun a ha => (R.off i a ha).1
  have h0 : ∀ a ∈ O i, z.H0 a = none := fun a ha => by
    cases e with
    | sh d =>
      rw [hE.1] at ha
      cases ha
    | row d => cases hr
    | dt l ks => cases hr
    | fn j f => cases hr
    | ob m fs => cases hr
    | obs fs => cases hr
    | odd o => cases hr
    | dk l ks =>
      obtain ⟨p, kvs, _, _, _, q⟩ := hE
      rcases q with ⟨_, e2, e3, _⟩ | ⟨_, e2, _⟩
      · rw [e2] at ha
        rcases List.mem_cons.mp ha with q | q
        · rw [q]
          exact e3
        · cases q
      · rw [e2] at ha
        cases ha
    | own d =>
      obtain ⟨p, _, e2, e3, _⟩ := hE
      rw [e2] at ha
      rcases List.mem_cons.mp ha with q | q
      · rw [q]
        exact e3
      · cases q
    | own2 d =>
      obtain ⟨p, qs, ds, _, e2, _, _, _, e3, _⟩ := hE
      rw [e2] at ha
      exact e3 a ha
  refine ⟨F', s, ⟨?_, ?_, ?_, ?_, ?_, ?_, R.oldH, R.keep, R.f0.trans s, fun a vs e => by
    by_cases q : F' a = F a
    · rw [q]
      exact R.tup a vs e
    · rw [(c a q).2]
      exact e⟩⟩
  · rw [List.length_set, R.len]
  · intro a o ea
    by_cases q : F' a = F a
    · exact R.sub a o (q ▸ ea)
    · rw [← (c a q).2]
      exact ea
  · intro j e' hj
    unfold setO
    by_cases q : j = i
    · subst q
      have hl : j < ρ.length := (List.getElem?_eq_some_iff.mp h).1
      rw [List.getElem?_set_self hl] at hj
      cases hj
      rw [if_pos rfl]
      exact ⟨v, hv, rfl, r⟩
    · rw [List.getElem?_set_ne (Ne.symm q)] at hj
      rw [if_neg q]
      obtain ⟨w, h1, h2⟩ := R.ent j e' hj
      exact ⟨w, h1, h2.mono s fun _ _ => rfl⟩
  · intro j a ha
    unfold setO at ha
    split at ha
    · cases ha
    · next q =>
      refine ⟨?_, (R.off j a ha).2⟩
      by_cases q2 : F' a = F a
      · rw [q2]
        exact (R.off j a ha).1
      · exact absurd (R.apt j i a ha (c a q2).1) q
  · intro j k a hj hk
    unfold setO at hj hk
    split at hj
    · cases hj
    · split at hk
      · cases hk
      · exact R.apt j k a hj hk
  · intro a h1 h2
    by_cases q2 : F' a = F a
    · rw [q2]
      exact R.old a h1 h2
    · exact absurd (h0 a (c a q2).1) h1
def fz (i : Nat) (ρ : Env) : Env := match ρ[i]? with
  | some (some (.own d)) => ρ.set i (some (.sh d))
  | some (some (.own2 d)) => ρ.set i (some (.sh d))
  | some (some (.dk l ks)) => ρ.set i (some (.sh (frzE (.dk l ks))))
  | _ => ρ
def gFz (i : Nat) (g : Gs) : Gs := fun ρ => g (fz i ρ)
theorem Rel.fz {K : PySem.W.Frag} {ρ : Env} {σ : L2.St} {F H : Hp} {O : Nat → List Addr} (i : Nat) (R : Rel K z ρ σ F H O) : ∃ F' O', Same F F' ∧ Rel K z (DL.fz i ρ) σ F' H O' := by
  unfold DL.fz
  split
  · next h =>
    obtain ⟨F', s, R'⟩ := R.freeze h rfl
    exact ⟨F', _, s, R'⟩
  · next h =>
    obtain ⟨F', s, R'⟩ := R.freeze h rfl
    exact ⟨F', _, s, R'⟩
  · next h =>
    obtain ⟨F', s, R'⟩ := R.freeze h rfl
    exact ⟨F', _, s, R'⟩
  · exact ⟨F, O, Same.refl _, R⟩
theorem fz_in {t : TS} {g : Gs} (i : Nat) {D : Ends} {σ : L2.St} {H : Hp} {K : PySem.W.Frag} (h : tS K z (gFz i g) D σ H) : tS K z g D σ H := by
  obtain ⟨ρ, F, O, fl, ρ', R, e, q⟩ := h
  obtain ⟨F', O', s, R'⟩ := R.fz i
  exact ⟨_, F', O', fl, ρ', R', e, q.from s⟩
theorem s_fz (i : Nat) {st : Stmt} {g : Gs} (h : PS X st (tS X.K z g)) : PS X st (tS X.K z (gFz i g)) := h.mono fun D σ H q => fz_in (t := tNext) i q
theorem Rel.mut {K : PySem.W.Frag} {ρ : Env} {σ : L2.St} {F H : Hp} {O : Nat → List Addr} {i : Nat} {a : Addr} {o : HO} {e : E} {v : V} (R : Rel K z ρ σ F H O) (ha : a ∈ O i) (hz : z.H0 a = none ∨ z.B a) (hv : σ[i]? = some (some v)) (he : Ent K z F (upd H a o) v e (O i)) (ho : ∀ vs, o ≠ .tup vs := by intro _ q; cases q) : Rel K z (ρ.set i (some e)) σ F (upd H a o) O where
  len := by rw [List.length_set, R.len]
  sub := DL.Same.upd2 R.sub (R.off i a ha).1
  ent := fun j e' hj => by
    by_cases q : j = i
    · subst q
      have hl : j < ρ.length := by
        have := (List.getElem?_eq_some_iff.mp hj).1
        rw [List.length_set] at this
        exact this
      rw [List.getElem?_set_self hl] at hj
      cases hj
      exact ⟨v, hv, he⟩
    · rw [List.getElem?_set_ne (Ne.symm q)] at hj
      obtain ⟨w, h1, h2⟩ := R.ent j e' hj
      exact ⟨w, h1, h2.mono (Same.refl _) fun b hb => upd_ne (show b ≠ a from fun x => q (R.apt j i a (x ▸ hb) ha))⟩
  off := fun j b hb => ⟨(R.off j b hb).1, by
    by_cases q : b = a
    · rw [q, upd_same]
      exact fun z => nomatch z
    · rw [upd_ne q]
      exact (R.off j b hb).2⟩
  apt := R.apt
  old := R.old
  oldH := fun b h => by
    by_cases e : b = a
    · rw [e, upd_same]
      exact fun z => nomatch z
    · rw [upd_ne e]
      exact R.oldH b h
  keep := fun b o' h nb => by
    have e : b ≠ a := fun e => by
      subst e
      rcases hz with hz | hz
      · rw [hz] at h
        cases h
      · exact nb hz
    rw [upd_ne e]
    exact R.keep b o' h nb
  f0 := R.f0
  tup := R.tup.up ho
/-- the slot's own list gets new items -/
def putL (i : Nat) (es : List D) (ρ : Env) : Env := match ρ[i]? with
  | some (some (.row _)) => ρ.set i (some (.row (.list es)))
  | _ => ρ.set i (some (.own (.list es)))
theorem Rel.putL {K : PySem.W.Frag} {ρ : Env} {σ : L2.St} {F H : Hp} {O : Nat → List Addr} {i : Nat} {ds es : List D} {p : Addr} {ws : List V} (R : Rel K z ρ σ F H O) (h : ownL ρ[i]? = some ds) (hp : σ[i]? = some (some (.ref p))) (r : RepL K F ws es) : Rel K z (DL.putL i es ρ) σ F (upd H p (.lst ws)) O := by
  obtain ⟨p', vs, s1, s2, s3, s4, s5, s6⟩ := ownL_of R h
  rw [s1] at hp
  cases hp
  have hm : p ∈ O i := by rw [s2]; exact List.mem_cons_self
  unfold DL.putL
  rcases s6 with ⟨q, q2⟩ | ⟨q, q2⟩
  · rw [q]
    exact R.mut hm s5 s1 ⟨p, rfl, s2, q2, ws, upd_same, r⟩
  · rw [q]
    exact R.mut hm s5 s1 ⟨p, rfl, s2, q2, ws, upd_same, r⟩
/-- x.append(e) -/
def gApp (i : Nat) (f : Env → Option (D × Env)) : Gs := fun ρ => (ownL ρ[i]?).bind fun _ => (f ρ).bind fun p => (ownL p.2[i]?).bind fun ds => if ds.length ≤ 1000 then some (.nx, putL i (ds ++ [p.1]) p.2) else none
theorem s_app (i : Nat) {x : Str} {e : Expr} {f : Env → Option (D × Env)} {p1 p2 p3 pos : Pos} (he : PE X e (tR X.K z f)) (hN : X.N[i]? = some x := by rfl) (hv : Vis X.env.scope x := by first | exact Or.inl rfl | exact Or.inr (Or.inl rfl) | exact Or.inr (Or.inr rfl)) (hd : (x == ("__debug__" : Str)) = false := by decide)
    (hcd : (x == ("__classdict__" : Str)) = false := by decide)
    (hbase : attributeBase (.Name x p1) "append" X.env (eval (.Name x p1) X.env) = eval (.Name x p1) X.env := by rfl)
    (hfew : ((backTo p3 (starEach [e] X.env)).all (fun x => !x.1) && (backToKw p3 (keywordEach [] X.env)).all (fun x => x.1.isSome)
      && decide ([e].length + ([] : List Keyword).length + (if ([] : List Keyword).isEmpty then 0 else 1) < 30)) = true := by rfl)
    (hline : (p2.endLine == p3.line) = true := by rfl) (hs : starEach [e] X.env = (false, eval e X.env) :: starEach [] X.env := by rfl) (hpl : (backTo p3 (starEach [] X.env)).any (·.1) = false := by rfl)
    (hsw : swapsWith (.Call (.Attribute (.Name x p1) "append" p2) [e] [] p3) none pos.line X.env = pure false := by rfl) :
    PS X (.Expr (.Call (.Attribute (.Name x p1) "append" p2) [e] [] p3) pos) (tS X.K z (gApp i f)) :=
  (ps_expr (pe_bm PySem.F.plainAttrs_list PySem.F.slot_list_append PySem.F.type_list_append mt_append (pe_var hN hv hd hcd) (pa_cons he pa_nil hs) hbase hfew hline hs hpl) hsw).mono fun D σ H ⟨ρ, F, O, fl, ρ', R, e, q⟩ => by
    obtain ⟨d0, h0, e⟩ := bind_some e
    obtain ⟨⟨d, ρ1⟩, h1, e⟩ := bind_some e
    obtain ⟨ds, h2, e⟩ := bind_some e
    split at e
    · next hl =>
      cases e
      obtain ⟨p, vs, s1, s2, s3, s4, _⟩ := ownL_of R h0
      refine ⟨_, s1, .inl ⟨rfl, _, SqL.of s3⟩, ρ, F, O, d, ρ1, R, h1, fun v F' H' R' k r => ?_⟩
      obtain ⟨p', vs', t1, t2, t3, t4, _⟩ := ownL_of R' h2
      have e1 := s1.symm.trans t1
      cases e1
      refine ⟨p, vs', v, rfl, rfl, t3, by have := t4.length; have := small1000 hl; omega, ?_⟩
      exact q σ F' _ O (R'.putL h2 s1 (t4.append (.cons r .nil))) k.same
    · cases e
/-- x[k] = e -/
def gSetI (i : Nat) (f g : Env → Option (D × Env)) : Gs := fun ρ => (f ρ).bind fun p => (ownL p.2[i]?).bind fun _ => (g p.2).bind fun q => match q.1 with
  | .int k => (ownL q.2[i]?).bind fun ds => (ixN ds.length k).map fun j => (.nx, putL i (ds.set j p.1) q.2)
  | _ => none
theorem s_setI (i : Nat) {x : Str} {e b : Expr} {f g : Env → Option (D × Env)} {p1 p2 pos : Pos} (he : PE X e (tR X.K z f)) (hb : PE X b (tR X.K z g)) (hN : X.N[i]? = some x := by rfl) (hv : Vis X.env.scope x := by first | exact Or.inl rfl | exact Or.inr (Or.inl rfl) | exact Or.inr (Or.inr rfl)) (hd : (x == ("__debug__" : Str)) = false := by decide)
    (hcd : (x == ("__classdict__" : Str)) = false := by decide)
    (ha : ∀ v, assign (.Subscript (.Name x p1) b p2) X.env v = (do
      let ov ← holding [v] (eval (.Name x p1) X.env)
      let iv ← holding [v, ov] (eval b X.env)
      standAt p2
      holding [v, ov, iv] (setItem ov iv v)
      release [v, ov, iv] []) := by intro _; rfl)
    (hs : swapsWithSole [.Subscript (.Name x p1) b p2] e pos.line X.env = pure false := by rfl) (hw : swappedStores [.Subscript (.Name x p1) b p2] e X.env = pure none := by rfl)
    (h1 : (assignEach [.Subscript (.Name x p1) b p2] X.env).map (·.2) = [assign (.Subscript (.Name x p1) b p2) X.env] := by rfl) :
    PS X (.Assign [.Subscript (.Name x p1) b p2] e pos) (tS X.K z (gSetI i f g)) :=
  (ps_asg he (pg_sub (pe_var hN hv hd hcd) hb set_list ha) hs hw h1).mono fun D σ H ⟨ρ, F, O, fl, ρ', R, e, q⟩ => by
    obtain ⟨⟨d, ρ1⟩, h1, e⟩ := bind_some e
    obtain ⟨d0, h0, e⟩ := bind_some e
    obtain ⟨⟨k, ρ2⟩, h2, e⟩ := bind_some e
    dsimp only at e
    split at e
    · obtain ⟨ds, h3, e⟩ := bind_some e
      obtain ⟨j, h4, e⟩ := map_some e
      cases e
      refine ⟨ρ, F, O, d, ρ1, R, h1, fun v F1 H1 R1 k1 r1 => ?_⟩
      obtain ⟨p, vs, s1, _⟩ := ownL_of R1 h0
      refine ⟨_, s1, ρ1, F1, O, _, ρ2, R1, h2, fun w F2 H2 R2 k2 r2 => ?_⟩
      cases r2
      obtain ⟨p', vs', t1, t2, t3, t4, _⟩ := ownL_of R2 h3
      have e1 := s1.symm.trans t1
      cases e1
      exact ⟨p, vs', _, j, rfl, rfl, t3, by rw [t4.length]; exact h4, q σ F2 _ O (R2.putL h3 s1 (t4.set j (r1.mono k2.same))) (k1.same.trans k2.same)⟩
    · cases e
/-- x op= e -/
def gAug (i : Nat) (o : D → D → Option D) (f : Env → Option (D × Env)) : Gs := fun ρ => (cVar i ρ).bind fun d => (f ρ).bind fun p => (o d p.1).map fun y => (.nx, p.2.set i (some (.sh y)))
theorem s_aug (i : Nat) {x : Str} {e : Expr} {op : Operator} {r : R2} {o : D → D → Option D} {f : Env → Option (D × Env)} {p1 pos : Pos} (hr : OpR X (inplaceOp op) r) (ho : Op2 X.K r o) (hN : X.N.Nodup) (he : PE X e (tR X.K z f)) (hi : X.N[i]? = some x := by rfl) (hx : Loc X.env.scope x := by first | exact Or.inl rfl | exact Or.inr rfl)
    (hf : X.fn x = true ∨ X.env.scope.names.lookup x = some .local := by first | exact .inl rfl | exact .inr rfl) : PS X (.AugAssign (.Name x p1) op e pos) (tS X.K z (gAug i o f)) :=
  (ps_aug hN hi hx he hr hf).mono fun D σ H ⟨ρ, F, O, fl, ρ', R, e, q⟩ => by
    obtain ⟨d, h1, e⟩ := bind_some e
    obtain ⟨⟨d2, ρ1⟩, h2, e⟩ := bind_some e
    obtain ⟨y, h3, e⟩ := map_some e
    cases e
    unfold cVar at h1
    split at h1
    · next hi =>
      cases h1
      obtain ⟨v, v1, _, v2⟩ := R.ent i _ hi
      refine ⟨v, v1, ρ, F, O, d2, ρ1, R, h2, fun w F1 H1 R1 k1 r1 => ?_⟩
      exact ho.run F1 H1 v w d d2 y _ R1.sub (v2.mono k1.same) r1 h3 fun u H2 s2 r2 => q _ _ _ _ ((R1.grow s2).setD r2) (k1.same.trans (same_ext R1.sub))
    · cases h1
def oAddI : D → D → Option D
  | .int i, .int j => some (.int (i + j))
  | _, _ => none
theorem w_addI {K : PySem.W.Frag} : Op2 K (rI0 fun i j => .int (i + j)) oAddI := op2I fun a b d e => by
  unfold oAddI at e
  split at e
  · cases e
    exact ⟨_, _, rfl, rfl, rfl⟩
  · cases e
theorem Objs.set {K : PySem.W.Frag} {F H : Hp} {o : HO} {d : D} : ∀ {qs : List Addr} {ds : List D} {j : Nat} {q : Addr}, Objs K F H qs ds → qs.Nodup → qs[j]? = Option.some q → Obj1 K F (upd H q o) q d → Objs K F (upd H q o) qs (ds.set j d)
  | _, _, _, _, .nil, _, h, _ => by simp at h
  | _, _, 0, q, .cons (p := p) h t, n, hj, ho => by
    simp at hj
    subst hj
    exact .cons ho (t.mono (Same.refl _) fun b hb => upd_ne (fun e => (List.nodup_cons.mp n).1 (e ▸ hb)))
  | _, _, j + 1, q, .cons (p := p) h t, n, hj, ho => by
    have hj' := hj
    rw [List.getElem?_cons_succ] at hj'
    have hm := List.mem_of_getElem? hj'
    refine .cons (h.mono (Same.refl _) (upd_ne fun e => (List.nodup_cons.mp n).1 (by rw [e]; exact hm))) (Objs.set t (List.nodup_cons.mp n).2 hj' ho)
end
end DL
namespace DL
open PySem PySem.Spec PyProof.Rows L2
def tRgP (K : PySem.W.Frag) (z : Z) (f : Env → Option (Int × Int)) : L2.St → Hp → (Int → Int → Hp → Prop) → Prop := fun σ H Q => ∃ ρ F O p, Rel K z ρ σ F H O ∧ f ρ = some p ∧ ∀ H', Same H H' → Q p.1 p.2 H'
def rgFit (a b : Int) : Option (Int × Int) := if -1000 ≤ a then (if a ≤ 1000 then (if -1000 ≤ b then (if b ≤ 1000 then some (a, b) else none) else none) else none) else none
def cRg1 (f : Env → Option D) : Env → Option (Int × Int) := fun ρ => (f ρ).bind fun d => match d with
  | .int n => rgFit 0 n
  | _ => none
def cListRg (f : Env → Option (Int × Int)) : Env → Option D := fun ρ => (f ρ).map fun p => .list (rangeD p.1 (p.2 - p.1).toNat)
section
variable {X : Cx} {z : Z}
theorem rgFit_of {a b : Int} {p : Int × Int} (h : rgFit a b = some p) : p = (a, b) ∧ -1000 ≤ a ∧ a ≤ 1000 ∧ -1000 ≤ b ∧ b ≤ 1000 := by
  unfold rgFit at h
  split at h
  · split at h
    · split at h
      · split at h
        · cases h
          exact ⟨rfl, by assumption, by assumption, by assumption, by assumption⟩
        · cases h
      · cases h
    · cases h
  · cases h
theorem cRg1_fit {f : Env → Option D} {ρ : Env} {p : Int × Int} (h : cRg1 f ρ = some p) : ∃ n, f ρ = some (.int n) ∧ p = (0, n) ∧ RgOk p.1 p.2 := by
  obtain ⟨d, h1, h2⟩ := bind_some h
  split at h2
  · obtain ⟨e, h3, h4, h5, h6⟩ := rgFit_of h2
    subst e
    exact ⟨_, h1, rfl, by show RgOk 0 _; exact ⟨by omega, by omega, by omega, by omega, by omega⟩⟩
  · cases h2
structure RgP (X : Cx) (z : Z) (e : Expr) (f : Env → Option (Int × Int)) : Prop where
  run : PRg X e (tRgP X.K z f)
  fit : ∀ ρ p, f ρ = some p → RgOk p.1 p.2
theorem q_rg1 {a : Expr} {f : Env → Option D} {p pos : Pos} (hg : Gl X "range") (hm : X.mg "range" = none) (ha : PE X a (tP X.K z f)) (na : starEach [a] X.env = (false, eval a X.env) :: starEach [] X.env := by rfl) : RgP X z (.Call (.Name "range" p) [a] [] pos) (cRg1 f) :=
  ⟨fun pins s σ H Q I ⟨ρ, F, O, d, R, e, q⟩ => by
    obtain ⟨n, h1, h2, _⟩ := cRg1_fit e
    subst h2
    refine prg_1 hg hm ha na pins s σ H Q I ⟨ρ, F, O, _, R, h1, fun v H' sm r => ?_⟩
    cases r
    exact ⟨n, rfl, q H' sm⟩, fun ρ p h => by
    obtain ⟨_, _, _, h⟩ := cRg1_fit h
    exact h⟩
theorem rgV_rep {K : PySem.W.Frag} {F : Hp} {a b : Int} : RepL K F (rgV a b) (rangeD a (b - a).toNat) := by
  unfold rgV rangeD
  generalize List.range (b - a).toNat = l
  induction l with
  | nil => exact .nil
  | cons i l ih => exact .cons (.int _) ih
theorem q_listRg {e : Expr} {f : Env → Option (Int × Int)} {p pos : Pos} (hc : X.calm = true) (hg : Gl X "list") (hm : X.mg "list" = none) (he : RgP X z e f) (na : starEach [e] X.env = (false, eval e X.env) :: starEach [] X.env := by rfl) : PE X (.Call (.Name "list" p) [e] [] pos) (tP X.K z (cListRg f)) :=
  (pe_listRg hc hg hm he.run na).mono fun σ H Q ⟨ρ, F, O, d, R, e, q⟩ => by
    obtain ⟨r, h1, h2⟩ := map_some e
    subst h2
    refine ⟨ρ, F, O, r, R, h1, fun H' sm => ⟨he.fit _ _ h1, fun p hp => ?_⟩⟩
    have R1 := R.grow sm
    refine q _ _ (sm.trans (same_new hp)) ?_
    rw [← ext_ext sm (same_new hp), ext_new R1.sub hp]
    exact .lst (.of upd_same) rgV_rep
def gPar2 (i j : Nat) (f g : Env → Option (E × Env)) : Gs := fun ρ => (f ρ).bind fun p => (g p.2).map fun q => (.nx, (q.2.set i (some p.1)).set j (some q.1))
theorem keepW {K : PySem.W.Frag} {F H F1 H1 F2 H2 : Hp} {O : Nat → List Addr} {ρ : Env} {σ : L2.St} {v : V} {e : E} {as : List Addr} (R : Rel K z ρ σ F H O) (k2 : Kp F1 H1 F2 H2 O) (h : Ent K z F1 H1 v e as) (hf : ∀ a ∈ as, H a = none ∧ F1 a = none ∧ H1 a ≠ none) : Ent K z F2 H2 v e as ∧ ∀ a ∈ as, H a = none ∧ F2 a = none ∧ H2 a ≠ none :=
  ⟨h.mono k2.same fun a ha => by
    obtain ⟨h0, _, h1⟩ := hf a ha
    obtain ⟨o, h2⟩ := some_of h1
    rw [h2]
    exact k2.keep a o h2 fun i hi => (R.off i a hi).2 h0, fun a ha => by
    obtain ⟨h0, h1, h2⟩ := hf a ha
    exact ⟨h0, k2.out a h2 h1, k2.dom a h2⟩⟩
theorem s_par2 (i j : Nat) {x y : Str} {a b : Expr} {px py pt pos : Pos} {kt k2 pt2} {f g : Env → Option (E × Env)} (hc : X.calm = true) (hN : X.N.Nodup) (ha : PE X a (tW X.K z f)) (hb : PE X b (tW X.K z g)) (hi : X.N[i]? = some x := by rfl) (hj : X.N[j]? = some y := by rfl) (hij : i ≠ j := by decide)
    (hx : X.env.scope.names.lookup x = some .local := by rfl) (hy : X.env.scope.names.lookup y = some .local := by rfl) (ha1 : starEach [a, b] X.env = (false, eval a X.env) :: starEach [b] X.env := by rfl) (hb1 : starEach [b] X.env = (false, eval b X.env) :: starEach [] X.env := by rfl)
    (hw : swappedStores [.Tuple [.Name x px, .Name y py] kt pt] (.Tuple [a, b] k2 pt2) X.env = pure (some [x, y]) := by rfl)
    (hs : swapsWithSole [.Tuple [.Name x px, .Name y py] kt pt] (.Tuple [a, b] k2 pt2) pos.line X.env = pure false := by rfl) :
    PS X (.Assign [.Tuple [.Name x px, .Name y py] kt pt] (.Tuple [a, b] k2 pt2) pos) (tS X.K z (gPar2 i j f g)) :=
  (ps_par hc hN hi hj hij hx hy (pa_cons ha (pa_cons hb pa_nil hb1) ha1) hw hs).mono fun D σ H ⟨ρ, F, O, fl, ρ', R, e, q⟩ => by
    obtain ⟨⟨e1, ρ1⟩, h1, e⟩ := bind_some e
    obtain ⟨⟨e2, ρ2⟩, h2, e⟩ := map_some e
    cases e
    refine ⟨ρ, F, O, e1, ρ1, R, h1, fun v1 F1 H1 as1 R1 k1 n1 f1 => ⟨ρ1, F1, O, e2, ρ2, R1, h2, fun v2 F2 H2 as2 R2 k2 n2 f2 => ⟨v1, v2, rfl, ?_⟩⟩⟩
    obtain ⟨n1', f1'⟩ := keepW R k2 n1 f1
    have R3 := setE_new (i := i) (fun i a ha => (R.off i a ha).2) R2 n1' f1'
    refine q _ F2 H2 _ (R3.setE (i := j) n2 fun a ha => ⟨(f2 a ha).2.1, (f2 a ha).2.2, fun l _ hl => ?_⟩) (k1.same.trans k2.same)
    unfold setO at hl
    split at hl
    · exact (f1 a hl).2.2 (f2 a ha).1
    · exact (R1.off l a hl).2 (f2 a ha).1
end
end DL
namespace DL
open PySem PySem.Spec PyProof.Rows L2
def wipeE (ρ : Env) : List Nat → Env
  | [] => ρ
  | v :: vs => (wipeE ρ vs).set v none
theorem wipeE_length (ρ : Env) : ∀ vs : List Nat, (wipeE ρ vs).length = ρ.length
  | [] => rfl
  | v :: vs => by
    unfold wipeE
    rw [List.length_set, wipeE_length ρ vs]
theorem wipeE_some {ρ : Env} {i : Nat} {e : E} : ∀ {vs : List Nat}, (wipeE ρ vs)[i]? = some (some e) → ρ[i]? = some (some e) ∧ i ∉ vs
  | [], h => ⟨h, by simp⟩
  | v :: vs, h => by
    unfold wipeE at h
    by_cases q : v = i
    · subst q
      by_cases hl : v < (wipeE ρ vs).length
      · rw [List.getElem?_set_self hl] at h
        cases h
      · rw [List.getElem?_eq_none (by rw [List.length_set]; omega)] at h
        cases h
    · rw [List.getElem?_set_ne q] at h
      obtain ⟨h1, h2⟩ := wipeE_some h
      exact ⟨h1, fun m => (List.mem_cons.mp m).elim (fun e => q e.symm) h2⟩
theorem wipe_idem (σ : L2.St) (vs : List Nat) : wipe (wipe σ vs) vs = wipe σ vs := by
  have aux : ∀ us : List Nat, (∀ u ∈ us, u ∈ vs) → wipe (wipe σ vs) us = wipe σ vs := by
    intro us
    induction us with
    | nil => exact fun _ => rfl
    | cons u us ih =>
      intro h
      show (wipe (wipe σ vs) us).set u none = wipe σ vs
      rw [ih fun x hx => h x (List.mem_cons_of_mem _ hx)]
      have hu := h u List.mem_cons_self
      apply List.ext_getElem?
      intro j
      by_cases q : u = j
      · subst q
        by_cases hl : u < (wipe σ vs).length
        · rw [List.getElem?_set_self hl]
          cases e : (wipe σ vs)[u]? with
          | none =>
            rw [List.getElem?_eq_none_iff] at e
            omega
          | some w =>
            cases w with
            | none => rfl
            | some w => exact absurd hu (wipe_some e).2
        · rw [List.getElem?_eq_none (by rw [List.length_set]; omega), List.getElem?_eq_none (by omega)]
      · rw [List.getElem?_set_ne q]
  exact aux vs fun _ h => h
theorem ofJ_mem {vs : List Nat} {j : Nat} (h : ofJ vs j = true) : j ∈ vs := List.contains_iff_mem.mp h
section
variable {K : PySem.W.Frag} {z : Z} {ρ : Env} {σ : L2.St} {F H : Hp} {O O' : Nat → List Addr}
theorem Rel.wipe (R : Rel K z ρ σ F H O) (vs : List Nat) : Rel K z (wipeE ρ vs) (L2.wipe σ vs) F H O :=
  R.weak (by rw [wipeE_length, wipe_length, R.len]) fun i e h => by
    obtain ⟨h1, h2⟩ := wipeE_some h
    exact ⟨h1, wipe_out h2⟩
end
section
variable {X : Cx} {z : Z}
theorem _root_.L2.PTs.mono {es : List Expr} {t t' : TT} (h : PTs X es t) (i : ∀ σ H Q, t' σ H Q → t σ H Q) : PTs X es t' := ⟨fun pins s σ H Q I q => h.run pins s σ H Q I (i _ _ _ q)⟩
theorem t_one {c : Expr} {t : Env → Option Bool} (h : PT X c (tB X.K z t)) : PTs X [c] (tB X.K z t) := pts_one h
end
def lcD (ρ0 : Env) (b : D → Env → Option Env) (t : Env → Option Bool) (f : Env → Option D) : List D → Option (List D)
  | [] => some []
  | d :: r => (b d ρ0).bind fun ρ1 => (t ρ1).bind fun k => if k = true then (f ρ1).bind fun e => (lcD ρ0 b t f r).bind fun es => some (e :: es) else lcD ρ0 b t f r
def cLc (vs : List Nat) (it : Env → Option (List D)) (b : D → Env → Option Env) (t : Env → Option Bool) (f : Env → Option D) : Env → Option D := fun ρ => (it ρ).bind fun ds => (lcD (wipeE ρ vs) b t f ds).bind fun es => if es.length ≤ 1000 then some (.list es) else none
theorem ext_step {F F2 H Hc H' : Hp} (i : Same F2 (ext F H Hc)) (s : Same H Hc) (s2 : Same Hc H') : Same (ext F2 Hc H') (ext F H H') := fun a o e => by
  unfold ext at e ⊢
  cases q : Hc a with
  | some u =>
    simp [q] at e
    have e2 := i a o e
    unfold ext at e2
    cases q2 : H a with
    | some w => simpa [q2] using e2
    | none =>
      simp [q2] at e2
      simpa using s2 a o e2
  | none =>
    simp [q] at e
    cases q2 : H a with
    | some w =>
      have := s a w q2
      rw [q] at this
      cases this
    | none => simpa using e
theorem ext_put {F F2 H Hc : Hp} {D : Addr} {o : HO} (i : Same F2 (ext F H Hc)) (hD : F2 D = none) : Same F2 (ext F H (upd Hc D o)) := fun a u e => by
  have n : a ≠ D := fun q => by
    rw [q, hD] at e
    cases e
  have := i a u e
  unfold ext at this ⊢
  rw [upd_ne n]
  exact this
theorem ext_none {F2 Hc H' : Hp} {D : Addr} {o : HO} (h : F2 D = none) (hc : Hc D = some o) : ext F2 Hc H' D = none := by
  unfold ext
  simp [hc, h]
theorem lc_in {K : PySem.W.Frag} {z : Z} {vs : List Nat} {it : Env → Option (List D)} {b : D → Env → Option Env} {t : Env → Option Bool} {f : Env → Option D} {σ : L2.St} {H : Hp} {Q : VK} (h : tP K z (cLc vs it b t f) σ H Q) :
    tLc (tIP K z it) (tG K z (ofJ vs) b) (tB K z t) (tP K z f) vs σ H Q := by
  obtain ⟨ρ, F, O, d, R, e, q⟩ := h
  obtain ⟨ds, h1, e⟩ := bind_some e
  obtain ⟨es, h2, e⟩ := bind_some e
  split at e
  · next hl =>
    cases e
    refine ⟨ρ, F, O, ds, R, h1, fun J H1 s1 y D hD => ?_⟩
    have R1 := (R.grow s1).wipe vs
    have hD0 : H D = none := by
      cases q2 : H D with
      | none => rfl
      | some o =>
        rw [s1 _ _ q2] at hD
        cases hD
    have hDO : ∀ i, D ∉ O i := fun i hi => (R.off i D hi).2 hD0
    have hDz := H0_of R hD0
    have hDF : ext F H H1 D = none := (R.grow s1).sub.free hD
    refine ⟨fun i m Hc => m = ds.length - i ∧ i ≤ ds.length ∧ ∃ F2 acc vacc rest, Rel K z (wipeE ρ vs) (wipe σ vs) F2 Hc O ∧ Same (ext F H H1) F2 ∧ Same F2 (ext F H Hc) ∧ Same H1 Hc ∧ F2 D = none ∧ Hc D = some (.lst vacc) ∧ RepL K F2 vacc acc ∧ lcD (wipeE ρ vs) b t f (ds.drop i) = some rest ∧ acc ++ rest = es,
      ⟨ds.length, by simp, Nat.zero_le _, _, [], [], es, R1.other hDF hDO hDz, Same.refl _, ext_put (Same.refl _) hDF, same_new hD, hDF, upd_same, .nil, h2, rfl⟩, ?_⟩
    rintro i m Hc ⟨rfl, hi, F2, acc, vacc, rest, R2, sF, sE, sH, hF2, hDc, ra, hr, hes⟩
    by_cases hlt : i < ds.length
    · have ed : ds.drop i = ds[i] :: ds.drop (i + 1) := by rw [List.drop_eq_getElem_cons hlt]
      rw [ed] at hr
      obtain ⟨ρ3, e3, hr⟩ := bind_some hr
      obtain ⟨k, e4, hr⟩ := bind_some hr
      have sY : Same (ext F H H1) Hc := sF.trans R2.sub
      refine .inr ⟨y.go i Hc sY hlt, fun Hc => ∃ F2 acc vacc rest, Rel K z (wipeE ρ vs) (wipe σ vs) F2 Hc O ∧ Same (ext F H H1) F2 ∧ Same F2 (ext F H Hc) ∧ Same H1 Hc ∧ F2 D = none ∧ Hc D = some (.lst vacc) ∧ RepL K F2 vacc acc ∧ lcD (wipeE ρ vs) b t f (ds.drop (i + 1)) = some rest ∧ acc ++ rest = es, fun H' n => ⟨ds.length - (i + 1), by omega, rfl, by omega, n⟩, fun x H' yx => ?_⟩
      obtain ⟨sx, rx⟩ := y.yld i F2 Hc x H' _ sF R2.sub R2.tup yx (List.getElem?_eq_getElem hlt)
      have R3 := R2.grow sx
      refine ⟨_, _, O, _, ρ3, R3, rx, e3, fun σ5 O5 R5 st => ⟨?_, ?_⟩⟩
      · rw [st.wp vs fun j hj => ofJ_mem hj, wipe_idem]
      refine ⟨ρ3, _, O5, k, R5, e4, fun H6 s6 => ?_⟩
      have sH0 : Same H Hc := s1.trans sH
      cases k with
      | true =>
        rw [if_pos rfl] at hr
        obtain ⟨ev, e5, hr⟩ := bind_some hr
        obtain ⟨rest', e6, hr⟩ := bind_some hr
        cases hr
        refine ⟨ρ3, _, O5, ev, R5.grow s6, e5, fun yv H7 s7 r7 => ?_⟩
        have s67 := s6.trans s7
        have sx7 := sx.trans s67
        rw [ext_ext s6 s7, ext_ext sx s67] at r7
        have R7 := R2.grow sx7
        have hF7 : ext F2 Hc H7 D = none := ext_none hF2 hDc
        have e7 : H7 D = some (.lst vacc) := sx7 _ _ hDc
        have ra' : RepL K (ext F2 Hc H7) vacc acc := ra.mono (same_ext R2.sub)
        refine ⟨vacc, e7, ?_, ext F2 Hc H7, acc ++ [ev], vacc ++ [yv], rest', R7.other hF7 hDO hDz, sF.trans (same_ext R2.sub), ext_put (ext_step sE sH0 sx7) hF7, ?_, hF7, upd_same, ra'.append (.cons r7 .nil), e6, by rw [List.append_assoc]; exact hes⟩
        · have l1 := ra.length
          have l2 : acc.length ≤ es.length := by rw [← hes, List.length_append]; omega
          have := small1000 hl
          omega
        · intro a o ea
          have n : a ≠ D := fun q => by
            rw [q, hD] at ea
            cases ea
          rw [upd_ne n]
          exact sx7 _ _ (sH _ _ ea)
      | false =>
        rw [if_neg Bool.false_ne_true] at hr
        have sx6 := sx.trans s6
        exact ⟨ext F2 Hc H6, acc, vacc, rest, R2.grow sx6, sF.trans (same_ext R2.sub), ext_step sE sH0 sx6, sH.trans sx6, ext_none hF2 hDc, sx6 _ _ hDc, ra.mono (same_ext R2.sub), hr, hes⟩
    · have ei : i = ds.length := by omega
      subst ei
      rw [List.drop_length] at hr
      cases hr
      rw [List.append_nil] at hes
      subst hes
      refine .inl ⟨y.stop _ Hc (sF.trans R2.sub) rfl, q _ Hc (s1.trans sH) (.lst (.of ?_) (ra.mono sE))⟩
      unfold ext
      simp [hD0, hDc]
  · cases e
end DL
namespace DL
open PySem PySem.Spec PyProof.Rows L2
section
variable {X : Cx} {z : Z} {elt tg iter : Expr} {ifs : List Expr} {scope : Scope} {own : List (Str × Nat)} {pos : Pos} {b : D → Env → Option Env}
abbrev blkE (X : Cx) (scope : Scope) (s : Shared) (H : Hp) (C : Addr) (cl : List (Str × Addr)) (fp : List Addr) : Cx := X.blk s H scope (compEnvC scope cl C X.env) fp
theorem tP_of_lf {K : PySem.W.Frag} {f : Env → Option D} {σ : L2.St} {H : Hp} {Q : VK} (h : tR K z (lf f) σ H Q) : tP K z f σ H Q := by
  obtain ⟨ρ, F, O, d, ρ', R, e, q⟩ := h
  obtain ⟨a, h1, h2⟩ := map_some e
  cases h2
  exact ⟨ρ, F, O, _, R, h1, fun v H' s r => q v _ H' (R.grow s) (.of_same R.sub s) r⟩
theorem asg_val {K : PySem.W.Frag} {i : Nat} {f : Env → Option (D × Env)} {D : Ends} {σ : L2.St} {H : Hp} (h : tS K z (gAsg f (bNm i)) D σ H) : tR K z f σ H fun x H1 => D.nx (σ.set i (some x)) H1 := by
  obtain ⟨ρ, F, O, fl, ρ', R, e, q⟩ := h
  obtain ⟨⟨d, ρ1⟩, h1, h2⟩ := bind_some e
  cases h2
  exact ⟨ρ, F, O, d, ρ1, R, h1, fun v F' H' R' k r => q _ _ _ _ (R'.setD r) k.same⟩
theorem q_lc {it : Env → Option (List D)} {t : Env → Option Bool} {f : Env → Option D} (hc : X.calm = true) (hN : X.N.Nodup) (ok : BlkOk X.N X.env.scope scope own) (hi : PI X tg iter (tIP X.K z it))
    (hg : ∀ s H C cl fp, PG (blkE X scope s H C cl fp) tg (tG X.K z (ofJ (own.map (·.2))) b)) (ht : ∀ s H C cl fp, PTs (blkE X scope s H C cl fp) ifs (tB X.K z t))
    (he : ∀ s H C cl fp, PE (blkE X scope s H C cl fp) elt (tP X.K z f)) (hs : ∀ x, foldedSetIterable iter X.env x = pure x := by intro _; rfl) :
    PE X (.ListComp elt [⟨tg, iter, ifs, 0⟩] scope pos) (tP X.K z (cLc (own.map (·.2)) it b t f)) := (pe_lc hc hN hi ok hg ht he hs).mono fun _ _ _ h => lc_in h
theorem s_lc (i : Nat) {y : Str} {py spos : Pos} {it : Env → Option (List D)} {t : Env → Option Bool} {f : Env → Option D} (hc : X.calm = true) (hN : X.N.Nodup) (ok : BlkOk X.N X.env.scope scope own)
    (hsw : swapsWith (.ListComp elt [⟨tg, iter, ifs, 0⟩] scope pos) (some (.Name y py)) spos.line X.env = pure true) (hi : PI X tg iter (tIP X.K z it))
    (hg : ∀ s H C cl fp, PG (blkE X scope s H C cl fp) tg (tG X.K z (ofJ (own.map (·.2))) b)) (ht : ∀ s H C cl fp, PTs (blkE X scope s H C cl fp) ifs (tB X.K z t))
    (he : ∀ s H C cl fp, PE (blkE X scope s H C cl fp) elt (tP X.K z f)) (hy : X.N[i]? = some y := by rfl) (hyl : X.env.scope.names.lookup y = some .local := by rfl) (hs : ∀ x, foldedSetIterable iter X.env x = pure x := by intro _; rfl) :
    PS X (.Assign [.Name y py] (.ListComp elt [⟨tg, iter, ifs, 0⟩] scope pos) spos) (tS X.K z (gAsg (lf (cLc (own.map (·.2)) it b t f)) (bNm i))) := (ps_setLc hc hN hy hyl hsw hi ok hg ht he hs).mono fun _ _ _ h => lc_in (tP_of_lf (asg_val h))
end
theorem Objs.append {K : PySem.W.Frag} {F H : Hp} {p : Addr} {d : D} (h : Obj1 K F H p d) : ∀ {ps : List Addr} {ds : List D}, Objs K F H ps ds → Objs K F H (ps ++ [p]) (ds ++ [d])
  | _, _, .nil => .cons h .nil
  | _, _, .cons h' t => .cons h' (Objs.append h t)
end DL
namespace DL
open PySem PySem.Spec PyProof.Rows L2
def spP (K : PySem.W.Frag) (m : List D → Option D) : Sp := fun vs H Q _ => ∃ F ds d, (Same F H ∧ AllT F H) ∧ RepL K F vs ds ∧ m ds = some d ∧ ∀ v H', Same H H' → Rep K (ext F H H') v d → Q v H'
/-- the first parameter a list that the def writes to -/
def spR (K : PySem.W.Frag) (m : List D → List D → Option (D × List D)) : Sp := fun vs H Q _ => ∃ F p ws ds vs' as d ds', vs = .ref p :: vs' ∧ (Same F H ∧ AllT F H) ∧ F p = none ∧ H p = some (.lst ws) ∧ RepL K F ws ds ∧ RepL K F vs' as ∧ m ds as = some (d, ds') ∧
  ∀ v H' ws', (∀ a o, a ≠ p → H a = some o → H' a = some o) → H' p = some (.lst ws') → RepL K (ext F H H') ws' ds' → Rep K (ext F H H') v d → Q v H'
def fin : Fl × Env → Option D
  | (.ret d, _) => some d
  | (.nx, _) => some .none
  | _ => none
def ini (N : Nat) (ds : List D) : Env := ds.map (fun d => some (.sh d)) ++ List.replicate (N - ds.length) none
def run (N n : Nat) (g : Gs) : List D → Option D := fun ds => if ds.length = n then (g (ini N ds)).bind fin else none
def rowL (e : Option (Option E)) : Option (List D) := match e with
  | some (some (.row (.list ds))) => some ds
  | _ => none
def runR (N n : Nat) (g : Gs) : List D → List D → Option (D × List D) := fun ds as => if as.length + 1 = n then (g (some (.row (.list ds)) :: ini (N - 1) as)).bind fun p => (fin p).bind fun d => (rowL p.2[0]?).bind fun ds' => some (d, ds') else none
section
variable {P : Program} {w : World} {K : PySem.W.Frag} {mg : Str → Option Value} {base : Heap}
theorem ini_get {N : Nat} {ds : List D} {i : Nat} {e : E} (h : (ini N ds)[i]? = some (some e)) : ∃ d, ds[i]? = some d ∧ e = .sh d := by
  unfold ini at h
  by_cases q : i < ds.length
  · rw [List.getElem?_append_left (by rw [List.length_map]; exact q), List.getElem?_map] at h
    obtain ⟨d, h1, h2⟩ := map_some h
    cases h2
    exact ⟨d, h1, rfl⟩
  · rw [List.getElem?_append_right (by rw [List.length_map]; omega), List.getElem?_replicate] at h
    split at h <;> cases h
theorem start_get {N : List Str} {vs : List V} {i : Nat} {v : V} (h : vs[i]? = some v) : (L2.start N vs)[i]? = some (some v) := by
  unfold L2.start
  have hl := (List.getElem?_eq_some_iff.mp h).1
  rw [List.getElem?_append_left (by rw [List.length_map]; exact hl), List.getElem?_map, h]
  rfl
theorem rel_start {c : Addr} {l : List Addr} {xx : Zx} {N : List Str} {F H : Hp} {vs : List V} {ds : List D} (s : Same F H) (t : AllT F H) (r : RepL K F vs ds) : Rel K ⟨H, F, fun _ => False, c, l, xx⟩ (ini N.length ds) (L2.start N vs) F H (fun _ => []) where
  len := by
    unfold ini L2.start
    rw [List.length_append, List.length_append, List.length_map, List.length_map, r.length, List.length_replicate, List.length_replicate]
  sub := s
  ent := fun i e h => by
    obtain ⟨d, h1, h2⟩ := ini_get h
    subst h2
    obtain ⟨v, h3, h4⟩ := r.get h1
    exact ⟨v, start_get h3, rfl, h4⟩
  off := fun i a ha => by cases ha
  apt := fun i j a ha => by cases ha
  old := fun a _ f => f
  oldH := fun a h => h
  keep := fun a o h _ => h
  f0 := Same.refl _
  tup := t
theorem end_sub {c : Addr} {l : List Addr} {xx : Zx} {F H F' H' : Hp} {B : Addr → Prop} {ρ : Env} {σ : L2.St} {O : Nat → List Addr} (s : Same F H) (R : Rel K ⟨H, F, B, c, l, xx⟩ ρ σ F' H' O) : Same F' (ext F H H') := fun a o e => by
  unfold ext
  cases q : H a with
  | none => simpa using R.sub a o e
  | some u =>
    cases q2 : F a with
    | none =>
      rw [R.old a (ne_none q) q2] at e
      cases e
    | some o2 =>
      have := R.f0 a o2 q2
      rw [e] at this
      cases this
      simp
theorem run_len {N n : Nat} {g : Gs} {ds : List D} {d : D} (h : run N n g ds = some d) : ds.length = n := by
  unfold run at h
  split at h
  · assumption
  · cases h
theorem ok_P {x qual : Str} {st : Stmt} {f : Addr} {fd : FuncData} {N ps : List Str} {k : Nat} {g : Gs} (F : Fun K x qual st f fd) (S : FnScope N ps (defScope st))
    (h : ∀ (cdv : Value) (A : Around) (outer : List PySem.Env) (s : Shared) (H : Hp) (E : XK) (z : Z), Room k (A.deeper (envOfC qual (defScope st) s.heap.objs.size f cdv)) → PSs (cxOf CX0 P w K mg base N qual (defScope st) f cdv A outer s H E).nox (defBody st) (tS K z g)) :
    FnOk P w K mg base CX0 (k + 1) f fd ps (spP K (run N.length ps.length g)) := by
  refine F.ok S (fun vs H Q E h => ?_) (fun cdv A outer s H vs Q E hr q => ?_)
  · obtain ⟨F, ds, d, _, r, e, _⟩ := h
    rw [r.length]
    exact run_len e
  · obtain ⟨F, ds, d, ⟨s0, t0⟩, r, e, q⟩ := q
    refine ⟨_, h cdv A outer s H E ⟨H, F, fun _ => False, 0, [], Zx.no⟩ hr, ?_⟩
    unfold run at e
    split at e
    · obtain ⟨⟨fl, ρ'⟩, h1, h2⟩ := bind_some e
      refine ⟨_, F, _, fl, ρ', rel_start s0 t0 r, h1, ?_⟩
      cases fl with
      | nx =>
        cases h2
        exact fun σ F' H' O R s => q .non H' (fun a o h => R.keep a o h id) .non
      | bk => cases h2
      | ct => cases h2
      | ret d2 =>
        cases h2
        exact fun v σ F' H' O R s r => q v H' (fun a o h => R.keep a o h id) (r.mono (end_sub s0 R))
    · cases e
theorem rel_startR {N : List Str} {F H : Hp} {p : Addr} {ws vs : List V} {ds as : List D} (hN : 0 < N.length) (s : Same F H) (t : AllT F H) (hF : F p = none) (hp : H p = some (.lst ws)) (rw' : RepL K F ws ds) (r : RepL K F vs as) : Rel K ⟨H, F, fun a => a = p, 0, [], Zx.no⟩ (some (.row (.list ds)) :: ini (N.length - 1) as) (L2.start N (.ref p :: vs)) F H (fun i => if i = 0 then [p] else []) where
  len := by
    unfold ini L2.start
    simp only [List.length_append, List.length_map, List.length_replicate, List.length_cons, r.length]
    omega
  sub := s
  ent := fun i e h => by
    cases i with
    | zero =>
      cases h
      exact ⟨.ref p, rfl, p, rfl, rfl, rfl, ws, hp, rw'⟩
    | succ i =>
      have h : (ini (N.length - 1) as)[i]? = some (some e) := h
      obtain ⟨d, h1, h2⟩ := ini_get h
      subst h2
      obtain ⟨v, h3, h4⟩ := r.get h1
      exact ⟨v, start_get (by simpa using h3), rfl, h4⟩
  off := fun i a ha => by
    split at ha
    · rcases List.mem_cons.mp ha with e | e
      · subst e
        exact ⟨hF, ne_none hp⟩
      · cases e
    · cases ha
  apt := fun i j a hi hj => by
    split at hi
    · split at hj
      · omega
      · cases hj
    · cases hi
  old := fun a _ f => f
  oldH := fun a h => h
  keep := fun a o h _ => h
  f0 := Same.refl _
  tup := t
theorem runR_len {N n : Nat} {g : Gs} {ds as : List D} {r : D × List D} (h : runR N n g ds as = some r) : as.length + 1 = n := by
  unfold runR at h
  split at h
  · assumption
  · cases h
theorem ok_R {x qual : Str} {st : Stmt} {f : Addr} {fd : FuncData} {N ps : List Str} {k : Nat} {g : Gs} (F : Fun K x qual st f fd) (S : FnScope N ps (defScope st)) (hN : 0 < N.length)
    (h : ∀ (cdv : Value) (A : Around) (outer : List PySem.Env) (s : Shared) (H : Hp) (E : XK) (z : Z), Room k (A.deeper (envOfC qual (defScope st) s.heap.objs.size f cdv)) → PSs (cxOf CX0 P w K mg base N qual (defScope st) f cdv A outer s H E).nox (defBody st) (tS K z g)) :
    FnOk P w K mg base CX0 (k + 1) f fd ps (spR K (runR N.length ps.length g)) := by
  refine F.ok S (fun vs H Q E h => ?_) (fun cdv A outer s H vs Q E hr q => ?_)
  · obtain ⟨F, p, ws, ds, vs', as, d, ds', e1, _, _, _, _, r, e, _⟩ := h
    rw [e1, List.length_cons, r.length]
    exact runR_len e
  · obtain ⟨F, p, ws, ds, vs', as, d, ds', e1, ⟨s0, t0⟩, hF, hp, rw', r, e, q⟩ := q
    subst e1
    refine ⟨_, h cdv A outer s H E ⟨H, F, fun a => a = p, 0, [], Zx.no⟩ hr, ?_⟩
    unfold runR at e
    split at e
    · obtain ⟨⟨fl, ρ'⟩, h1, e⟩ := bind_some e
      obtain ⟨d', h2, e⟩ := bind_some e
      obtain ⟨ds2, h3, e⟩ := bind_some e
      cases e
      refine ⟨_, F, _, fl, ρ', rel_startR hN s0 t0 hF hp rw' r, h1, ?_⟩
      have go : ∀ {v : V} {σ : L2.St} {F' H' : Hp} {O : Nat → List Addr}, Rel K ⟨H, F, fun a => a = p, 0, [], Zx.no⟩ ρ' σ F' H' O → Rep K F' v d → Q v H' := fun {v σ F' H' O} R rv => by
        dsimp only at h3
        unfold rowL at h3
        split at h3
        · next hi =>
          cases h3
          obtain ⟨v2, _, p2, _, _, e3, ws', h4, h5⟩ := R.ent 0 _ hi
          have e3 : p2 = p := e3
          subst e3
          exact q v H' ws' (fun a o n ha => R.keep a o ha n) h4 (h5.mono (end_sub s0 R)) (rv.mono (end_sub s0 R))
        · cases h3
      cases fl with
      | nx =>
        cases h2
        exact fun σ F' H' O R s => go R .non
      | bk => cases h2
      | ct => cases h2
      | ret d2 =>
        cases h2
        exact fun v σ F' H' O R s r => go R r
    · cases e
/-- a def that may be called by its name -/
structure Cal (P : Program) (w : World) (K : PySem.W.Frag) (mg : Str → Option Value) (base : Heap) (k : Nat) (x : Str) (sp : Sp) : Prop where
  ex : ∃ (f : Addr) (fd : FuncData) (ps : List Str), FnOk P w K mg base CX0 k f fd ps sp ∧ mg x = some (.ref f) ∧ PySem.W.keepIn K (.ref f) = true ∧ Binds K fd ps []
theorem Cal.mono {j k : Nat} {x : Str} {sp : Sp} (c : Cal P w K mg base j x sp) (h : j ≤ k) : Cal P w K mg base k x sp := by
  obtain ⟨f, fd, ps, F, h1, h2, h3⟩ := c.ex
  exact ⟨f, fd, ps, F.mono h, h1, h2, h3⟩
end
section
variable {X : Cx} {z : Z} {x : Str} {k j : Nat} {p pos : Pos} {e : Expr} {es : List Expr}
theorem q_call {m : List D → Option D} {f : Env → Option (List D)} (c : Cal X.prog X.w X.K X.mg X.base k x (spP X.K m)) (hr : Room j X.A) (hk : k ≤ j) (hg : Gl X x) (ha : PA X (e :: es) (tPs X.K z f))
    (hdb : (x == ("__debug__" : Str)) = false := by decide) (he : starEach (e :: es) X.env = (false, eval e X.env) :: starEach es X.env := by rfl) (hpl : (backTo pos (starEach es X.env)).any (·.1) = false := by rfl) : PE X (.Call (.Name x p) (e :: es) [] pos) (tP X.K z (cN m f)) := by
  obtain ⟨g, fd, ps, F, h1, h2, h3⟩ := c.ex
  refine (pe_call (dvs := []) F (hr.mono hk) hg h1 h2 h3 .nil pass0 ha hdb he hpl).mono fun σ H Q ⟨ρ, F, O, d, R, e, q⟩ => ?_
  obtain ⟨ds, h4, h5⟩ := bind_some e
  refine ⟨ρ, F, O, ds, R, h4, fun vs H1 s1 r => ?_⟩
  show spP X.K m (vs ++ []) H1 Q E0
  rw [List.append_nil]
  refine ⟨_, ds, d, ⟨(R.grow s1).sub, (R.grow s1).tup⟩, r, h5, fun v H2 s2 r2 => ?_⟩
  rw [ext_ext s1 s2] at r2
  exact q v H2 (s1.trans s2) r2
def rRow (i : Nat) (m : List D → List D → Option (D × List D)) (f : Env → Option (List D × Env)) : Env → Option (D × Env) := fun ρ => (ownL ρ[i]?).bind fun _ => (f ρ).bind fun p => (ownL p.2[i]?).bind fun ds => (m ds p.1).bind fun q => some (q.1, putL i q.2 p.2)
theorem Rel.rowed {K : PySem.W.Frag} {ρ : Env} {σ : L2.St} {F H H' : Hp} {O : Nat → List Addr} {i : Nat} {ds ds' : List D} {p : Addr} {ws' : List V} (R : Rel K z ρ σ F H O) (h : ownL ρ[i]? = some ds) (hp : σ[i]? = some (some (.ref p))) (hk : ∀ a o, a ≠ p → H a = some o → H' a = some o) (hp' : H' p = some (.lst ws')) (r : RepL K (ext F H H') ws' ds') :
    Rel K z (DL.putL i ds' ρ) σ (ext F H H') H' O ∧ Kp F H (ext F H H') H' O := by
  obtain ⟨p', vs, s1, s2, s3, s4, s5, s6⟩ := ownL_of R h
  rw [s1] at hp
  cases hp
  have hm : p ∈ O i := by rw [s2]; exact List.mem_cons_self
  have eH : ∃ H1 : Hp, H1 = fun a => if a = p then H p else H' a := ⟨_, rfl⟩
  obtain ⟨H1, e1⟩ := eH
  have s01 : Same H H1 := fun a o ha => by
    rw [e1]
    dsimp only
    split
    · next q => rw [← q]; exact ha
    · next q => exact hk a o q ha
  have eF : ext F H H1 = ext F H H' := by
    funext a
    unfold ext
    cases q : H a with
    | some o => simp
    | none =>
      have n : a ≠ p := fun e => by
        rw [e, s3] at q
        cases q
      simp [e1, n]
  have R1 := R.grow s01
  rw [eF] at R1
  have R2 := R1.putL h s1 r
  have e2 : upd H1 p (.lst ws') = H' := by
    funext a
    by_cases q : a = p
    · rw [q, upd_same, hp']
    · rw [upd_ne q, e1]
      dsimp only
      rw [if_neg q]
  rw [e2] at R2
  refine ⟨R2, ⟨same_ext R.sub, fun a o ha n => hk a o (fun q => n i (by rw [q]; exact hm)) ha, fun a ha hF => ?_, fun a ha => ?_⟩⟩
  · obtain ⟨o, q⟩ := some_of ha
    unfold ext
    simp [q, hF]
  · obtain ⟨o, q⟩ := some_of ha
    by_cases n : a = p
    · rw [n]
      exact ne_none hp'
    · exact ne_none (hk a o n q)
theorem r_row (i : Nat) {y : Str} {py : Pos} {m : List D → List D → Option (D × List D)} {f : Env → Option (List D × Env)} (c : Cal X.prog X.w X.K X.mg X.base k x (spR X.K m)) (hr : Room j X.A) (hk : k ≤ j) (hg : Gl X x) (ha : PA X es (tRs X.K z f)) (hN : X.N[i]? = some y := by rfl)
    (hv : Vis X.env.scope y := by first | exact Or.inl rfl | exact Or.inr (Or.inl rfl) | exact Or.inr (Or.inr rfl)) (hd : (y == ("__debug__" : Str)) = false := by decide) (hcd : (y == ("__classdict__" : Str)) = false := by decide)
    (hdb : (x == ("__debug__" : Str)) = false := by decide) (he : starEach (.Name y py :: es) X.env = (false, eval (.Name y py) X.env) :: starEach es X.env := by rfl) (hpl : (backTo pos (starEach es X.env)).any (·.1) = false := by rfl) : PE X (.Call (.Name x p) (.Name y py :: es) [] pos) (tR X.K z (rRow i m f)) := by
  obtain ⟨g, fd, ps, F, h1, h2, h3⟩ := c.ex
  refine (pe_call (dvs := []) F (hr.mono hk) hg h1 h2 h3 .nil pass0 (pa_cons (pe_var hN hv hd hcd) ha he) hdb he hpl).mono fun σ H Q ⟨ρ, F, O, d, ρ', R, e, q⟩ => ?_
  obtain ⟨d0, h0, e⟩ := bind_some e
  obtain ⟨⟨as, ρ1⟩, h4, e⟩ := bind_some e
  obtain ⟨ds, h5, e⟩ := bind_some e
  obtain ⟨⟨d2, ds'⟩, h6, e⟩ := bind_some e
  cases e
  obtain ⟨p, vs0, s1, _⟩ := ownL_of R h0
  refine ⟨_, s1, ρ, F, O, as, ρ1, R, h4, fun vs F1 H1 R1 k1 r => ?_⟩
  obtain ⟨p', ws, t1, t2, t3, t4, t5, _⟩ := ownL_of R1 h5
  have e1 := s1.symm.trans t1
  cases e1
  show spR X.K m ((.ref p :: vs) ++ []) H1 Q E0
  rw [List.append_nil]
  have hm : p ∈ O i := by rw [t2]; exact List.mem_cons_self
  refine ⟨F1, p, ws, ds, vs, as, _, ds', rfl, ⟨R1.sub, R1.tup⟩, (R1.off i p hm).1, t3, t4, r, h6, fun v H2 ws' kp hp' r' rv => ?_⟩
  obtain ⟨R2, k2⟩ := R1.rowed h5 s1 kp hp' r'
  exact q v _ H2 R2 (k1.trans k2) rv
end
end DL
namespace DL
open PySem PySem.Spec PyProof.Rows L2
def insS (x : Int) : List Int → List Int
  | [] => [x]
  | y :: r => if x < y then x :: y :: r else if x = y then y :: r else y :: insS x r
def sset : List Int → List Int
  | [] => []
  | x :: r => insS x (sset r)
theorem insS_mem {x k : Int} : ∀ {l : List Int}, k ∈ insS x l ↔ k = x ∨ k ∈ l
  | [] => by simp [insS]
  | y :: r => by
    unfold insS
    split
    · simp
    · split
      · next h =>
        subst h
        simp
      · rw [List.mem_cons, insS_mem, List.mem_cons]
        constructor
        · rintro (h | h | h)
          · exact .inr (.inl h)
          · exact .inl h
          · exact .inr (.inr h)
        · rintro (h | h | h)
          · exact .inr (.inl h)
          · exact .inl h
          · exact .inr (.inr h)
theorem sset_mem {k : Int} : ∀ {l : List Int}, k ∈ sset l ↔ k ∈ l
  | [] => Iff.rfl
  | x :: r => by
    unfold sset
    rw [insS_mem, sset_mem, List.mem_cons]
theorem insS_pw {x : Int} : ∀ {l : List Int}, l.Pairwise (· < ·) → (insS x l).Pairwise (· < ·)
  | [], _ => by simp [insS]
  | y :: r, h => by
    obtain ⟨h1, h2⟩ := List.pairwise_cons.mp h
    unfold insS
    split
    · next q =>
      refine List.pairwise_cons.mpr ⟨fun a ha => ?_, h⟩
      rcases List.mem_cons.mp ha with e | e
      · subst e
        exact q
      · have := h1 a e
        omega
    · split
      · exact h
      · refine List.pairwise_cons.mpr ⟨fun a ha => ?_, insS_pw h2⟩
        rcases insS_mem.mp ha with e | e
        · subst e
          omega
        · exact h1 a e
theorem sset_pw : ∀ l : List Int, (sset l).Pairwise (· < ·)
  | [] => .nil
  | x :: r => insS_pw (sset_pw r)
theorem pw_unique : ∀ {a b : List Int}, a.Pairwise (· < ·) → b.Pairwise (· < ·) → (∀ k, k ∈ a ↔ k ∈ b) → a = b
  | [], [], _, _, _ => rfl
  | [], y :: r, _, _, h => absurd ((h y).mpr List.mem_cons_self) (by simp)
  | x :: r, [], _, _, h => absurd ((h x).mp List.mem_cons_self) (by simp)
  | x :: r, y :: q, ha, hb, h => by
    obtain ⟨a1, a2⟩ := List.pairwise_cons.mp ha
    obtain ⟨b1, b2⟩ := List.pairwise_cons.mp hb
    have e : x = y := by
      have hx := (h x).mp List.mem_cons_self
      have hy := (h y).mpr List.mem_cons_self
      rcases List.mem_cons.mp hx with e | e
      · exact e
      · rcases List.mem_cons.mp hy with e2 | e2
        · exact e2.symm
        · have := b1 x e
          have := a1 y e2
          omega
    subst e
    rw [pw_unique a2 b2 fun k => ?_]
    constructor
    · intro hk
      rcases List.mem_cons.mp ((h k).mp (List.mem_cons_of_mem _ hk)) with e | e
      · have := a1 k hk
        omega
      · exact e
    · intro hk
      rcases List.mem_cons.mp ((h k).mpr (List.mem_cons_of_mem _ hk)) with e | e
      · have := b1 k hk
        omega
      · exact e
theorem bt_len : bootBuiltins "len" = some (.builtin "len") := by decide +kernel
theorem bt_abs : bootBuiltins "abs" = some (.builtin "abs") := by decide +kernel
theorem bt_sum : bootBuiltins "sum" = some (.builtin "sum") := by decide +kernel
theorem bt_sorted : bootBuiltins "sorted" = some (.builtin "sorted") := by decide +kernel
theorem bt_isinstance : bootBuiltins "isinstance" = some (.builtin "isinstance") := by decide +kernel
theorem bt_int : bootBuiltins "int" = some (.type "int") := by decide +kernel
theorem bt_list : bootBuiltins "list" = some (.type "list") := by decide +kernel
theorem bt_tuple : bootBuiltins "tuple" = some (.type "tuple") := by decide +kernel
theorem bt_set : bootBuiltins "set" = some (.type "set") := by decide +kernel
theorem bt_bool : bootBuiltins "bool" = some (.type "bool") := by decide +kernel
def oSSet : D → Option D
  | .tuple ds => (intsOf ds).bind fun ns => if ns.length < 64 then some (.list ((sset ns).map .int)) else none
  | _ => none
section
variable {X : Cx} {z : Z}
def rSetTI (K : PySem.W.Frag) (w : World) : List V → Hp → VK → Prop := fun vs H Q => ∃ (l : Addr) (ns : List Int), vs = [V.ref l] ∧ SqT K H l (ns.map V.int) ∧ ns.length ≤ 4000 ∧ ∀ p c, c ≤ ns.length → H p = none → Q (.ref p) (upd H p (SetO w p (fun j => decide (j ∈ ns)) c))
theorem cr_setTI (hc : X.calm = true) : CallR X (.type "set") (rSetTI X.K X.w) := by
  intro pins s σ H xs us Q I r h
  obtain ⟨l, ns, rfl, hq, hl, q⟩ := h
  rw [Vals.ref1 r]
  obtain ⟨its, rv, pl, hz⟩ := I.tuple hq
  refine call_set_tupI (P := X.prog) ns (I.ok.hd hc) pl (by simpa using rv.ints) (by unfold scanBound; omega) fun h' tk c R hc' k => ?_
  have hn : H s.heap.objs.size = none := I.hok.fresh (Nat.le_refl _)
  exact ⟨.ref _, upd H s.heap.objs.size (SetO X.w s.heap.objs.size (fun j => decide (j ∈ ns)) c), I.laid (t' := tk) k (Nat.le_refl _) (setO_new R), rfl, q _ c hc' hn⟩
theorem q_sset {a : Expr} {f : Env → Option D} {p p2 q pos : Pos} (hc : X.calm = true) (hg : Gl X "sorted") (hm : X.mg "sorted" = none) (hg2 : Gl X "set") (hm2 : X.mg "set" = none) (ha : PE X a (tP X.K z f))
    (na : starEach [a] X.env = (false, eval a X.env) :: starEach [] X.env := by rfl) (nb : starEach [.Call (.Name "set" p2) [a] [] q] X.env = (false, eval (.Call (.Name "set" p2) [a] [] q) X.env) :: starEach [] X.env := by rfl) : PE X (.Call (.Name "sorted" p) [.Call (.Name "set" p2) [a] [] q] [] pos) (tP X.K z (c1 oSSet f)) :=
  (pe_callB (cr_sortedSet hc) hg hm bt_sorted (pa_cons (pe_callTy (cr_setTI hc) hg2 hm2 bt_set (pa_cons ha pa_nil na) (by decide) (by decide) na) pa_nil nb) (by decide) (by decide) nb).mono fun σ H Q ⟨ρ, F, O, d, R, e, q⟩ => by
    obtain ⟨d1, h1, h2⟩ := bind_some e
    unfold oSSet at h2
    split at h2
    · obtain ⟨ns, h3, h2⟩ := bind_some h2
      split at h2
      · next hl =>
        cases h2
        have e3 := intsOf_eq h3
        subst e3
        refine ⟨ρ, F, O, _, R, h1, fun v H1 s1 r1 => ?_⟩
        cases r1 with
        | tup ht t =>
          have et := t.ints
          subst et
          refine ⟨_, ns, rfl, sameT (R.grow s1).sub (sqT_of ht), by omega, fun p2 c hc hp2 => ⟨p2, _, c, rfl, upd_same, by omega, fun ms p3 hpw hmem hlen hp3 => ?_⟩⟩
          have s2 : Same H1 (upd (upd H1 p2 (SetO X.w p2 (fun j => decide (j ∈ ns)) c)) p3 (.lst (ms.map V.int))) := (same_new hp2).trans (same_new hp3)
          refine q _ _ (s1.trans s2) ?_
          have em : ms = sset ns := pw_unique hpw (sset_pw ns) fun k => by
            rw [hmem, sset_mem, decide_eq_true_eq]
          subst em
          have hH : H p3 = none := by
            cases q4 : H p3 with
            | none => rfl
            | some o =>
              rw [(s1.trans (same_new hp2)) _ _ q4] at hp3
              cases hp3
          refine .lst (.of ?_) (DpAll.of_ints _)
          unfold ext
          simp [hH, upd_same]
      · cases h2
    · cases h2
end
end DL
namespace DL
open PySem PySem.Spec PyProof.Rows L2
theorem hu64 {A : Around} {k : Nat} (hr : Room k A) : A.units + 64 < cLine := hr.units
theorem hu65 {A : Around} {k : Nat} (hr : Room k A) : A.units + 65 < cLine := by
  have := hr.un
  omega
section
variable {X : Cx} {z : Z}
theorem q_ty (T : Ty) {x : Str} {pos : Pos} (hg : Gl X x) (hm : X.mg x = none) (hb : bootBuiltins x = some (.type T.name)) (hn : x ≠ "__name__" := by decide) (hd : (x == ("__debug__" : Str)) = false := by decide) : PE X (.Name x pos) (tC (.ty T.name)) := pe_bltn hg hm hb rfl hn hd
theorem q_glob {x : Str} {i : Int} {pos : Pos} (hg : Gl X x) (h : ∃ t, X.mg x = some (.int i t)) (hd : (x == ("__debug__" : Str)) = false := by decide) : PE X (.Name x pos) (tP X.K z (cK (.int i))) := by
  obtain ⟨t, h⟩ := h
  exact q_globI hg h ⟨t, rfl⟩ hd
/-- a, b = x, y through a tuple (a name of them a cell) -/
theorem s_tup2 (i j : Nat) {x y : Str} {a b : Expr} {px py pt pos : Pos} {kt k2 pt2} {f g : Env → Option (E × Env)} (hc : X.calm = true) (hN : X.N.Nodup) (ha : PE X a (tW X.K z f)) (hb : PE X b (tW X.K z g)) (hi : X.N[i]? = some x := by rfl) (hj : X.N[j]? = some y := by rfl)
    (hx : Loc X.env.scope x := by first | exact Or.inl rfl | exact Or.inr rfl) (hy : Loc X.env.scope y := by first | exact Or.inl rfl | exact Or.inr rfl) (hfx : X.fn x = true ∨ X.env.scope.names.lookup x = some .local := by first | exact .inl rfl | exact .inr rfl) (hfy : X.fn y = true ∨ X.env.scope.names.lookup y = some .local := by first | exact .inl rfl | exact .inr rfl)
    (ha1 : starEach [a, b] X.env = (false, eval a X.env) :: starEach [b] X.env := by rfl) (hb1 : starEach [b] X.env = (false, eval b X.env) :: starEach [] X.env := by rfl)
    (hn : (assignEach [.Name x px, .Name y py] X.env).length = 2 := by rfl) (hst : (assignEach [.Name x px, .Name y py] X.env).findIdx? (·.1) = none := by rfl)
    (hm1 : (assignEach [.Name x px, .Name y py] X.env).map (·.2) = assign (.Name x px) X.env :: (assignEach [.Name y py] X.env).map (·.2) := by rfl) (hm2 : (assignEach [.Name y py] X.env).map (·.2) = assign (.Name y py) X.env :: (assignEach [] X.env).map (·.2) := by rfl)
    (hw : swappedStores [.Tuple [.Name x px, .Name y py] kt pt] (.Tuple [a, b] k2 pt2) X.env = pure none := by rfl)
    (hs : swapsWithSole [.Tuple [.Name x px, .Name y py] kt pt] (.Tuple [a, b] k2 pt2) pos.line X.env = pure false := by rfl)
    (h1 : (assignEach [.Tuple [.Name x px, .Name y py] kt pt] X.env).map (·.2) = [assign (.Tuple [.Name x px, .Name y py] kt pt) X.env] := by rfl) :
    PS X (.Assign [.Tuple [.Name x px, .Name y py] kt pt] (.Tuple [a, b] k2 pt2) pos) (tS X.K z (gPar2 i j f g)) :=
  (ps_asg (pe_tup (pa_cons ha (pa_cons hb pa_nil hb1) ha1)) (pg_tup hc (pgs_cons (pg_name hN hi hx hfx) (pgs_cons (pg_name hN hj hy hfy) pgs_nil hm2) hm1) hn hst) hs hw h1).mono fun D σ H ⟨ρ, F, O, fl, ρ', R, e, q⟩ => by
    obtain ⟨⟨e1, ρ1⟩, h1, e⟩ := bind_some e
    obtain ⟨⟨e2, ρ2⟩, h2, e⟩ := map_some e
    cases e
    refine ⟨ρ, F, O, e1, ρ1, R, h1, fun v1 F1 H1 as1 R1 k1 n1 f1 => ⟨ρ1, F1, O, e2, ρ2, R1, h2, fun v2 F2 H2 as2 R2 k2 n2 f2 => ⟨le1000 (by show 2 ≤ 1000; decide), fun p hp => ?_⟩⟩⟩
    refine ⟨p, [v1, v2], rfl, .of upd_same, rfl, v1, [v2], rfl, v2, [], rfl, rfl, ?_⟩
    obtain ⟨n1', f1'⟩ := keepW R k2 n1 f1
    have R3 := setE_new (i := i) (fun i a ha => (R.off i a ha).2) R2 n1' f1'
    have R4 := R3.setE (i := j) n2 fun a ha => ⟨(f2 a ha).2.1, (f2 a ha).2.2, fun l _ hl => by
      unfold setO at hl
      split at hl
      · exact (f1 a hl).2.2 (f2 a ha).1
      · exact (R1.off l a hl).2 (f2 a ha).1⟩
    exact q _ _ _ _ (R4.newS hp) ((k1.same.trans k2.same).trans (same_new (R4.sub.free hp)))
end
section
variable {P : Program} {w : World} {K : PySem.W.Frag} {mg : Str → Option Value} {base : Heap}
theorem okP {x qual : Str} {st : Stmt} {f : Addr} {fd : FuncData} {N ps : List Str} {k : Nat} {g : Gs} (a b : Nat) (F : Fun K x qual st f fd) (S : FnScope N ps (defScope st)) (ha : N.length = a) (hb : ps.length = b)
    (h : ∀ (cdv : Value) (A : Around) (outer : List PySem.Env) (s : Shared) (H : Hp) (E : XK) (z : Z), Room k (A.deeper (envOfC qual (defScope st) s.heap.objs.size f cdv)) → PSs (cxOf CX0 P w K mg base N qual (defScope st) f cdv A outer s H E).nox (defBody st) (tS K z g)) :
    FnOk P w K mg base CX0 (k + 1) f fd ps (spP K (run a b g)) := by
  subst ha hb
  exact ok_P F S h
theorem okR {x qual : Str} {st : Stmt} {f : Addr} {fd : FuncData} {N ps : List Str} {k : Nat} {g : Gs} (a b : Nat) (F : Fun K x qual st f fd) (S : FnScope N ps (defScope st)) (ha : N.length = a) (hb : ps.length = b) (hN : 0 < a)
    (h : ∀ (cdv : Value) (A : Around) (outer : List PySem.Env) (s : Shared) (H : Hp) (E : XK) (z : Z), Room k (A.deeper (envOfC qual (defScope st) s.heap.objs.size f cdv)) → PSs (cxOf CX0 P w K mg base N qual (defScope st) f cdv A outer s H E).nox (defBody st) (tS K z g)) :
    FnOk P w K mg base CX0 (k + 1) f fd ps (spR K (runR a b g)) := by
  subst ha hb
  exact ok_R F S hN h
/-- the law's own promise -/
def spLaw (K : PySem.W.Frag) (n : Nat) : Sp := fun vs H Q _ => ∃ (a : Addr) (ns : List Int), vs = [.ref a] ∧ SqL K H a (ns.map V.int) ∧ ns.length ≤ n ∧ ∀ H', Q (.bl true) H'
theorem ok_law {k n : Nat} {f : Addr} {fd : FuncData} {ps : List Str} {m : List D → Option D} (F : FnOk P w K mg base CX0 k f fd ps (spP K m)) (h : ∀ ns : List Int, ns.length ≤ n → m [.list (ns.map .int)] = some (.bool true)) : FnOk P w K mg base CX0 k f fd ps (spLaw K n) :=
  F.imp fun vs H Q E ⟨a, ns, e, hS, hl, q⟩ => by
    subst e
    refine ⟨H, _, _, ⟨Same.refl _, AllT.refl _⟩, .cons (.lst hS (DpAll.of_ints ns)) .nil, h ns hl, fun v H' s r => ?_⟩
    cases r
    exact q H'
end
end DL
namespace DL
open PySem PySem.Spec PyProof.Rows L2
section
variable {prog : Program} {w : World} {A : Around} {E : Value → Shared → Prop} {s : Shared}
theorem gatherT {l : Addr} {vs : List Value} {Q : List Value → Shared → Prop} (hl : s.heap.IsTuple l vs.toArray) (hz : vs.length ≤ sizeLine)
    (q : Q vs { s with heap := (s.heap.push (seqObj "list" #[] 0)).update s.heap.objs.size (Obj.mapSeq (· ++ vs.toArray)) }) : wpAny (model prog w) A (collect (.ref l)) Q E s := by
  obtain ⟨o, ho, hc, n, hd⟩ := hl
  have new : (s.heap.push (seqObj "list" #[] 0)).get? s.heap.objs.size = some (seqObj "list" #[] 0) := Heap.get?_push_size _ rfl
  have old : (s.heap.push (seqObj "list" #[] 0)).get? l = some o := Heap.get?_push_of_some _ ho
  unfold collect
  refine wpAny_bind (wpAny_runValue (codeAny_builtin entry_proto_collect' (wpAny_bind (wpAny_newList (wpAny_pure ⟨Code.quiet_builtin _ (by decide +kernel), codeAny_builtin entry_list_iadd' ?_⟩)))))
  change wpAny _ _ (Builtin.List.listExtendWith (.ref s.heap.objs.size) (.ref l) (.ref s.heap.objs.size)) _ _ { s with heap := s.heap.push (seqObj "list" #[] 0) }
  unfold Builtin.List.listExtendWith
  refine wpAny_bind (wpAny_typeOf (T := "tuple") ⟨o, old, hc⟩ ?_)
  have tt : (Value.type "tuple" == Value.type "tuple") = true := rfl
  rw [if_pos (by rw [tt, Bool.or_true])]
  refine wpAny_bind (listItems_at old hd (wpAny_bind (listItems_at (xs := #[]) (n := 0) new rfl ?_)))
  rw [if_neg (by simp)]
  refine wpAny_bind (listUpdate_at (xs := #[]) (n := 0) new rfl (wpAny_pure ?_) (Nat.zero_le _) (by show (#[] ++ vs.toArray).size ≤ sizeLine + 1; simp only [Array.size_append, List.size_toArray, List.length_nil]; omega))
  change wpAny (model prog w) A (do let o ← load s.heap.objs.size; match o.data with | .seq xs _ => pure xs.toList | _ => unsupported "internal:collect") Q E { s with heap := (s.heap.push (seqObj "list" #[] 0)).update s.heap.objs.size (Obj.mapSeq (· ++ vs.toArray)) }
  refine wpAny_bind (wpAny_load (get?_update_seq new _) ?_)
  have e : ((#[] : Array Value) ++ vs.toArray).toList = vs := by simp
  change wpAny _ _ (pure ((#[] : Array Value) ++ vs.toArray).toList) Q E _
  rw [e]
  exact wpAny_pure q
theorem sortT {β : Type} {R : Value → β → Prop} {enc : β → PyData} {vs : List Value} {bs : List β} {l : Addr} {Q : Value → Shared → Prop} (hl : s.heap.IsTuple l vs.toArray) (e : PySem.W.EachIs R vs bs) (er : PySem.W.EachIs (fun v b => ∃ as, PySem.Reads s.heap v (enc b) as) vs bs)
    (hal : PySem.W.AllAlike (bs.map enc)) (hk : PySem.W.Sortable (bs.map enc)) (hL : bs.length ≤ sizeLine) (hu : ∀ b, b ∈ bs → A.units + 2 + (enc b).depth < cLine)
    (q : ∀ out, out.length = bs.length → PySem.W.EachIs R out (bs.mergeSort (PySem.W.dataLe false enc)) → Q (.ref (s.heap.objs.size + 1)) { s with heap := sortedAll s.heap vs (List.toArray out) }) : wpAny (model prog w) A (call (.builtin "sorted") [.ref l]) Q E s := by
  have hz : vs.length ≤ sizeLine := by rw [e.length]; exact hL
  refine PySem.Calls.call_function_entry kind_sorted plain_sorted entry_sorted (args_sorted1 _) ?_
  unfold Builtin.«sorted»
  refine wpAny_bind (m := checkCount "sorted" 1 1 _) (wpAny_pure (wpAny_bind (gatherT hl hz (wpAny_bind (wpAny_newList ?_ hz)))))
  have sz : ((s.heap.push (seqObj "list" #[] 0)).update s.heap.objs.size (Obj.mapSeq (· ++ vs.toArray))).objs.size = s.heap.objs.size + 1 := by rw [Heap.size_update, size_push']
  change wpAny _ _ _ _ _ { s with heap := PySem.W.copyHeap s.heap vs }
  rw [sz]
  have er' : PySem.W.EachIs (fun v b => ∃ as, PySem.Reads (PySem.W.sortingHeap (PySem.W.copyHeap s.heap vs) (s.heap.objs.size + 1) vs) v (enc b) as) vs bs := er.mono fun _ _ ⟨as, r⟩ => ⟨as, PyProof.Rows.Reads.keeps (fun _ _ => PySem.W.sorting_copy_old) r⟩
  have S := PySem.W.SortsAt.data (prog := prog) (w := w) (A := A.in1.in1) (s := { s with heap := PySem.W.sortingHeap (PySem.W.copyHeap s.heap vs) (s.heap.objs.size + 1) vs }) (PySem.W.each_map (R := fun v d => ∃ as, PySem.Reads (PySem.W.sortingHeap (PySem.W.copyHeap s.heap vs) (s.heap.objs.size + 1) vs) v d as) enc er') hal hk (PySem.W.bound_map hu)
  refine wpAny_bind (wpAny_holding (wpAny_call_entry_kw slot_list_sort ⟨_, PySem.W.copyHeap_at s.heap vs, rfl⟩ entry_list_sort ?_ (args_list_sort _)))
  change wpAny (model prog w) A.in1.in1 (Builtin.«list.sort» ⟨[.ref (s.heap.objs.size + 1)], []⟩) _ _ _
  refine wpAny_mono (PySem.W.list_sort_vals (P := fun f s' => f = .done (.ret .none) ∧ Q (.ref (s.heap.objs.size + 1)) s') (s := { s with heap := PySem.W.copyHeap s.heap vs }) (PySem.W.copyHeap_at s.heap vs) S hz ⟨rfl, ?_⟩) (fun f s' hf => ?_) fun _ _ z => z
  · exact q _ (by rw [PySem.W.sortVals_length false rfl]; exact e.length) (PySem.W.sortVals_data false e er' hal)
  · obtain ⟨rfl, hq⟩ := hf
    exact ⟨_, rfl, wpAny_pure ⟨_, rfl, hq⟩⟩
end
def rSortedT2 (K : PySem.W.Frag) : List V → Hp → VK → Prop := fun xs H Q => ∃ (a : Addr) (vs : List V) (ds : List D) (Φ : V → D → Prop), xs = [V.ref a] ∧ SqT K H a vs ∧ DpAll K H vs ds ∧ PySem.W.EachIs Φ vs ds ∧ sortOk ds = true ∧
  ∀ vs' p, H p = none → PySem.W.EachIs Φ vs' (isort leD ds) → Q (.ref p) (upd H p (.lst vs'))
def rSortedA (K : PySem.W.Frag) : List V → Hp → VK → Prop := fun xs H Q => rSortedD K xs H Q ∨ rSortedT2 K xs H Q
def oSortedA : List D → Option D
  | [.list ds] => if sortOk ds then some (.list (isort leD ds)) else none
  | [.tuple ds] => if sortOk ds then some (.list (isort leD ds)) else none
  | _ => none
section
variable {X : Cx} {K : PySem.W.Frag}
theorem cr_sortedT2 (hu : X.A.units + 64 < cLine) : CallR X (.builtin "sorted") (rSortedT2 X.K) := by
  intro pins s σ H xs us Q I r h
  obtain ⟨a, vs, ds, Φ, rfl, hs, hd, hΦ, ok, q⟩ := h
  rw [Vals.ref1 r]
  obtain ⟨al, so, dp⟩ := sortOk_of ok
  obtain ⟨its, rv, hl, hz⟩ := I.tuple hs
  obtain ⟨as, hr⟩ := Dp.readsAll I _ _ its hd rv
  have l1 := hd.length
  have ms : ds.map (fun d => d) = ds := List.map_id' ds
  refine sortT (enc := fun d : PyData => d) (R := fun u d => ∃ v, RelV v u ∧ Φ v d) hl (each_vals rv hΦ) (PySem.W.readsAll_each (fun d => d) (by rw [ms]; exact hr)) (by rw [ms]; exact al) (by rw [ms]; exact so) (by omega) (fun d hd => ?_) fun out hlen he => ?_
  · have := depth_mem hd
    omega
  · obtain ⟨vs', rv', hv'⟩ := vals_each he
    obtain ⟨ep, he'⟩ := PyProof.Rows.sortedAll_at s.heap its out.toArray
    have e : ds.mergeSort (PySem.W.dataLe false fun d => d) = isort leD ds := (isort_eq leD_total ds).symm
    rw [e] at hv'
    have hlen' : vs'.length ≤ sizeLine := by
      rw [rv'.length, hlen]
      omega
    exact ⟨.ref _, upd H (s.heap.objs.size + 1) (.lst vs'), I.laid (t' := s.toks) (fun _ _ => PyProof.Rows.sortedAll_old) (Nat.le_succ _) ⟨hlen', out, ep, rv', he'⟩, rfl, q _ _ (I.hok.fresh (Nat.le_succ _)) hv'⟩
theorem cr_sortedA (hu : X.A.units + 64 < cLine) : CallR X (.builtin "sorted") (rSortedA X.K) := CallR.or (cr_sortedD hu) (cr_sortedT2 hu)
theorem w_sortedA : OpN K (rSortedA K) oSortedA := ⟨fun F H xs as d Q s ra e q => by
  unfold oSortedA at e
  split at e
  · split at e
    · next h =>
      cases e
      cases ra with
      | cons r t =>
        cases t
        cases r with
        | lst h1 t1 => exact .inl ⟨_, _, _, Rep K F, rfl, s.seq h1, t1.mono s, each_of t1, h, fun vs' p hp he => doneL s q (of_each he) hp⟩
    · cases e
  · split at e
    · next h =>
      cases e
      cases ra with
      | cons r t =>
        cases t
        cases r with
        | tup h1 t1 => exact .inr ⟨_, _, _, Rep K F, rfl, sameT s (sqT_of h1), t1.mono s, each_of t1, h, fun vs' p hp he => doneL s q (of_each he) hp⟩
    · cases e
  · cases e⟩
end
end DL
namespace DL
open PySem PySem.Spec PyProof.Rows L2
def findD (d : D) : List D → Nat → Option Nat
  | [], _ => none
  | e :: r, k => if PyData.eqv e d = true then some k else findD d r (k + 1)
theorem findD_of {d : D} : ∀ {ds : List D} {k j : Nat}, findD d ds k = some j → ∃ m z, j = k + m ∧ ds[m]? = some z ∧ PyData.eqv z d = true ∧ ∀ (n : Nat) (z' : D), n < m → ds[n]? = some z' → PyData.eqv z' d = false
  | [], _, _, h => by cases h
  | e :: r, k, j, h => by
    unfold findD at h
    split at h
    · next q =>
      cases h
      exact ⟨0, e, rfl, rfl, q, fun n _ h => absurd h (Nat.not_lt_zero _)⟩
    · next q =>
      obtain ⟨m, z, h1, h2, h3, h4⟩ := findD_of h
      refine ⟨m + 1, z, by omega, by simpa using h2, h3, fun n z' hn hz => ?_⟩
      cases n with
      | zero =>
        simp at hz
        subst hz
        simpa using q
      | succ n => exact h4 n z' (by omega) (by simpa using hz)
mutual
/-- no dict in it -/
def noDic : D → Bool
  | .list ds => noDics ds
  | .tuple ds => noDics ds
  | .dict _ => false
  | .none => true
  | .bool _ => true
  | .int _ => true
  | .str _ => true
def noDics : List D → Bool
  | [] => true
  | d :: r => noDic d && noDics r
end
mutual
theorem Dp.kit {K : PySem.W.Frag} {H : Hp} : ∀ {v : V} {d : D}, noDic d = true → Dp K H v d → L2.Dp K H v d
  | _, _, _, .non => .non
  | _, _, _, .bl b => .bl b
  | _, _, _, .int i => .int i
  | _, _, _, .str s => .str s
  | _, _, e, .dic _ _ _ => by unfold noDic at e; cases e
  | _, _, e, .lst h t => .lst h (DpAll.kit (by unfold noDic at e; exact e) t)
  | _, _, e, .tup h t => .tup (sqT_of h) (DpAll.kit (by unfold noDic at e; exact e) t)
theorem DpAll.kit {K : PySem.W.Frag} {H : Hp} : ∀ {vs : List V} {ds : List D}, noDics ds = true → DpAll K H vs ds → L2.DpAll K H vs ds
  | _, _, _, .nil => .nil
  | _, _, e, .cons h t => by
    unfold noDics at e
    rw [Bool.and_eq_true] at e
    exact .cons (Dp.kit e.1 h) (DpAll.kit e.2 t)
end
def oIndex : D → List D → Option D
  | .list ds, [d] => if okD (.list ds) && noDics ds then (if okD d && noDic d then (findD d ds 0).map fun j => .int (j : Nat) else none) else none
  | _, _ => none
def cM (o : D → List D → Option D) (f : Env → Option D) (g : Env → Option (List D)) : Env → Option D := fun ρ => (f ρ).bind fun a => (g ρ).bind fun as => o a as
section
variable {X : Cx} {z : Z}
theorem q_index {o e : Expr} {apos cpos : Pos} {f : Env → Option D} {g : Env → Option (List D)} (hu : X.A.units + 65 < cLine) (ho : PE X o (tP X.K z f)) (ha : PA X [e] (tPs X.K z g))
    (hbase : attributeBase o "index" X.env (eval o X.env) = eval o X.env := by rfl)
    (hfew : ((backTo cpos (starEach [e] X.env)).all (fun x => !x.1) && (backToKw cpos (keywordEach [] X.env)).all (fun x => x.1.isSome)
      && decide ([e].length + ([] : List Keyword).length + (if ([] : List Keyword).isEmpty then 0 else 1) < 30)) = true := by rfl)
    (hline : (apos.endLine == cpos.line) = true := by rfl) (hs : starEach [e] X.env = (false, eval e X.env) :: starEach [] X.env := by rfl) (hpl : (backTo cpos (starEach [] X.env)).any (·.1) = false := by rfl) :
    PE X (.Call (.Attribute o "index" apos) [e] [] cpos) (tP X.K z (cM oIndex f g)) :=
  (pe_bm PySem.F.plainAttrs_list PySem.F.slot_list_index PySem.F.type_list_index (mt_indexD hu) ho ha hbase hfew hline hs hpl).mono fun σ H Q ⟨ρ, F, O, d, R, e, q⟩ => by
    obtain ⟨a, h1, e⟩ := bind_some e
    obtain ⟨as, h2, e⟩ := bind_some e
    unfold oIndex at e
    split at e
    · split at e
      · next k1 =>
        split at e
        · next k2 =>
          obtain ⟨j, h3, e⟩ := map_some e
          cases e
          rw [Bool.and_eq_true] at k1 k2
          obtain ⟨m, zz, m1, m2, m3, m4⟩ := findD_of h3
          rw [Nat.zero_add] at m1
          subst m1
          refine ⟨ρ, F, O, _, R, h1, fun v H1 s1 r1 => ?_⟩
          cases r1 with
          | lst hs t =>
            refine ⟨.inl ⟨rfl, _, (R.grow s1).sub.seq hs⟩, ρ, _, O, _, R.grow s1, h2, fun ws H2 s2 r2 => ?_⟩
            cases r2 with
            | cons r2 t2 =>
              cases t2
              have R2 := (R.grow s1).grow s2
              have r1' := ((Dp.lst hs t).mono (same_ext (H' := H2) (R.grow s1).sub)).mono R2.sub
              exact ⟨_, _, _, _, j, zz, rfl, rfl, r1'.kit (by unfold noDic; exact k1.2), (r2.mono R2.sub).kit k2.2, k1.1, k2.1, m2, m3, m4, q _ H2 (s1.trans s2) (.int _)⟩
        · cases e
      · cases e
    · cases e
end
end DL
namespace DL
open PySem PySem.Spec PyProof.Rows L2
end DL
namespace DL
open PySem PySem.Spec PyProof.Rows L2
end DL
namespace DL
open PySem PySem.Spec PyProof.Rows L2
end DL
namespace DL
open PySem PySem.Spec PyProof.Rows L2
end DL
namespace DL
open PySem PySem.Spec PyProof.Rows L2
end DL
namespace L2
open PySem PySem.Spec PyProof.Rows
end L2
namespace DL
open PySem PySem.Spec PyProof.Rows L2
end DL
namespace DL
open PySem PySem.Spec PyProof.Rows L2
end DL
namespace DL
open PySem PySem.Spec PyProof.Rows L2
end DL
namespace DL
open PySem PySem.Spec PyProof.Rows L2
end DL
namespace DL
open PySem PySem.Spec PyProof.Rows L2
end DL
namespace DL
open PySem PySem.Spec PyProof.Rows L2
end DL
namespace DL
open PySem PySem.Spec PyProof.Rows L2
def DicU (u : HO) : Prop := (∃ kvs, u = .dK kvs) ∨ ∃ kvs, u = .dT kvs
section
variable {K : PySem.W.Frag} {G G' : Hp} {p : Addr} {o : Obj} {u : HO}
theorem sqL_out (hu : DicU u) (hp : G p = some (.frz o u)) (he : ∀ a, a ≠ p → G' a = G a) {a : Addr} {xs : List V} (h : SqL K G a xs) : SqL K G' a xs := by
  rcases h with (h | ⟨o', h⟩) | h
  · have ne : a ≠ p := fun e => by
      rw [e, hp] at h
      cases h
    exact .inl (.inl ((he a ne).trans h))
  · have ne : a ≠ p := fun e => by
      rw [e, hp] at h
      cases h
      rcases hu with ⟨_, q⟩ | ⟨_, q⟩ <;> cases q
    exact .inl (.inr ⟨o', (he a ne).trans h⟩)
  · exact .inr h
mutual
theorem Dp.out (hu : DicU u) (hp : G p = some (.frz o u)) (he : ∀ a, a ≠ p → G' a = G a) : ∀ {v : V} {d : D}, noDic d = true → Dp K G v d → Dp K G' v d
  | _, _, _, .non => .non
  | _, _, _, .bl b => .bl b
  | _, _, _, .int i => .int i
  | _, _, _, .str s => .str s
  | _, _, e, .dic _ _ _ => by unfold noDic at e; cases e
  | _, _, e, .lst h t => .lst (sqL_out hu hp he h) (DpAll.out hu hp he (by unfold noDic at e; exact e) t)
  | _, _, e, .tup h t => .tup ((he _ fun q => by rw [q, hp] at h; cases h).trans h) (DpAll.out hu hp he (by unfold noDic at e; exact e) t)
theorem DpAll.out (hu : DicU u) (hp : G p = some (.frz o u)) (he : ∀ a, a ≠ p → G' a = G a) : ∀ {vs : List V} {ds : List D}, noDics ds = true → DpAll K G vs ds → DpAll K G' vs ds
  | _, _, _, .nil => .nil
  | _, _, e, .cons h t => by
    unfold noDics at e
    rw [Bool.and_eq_true] at e
    exact .cons (Dp.out hu hp he e.1 h) (DpAll.out hu hp he e.2 t)
end
end
section
variable {X : Cx} {z : Z}
theorem DicU.mut {u : HO} (h : DicU u) : Mut (some u) := by
  rcases h with ⟨_, h⟩ | ⟨_, h⟩ <;> (subst h; exact True.intro)
end
end DL
namespace DL
open PySem PySem.Spec PyProof.Rows L2
end DL
namespace DL
open PySem PySem.Spec PyProof.Rows L2
end DL
namespace DL
open PySem PySem.Spec PyProof.Rows L2
end DL
namespace DL
open PySem PySem.Spec PyProof.Rows L2
end DL
namespace DL
open PySem PySem.Spec PyProof.Rows L2
end DL
namespace DL
open PySem PySem.Spec PyProof.Rows L2
end DL
namespace DL
open PySem PySem.Spec PyProof.Rows L2
end DL
namespace DL
open PySem PySem.Spec PyProof.Rows L2
end DL
namespace DL
open PySem PySem.Spec PyProof.Rows L2
inductive FnAll (K : PySem.W.Frag) (F : Hp) : List V → List Addr → List D → Prop
  | nil : FnAll K F [] [] []
  | cons {p a : Addr} {w : V} {vs : List V} {as : List Addr} {d : D} {ds : List D} : F p = some (.tup [.ref a, w]) → Rep K F w d → FnAll K F vs as ds → FnAll K F (.ref p :: vs) (a :: as) (d :: ds)
theorem FnAll.mono {K : PySem.W.Frag} {F F' : Hp} (s : Same F F') : ∀ {vs : List V} {as : List Addr} {ds : List D}, FnAll K F vs as ds → FnAll K F' vs as ds
  | _, _, _, .nil => .nil
  | _, _, _, .cons h r t => .cons (s _ _ h) (r.mono s) (t.mono s)
theorem FnAll.len {K : PySem.W.Frag} {F : Hp} : ∀ {vs : List V} {as : List Addr} {ds : List D}, FnAll K F vs as ds → vs.length = ds.length ∧ as.length = ds.length
  | _, _, _, .nil => ⟨rfl, rfl⟩
  | _, _, _, .cons _ _ t => ⟨congrArg (· + 1) t.len.1, congrArg (· + 1) t.len.2⟩
theorem FnAll.get {K : PySem.W.Frag} {F : Hp} : ∀ {vs : List V} {as : List Addr} {ds : List D} {i : Nat} {v : V}, FnAll K F vs as ds → vs[i]? = some v → ∃ p a w d, v = .ref p ∧ as[i]? = some a ∧ ds[i]? = some d ∧ F p = some (.tup [.ref a, w]) ∧ Rep K F w d
  | _, _, _, _, _, .nil, e => by simp at e
  | _, _, _, 0, _, .cons h r t, e => by
    simp at e
    subst e
    exact ⟨_, _, _, _, rfl, rfl, rfl, h, r⟩
  | _, _, _, i + 1, _, .cons _ _ t, e => by
    obtain ⟨p, a, w, d, h1, h2, h3, h4⟩ := FnAll.get (i := i) t (by simpa using e)
    exact ⟨p, a, w, d, h1, by simpa using h2, by simpa using h3, h4⟩
section
variable {X : Cx} {z : Z}
/-- a def at an address -/
def HeldP (P : Program) (w : World) (K : PySem.W.Frag) (mg : Str → Option Value) (base : Heap) (k : Nat) (x : Str) (p : Addr × (List D → Option D)) : Prop := ∃ (fd : FuncData) (ps : List Str), FnOk P w K mg base CX0 k p.1 fd ps (spP K p.2) ∧ mg x = some (.ref p.1) ∧ PySem.W.keepIn K (.ref p.1) = true ∧ Binds K fd ps []
theorem HeldP.mg {P : Program} {w : World} {K : PySem.W.Frag} {mg : Str → Option Value} {base : Heap} {k : Nat} {x : Str} {p : Addr × (List D → Option D)} (c : HeldP P w K mg base k x p) : mg x = some (.ref p.1) := by
  obtain ⟨_, _, _, h, _⟩ := c
  exact h
end
end DL
namespace DL
open PySem PySem.Spec PyProof.Rows L2
end DL
namespace DL
open PySem PySem.Spec PyProof.Rows L2
def iv : D → Option Int
  | .int i => some i
  | _ => none
end DL
namespace DL
open PySem PySem.Spec PyProof.Rows L2
end DL
namespace DL
open PySem PySem.Spec PyProof.Rows L2
end DL
namespace DL
open PySem PySem.Spec PyProof.Rows L2
end DL
namespace DL
open PySem PySem.Spec PyProof.Rows L2
/-- an object at p -/
def Ob (K : PySem.W.Frag) (F H : Hp) (c p : Addr) (fs : List (Str × Fd)) (as : List Addr) : Prop :=
  ∃ dx xs as', as = p :: as' ∧ H p = some (.ins c dx xs) ∧ OkC K c (fs.map (·.1)) ∧ as.Nodup ∧ Fds K F H xs fs as'
section
variable {K : PySem.W.Frag} {z : Z} {ρ : Env} {σ : L2.St} {F H : Hp} {O : Nat → List Addr}
/-- who may write to an object -/
def May (z : Z) (m : Nat) (p : Addr) (as : List Addr) : Prop := (∀ a ∈ as, z.H0 a = none ∨ z.B a) ∧ (m = 1 → as = z.fp) ∧ (m = 2 → z.fp.head? = some p) ∧ (m = 0 → ∀ a ∈ as, z.H0 a = none)
theorem Ob.ent {m : Nat} {p : Addr} {fs : List (Str × Fd)} {as : List Addr} (h : Ob K F H z.cl p fs as) (hb : May z m p as) : Ent K z F H (.ref p) (.ob m fs) as := by
  obtain ⟨dx, xs, as', e2, h2, h3, h4, h6⟩ := h
  exact ⟨p, dx, xs, as', rfl, e2, h2, h3, h4, hb, h6⟩
theorem Fds.names : ∀ {xs : List (Str × V)} {fs : List (Str × Fd)} {as : List Addr}, Fds K F H xs fs as → xs.map (·.1) = fs.map (·.1)
  | _, _, _, .nil => rfl
  | _, _, _, .sh _ t => congrArg (_ :: ·) (Fds.names t)
  | _, _, _, .own _ t => congrArg (_ :: ·) (Fds.names t)
  | _, _, _, .own2 _ _ t => congrArg (_ :: ·) (Fds.names t)
theorem Fds.len {xs : List (Str × V)} {fs : List (Str × Fd)} {as : List Addr} (h : Fds K F H xs fs as) : xs.length = fs.length := by
  have := congrArg List.length h.names
  simpa using this
end
end DL
namespace DL
open PySem PySem.Spec PyProof.Rows L2
structure Left (F H F' H' : Hp) (W : List Addr) : Prop where
  same : Same F F'
  sub : Same F' H'
  tup : AllT F' H'
  keep : ∀ a o, a ∉ W → H a = some o → H' a = some o
  dom : ∀ a, H a ≠ none → H' a ≠ none
  out : ∀ a, H a ≠ none → F a = none → F' a = none
section
variable {K : PySem.W.Frag} {z : Z} {ρ ρ' : Env} {σ : L2.St} {F H F' H' : Hp} {O O' : Nat → List Addr} {W : List Addr}
theorem Left.kp (L : Left F H F' H' W) (hW : ∀ a ∈ W, ∃ i, a ∈ O i) : Kp F H F' H' O :=
  ⟨L.same, fun a o h n => L.keep a o (fun hw => by
    obtain ⟨i, hi⟩ := hW a hw
    exact n i hi) h, L.out, L.dom⟩
/-- a value that a method gives: shared, or new lists -/
def okV : E → Bool
  | .sh _ => true
  | .own _ => true
  | .own2 _ => true
  | _ => false
def EntV (K : PySem.W.Frag) (F H : Hp) (v : V) (e : E) (as : List Addr) : Prop := okV e = true ∧ Ent K ⟨fun _ => none, F, fun _ => False, 0, [], Zx.no⟩ F H v e as
theorem EntV.ent {v : V} {e : E} {as : List Addr} (h : EntV K F H v e as) (h0 : ∀ a ∈ as, z.H0 a = none) : Ent K z F H v e as := by
  obtain ⟨h1, h⟩ := h
  cases e with
  | sh d => exact h
  | own d =>
    obtain ⟨p, e1, e2, e3, h⟩ := h
    exact ⟨p, e1, e2, h0 p (by rw [e2]; exact List.mem_cons_self), h⟩
  | own2 d =>
    obtain ⟨p, qs, ds, e1, e2, e3, g1, g2, g3, g4⟩ := h
    exact ⟨p, qs, ds, e1, e2, e3, g1, g2, fun a ha => h0 a (by rw [e2]; exact ha), g4⟩
  | _ => cases h1
end
end DL
namespace DL
open PySem PySem.Spec PyProof.Rows L2
structure CalM (P : Program) (w : World) (K : PySem.W.Frag) (mg : Str → Option Value) (base : Heap) (k : Nat) (C : Addr) (m : Str) (sp : Sp) : Prop where
  cls : Cls K C
  ex : ∃ (f : Addr) (fd : FuncData) (ps : List Str), FnOk P w K mg base CX0 k f fd ps sp ∧ Meth K C m f ∧ Binds K fd ps []
theorem CalM.mono {P : Program} {w : World} {K : PySem.W.Frag} {mg : Str → Option Value} {base : Heap} {j k : Nat} {C : Addr} {m : Str} {sp : Sp} (c : CalM P w K mg base j C m sp) (h : j ≤ k) : CalM P w K mg base k C m sp := by
  obtain ⟨f, fd, ps, F, h1, h2⟩ := c.ex
  exact ⟨c.cls, f, fd, ps, F.mono h, h1, h2⟩
end DL
namespace DL
open PySem PySem.Spec PyProof.Rows L2
def frzFd (nm : Str) : List (Str × Fd) → List (Str × Fd)
  | [] => []
  | (g, x) :: r => if g = nm then (match x with | .own d => (g, .sh d) :: r | _ => (g, x) :: r) else (g, x) :: frzFd nm r
section
variable {K : PySem.W.Frag} {z : Z} {ρ : Env} {σ : L2.St} {F H : Hp} {O : Nat → List Addr}
theorem Fds.frz : ∀ {xs : List (Str × V)} {fs : List (Str × Fd)} {as : List Addr} (nm : Str), Fds K F H xs fs as → as.Nodup → (∀ a ∈ as, F a = none) →
    ∃ F' as', Same F F' ∧ (∀ a, F' a ≠ F a → a ∈ as ∧ a ∉ as' ∧ F' a = H a) ∧ Fds K F' H xs (frzFd nm fs) as' ∧ as'.Sublist as
  | _, _, _, _, .nil, _, _ => ⟨F, [], Same.refl _, fun a h => absurd rfl h, .nil, .refl _⟩
  | _, _, _, nm, .sh (n := n) r t, hn, hF => by
    unfold frzFd
    split
    · exact ⟨F, _, Same.refl _, fun a h => absurd rfl h, .sh r t, .refl _⟩
    · obtain ⟨F', as', s, c, q, sb⟩ := Fds.frz nm t hn hF
      exact ⟨F', as', s, c, .sh (r.mono s) q, sb⟩
  | _, _, _, nm, .own (n := n) (p := p) (d := d) (as := as) o t, hn, hF => by
    obtain ⟨n1, n2⟩ := List.nodup_cons.mp hn
    unfold frzFd
    split
    · have fp := hF p List.mem_cons_self
      cases d with
      | list ds =>
        obtain ⟨vs, h1, h2⟩ := o
        refine ⟨upd F p (.lst vs), as, same_new fp, fun a ha => ?_, .sh (.lst (.of upd_same) (h2.mono (same_new fp))) (t.mono (same_new fp) fun _ _ => rfl), List.sublist_cons_self _ _⟩
        by_cases e : a = p
        · rw [e, upd_same]
          exact ⟨List.mem_cons_self, n1, h1.symm⟩
        · rw [upd_ne e] at ha
          exact absurd rfl ha
      | _ => exact o.elim
    · obtain ⟨F', as', s, c, q, sb⟩ := Fds.frz nm t n2 fun a ha => hF a (List.mem_cons_of_mem _ ha)
      exact ⟨F', p :: as', s, fun a ha => ⟨List.mem_cons_of_mem _ (c a ha).1, fun h => by
        rcases List.mem_cons.mp h with e | e
        · exact n1 (e ▸ (c a ha).1)
        · exact (c a ha).2.1 e, (c a ha).2.2⟩, .own (o.mono s rfl) q, sb.cons_cons p⟩
  | _, _, _, nm, .own2 (n := n) (p := p) (qs := qs) (as := as) h0 o t, hn, hF => by
    obtain ⟨n1, n2⟩ := List.nodup_cons.mp hn
    obtain ⟨n3, n4, n5⟩ := List.nodup_append.mp n2
    unfold frzFd
    split
    · exact ⟨F, _, Same.refl _, fun a h => absurd rfl h, .own2 h0 o t, .refl _⟩
    · obtain ⟨F', as', s, c, q, sb⟩ := Fds.frz nm t n4 fun a ha => hF a (List.mem_cons_of_mem _ (List.mem_append_right _ ha))
      refine ⟨F', p :: (qs ++ as'), s, fun a ha => ⟨List.mem_cons_of_mem _ (List.mem_append_right _ (c a ha).1), fun h => ?_, (c a ha).2.2⟩, .own2 h0 (o.mono s fun _ _ => rfl) q, (sb.append_left qs).cons_cons p⟩
      rcases List.mem_cons.mp h with e | e
      · exact n1 (by rw [← e]; exact List.mem_append_right _ (c a ha).1)
      · rcases List.mem_append.mp e with e | e
        · exact n5 a e a (c a ha).1 rfl
        · exact (c a ha).2.1 e
end
end DL
namespace DL
open PySem PySem.Spec PyProof.Rows L2
end DL
namespace DL
open PySem PySem.Spec PyProof.Rows L2
end DL
namespace DL
open PySem PySem.Spec PyProof.Rows L2
end DL
namespace DL
open PySem PySem.Spec PyProof.Rows L2
end DL
namespace DL
open PySem PySem.Spec PyProof.Rows L2
end DL
namespace DL
open PySem PySem.Spec PyProof.Rows L2
section
variable {K : PySem.W.Frag} {F F' H H' : Hp}
theorem Ob.mono {c p : Addr} {fs : List (Str × Fd)} {as : List Addr} (h : Ob K F H c p fs as) (s : Same F F') (k : ∀ a ∈ as, H' a = H a) : Ob K F' H' c p fs as := by
  obtain ⟨dx, xs, as', e2, h2, h3, h4, h6⟩ := h
  subst e2
  exact ⟨dx, xs, as', rfl, (k p List.mem_cons_self).trans h2, h3, h4, h6.mono s fun a ha => k a (List.mem_cons_of_mem _ ha)⟩
end
end DL
namespace DL
open PySem PySem.Spec PyProof.Rows L2
inductive Oc where
  | ok (d : D)
  | er (e : Er)
/-- the error's own dict -/
def FldOk (K : PySem.W.Frag) (F : Hp) (d : Option Addr) : Option (Str × D) → Prop
  | none => d = none
  | some (f, v) => ∃ dd x, d = some dd ∧ F dd = some (.xd [(f, x)]) ∧ Rep K F x v
def ErOk (K : PySem.W.Frag) (mg : Str → Option Value) (F : Hp) (e : Er) (cls : Value) (d : Option Addr) : Prop := mg e.cls = some cls ∧ FldOk K F d e.fld
theorem ErOk.mono {K : PySem.W.Frag} {mg : Str → Option Value} {F F' : Hp} {e : Er} {cls : Value} {d : Option Addr} (h : ErOk K mg F e cls d) (s : Same F F') : ErOk K mg F' e cls d := by
  refine ⟨h.1, ?_⟩
  have h2 := h.2
  cases q : e.fld with
  | none =>
    rw [q] at h2
    exact h2
  | some p =>
    rw [q] at h2
    obtain ⟨dd, x, h3, h4, h5⟩ := h2
    exact ⟨dd, x, h3, s _ _ h4, h5.mono s⟩
def FinO (K : PySem.W.Frag) (mg : Str → Option Value) (F H : Hp) (Q : VK) (E : XK) : Oc → Prop
  | .ok d => ∀ v H', Same H H' → Rep K (ext F H H') v d → Q v H'
  | .er e => ∀ cls d H', Same H H' → ErOk K mg (ext F H H') e cls d → E cls d H'
def spX (K : PySem.W.Frag) (mg : Str → Option Value) (m : List D → Option Oc) : Sp := fun vs H Q E => ∃ F ds r, (Same F H ∧ AllT F H) ∧ RepL K F vs ds ∧ m ds = some r ∧ FinO K mg F H Q E r
abbrev Ex := Env → Option (Oc × Env)
def FinE (K : PySem.W.Frag) (z : Z) (mg : Str → Option Value) (F H : Hp) (O : Nat → List Addr) (σ : L2.St) (W : WX) (Q : VK) (ρ : Env) : Oc → Prop
  | .ok d => ∀ v F' H', Rel K z ρ σ F' H' O → Kp F H F' H' O → Rep K F' v d → Q v H'
  | .er e => ∀ cls d F' H', Rel K z ρ σ F' H' O → Kp F H F' H' O → ErOk K mg F' e cls d → W cls d σ H'
def tRx (K : PySem.W.Frag) (z : Z) (mg : Str → Option Value) (W : WX) (f : Ex) : TE := fun σ H Q => ∃ ρ F O r ρ', Rel K z ρ σ F H O ∧ f ρ = some (r, ρ') ∧ FinE K z mg F H O σ W Q ρ' r
def eCall (m : List D → Option Oc) (f : Env → Option (List D × Env)) : Ex := fun ρ => (f ρ).bind fun p => (m p.1).map fun r => (r, p.2)
/-- a def that may be called by its name, and may raise -/
structure CalX (P : Program) (w : World) (K : PySem.W.Frag) (mg : Str → Option Value) (base : Heap) (k : Nat) (x : Str) (sp : Sp) : Prop where
  ex : ∃ (f : Addr) (fd : FuncData) (ps : List Str), FnOk P w K mg base (L2.CX P w) k f fd ps sp ∧ mg x = some (.ref f) ∧ PySem.W.keepIn K (.ref f) = true ∧ Binds K fd ps []
section
variable {P : Program} {w : World} {K : PySem.W.Frag} {mg : Str → Option Value} {base : Heap} {k j : Nat} {x : Str} {sp : Sp}
theorem CalX.mono (c : CalX P w K mg base j x sp) (h : j ≤ k) : CalX P w K mg base k x sp := by
  obtain ⟨f, fd, ps, F, h1, h2, h3⟩ := c.ex
  exact ⟨f, fd, ps, F.mono h, h1, h2, h3⟩
end
theorem FinO.toE {K : PySem.W.Frag} {z : Z} {mg : Str → Option Value} {F H F1 H1 : Hp} {O : Nat → List Addr} {σ : L2.St} {W : WX} {Q : VK} {ρ : Env} {r : Oc} (R1 : Rel K z ρ σ F1 H1 O) (k1 : Kp F H F1 H1 O) (h : FinE K z mg F H O σ W Q ρ r) : FinO K mg F1 H1 Q (fun cls d H' => W cls d σ H') r := by
  cases r with
  | ok d => exact fun v H' s r => h v _ H' (R1.grow s) (k1.trans (.of_same R1.sub s)) r
  | er e => exact fun cls d H' s r => h cls d _ H' (R1.grow s) (k1.trans (.of_same R1.sub s)) r
section
variable {X : Cx} {z : Z} {x : Str} {k j : Nat} {p pos : Pos} {e : Expr} {es : List Expr} {W : WX}
theorem e_call {m : List D → Option Oc} {f : Env → Option (List D × Env)} (tk : Takes X W) (c : CalX X.prog X.w X.K X.mg X.base k x (spX X.K X.mg m)) (hr : Room j X.A) (hk : k ≤ j) (hg : Gl X x) (ha : PA X (e :: es) (tRs X.K z f))
    (hdb : (x == ("__debug__" : Str)) = false := by decide) (he : starEach (e :: es) X.env = (false, eval e X.env) :: starEach es X.env := by rfl) (hpl : (backTo pos (starEach es X.env)).any (·.1) = false := by rfl) : PE X (.Call (.Name x p) (e :: es) [] pos) (tRx X.K z X.mg W (eCall m f)) := by
  obtain ⟨g, fd, ps, F, h1, h2, h3⟩ := c.ex
  refine (pe_callS F (hr.mono hk) hg h1 h2 h3 (fun σ => passAt tk σ) ha hdb he hpl).mono fun σ H Q ⟨ρ, F, O, r, ρ', R, e, q⟩ => ?_
  obtain ⟨⟨ds, ρ1⟩, h4, e⟩ := bind_some e
  obtain ⟨r2, h5, e⟩ := map_some e
  cases e
  exact ⟨ρ, F, O, ds, _, R, h4, fun vs F1 H1 R1 k1 r1 => ⟨F1, ds, _, ⟨R1.sub, R1.tup⟩, r1, h5, FinO.toE R1 k1 q⟩⟩
end
inductive Fx where
  | fl (f : Fl)
  | er (e : Er)
abbrev Gx := Env → Option (Fx × Env)
def FinX (K : PySem.W.Frag) (z : Z) (mg : Str → Option Value) (F : Hp) (W : WX) (D : Ends) (ρ : Env) : Fx → Prop
  | .fl f => FinS K z F D ρ f
  | .er e => ∀ cls d σ F' H O, Rel K z ρ σ F' H O → Same F F' → ErOk K mg F' e cls d → W cls d σ H
theorem FinX.from {K : PySem.W.Frag} {z : Z} {mg : Str → Option Value} {F F1 : Hp} {W : WX} {D : Ends} {ρ : Env} {r : Fx} (h : FinX K z mg F W D ρ r) (s : Same F F1) : FinX K z mg F1 W D ρ r := by
  cases r with
  | fl f => exact FinS.from h s
  | er e => exact fun cls d σ F' H O R s' => h cls d σ F' H O R (s.trans s')
def tX (K : PySem.W.Frag) (z : Z) (mg : Str → Option Value) (W : WX) (g : Gx) : TS := fun D σ H => ∃ ρ F O r ρ', Rel K z ρ σ F H O ∧ g ρ = some (r, ρ') ∧ FinX K z mg F W D ρ' r
def xF (g : Gs) : Gx := fun ρ => (g ρ).map fun p => (.fl p.1, p.2)
def xSeq (g h : Gx) : Gx := fun ρ => (g ρ).bind fun p => match p.1 with
  | .fl .nx => h p.2
  | r => some (r, p.2)
def xIf (c : Env → Option (Bool × Env)) (g h : Gx) : Gx := fun ρ => (c ρ).bind fun p => if p.1 = true then g p.2 else h p.2
def xLoop (b : D → Env → Option Env) (g : Gx) : List D → Gx
  | [], ρ => some (.fl .nx, ρ)
  | d :: r, ρ => (b d ρ).bind fun ρ1 => (g ρ1).bind fun p => match p.1 with
    | .fl .nx => xLoop b g r p.2
    | .fl .ct => xLoop b g r p.2
    | .fl .bk => some (.fl .nx, p.2)
    | .fl (.ret d) => some (.fl (.ret d), p.2)
    | .er e => some (.er e, p.2)
def xFor (it : Env → Option (List D × Env)) (b : D → Env → Option Env) (g : Gx) : Gx := fun ρ => (it ρ).bind fun p => xLoop b g p.1 p.2
def oEx (f : Ex) (g : D → Gx) : Gx := fun ρ => (f ρ).bind fun p => match p.1 with
  | .ok d => g d p.2
  | .er e => some (.er e, p.2)
def xExpr (f : Ex) : Gx := oEx f fun _ ρ => some (.fl .nx, ρ)
section
variable {X : Cx} {z : Z} {W : WX}
theorem x_of {st : Stmt} {g : Gs} (h : PS X st (tS X.K z g)) : PS X st (tX X.K z X.mg W (xF g)) := h.mono fun D σ H ⟨ρ, F, O, r, ρ', R, e, q⟩ => by
  obtain ⟨⟨fl, ρ1⟩, h1, h2⟩ := map_some e
  cases h2
  exact ⟨ρ, F, O, fl, _, R, h1, q⟩
theorem xs_of {st : List Stmt} {g : Gs} (h : PSs X st (tS X.K z g)) : PSs X st (tX X.K z X.mg W (xF g)) := h.mono fun D σ H ⟨ρ, F, O, r, ρ', R, e, q⟩ => by
  obtain ⟨⟨fl, ρ1⟩, h1, h2⟩ := map_some e
  cases h2
  exact ⟨ρ, F, O, fl, _, R, h1, q⟩
theorem x_cons {st : Stmt} {rest : List Stmt} {g h : Gx} (h1 : PS X st (tX X.K z X.mg W g)) (h2 : PSs X rest (tX X.K z X.mg W h)) : PSs X (st :: rest) (tX X.K z X.mg W (xSeq g h)) :=
  (pss_cons h1 h2).mono fun D σ H ⟨ρ, F, O, r, ρ', R, e, q⟩ => by
    obtain ⟨⟨r1, ρ1⟩, h1, h2⟩ := bind_some e
    refine ⟨ρ, F, O, r1, ρ1, R, h1, ?_⟩
    cases r1 with
    | er e =>
      cases h2
      exact q
    | fl fl1 =>
      cases fl1 with
      | nx => exact fun σ' F' H' O' R' s => ⟨ρ1, F', O', r, ρ', R', h2, q.from s⟩
      | bk =>
        cases h2
        exact q
      | ct =>
        cases h2
        exact q
      | ret d =>
        cases h2
        exact q
theorem x_one {st : Stmt} {g : Gx} (h : PS X st (tX X.K z X.mg W g)) : PSs X [st] (tX X.K z X.mg W g) := pss_one h
theorem x_if {c : Expr} {a b : List Stmt} {pos : Pos} {tc : Env → Option (Bool × Env)} {g h : Gx} (hc : PT X c (tBR X.K z tc)) (ha : PSs X a (tX X.K z X.mg W g)) (hb : PSs X b (tX X.K z X.mg W h)) : PS X (.If c a b pos) (tX X.K z X.mg W (xIf tc g h)) :=
  (ps_if hc ha hb).mono fun D σ H ⟨ρ, F, O, r, ρ', R, e, q⟩ => by
    obtain ⟨⟨b, ρ1⟩, h1, h2⟩ := bind_some e
    refine ⟨ρ, F, O, b, ρ1, R, h1, fun F' H' R' k => ?_⟩
    cases b with
    | true => exact ⟨ρ1, F', O, r, ρ', R', h2, q.from k.same⟩
    | false => exact ⟨ρ1, F', O, r, ρ', R', h2, q.from k.same⟩
theorem oEx_in {f : Ex} {g : D → Gx} {En : Ends} {σ : L2.St} {H : Hp} (h : tX X.K z X.mg W (oEx f g) En σ H) {Q : VK}
    (hq : ∀ (d : D) ρ1 ρ' r F (v : V) F' H' O, g d ρ1 = some (r, ρ') → FinX X.K z X.mg F W En ρ' r → Rel X.K z ρ1 σ F' H' O → Same F F' → Rep X.K F' v d → Q v H') : tRx X.K z X.mg W f σ H Q := by
  obtain ⟨ρ, F, O, r, ρ', R, e, q⟩ := h
  obtain ⟨⟨o, ρ1⟩, h1, h2⟩ := bind_some e
  refine ⟨ρ, F, O, o, ρ1, R, h1, ?_⟩
  cases o with
  | ok d => exact fun v F' H' R' k r' => hq d ρ1 ρ' r F v F' H' O h2 q R' k.same r'
  | er e =>
    cases h2
    exact fun cls d F' H' R' k r' => q cls d σ F' H' O R' k.same r'
theorem x_expr {e : Expr} {pos : Pos} {f : Ex} (he : PE X e (tRx X.K z X.mg W f)) (hs : swapsWith e none pos.line X.env = pure false := by rfl) : PS X (.Expr e pos) (tX X.K z X.mg W (xExpr f)) :=
  (ps_expr he hs).mono fun D σ H h => oEx_in h fun d ρ1 ρ' r F v F' H' O e1 q R' s _ => by
    cases e1
    exact q σ F' H' O R' s
theorem x_for {tg iter : Expr} {body : List Stmt} {pos : Pos} {it : Env → Option (List D × Env)} {b : D → Env → Option Env} {g : Gx} (hc : X.calm = true) (hi : PI X tg iter (tIR X.K z it)) (hg : PG X tg (tG X.K z allJ b)) (hb : PSs X body (tX X.K z X.mg W g))
    (hp : PassesOwn (model X.prog X.w) X.A X.env X.xe) (hs : ∀ x, foldedSetIterable iter X.env x = pure x := by intro _; rfl) : PS X (.For tg iter body [] pos) (tX X.K z X.mg W (xFor it b g)) :=
  (ps_for hp hc hi hg hb hs).mono fun D σ H ⟨ρ, F, O, r, ρ', R, e, q⟩ => by
    obtain ⟨⟨ds, ρ1⟩, h1, h2⟩ := bind_some e
    refine ⟨ρ, F, O, ds, ρ1, R, h1, fun J F1 H1 R1 k1 y => ?_⟩
    refine ⟨fun i m σ H => m = ds.length - i ∧ i ≤ ds.length ∧ ∃ ρ2 F2 O2, Rel X.K z ρ2 σ F2 H O2 ∧ Same F1 F2 ∧ xLoop b g (ds.drop i) ρ2 = some (r, ρ'), ⟨ds.length, by simp, Nat.zero_le _, ρ1, F1, O, R1, Same.refl _, h2⟩, ?_⟩
    rintro i m σ2 H2 ⟨rfl, hi, ρ2, F2, O2, R2, s2, e2⟩
    by_cases hlt : i < ds.length
    · have ed : ds.drop i = ds[i] :: ds.drop (i + 1) := by rw [List.drop_eq_getElem_cons hlt]
      rw [ed] at e2
      obtain ⟨ρ3, e3, e4⟩ := bind_some e2
      obtain ⟨⟨fl4, ρ4⟩, e5, e6⟩ := bind_some e4
      have sH : Same F1 H2 := s2.trans R2.sub
      refine .inr ⟨y.go i H2 sH hlt, fun σ' H' => ∃ ρ2 F2 O2, Rel X.K z ρ2 σ' F2 H' O2 ∧ Same F1 F2 ∧ xLoop b g (ds.drop (i + 1)) ρ2 = some (r, ρ'), fun σ' H' n => ⟨ds.length - (i + 1), by omega, rfl, by omega, n⟩, fun x H' yx => ?_⟩
      obtain ⟨sx, rx⟩ := y.yld i F2 H2 x H' _ s2 R2.sub R2.tup yx (List.getElem?_eq_getElem hlt)
      have R3 := R2.grow sx
      refine ⟨ρ2, _, O2, _, ρ3, R3, rx, e3, fun σ5 O5 R5 _ => ⟨ρ3, _, O5, fl4, ρ4, R5, e5, ?_⟩⟩
      have s5 : Same F1 (ext F2 H2 H') := s2.trans (same_ext R2.sub)
      cases fl4 with
      | er e =>
        cases e6
        exact fun cls d σ6 F6 H6 O6 R6 s6 => q cls d σ6 F6 H6 O6 R6 ((k1.same.trans s5).trans s6)
      | fl fl4 =>
        cases fl4 with
        | nx => exact fun σ6 F6 H6 O6 R6 s6 => ⟨ρ4, F6, O6, R6, s5.trans s6, e6⟩
        | ct => exact fun σ6 F6 H6 O6 R6 s6 => ⟨ρ4, F6, O6, R6, s5.trans s6, e6⟩
        | bk =>
          cases e6
          exact fun σ6 F6 H6 O6 R6 s6 => q σ6 F6 H6 O6 R6 ((k1.same.trans s5).trans s6)
        | ret d =>
          cases e6
          exact fun v σ6 F6 H6 O6 R6 s6 r => q v σ6 F6 H6 O6 R6 ((k1.same.trans s5).trans s6) r
    · have ei : i = ds.length := by omega
      subst ei
      rw [List.drop_length] at e2
      cases e2
      exact .inl ⟨y.stop _ H2 (s2.trans R2.sub) rfl, q σ2 F2 H2 O2 R2 (k1.same.trans s2)⟩
/-- raise e -/
def xRaise0 (c : Str) : Gx := fun ρ => some (.er ⟨c, none⟩, ρ)
def xRaise1 (c f : Str) (e : Env → Option (D × Env)) : Gx := fun ρ => (e ρ).map fun p => (.er ⟨c, some (f, p.1)⟩, p.2)
theorem x_raise0 {e : Expr} {pos : Pos} {c : Str} {C : Value} (hc : X.calm = true) (tk : Takes X W) (hm : X.mg c = some C) (he : PMk X e fun σ H Q => Q C none H) : PS X (.Raise (some e) none pos) (tX X.K z X.mg W (xRaise0 c)) :=
  (ps_raise hc tk he).mono fun D σ H ⟨ρ, F, O, r, ρ', R, e, q⟩ => by
    cases e
    exact q _ _ σ F H O R (Same.refl _) ⟨hm, rfl⟩
theorem x_raise1 {e a : Expr} {pos : Pos} {c n : Str} {C : Value} {f : Env → Option (D × Env)} (hc : X.calm = true) (tk : Takes X W) (hm : X.mg c = some C) (he : PMk X e fun σ H Q => tR X.K z f σ H fun v H1 => ∀ d, H1 d = none → Q C (some d) (upd H1 d (.xd [(n, v)]))) : PS X (.Raise (some e) none pos) (tX X.K z X.mg W (xRaise1 c n f)) :=
  (ps_raise hc tk he).mono fun D σ H ⟨ρ, F, O, r, ρ', R, e, q⟩ => by
    obtain ⟨⟨d, ρ1⟩, h1, h2⟩ := map_some e
    cases h2
    refine ⟨ρ, F, O, d, _, R, h1, fun v F' H' R' k r' p hp => ?_⟩
    have s := same_new (o := .xd [(n, v)]) hp
    refine q _ _ σ _ _ O (R'.grow s) (k.same.trans (same_ext R'.sub)) ⟨hm, p, v, rfl, ?_, r'.mono (same_ext R'.sub)⟩
    rw [ext_new R'.sub hp]
    exact upd_same
end
def finX : Fx × Env → Option Oc
  | (.fl f, ρ) => (fin (f, ρ)).map .ok
  | (.er e, _) => some (.er e)
def runX (N n : Nat) (g : Gx) : List D → Option Oc := fun ds => if ds.length = n then (g (ini N ds)).bind finX else none
section
variable {P : Program} {w : World} {K : PySem.W.Frag} {mg : Str → Option Value} {base : Heap}
theorem runX_len {N n : Nat} {g : Gx} {ds : List D} {r : Oc} (h : runX N n g ds = some r) : ds.length = n := by
  unfold runX at h
  split at h
  · assumption
  · cases h
theorem ok_X {x qual : Str} {st : Stmt} {f : Addr} {fd : FuncData} {N ps : List Str} {k : Nat} {g : Gx} (F : Fun K x qual st f fd) (S : FnScope N ps (defScope st))
    (h : ∀ (cdv : Value) (A : Around) (outer : List PySem.Env) (s : Shared) (H : Hp) (E : XK) (z : Z), Room k (A.deeper (envOfC qual (defScope st) s.heap.objs.size f cdv)) → PSs (cxOf (L2.CX P w) P w K mg base N qual (defScope st) f cdv A outer s H E) (defBody st) (tX K z mg (fun cls d _ H => E cls d H) g)) :
    FnOk P w K mg base (L2.CX P w) (k + 1) f fd ps (spX K mg (runX N.length ps.length g)) := by
  refine F.okX S (fun vs H Q E h => ?_) (fun cdv A outer s H vs Q E hr q => ?_)
  · obtain ⟨F, ds, d, _, r, e, _⟩ := h
    rw [r.length]
    exact runX_len e
  · obtain ⟨F, ds, d, ⟨s0, t0⟩, r, e, q⟩ := q
    refine ⟨_, h cdv A outer s H E ⟨H, F, fun _ => False, 0, [], Zx.no⟩ hr, ?_⟩
    unfold runX at e
    split at e
    · obtain ⟨⟨fx, ρ'⟩, h1, h2⟩ := bind_some e
      refine ⟨_, F, _, fx, ρ', rel_start s0 t0 r, h1, ?_⟩
      cases fx with
      | er e =>
        cases h2
        exact fun cls d σ F' H' O R s r => q cls d H' (fun a o h => R.keep a o h id) (r.mono (end_sub s0 R))
      | fl fl =>
        cases fl with
        | nx =>
          cases h2
          exact fun σ F' H' O R s => q .non H' (fun a o h => R.keep a o h id) .non
        | bk => cases h2
        | ct => cases h2
        | ret d2 =>
          cases h2
          exact fun v σ F' H' O R s r => q v H' (fun a o h => R.keep a o h id) (r.mono (end_sub s0 R))
    · cases e
theorem okX {x qual : Str} {st : Stmt} {f : Addr} {fd : FuncData} {N ps : List Str} {k : Nat} {g : Gx} (a b : Nat) (F : Fun K x qual st f fd) (S : FnScope N ps (defScope st)) (ha : N.length = a) (hb : ps.length = b)
    (h : ∀ (cdv : Value) (A : Around) (outer : List PySem.Env) (s : Shared) (H : Hp) (E : XK) (z : Z), Room k (A.deeper (envOfC qual (defScope st) s.heap.objs.size f cdv)) → PSs (cxOf (L2.CX P w) P w K mg base N qual (defScope st) f cdv A outer s H E) (defBody st) (tX K z mg (fun cls d _ H => E cls d H) g)) :
    FnOk P w K mg base (L2.CX P w) (k + 1) f fd ps (spX K mg (runX a b g)) := by
  subst ha hb
  exact ok_X F S h
end
end DL
set_option maxHeartbeats 2000000
namespace DL
open PySem PySem.Spec PyProof.Rows L2
abbrev supBody (n : Str) (p0 p1 p2 p3 p4 p5 p6 p7 p8 p9 : Pos) : List Stmt :=
  [.Expr (.Call (.Attribute (.Call (.Name "super" p0) [] [] p1) "__init__" p2) [.Name n p3] [] p4) p5, .Assign [.Attribute (.Name "self" p6) n p7] (.Name n p8) p9]
section
open PySem.W PySem.Calls
variable {prog : Program} {w : World} {A : Around} {E : Value → Shared → Prop} {h : Heap} {g : Array GenState} {d : Drawn} {t : Nat} {os : OsState}
variable {nm q : Str} {C N : Addr} {bs bm : List Value} {hdct : Bool} {sn : List Str} {sub : List Value} {ab : Bool} {col : Option Bool} {dd : Option Addr} {k0 k1 k2 k3 k5 : Option Value}
theorem call_mw {u e t0 : Addr} {rest : List Value} {Q : Value → Shared → Prop} (hT : ∀ X : String, bm.contains (.type X) = [Value.type "ValueError", .type "Exception", .type "BaseException", .type "object"].contains (.type X))
    (hC : h.get? C = some (excClassObj nm q C N bs bm hdct sn sub ab col dd k0 k1 k2 k3 k5 "ValueError.__new__")) (he : h.get? e = some (HandSPX.excO C t0)) (hu : h.get? u = some (kxs_mw "ValueError.__init__" e)) (hrest : rest.length ≤ sizeLine)
    (hq : ∀ h' t1, (∀ b o, b ≠ e → h.get? b = some o → h'.get? b = some o) → h'.get? e = some (HandSPX.excO C t1) → Q .none ⟨h', g, d, t, os⟩) :
    wpAny (model prog w) A (call (.ref u) rest) Q E ⟨h, g, d, t, os⟩ := by
  refine wpAny_call (codeAny_of_tree ?_)
  show wpAny _ A.in1 (callAny (.ref u) ⟨rest, []⟩) _ _ _
  simp only [callAny]
  refine wpAny_bind (wpAny_load hu ?_)
  simp only [kxs_mw, show (Value.type "method-wrapper" == Value.type "method" || Value.type "method-wrapper" == Value.type "builtin_function_or_method" || Value.type "method-wrapper" == Value.type "method-wrapper") = true by decide, if_true]
  refine KFB.if_so (by decide) ?_
  refine wpAny_bind (check_bound_init F.excBase_ValueError.toExcCallFacts hC he rfl ?_)
  refine wpAny_bind (wpAny_pure (wpAny_pure ?_))
  refine ⟨Code.quiet_builtin _ (by decide +kernel), codeAny_builtin F.excBase_ValueError.initEntry ?_⟩
  rw [Around.under_plainId F.excBase_ValueError.init.plain _]
  wp_walk
  refine hq _ h.objs.size (fun b o hb ho => ?_) ?_
  · rw [Heap.get?_update_other _ _ (Ne.symm hb)]
    exact Heap.get?_push_of_some _ ho
  · rw [Heap.get?_update_self _ (Heap.get?_push_of_some _ he) rfl]
    rfl
end
abbrev supScope (n : Str) : Scope := { kind := .function, names := [(("self" : Str), .local), (n, .local), (("__class__" : Str), .free), (("super" : Str), .globalImplicit)], isGenerator := false, isCoroutine := false, more := [] }
/-- the facts of such a class -/
structure SupC (K : PySem.W.Frag) (prog : Program) (C fI : Addr) (n : Str) : Prop where
  ox : OexC K C
  ini : PySem.W.findIn K (.ref C) "__init__" = some (some (.ref fI))
  tyI : PySem.W.typeIn K (.ref fI) = some (.type "function")
  fn : ∃ (p0 p1 p2 p3 p4 p5 p6 p7 p8 p9 : Pos) (params : Arguments) (q : Str) (oc : Value) (od : Option Addr) (osl : Array (Option Value)) (kV doc pm ct : Value) (an : Option Addr) (cda cc : Addr) (ccl cl : Value) (cdd cld : Option Addr) (ccs csl : Array (Option Value)) (vs : Array Value) (file : Str) (tf : Tok) (a1 a2 : Arg),
    K.lookup fI = some ⟨oc, od, .func (PySem.W.ksFn "__init__" q params (supBody n p0 p1 p2 p3 p4 p5 p6 p7 p8 p9) (supScope n) .none kV doc pm an (.ref cda) ct cc), osl⟩ ∧
    PySem.W.codeIn K (.ref cda) q = true ∧ K.lookup cda = some ⟨ccl, cdd, .fields vs, ccs⟩ ∧ vs[2]? = some (.str file tf) ∧ ((prog.main.file : Str) == file) = true ∧
    K.lookup cc = some ⟨cl, cld, .cell (some (.ref C)), csl⟩ ∧
    params = ⟨[], [a1, a2], none, [], [], none, []⟩ ∧ a1.arg = "self" ∧ a2.arg = n ∧ (∀ a b : Value, bindArgs (PySem.W.ksFn "__init__" q params (supBody n p0 p1 p2 p3 p4 p5 p6 p7 p8 p9) (supScope n) .none kV doc pm an (.ref cda) ct cc) ⟨[a, b], []⟩ = pure [(("self" : Str), a), (n, b)]) ∧
    (∀ L : Addr, ∃ pl : Sem Bool, eval (.Call (.Attribute (.Call (.Name "super" p0) [] [] p1) "__init__" p2) [.Name n p3] [] p4) (PySem.W.ksEnv q (supScope n) L fI (.ref cda) cc) = (do
      let ov ← attributeBase (.Call (.Name "super" p0) [] [] p1) "__init__" (PySem.W.ksEnv q (supScope n) L fI (.ref cda) cc) (eval (.Call (.Name "super" p0) [] [] p1) (PySem.W.ksEnv q (supScope n) L fI (.ref cda) cc))
      standAt p2.atName
      let (f, first) ← holding [ov] (getMethod ov "__init__" pl)
      callWith p4 f first (backTo p4 (starEach [.Name n p3] (PySem.W.ksEnv q (supScope n) L fI (.ref cda) cc))) [])) ∧ (supScope n).names.lookup n = some .local ∧ (supScope n).names.lookup ("super" : Str) = some .globalImplicit ∧ (supScope n).names.lookup ("__class__" : Str) = some .free
  nn : (n == ("self" : Str)) = false ∧ (n == ("__debug__" : Str)) = false
  no : PySem.W.findIn K (.ref C) n = some none
  su : PySem.W.ks_superIn K C C "__init__" = some (some (.builtin "ValueError.__init__"))
  op : PySem.W.nsIn K cStatics "thirdparty.any" = some none
  ve : PySem.W.subIn K (.ref C) (.type "ValueError") = some true
  mr : PySem.W.mroIn K C (.ref C) = some true
  top : (prog.main.scope.names.lookup ("super" : Str)).isSome = false
section
open PySem.W PySem.Calls
variable {prog : Program} {w : World} {A : Around} {E : Value → Shared → Prop}
theorem sup_make {s : Shared} {K : PySem.W.Frag} {C fI : Addr} {n : Str} {mg : Str → Option Value} {base : Heap} {u : Value} {Q : Value → Shared → Prop} (T : SupC K prog C fI n) (M : L2.Mod K mg base) (hk : ∀ b o, base.get? b = some o → s.heap.get? b = some o) (hm : mg "super" = none) (hr : A.depth + 2 < recursionLimit)
    (hq : ∀ (h' : Heap) (tk : Nat) (e dx t0 : Addr), (∀ b o, s.heap.get? b = some o → h'.get? b = some o) → s.heap.objs.size ≤ e → s.heap.objs.size ≤ dx → dx ≠ e →
      h'.get? e = some ({ cls := .ref C, dict := some dx, data := .fields #[.ref t0, .none, .none, .none, .bool false, .none] } : Obj) → h'.Ns1 dx (fun y => if y = n then some u else none) → Q (.ref e) { s with heap := h', toks := tk }) :
    wpAny (model prog w) A (call (.ref C) [u]) Q E s := by
  have X : K.In s.heap := M.kin.keeps hk
  obtain ⟨nm, q, N, bs, bm, sn, sub, ab, col, dd, k0, k1, k2, k3, k5, hC, hbm⟩ := T.ox.cls
  have hcl : PySem.W.clsIn K C = some { name := nm, bases := bs, mro := .ref C :: bm, ns := N, qualname := q, hasDict := true, slotNames := sn, subclasses := sub, abstract := ab, collection := col, hasDel := false } := by unfold PySem.W.clsIn; rw [hC] <;> rfl
  obtain ⟨p0, p1, p2, p3, p4, p5, p6, p7, p8, p9, params, qf, oc, od, osl, kV, doc, pm, ct, an, cda, cc, ccl, cl, cdd, cld, ccs, csl, vs, file, tf, a1, a2, lf, hcd, lc, hvs, hfile, lcc, hp, ha1, ha2, hbi, hev, s2, s3, s4⟩ := T.fn
  subst hp
  obtain ⟨hp, g, dr, tk, os⟩ := s
  have KX := X
  have hX : ∀ {h' : Heap}, (∀ b o, hp.get? b = some o → h'.get? b = some o) → K.In h' := fun k => KX.keeps k
  refine wpAny_call (PySem.HandSPX.call_own F.excBase_ValueError (fun Y => PySem.HandSPX.refsVE_contains Y bm hbm) (X _ _ hC) (PySem.W.looks_findIn X T.ini) (fun self => PySem.W.bind_fn X self T.tyI) (by show 1 ≤ sizeLine; rw [sizeLine_eq]; omega) ?_)
  have kk : ∀ b o, hp.get? b = some o → ((hp.push (PySem.W.kdv_tup [u])).push (PySem.HandSPX.excO C hp.objs.size)).get? b = some o := fun b o e => Heap.get?_push_of_some _ (Heap.get?_push_of_some _ e)
  have hget : ((hp.push (PySem.W.kdv_tup [u])).push (PySem.HandSPX.excO C hp.objs.size)).get? (hp.objs.size + 1) = some (PySem.HandSPX.excO C hp.objs.size) := by heap_get
  have X1 := hX kk
  have lim : ((hp.push (PySem.W.kdv_tup [u])).push (PySem.HandSPX.excO C hp.objs.size)).NoLimit := M.nolimit.keeps fun b o e => kk b o (hk b o e)
  have hroom : (A.under (.builtin "type.__call__" ⟨.ref C :: [u], []⟩)).depth < recursionLimit := by
    rw [make_depth]
    omega
  refine ks_codeAny_call_defAt (fd := ksFn "__init__" qf ⟨[], [a1, a2], none, [], [], none, []⟩ (supBody n p0 p1 p2 p3 p4 p5 p6 p7 p8 p9) (supScope n) .none kV doc pm an (.ref cda) ct cc) (body := supBody n p0 p1 p2 p3 p4 p5 p6 p7 p8 p9) (binds := [(("self" : Str), .ref (hp.objs.size + 1)), (n, u)]) hroom (X1 _ _ lf) rfl lim (codeRec_of X1 hcd) rfl (.of_eq (hbi _ _)) (by intro x hx; simp [supScope] at hx; rcases hx with e | e | e | e <;> rw [e] <;> exact fun z => nomatch z) ?_ (fun h0 hns k0' => ?_)
  · intro x hx
    rcases List.mem_cons.mp hx with e | hx
    · rw [e]
      exact rfl
    · rcases List.mem_cons.mp hx with e | hx
      · rw [e]
        exact s2
      · cases hx
  have kk0 : ∀ b o, hp.get? b = some o → h0.get? b = some o := fun b o e => k0' b o (kk b o e)
  have X0 := hX kk0
  have hself : (fun x => ([(("self" : Str), .ref (hp.objs.size + 1)), (n, u)] : List (Str × Value)).reverse.lookup x) ("self" : Str) = some (.ref (hp.objs.size + 1)) := by
    have e : ((("self" : Str)) == n) = false := by
      rw [beq_eq_false_iff_ne]
      exact fun z => (beq_eq_false_iff_ne.mp T.nn.1) z.symm
    simp [List.lookup, e]
  have hn : (fun x => ([(("self" : Str), .ref (hp.objs.size + 1)), (n, u)] : List (Str × Value)).reverse.lookup x) n = some u := by
    simp [List.lookup]
  obtain ⟨mb, hb1, hb2⟩ := M.blt
  obtain ⟨pl, hev⟩ := hev (((hp.push (PySem.W.kdv_tup [u])).push (PySem.HandSPX.excO C hp.objs.size)).objs.size)
  refine ks_wpAt_execs_cons (ks_wpAt_Expr_any (ks_wpAt_MethodCall (pl := pl) (ks_wpAt_super_base (ar := a1) (file := file) s3 s4 (by decide) rfl (X0 _ _ lf) rfl rfl rfl (X0 _ _ lc) rfl hvs hfile T.top ?_) hev))
  refine ks_loadName_global rfl s3 (loadGlobal_builtin (M.glob.keeps fun b o e => kk0 b o (hk b o e)) hm (hb1.keeps fun b o e => kk0 b o (hk b o e)) ((hb2 _ (by decide)).trans rfl) ⟨rfl, ?_⟩)
  refine wpAny_loadName_free rfl s4 rfl ⟨_, X0 _ _ lcc, rfl⟩ ?_
  rw [ha1]
  refine wpAny_loadName_local rfl rfl hns hself ?_
  have X0' : K.In h0 := X0
  have he0 : h0.get? (hp.objs.size + 1) = some (PySem.HandSPX.excO C hp.objs.size) := k0' _ _ hget
  refine ks_wpAny_isType_cls (X0 _ _ hC) rfl ⟨rfl, ?_⟩
  refine ks_wpAny_call_super (X0 _ _ hC) rfl he0 rfl (fun c e => by cases e) (looks_mroIn X0 T.mr) (fun h1 hso k1 => ?_)
  have kk1 : ∀ b o, hp.get? b = some o → h1.get? b = some o := fun b o e => k1 b o (kk0 b o e)
  have XA := hX kk1
  have hsu := T.su
  unfold ks_superIn at hsu
  rw [hcl] at hsu
  have he1 : h1.get? (hp.objs.size + 1) = some (PySem.HandSPX.excO C hp.objs.size) := k1 _ _ he0
  have IA : PySem.W.InstAt h1 (hp.objs.size + 1) (PySem.HandSPX.excO C hp.objs.size) C none := ⟨he1, rfl, rfl, trivial⟩
  refine kxs_getMethod kxs_ValueError hso (looks_opaque XA T.op) (l₀ := .ref C :: bm) (fun A Q E s k q => wpAny_bind ((looks_clsIn XA hcl) A _ E s k (wpAny_pure q))) rfl XA hsu (IA.type.andThen (looks_subIn XA T.ve)) (ks_ne XA IA hcl) (by decide) ?_
  have hmw : (h1.push (kxs_mw "ValueError.__init__" (hp.objs.size + 1))).get? h1.objs.size = some (kxs_mw "ValueError.__init__" (hp.objs.size + 1)) := Heap.get?_push_size _ rfl
  have k2 : ∀ b o, h1.get? b = some o → (h1.push (kxs_mw "ValueError.__init__" (hp.objs.size + 1))).get? b = some o := fun b o e => Heap.get?_push_of_some _ e
  refine kxs_callWith (i := "ValueError.__init__") (x := hp.objs.size + 1) rfl ?_
  refine evalArgs_plain ?_
  have kA : ∀ b o, h0.get? b = some o → (h1.push (kxs_mw "ValueError.__init__" (hp.objs.size + 1))).get? b = some o := fun b o e => k2 b o (k1 b o e)
  have kAA : ∀ b o, hp.get? b = some o → (h1.push (kxs_mw "ValueError.__init__" (hp.objs.size + 1))).get? b = some o := fun b o e => kA b o (kk0 b o e)
  have hbm' : ∀ Y : String, bm.contains (.type Y) = [Value.type "ValueError", .type "Exception", .type "BaseException", .type "object"].contains (.type Y) := fun Y => PySem.HandSPX.refsVE_contains Y bm hbm
  show wpAny _ _ (spliced ((false, eval (.Name n p3) _) :: backTo p4 (starEach [] _))) _ _ _
  refine Calls.spliced_cons (wpAny_Name (wpAny_loadName_local rfl s2 (hns.keeps kA) hn ?_) T.nn.2)
  refine Calls.spliced_nil ⟨hmw, ?_⟩
  refine call_mw hbm' (hX kAA _ _ hC) (kA _ _ he0) hmw (by show 1 ≤ sizeLine; rw [sizeLine_eq]; omega) fun h2 t1 k3 he2 => ?_
  have neL : ∀ b o, h0.get? b = some o → b ≠ hp.objs.size + 1 → h2.get? b = some o := fun b o e ne => k3 b o ne (kA b o e)
  have hns2 : h2.Ns (((hp.push (PySem.W.kdv_tup [u])).push (PySem.HandSPX.excO C hp.objs.size)).objs.size) (fun x => ([(("self" : Str), .ref (hp.objs.size + 1)), (n, u)] : List (Str × Value)).reverse.lookup x) := by
    obtain ⟨oL, es, ep, hL, r⟩ := hns
    exact ⟨oL, es, ep, neL _ _ hL (by simp [Heap.size_push]), r⟩
  refine ks_wpAt_execs_cons (ks_wpAt_Assign_Attr (PySem.wpAt_of_wpAny (wpAny_Name (wpAny_loadName_local rfl s2 hns2 hn (wpAny_Name (wpAny_loadName_local rfl rfl hns2 hself ?_))) T.nn.2)))
  obtain ⟨t2, he2'⟩ : ∃ t2 : Addr, h2.get? (hp.objs.size + 1) = some (PySem.HandSPX.excO C t2) := ⟨t1, he2⟩
  have kk2 : ∀ b o, hp.get? b = some o → h2.get? b = some o := fun b o e => k3 b o (Nat.ne_of_lt (Nat.lt_succ_of_lt (Heap.lt_size e))) (kAA b o e)
  have X2 := hX kk2
  refine PySem.W.set_plain X2 (ox := PySem.HandSPX.excO C t2) (od := none) ⟨he2', rfl, rfl, trivial⟩ T.ox.sa ?_
  refine PySem.HandSPX.exc_osa X2 he2' hcl (show PySem.HandSPX.refsVE (.ref C :: bm) = true from hbm) rfl T.no (fun h3 tk3 dx k4 dn dne hx3 hn3 => ?_)
  have kk3 : ∀ b o, hp.get? b = some o → h3.get? b = some o := fun b o e => k4 b o (Nat.ne_of_lt (Nat.lt_succ_of_lt (Heap.lt_size e))) (kk2 b o e)
  have ne : hp.objs.size ≤ hp.objs.size + 1 := Nat.le_succ _
  have nd : hp.objs.size ≤ dx := Nat.le_trans ne (Nat.le_of_lt (Nat.lt_of_lt_of_le (Heap.lt_size he2') dn))
  exact PySem.wpAt_of_wpAny (wpAny_execs_nil ⟨rfl, hq h3 _ _ dx t2 kk3 ne nd dne hx3 hn3⟩)
end
section
variable {X : Cx}
theorem pmk_sup {x : Str} {C fI : Addr} {n : Str} {k : Nat} {p pos : Pos} {e : Expr} {te : TE} (T : SupC X.K X.prog C fI n) (gC : X.mg x = some (.ref C)) (hg : Gl X x) (hm : X.mg "super" = none) (hr : Room k X.A) (he : PE X e te)
    (hdb : (x == ("__debug__" : Str)) = false := by decide) (hs : starEach [e] X.env = (false, eval e X.env) :: starEach [] X.env := by rfl) :
    PMk X (.Call (.Name x p) [e] [] pos) (fun σ H Q => te σ H fun v H1 => ∀ d, H1 d = none → Q (.ref C) (some d) (upd H1 d (.xd [(n, v)]))) := by
  intro pins s σ H Q I h
  refine wpAny_Call_Name_kw (ld_glob I hg gC ?_ hdb)
  have ha : PA X [e] (tCons te tNil) := pa_cons he pa_nil hs
  refine PySem.W.callWith_K (h₀ := X.base) I.ok.mod.kin T.ox.kC (thn (ha.run pos pins s σ H (fun vs H1 => match vs with | [v] => ∀ d, H1 d = none → Q (.ref C) (some d) (upd H1 d (.xd [(n, v)])) | _ => False) I h) fun us s1 hh => ?_) hs rfl
  obtain ⟨vs, H1, I1, r1, q1⟩ := hh
  refine ⟨I1.kIn, ?_⟩
  match vs, r1, q1 with
  | [v], .cons (b := u) ru rn, q1 =>
    cases rn
    have hrd := hr.dp
    show wpAny _ _ (call (.ref C) [u]) _ _ _
    refine sup_make T I1.mod I1.bk hm (by omega) fun h' tk e dx t0 k le ld ne he' hd' => ?_
    obtain ⟨G, g1', g2'⟩ := restrict h' fun b => decide (b ≠ e)
    have gk : ∀ b, b ≠ e → G.get? b = h'.get? b := fun b hb => g1' b (decide_eq_true hb)
    have ge : G.get? e = none := g2' e (by simp)
    have nd : H1 dx = none := I1.hok.fresh ld
    have hob : G.Ns1 dx (fun y => if y = n then some u else none) := hd'.at fun o y => (gk dx ne).trans y
    have J := I1.laid (t' := tk) (a := dx) (o := .xd [(n, v)]) (h' := G) (fun b o z => (gk b (Nat.ne_of_lt (Nat.lt_of_lt_of_le (Heap.lt_size z) le))).trans (k b o z)) ld ⟨_, hob, relO_put (fs := []) ru fun g => True.intro⟩
    refine ⟨e, _, _, _, _, .ref C, some dx, rfl, J, fun b o z => ?_, ge, he', ⟨rfl, rfl⟩, rfl, rfl, ?_, rfl, I1.bare, raises_own T.ox.exC T.ox.tyC, q1 dx nd⟩
    · by_cases hb : b = e
      · rw [hb] at z
        rw [show G.get? e = some o from z] at ge
        cases ge
      · exact (gk b hb).symm.trans z
    · rw [upd_ne (Ne.symm ne)]
      exact I1.hok.fresh le
  | [], _, q1 => exact q1.elim
  | _ :: _ :: _, _, q1 => exact q1.elim
/-- an own class without own __init__, made of nothing -/
theorem pmk_own0 {C : Addr} {bmB : List Value} {B newId initId : String} {x : Str} {p pos : Pos} (F : ExcBaseFacts B newId initId bmB) (q : PySem.W.excIn X.K C bmB newId = true) (gC : X.mg x = some (.ref C)) (kC : PySem.W.keepIn X.K (.ref C) = true) (r : Raises X (.ref C)) (hg : Gl X x)
    (hdb : (x == ("__debug__" : Str)) = false := by decide) : PMk X (.Call (.Name x p) [] [] pos) (fun _ H Q => Q (.ref C) none H) := by
  intro pins s σ H Q I h
  refine wpAny_Call_Name_kw (ld_glob I hg gC ?_ hdb)
  refine PySem.W.callWith_K0 I.kIn kC ?_
  show wpAny _ _ (call (.ref C) []) _ _ _
  obtain ⟨bm, N, nm, qn, bs, hdct, sn, sub, ab, col, dd, k0, k1, k2, k3, k5, mN, hC, hN, hni, T⟩ := exc_obj I.kIn q
  refine wpAny_call_exc_subT F T hC hN hni (fun h' e hm => ?_) (by show 0 ≤ sizeLine; omega)
  exact mk_of I hm r h (I.hok.gone hm.new)
end
end DL
namespace DL
open PySem PySem.Spec PyProof.Rows L2
abbrev veT : List Value := [.type "ValueError", .type "Exception", .type "BaseException", .type "object"]
structure ErrH (K : PySem.W.Frag) (mg : Str → Option Value) (H : Addr) : Prop where
  mgH : mg "HouseError" = some (.ref H)
  look : ∃ (q : Str) (N : Addr) (bs : List Value) (sn : List Str) (sub : List Value) (ab : Bool) (col : Option Bool) (dd : Option Addr) (k0 k1 k2 k3 k5 : Option Value), K.lookup H = some (excClassObj "HouseError" q H N bs veT true sn sub ab col dd k0 k1 k2 k3 k5 "ValueError.__new__")
  ty : PySem.W.typeIn K (.ref H) = some (.type "type")
  sp : PySem.W.specialIn K (.builtin "object.__class__") "__get__" = some (some (.builtin "getset_descriptor.__get__"))
  tk : PySem.W.takesIn K (.builtin "object.__class__") = some true
structure ErrC (K : PySem.W.Frag) (mg : Str → Option Value) (H : Addr) (x : Str) (D : Addr) : Prop where
  mgx : mg x = some (.ref D)
  look : ∃ (q : Str) (N : Addr) (bs : List Value) (sn : List Str) (sub : List Value) (ab : Bool) (col : Option Bool) (dd : Option Addr) (k0 k1 k2 k3 k5 : Option Value), K.lookup D = some (excClassObj x q D N bs (.ref H :: veT) true sn sub ab col dd k0 k1 k2 k3 k5 "ValueError.__new__")
  ty : PySem.W.typeIn K (.ref D) = some (.type "type")
  ga : PySem.W.findIn K (.ref D) "__getattribute__" = some (some (.builtin "BaseException.__getattribute__"))
  gg : PySem.W.findIn K (.ref D) "__getattr__" = some none
  cc : PySem.W.findIn K (.ref D) "__class__" = some (some (.builtin "object.__class__"))
  ne : x ≠ "HouseError"
def Errs (K : PySem.W.Frag) (mg : Str → Option Value) (H : Addr) (cs : List Str) : Prop := ∀ x ∈ cs, ∃ D, ErrC K mg H x D
theorem errs_nil {K : PySem.W.Frag} {mg : Str → Option Value} {H : Addr} : Errs K mg H [] := fun _ h => nomatch h
theorem errs_cons {K : PySem.W.Frag} {mg : Str → Option Value} {H D : Addr} {x : Str} {cs : List Str} (h : ErrC K mg H x D) (t : Errs K mg H cs) : Errs K mg H (x :: cs) := fun y hy => by
  rcases List.mem_cons.mp hy with e | hy
  · subst e
    exact ⟨D, h⟩
  · exact t y hy
section
variable {K : PySem.W.Frag} {mg : Str → Option Value} {H C D : Addr} {x y : Str}
theorem ErrH.cls (h : ErrH K mg H) : ∃ cd, PySem.W.clsIn K H = some cd ∧ cd.mro = .ref H :: veT ∧ cd.hasDict = true ∧ cd.name = "HouseError" := by
  obtain ⟨q, N, bs, sn, sub, ab, col, dd, k0, k1, k2, k3, k5, h⟩ := h.look
  refine ⟨_, by unfold PySem.W.clsIn; rw [h], rfl, rfl, rfl⟩
theorem ErrC.cls (h : ErrC K mg H x D) : ∃ cd, PySem.W.clsIn K D = some cd ∧ cd.mro = .ref D :: .ref H :: veT ∧ cd.hasDict = true ∧ cd.name = x := by
  obtain ⟨q, N, bs, sn, sub, ab, col, dd, k0, k1, k2, k3, k5, h⟩ := h.look
  refine ⟨_, by unfold PySem.W.clsIn; rw [h], rfl, rfl, rfl⟩
theorem ErrC.mro (h : ErrC K mg H x D) (b : Value) : PySem.W.mroIn K D b = some ((Value.ref D :: .ref H :: veT).contains b) := by
  obtain ⟨cd, h1, h2, _⟩ := h.cls
  unfold PySem.W.mroIn
  rw [h1, Option.bind_some, h2]
  rfl
theorem ErrC.sub (h : ErrC K mg H x D) (b : Value) : PySem.W.subIn K (.ref D) b = some ((Value.ref D :: .ref H :: veT).contains b) := h.mro b
theorem ErrC.ne_of (h : ErrC K mg H x D) (h' : ErrC K mg H y C) (n : x ≠ y) : D ≠ C := fun e => by
  subst e
  obtain ⟨cd, h1, _, _, h2⟩ := h.cls
  obtain ⟨cd', h1', _, _, h2'⟩ := h'.cls
  rw [h1] at h1'
  cases h1'
  exact n (h2.symm.trans h2')
theorem ErrC.neH (hh : ErrH K mg H) (h : ErrC K mg H x D) : D ≠ H := fun e => by
  subst e
  obtain ⟨cd, h1, _, _, h2⟩ := h.cls
  obtain ⟨cd', h1', _, _, h2'⟩ := hh.cls
  rw [h1] at h1'
  cases h1'
  exact h.ne (h2.symm.trans h2')
theorem ErrC.exm (hh : ErrH K mg H) (h : ErrC K mg H x D) : PySem.W.exmOne K (.ref D) (.ref H) = some true := by
  obtain ⟨cd, h1, h2, _⟩ := hh.cls
  have e1 : PySem.W.subIn K (.ref H) (.type "BaseException") = some true := by
    show PySem.W.mroIn K H _ = _
    unfold PySem.W.mroIn
    rw [h1, Option.bind_some, h2]
    simp [List.contains_cons]
  unfold PySem.W.exmOne PySem.W.kitCls
  rw [e1, if_pos (by decide)]
  dsimp only
  rw [h1, hh.ty, h.sub]
  simp [List.contains_cons]
theorem ErrC.kit (hh : ErrH K mg H) (h : ErrC K mg H x D) (h' : ErrC K mg H y C) : PySem.W.kitOne K (.ref D) (.ref C) = some (x == y) := by
  unfold PySem.W.kitOne
  by_cases e : x = y
  · subst e
    have := h.mgx.symm.trans h'.mgx
    cases this
    simp
  · have n := h.ne_of h' e
    have nH := ErrC.neH hh h'
    obtain ⟨cd, h1, _⟩ := h'.cls
    rw [if_neg (by simp [n])]
    unfold PySem.W.kitCls
    dsimp only
    rw [h1, h'.ty, h.sub]
    simp [List.contains_cons, e, Ne.symm n, nH]
theorem ErrC.exF (h : ErrC K mg H x D) : XfC K D := by
  obtain ⟨cd, h1, h2, h3, _⟩ := h.cls
  refine ⟨h.ga, h.gg, by rw [h.sub]; simp [List.contains_cons], ?_⟩
  unfold PySem.W.hasDictIn
  rw [h1]
  simpa using h3
end
/-- the frame's knowledge with one error known: at a, of the class cls, its dict d -/
def Zx.exx (x : Zx) (K : PySem.W.Frag) (mg : Str → Option Value) (a : Addr) (cls : Value) (d : Option Addr) : Zx where
  ad := x.ad
  tab := x.tab
  lam := x.lam
  exc := fun e F a' => a' = a ∧ ErOk K mg F e cls d
  tabS := x.tabS
  lamS := x.lamS
  excS := fun s h => ⟨h.1, h.2.mono s⟩
def Z.exx (z : Z) (K : PySem.W.Frag) (mg : Str → Option Value) (a : Addr) (cls : Value) (d : Option Addr) : Z := ⟨z.H0, z.F0, z.B, z.cl, z.fp, z.x.exx K mg a cls d⟩
def noExcE : Option E → Bool
  | some (.odd (.exc _)) => false
  | _ => true
def noExc (ρ : Env) : Bool := ρ.all noExcE
section
variable {K : PySem.W.Frag} {mg : Str → Option Value} {z : Z} {ρ : Env} {σ : L2.St} {F H : Hp} {O : Nat → List Addr} {a : Addr} {cls : Value} {d : Option Addr}
theorem Ent.exx {v : V} {e : E} {as : List Addr} (h : Ent K z F H v e as) (n : noExcE (some e) = true) : Ent K (z.exx K mg a cls d) F H v e as := by
  cases e with
  | odd o =>
    cases o with
    | exc e => cases n
    | _ => exact h
  | _ => exact h
theorem Ent.unexx {v : V} {e : E} {as : List Addr} (h : Ent K (z.exx K mg a cls d) F H v e as) (n : noExcE (some e) = true) : Ent K z F H v e as := by
  cases e with
  | odd o =>
    cases o with
    | exc e => cases n
    | _ => exact h
  | _ => exact h
theorem noExc_at (n : noExc ρ = true) {i : Nat} {e : E} (h : ρ[i]? = some (some e)) : noExcE (some e) = true := List.all_eq_true.mp n _ (List.mem_of_getElem? h)
theorem Rel.exx (R : Rel K z ρ σ F H O) (n : noExc ρ = true) : Rel K (z.exx K mg a cls d) ρ σ F H O where
  len := R.len
  sub := R.sub
  ent := fun i e h => by
    obtain ⟨v, h1, h2⟩ := R.ent i e h
    exact ⟨v, h1, h2.exx (noExc_at n h)⟩
  off := R.off
  apt := R.apt
  old := R.old
  oldH := R.oldH
  keep := R.keep
  f0 := R.f0
  tup := R.tup
theorem Rel.unexx (R : Rel K (z.exx K mg a cls d) ρ σ F H O) (n : noExc ρ = true) : Rel K z ρ σ F H O where
  len := R.len
  sub := R.sub
  ent := fun i e h => by
    obtain ⟨v, h1, h2⟩ := R.ent i e h
    exact ⟨v, h1, h2.unexx (noExc_at n h)⟩
  off := R.off
  apt := R.apt
  old := R.old
  oldH := R.oldH
  keep := R.keep
  f0 := R.f0
  tup := R.tup
theorem Rel.unset (R : Rel K z ρ σ F H O) (i : Nat) : Rel K z (ρ.set i none) (σ.set i none) F H O :=
  R.weak (by rw [List.length_set, List.length_set, R.len]) fun j e h => by
    by_cases q : i = j
    · subst q
      by_cases hl : i < ρ.length
      · rw [List.getElem?_set_self hl] at h
        cases h
      · rw [List.getElem?_eq_none (by rw [List.length_set]; omega)] at h
        cases h
    · rw [List.getElem?_set_ne q] at h
      exact ⟨h, List.getElem?_set_ne q⟩
end
def gTry (i : Nat) (cs : List Str) (g : Gx) (gs : Gs) : Gs := fun ρ => (g ρ).bind fun p => match p.1 with
  | .fl f => some (f, p.2)
  | .er e => if (cs.contains e.cls && noExc p.2) = true then (gs (p.2.set i (some (.odd (.exc e))))).bind fun q => if noExc (q.2.set i none) = true then some (q.1, q.2.set i none) else none else none
section
variable {X : Cx} {z : Z}
theorem s_try (i : Nat) (cs : List Str) {AH : Addr} {n : Str} {body suite : List Stmt} {b₀ : Stmt} {np pos pos' : Pos} {g : Gx} {gs : Gs} (hs : X.stack = X.env :: X.outer) (hf : X.env.frame = some X.env.locals) (hN : X.N.Nodup) (hh : ErrH X.K X.mg AH) (he : Errs X.K X.mg AH cs) (hg : Gl X "HouseError")
    (hb : ∀ (W : WX) (pn : List (Addr × Obj)) (xe : Value → Shared → Prop), Takes (X.tr pn xe) W → PassesOwn (model X.prog X.w) X.A X.env xe → PSs (X.tr pn xe) body (tX X.K z X.mg W g))
    (hsu : ∀ (a : Addr) (oe : Obj) (cls : Value) (d : Option Addr) (pn : List (Addr × Obj)) (z' : Z), Zc cls d oe → (∃ vs, oe.data = .fields vs) → (∀ e F a', z'.x.exc e F a' → a' = a ∧ ErOk X.K X.mg F e cls d) → PSs (X.suite a ((a, oe) :: pn)) (b₀ :: suite) (tS X.K z' gs))
    (hi : X.N[i]? = some n := by rfl) (hln : X.env.kindOf n = some .local := by rfl) :
    PS X (.Try body [.ExceptHandler (some (.Name "HouseError" np)) (some n) (b₀ :: suite) pos'] [] [] pos) (tS X.K z (gTry i cs g gs)) :=
  (ps_try_as (i := i) (c := .ref AH) (tb := fun W => tX X.K z X.mg W g) (ts := fun a cls d => tS X.K (z.exx X.K X.mg a cls d) gs) hs hf hN hi hln ⟨hg, by decide, .inl hh.mgH⟩ L2.takes0 hb (fun a oe cls d pn hz hf' => hsu a oe cls d pn _ hz hf' fun e F a' h => h)).mono fun D σ H ⟨ρ, F, O, fl, ρ', R, e, q⟩ => by
    obtain ⟨⟨fx, ρ1⟩, h1, h2⟩ := bind_some e
    refine ⟨ρ, F, O, fx, ρ1, R, h1, ?_⟩
    cases fx with
    | fl f =>
      cases h2
      exact q
    | er er =>
      dsimp only at h2
      split at h2
      · next hc =>
        obtain ⟨hc1, hc2⟩ := Bool.and_eq_true_iff.mp hc
        obtain ⟨⟨fl2, ρ2⟩, h3, h4⟩ := bind_some h2
        split at h4
        · next hn =>
          cases h4
          intro cls d σ1 F1 H1 O1 R1 s1 ho
          obtain ⟨D, hD⟩ := he er.cls (List.contains_iff_mem.mp hc1)
          have ec : cls = .ref D := Option.some.inj (ho.1.symm.trans hD.mgx)
          refine ⟨true, by rw [ec]; exact hD.exm hh, fun _ a na => ?_, fun q => nomatch q⟩
          have R2 : Rel X.K (z.exx X.K X.mg a cls d) (ρ1.set i (some (.odd (.exc er)))) (σ1.set i (some (.ref a))) F1 H1 (setO O1 i []) := (R1.exx hc2).setE (i := i) (v := .ref a) (e := .odd (.exc er)) (as := []) ⟨rfl, a, rfl, rfl, ho⟩ fun a ha => nomatch ha
          refine ⟨_, F1, _, fl2, ρ2, R2, h3, ?_⟩
          have fin : ∀ {σ2 : L2.St} {F2 H2 : Hp} {O2 : Nat → List Addr}, Rel X.K (z.exx X.K X.mg a cls d) ρ2 σ2 F2 H2 O2 → Rel X.K z (ρ2.set i none) (σ2.set i none) F2 H2 O2 := fun R2 => (R2.unset i).unexx hn
          cases fl2 with
          | nx => exact fun σ2 F2 H2 O2 R2 s2 => q _ F2 H2 O2 (fin R2) (s1.trans s2)
          | bk => exact fun σ2 F2 H2 O2 R2 s2 => q _ F2 H2 O2 (fin R2) (s1.trans s2)
          | ct => exact fun σ2 F2 H2 O2 R2 s2 => q _ F2 H2 O2 (fin R2) (s1.trans s2)
          | ret d => exact fun v σ2 F2 H2 O2 R2 s2 r => q v _ F2 H2 O2 (fin R2) (s1.trans s2) r
        · cases h4
      · cases h2
end
/-- isinstance(e, c), e the error that the suite holds -/
def rIsX (K : PySem.W.Frag) (D a : Addr) (d : Option Addr) : List V → Hp → VK → Prop := fun xs H Q => ∃ (c : V) (cv : Value) (b : Bool), xs = [.ref a, c] ∧ (∀ u, RelV c u → u = cv) ∧ PySem.W.kitOne K (.ref D) cv = some b ∧ (d = none ∨ ∃ dd fs, d = some dd ∧ H dd = some (.xd fs)) ∧ Q (.bl b) H
theorem call_isX {X : Cx} {a D AH : Addr} {x : Str} {oe : Obj} {d : Option Addr} {pn : List (Addr × Obj)} (hh : ErrH X.K X.mg AH) (C : ErrC X.K X.mg AH x D) (hz : Zc (.ref D) d oe) (hf : ∃ vs, oe.data = .fields vs) : CallR (X.suite a ((a, oe) :: pn)) (.builtin "isinstance") (rIsX X.K D a d) := by
  intro pins s σ H xs us Q I r h
  obtain ⟨c, cv, b, rfl, hcv, e, hd, q⟩ := h
  cases r with
  | cons rx rr =>
    cases rr with
    | cons rt rr =>
      cases rr
      cases rx
      have ec := hcv _ rt
      subst ec
      obtain ⟨hget, _⟩ := I.pin (a, oe) (List.mem_append.mpr (.inl List.mem_cons_self))
      obtain ⟨vs, hv⟩ := hf
      obtain ⟨cd, h1, h2, h3, _⟩ := C.cls
      have J : ∃ od, PySem.W.InstAt s.heap a oe D od := by
        obtain ⟨oc, oda, od, osl⟩ := oe
        obtain ⟨z1, z2⟩ := hz
        dsimp only at z1 z2 hv
        subst z1 z2 hv
        rcases hd with hd | ⟨dd, fs, hd, hH⟩
        · subst hd
          exact ⟨none, hget, rfl, rfl, trivial⟩
        · subst hd
          have hx : ObjOk X.prog X.w H s.heap dd (.xd fs) := I.hok dd _ hH
          obtain ⟨mA, ⟨od, es, ep, ho, _⟩, _⟩ := hx
          exact ⟨some od, hget, rfl, rfl, ho⟩
      obtain ⟨od, J⟩ := J
      exact PySem.W.kia_one (PySem.W.kitx_exc (by rw [h1]; rfl) C.ga C.gg C.exF.exC C.cc hh.sp hh.tk (by rw [C.mro]; simp [List.contains_cons])) I.kIn J e (fun z => nomatch z) fun tk => ⟨.bl b, H, I.kept (t' := tk) fun _ _ z => z, rfl, q⟩
def excL (e : Option (Option E)) : Option Er := match e with
  | some (some (.odd (.exc e))) => some e
  | _ => none
theorem excL_of {e : Option (Option E)} {er : Er} (h : excL e = some er) : e = some (some (.odd (.exc er))) := by
  unfold excL at h
  split at h
  · cases h
    rfl
  · cases h
def cIsE (i : Nat) (cs : List Str) (y : Str) : Env → Option D := fun ρ => (excL ρ[i]?).bind fun e => if cs.contains e.cls = true then some (.bool (e.cls == y)) else none
section
variable {X : Cx} {z : Z} {a : Addr} {oe : Obj} {cls : Value} {d : Option Addr} {pn : List (Addr × Obj)}
theorem q_isE (i : Nat) {AH : Addr} {cs : List Str} {n y : Str} {p p1 p2 pos : Pos} (hh : ErrH X.K X.mg AH) (he : Errs X.K X.mg AH cs) (hy : ∃ C, ErrC X.K X.mg AH y C) (hzc : Zc cls d oe) (hf : ∃ vs, oe.data = .fields vs) (hx : ∀ e F a', z.x.exc e F a' → a' = a ∧ ErOk X.K X.mg F e cls d)
    (hg : Gl X "isinstance") (hm : X.mg "isinstance" = none) (hgy : Gl X y) (hN : X.N[i]? = some n := by rfl) (hv : Vis X.env.scope n := by first | exact Or.inl rfl | exact Or.inr (Or.inl rfl) | exact Or.inr (Or.inr rfl)) (hd : (n == ("__debug__" : Str)) = false := by decide)
    (hcd : (n == ("__classdict__" : Str)) = false := by decide) (hdy : (y == ("__debug__" : Str)) = false := by decide) : PE (X.suite a ((a, oe) :: pn)) (.Call (.Name "isinstance" p) [.Name n p1, .Name y p2] [] pos) (tP X.K z (cIsE i cs y)) := by
  refine ⟨fun pins s σ H Q I ⟨ρ, F, O, dd, R, e, q⟩ => ?_⟩
  obtain ⟨er, h1, h2⟩ := bind_some e
  split at h2
  · next hc =>
    cases h2
    obtain ⟨v, hσ, hent⟩ := R.ent i _ (excL_of h1)
    obtain ⟨_, a', ev, hex⟩ := hent
    obtain ⟨ea, ho⟩ := hx _ _ _ hex
    subst ea
    obtain ⟨D, hD⟩ := he er.cls (List.contains_iff_mem.mp hc)
    have ec : cls = .ref D := Option.some.inj (ho.1.symm.trans hD.mgx)
    subst ec
    obtain ⟨C, hC⟩ := hy
    have hdd : d = none ∨ ∃ dd fs, d = some dd ∧ H dd = some (.xd fs) := by
      have h2 := ho.2
      cases qf : er.fld with
      | none =>
        rw [qf] at h2
        exact .inl h2
      | some p =>
        rw [qf] at h2
        obtain ⟨dd, x, e1, e2, _⟩ := h2
        exact .inr ⟨dd, _, e1, R.sub _ _ e2⟩
    refine (pe_callB (X := X.suite a' ((a', oe) :: pn)) (call_isX hh hD hzc hf) hg hm rfl (pa_cons (pe_var (i := i) hN hv hd hcd) (pa_cons (pe_glob hgy hC.mgx (v := .ref C) rfl hdy) pa_nil)) (by decide) (by decide)).run pins s σ H Q I ?_
    refine ⟨v, hσ, ?_⟩
    show rIsX X.K D a' d [v, .ref C] H Q
    exact ⟨.ref C, .ref C, er.cls == y, by rw [ev], fun u r => r, hD.kit hh hC, hdd, q _ H (Same.refl _) (.bl _)⟩
  · cases h2
end
end DL
set_option maxHeartbeats 2000000
namespace DL
open PySem PySem.Spec PyProof.Rows L2 LamX
/-- no parameter, or one that has the default 0 -/
inductive LamSh : Arguments → Option Str → Prop
  | no : LamSh ⟨[], [], none, [], [], none, []⟩ none
  | one (nm : Str) (p : Pos) (j : Nat) (p2 : Pos) : LamSh ⟨[], [⟨nm, none, p⟩], none, [], [], none, [.Constant (.int 0) j p2]⟩ (some nm)
abbrev dvV : Option Addr → Value
  | none => .none
  | some T => .ref T
abbrev lamFd (q : Str) (params : Arguments) (body : Expr) (scope : Scope) (cl : List (Str × Addr)) (dV pm : Value) (c' : Addr) (ctv : Value) : FuncData :=
  { name := "<lambda>", qualname := q, params, body := .expr body, scope, globals := mainGlobals, closure := cl, defaults := dV, kwdefaults := .none, doc := .none, pyModule := pm, annotations := none, code := .ref c', closureTuple := ctv, builtins := builtinsNs }
def LamO (q : Str) (params : Arguments) (body : Expr) (scope : Scope) (cl : List (Str × Addr)) (f c' : Addr) (dv : Option Addr) : HO := .ext fun h => ∃ (od : Option Addr) (sl : Array (Option Value)) (pm ctv : Value), h.get? f = some (⟨.type "function", od, .func (lamFd q params body scope cl (dvV dv) pm c' ctv), sl⟩ : Obj)
def DvOk (F : Hp) (dv : Option Addr) (nm : Option Str) : Prop := match nm with
  | none => dv = none
  | some _ => ∃ T, dv = some T ∧ F T = some (.tup [.int 0])
theorem DvOk.mono {F F' : Hp} {dv : Option Addr} {nm : Option Str} (s : Same F F') (h : DvOk F dv nm) : DvOk F' dv nm := by
  cases nm with
  | none => exact h
  | some n =>
    obtain ⟨T, e, h⟩ := h
    exact ⟨T, e, s _ _ h⟩
section
variable {M : Model} {A : Around} {E : Value → Shared → Prop} {s : Shared} {name qual : Str} {params : Arguments} {body : Expr} {scope : Scope} {env : PySem.Env} {c P : Addr} {ps : Array Value} {pos : Pos} {firstLine : Nat} {mg : Str → Option Value}
  {clos : List (Str × Addr)} {Q : Value → Shared → Prop} {dV : Value}
theorem lam_tail (hcl : closureFor scope env = pure clos) (hge0 : env.globals = mainGlobals) (hg : s.heap.Ns mainGlobals mg) (hcode : env.code = .ref c) (C : PySem.W.CodeHd s.heap c P) (hP : s.heap.get? P = some (PySem.W.tabObj ps)) (ht : TriplesOk ps.toList)
    (hnf : codeAmong pos ps.toList = none) (hgP : mainGlobals ≠ P) (hb : s.heap.BuiltinsAt mg P)
    (h : ∀ c' ctv h' tk, Heap.ExtBut P s.heap h' → s.heap.objs.size ≤ c' → c' < h'.objs.size → h'.CodeRec (.ref c') qual → h'.get? P = some (PySem.W.tabObj (ps ++ #[rawInt pos.line, rawInt pos.col, .ref c'])) →
      Q (.ref h'.objs.size) { s with heap := h'.push { cls := .type "function", data := .func { PySem.W.kla_fn name qual params body scope clos ((mg "__name__").getD .none) (.ref c') ctv with defaults := dV } }, toks := tk }) :
    wpAny M A (makeTail name qual params (.expr body) scope env dV .none none pos firstLine) Q E s := by
  obtain ⟨bm, ob, hbm, hne0, _, hneP, hbo, hcls, hdict, hdata⟩ := hb
  unfold makeTail
  rw [hcl, hge0]
  refine wpAny_bind (wpAny_pure ?_)
  cases clos with
  | nil =>
    simp only [List.isEmpty_nil, if_true]
    refine wpAny_bind (wpAny_pure ?_)
    refine wpAny_bind (PySem.wpAny_functionCodeX hcode (C.code hP ht) (C.tab hP) hnf fun c' h' tk hx hge hlt _ hrec htb _ => ?_)
    have hg' := hg.extBut hx hgP
    refine wpAny_bind (wpAny_builtinsFor hg' hbm hne0 (hx _ _ hneP hbo) hcls hdict hdata ?_)
    refine wpAny_bind (wpAny_nsGet hg' ?_)
    exact wpAny_bind (wpAny_pure (wpAny_newObj_type (h c' .none h' tk hx hge hlt hrec htb.2) (by size_fits)))
  | cons q r =>
    simp only [List.isEmpty_cons, Bool.false_eq_true, if_false]
    refine wpAny_bind (wpAny_newTextTuple ?_)
    refine wpAny_bind (PySem.wpAny_functionCodeX hcode ((C.keeps fun b o e => Heap.get?_push_of_some _ e).code (Heap.get?_push_of_some _ hP) ht) ((C.keeps fun b o e => Heap.get?_push_of_some _ e).tab (Heap.get?_push_of_some _ hP)) hnf fun c' h' tk hx hge hlt _ hrec htb _ => ?_)
    have hg' := (hg.push _).extBut hx hgP
    have hx' : Heap.ExtBut P s.heap h' := fun b o hb' e => hx b o hb' (Heap.get?_push_of_some _ e)
    have hge' : s.heap.objs.size ≤ c' := Nat.le_trans (by rw [Heap.size_push]; omega) hge
    refine wpAny_bind (wpAny_builtinsFor hg' hbm hne0 (hx' _ _ hneP hbo) hcls hdict hdata ?_)
    refine wpAny_bind (wpAny_nsGet hg' ?_)
    exact wpAny_bind (wpAny_pure (wpAny_newObj_type (h c' _ h' tk hx' hge' hlt hrec htb.2) (by size_fits)))
theorem lam_tailHit {cv : Value} (hcl : closureFor scope env = pure clos) (hge0 : env.globals = mainGlobals) (hg : s.heap.Ns mainGlobals mg) (hcode : env.code = .ref c) (C : PySem.W.CodeHd s.heap c P) (hP : s.heap.get? P = some (PySem.W.tabObj ps)) (ht : TriplesOk ps.toList)
    (hf : codeAmong pos ps.toList = some cv) (hb : s.heap.BuiltinsAt mg P)
    (h : ∀ (ctv : Value) (h' : Heap) (tk : Tok), (∀ b o, s.heap.get? b = some o → h'.get? b = some o) → s.heap.objs.size ≤ h'.objs.size →
      Q (.ref h'.objs.size) { s with heap := h'.push { cls := .type "function", data := .func { PySem.W.kla_fn name qual params body scope clos ((mg "__name__").getD .none) cv ctv with defaults := dV } }, toks := tk }) :
    wpAny M A (makeTail name qual params (.expr body) scope env dV .none none pos firstLine) Q E s := by
  obtain ⟨bm, ob, hbm, hne0, _, hneP, hbo, hcls, hdict, hdata⟩ := hb
  unfold makeTail
  rw [hcl, hge0]
  refine wpAny_bind (wpAny_pure ?_)
  cases clos with
  | nil =>
    simp only [List.isEmpty_nil, if_true]
    refine wpAny_bind (wpAny_pure ?_)
    refine wpAny_bind (wpAny_functionCode_hit hcode (C.code hP ht) hf ?_)
    refine wpAny_bind (wpAny_builtinsFor hg hbm hne0 hbo hcls hdict hdata ?_)
    refine wpAny_bind (wpAny_nsGet hg ?_)
    exact wpAny_bind (wpAny_pure (wpAny_newObj_type (h .none s.heap s.toks (fun _ _ e => e) (Nat.le_refl _)) (by size_fits)))
  | cons q r =>
    simp only [List.isEmpty_cons, Bool.false_eq_true, if_false]
    refine wpAny_bind (wpAny_newTextTuple ?_)
    refine wpAny_bind (wpAny_functionCode_hit hcode ((C.keeps fun b o e => Heap.get?_push_of_some _ e).code (Heap.get?_push_of_some _ hP) ht) hf ?_)
    refine wpAny_bind (wpAny_builtinsFor (hg.push _) hbm hne0 (Heap.get?_push_of_some _ hbo) hcls hdict hdata ?_)
    refine wpAny_bind (wpAny_nsGet (hg.push _) ?_)
    have hsz : ∀ oT : Obj, s.heap.objs.size ≤ (s.heap.push oT).objs.size := fun oT => by rw [Heap.size_push]; omega
    exact wpAny_bind (wpAny_pure (wpAny_newObj_type (h _ _ s.toks (fun b o e => Heap.get?_push_of_some _ e) (hsz _)) (by size_fits)))
end
section
variable {X : Cx} {pins : List (Addr × Obj)} {σ : L2.St} {H : Hp} {s : Shared}
theorem inv_lam {q : Str} {params : Arguments} {body : Expr} {scope : Scope} {cl : List (Str × Addr)} {dv : Option Addr} {c' : Addr} {o : Obj} {t' : Nat} {pm ctv : Value} (I : Inv X pins σ H s) (ho : o = { cls := .type "function", data := .func (lamFd q params body scope cl (dvV dv) pm c' ctv) }) :
    Inv X pins σ (upd H s.heap.objs.size (LamO q params body scope cl s.heap.objs.size c' dv)) { s with heap := s.heap.push o, toks := t' } := by
  subst ho
  refine I.laid (a := s.heap.objs.size) (fun b u e => Heap.get?_push_of_some _ e) (Nat.le_refl _) ?_
  have e : (s.heap.push ({ cls := .type "function", data := .func (lamFd q params body scope cl (dvV dv) pm c' ctv) } : Obj)).get? s.heap.objs.size = some ({ cls := .type "function", data := .func (lamFd q params body scope cl (dvV dv) pm c' ctv) } : Obj) := Heap.get?_push_size _ rfl
  exact ⟨⟨_, _, pm, ctv, e⟩, ⟨_, e⟩, fun h1 h2 ⟨od, sl, p, t, z⟩ st => ⟨od, sl, p, t, st _ z⟩⟩
/-- the table at P, its code objects told by F -/
def TabF (F H : Hp) (P : Addr) (q : Str) : Prop := ∃ ps : Array Value, H P = some (.tbl ps) ∧ TriplesOk ps.toList ∧ ∀ (pos : Pos) (cv : Value), codeAmong pos ps.toList = some cv → ∃ c, cv = .ref c ∧ F c = some (CodeO c q)
/-- its defaults stand; the lambda is made: its code object is new, or found in the table -/
theorem lam_made {F : Hp} {q : Str} {c P : Addr} {params : Arguments} {body : Expr} {scope : Scope} {pos : Pos} {dv : Option Addr} {E : Value → Shared → Prop} {Q : Value → Shared → Prop} (I : Inv X pins σ H s) (TB : TabB X.base X.mg c P) (hcode : X.env.code = .ref c) (hq : q = X.env.qual ++ "<lambda>")
    (hT : TabF F H P q) (sF : Same F H) (hfree : ∀ y ∈ scope.names, y.2 = .free → ∃ c, X.env.cells.lookup y.1 = some c)
    (h : ∀ (f c' : Addr) (H1 : Hp) (s' : Shared), Inv X pins σ H1 s' → (∀ b o, b ≠ P → H b = some o → H1 b = some o) → TabF (ext F H H1) H1 P q → H f = none → H1 f = some (LamO q params body scope (cloFrom X.env.cells scope.names []) f c' dv) → ext F H H1 c' = some (CodeO c' q) → Q (.ref f) s') :
    wpAny (model X.prog X.w) X.A (makeTail "<lambda>" (X.env.qual ++ "<lambda>") params (.expr body) scope X.env (dvV dv) .none none pos pos.line) Q E s := by
  obtain ⟨ps, hP, ht, ha⟩ := hT
  have bP : s.heap.BuiltinsAt X.mg P := TB.bm.keeps I.bk
  have hP' : s.heap.get? P = some { cls := .none, data := .fields ps } := I.hok P _ hP
  have old : ∀ {c0 : Addr} {o : HO} {H1 : Hp}, F c0 = some o → ext F H H1 c0 = some o := fun {c0 o H1} e => by
    unfold ext
    rw [sF _ _ e]
    simpa using e
  subst hq
  cases hc : codeAmong pos ps.toList with
  | none =>
    refine lam_tail (mg := X.mg) (c := c) (P := P) (ps := ps) (closure_ok hfree) I.ok.glob (I.mod.glob.keeps I.bk) hcode (TB.code.keeps I.bk) hP' ht hc TB.gP bP fun c' ctv h' tk hx hge hlt hrec htb => ?_
    obtain ⟨c2, oc, vs, t, e2, hoc, hd, hv⟩ := hrec
    cases e2
    have nC : H c' = none := I.hok.fresh hge
    have nPc : P ≠ c' := ne_of_none hP nC
    have I1 := inv_table (t' := tk) (more := #[rawInt pos.line, rawInt pos.col, .ref c']) (h' := h') I hP (fun b o hb e => hx b o hb e) htb hge ⟨oc, vs, t, hoc, hd, hv⟩
    have eL : (ps ++ #[rawInt pos.line, rawInt pos.col, .ref c']).toList = ps.toList ++ [rawInt pos.line, rawInt pos.col, .ref c'] := by simp
    have nF := I1.hok.fresh (Nat.le_refl _)
    have nF0 : H h'.objs.size = none := I.hok.fresh (Nat.le_trans hge (Nat.le_of_lt hlt))
    have I2 := inv_lam (q := X.env.qual ++ "<lambda>") (params := params) (body := body) (scope := scope) (cl := cloFrom X.env.cells scope.names []) (dv := dv) (c' := c') (t' := tk) (pm := (X.mg "__name__").getD .none) (ctv := ctv) I1 rfl
    have nfc : h'.objs.size ≠ c' := Nat.ne_of_gt hlt
    have nfP : h'.objs.size ≠ P := fun e => by
      rw [e, hP] at nF0
      cases nF0
    have hc' : ext F H (upd (upd (upd H P (.tbl (ps ++ #[rawInt pos.line, rawInt pos.col, .ref c']))) c' (CodeO c' (X.env.qual ++ "<lambda>"))) h'.objs.size (LamO (X.env.qual ++ "<lambda>") params body scope (cloFrom X.env.cells scope.names []) h'.objs.size c' dv)) c' = some (CodeO c' (X.env.qual ++ "<lambda>")) := by
      unfold ext
      rw [nC, upd_ne (Ne.symm nfc), upd_same]
      rfl
    refine h h'.objs.size c' _ _ I2 (fun b o n e => ?_) ⟨_, by rw [upd_ne (Ne.symm nfP), upd_ne nPc, upd_same], by rw [eL]; exact PySem.TriplesOk_snoc _ _ _ _ ht, fun p' cv hcv => ?_⟩ nF0 upd_same hc'
    · rw [upd_ne (fun e2 => by rw [e2, nF0] at e; cases e), upd_ne (ne_of_none e nC), upd_ne n]
      exact e
    · rw [eL] at hcv
      rcases among_app _ ht hcv with z | z
      · obtain ⟨c0, e1, e2⟩ := ha p' cv z
        exact ⟨c0, e1, old e2⟩
      · exact ⟨c', z, hc'⟩
  | some cv =>
    obtain ⟨c', e, hco⟩ := ha pos cv hc
    subst e
    refine lam_tailHit (mg := X.mg) (c := c) (P := P) (ps := ps) (closure_ok hfree) I.ok.glob (I.mod.glob.keeps I.bk) hcode (TB.code.keeps I.bk) hP' ht hc bP fun ctv h' tk hx hsz => ?_
    have I1 : Inv X pins σ H { s with heap := h', toks := tk } := I.kept hx
    have nF : H h'.objs.size = none := I1.hok.fresh (Nat.le_refl _)
    have I2 := inv_lam (q := X.env.qual ++ "<lambda>") (params := params) (body := body) (scope := scope) (cl := cloFrom X.env.cells scope.names []) (dv := dv) (c' := c') (t' := tk) (pm := (X.mg "__name__").getD .none) (ctv := ctv) I1 rfl
    have nfP : P ≠ h'.objs.size := ne_of_none hP nF
    refine h h'.objs.size c' _ _ I2 (fun b o n e => ?_) ⟨ps, by rw [upd_ne nfP]; exact hP, ht, fun p' cv hcv => ?_⟩ nF upd_same (old hco)
    · exact (upd_ne (ne_of_none e nF)).trans e
    · obtain ⟨c0, e1, e2⟩ := ha p' cv hcv
      exact ⟨c0, e1, old e2⟩
end
/-- the frame's own knowledge: its table at P, its lambdas -/
structure LamI where
  params : Arguments
  body : Expr
  scope : Scope
  nm : Option Str
def lamZx (ad : Nat → Addr) (q : Str) (P : Addr) (cells : List (Str × Addr)) (ls : Nat → LamI) : Zx where
  ad := ad
  tab := fun F H P' => P' = P ∧ TabF F H P q
  lam := fun j F f => ∃ (c' : Addr) (dv : Option Addr), F f = some (LamO q (ls j).params (ls j).body (ls j).scope (cloFrom cells (ls j).scope.names []) f c' dv) ∧ F c' = some (CodeO c' q) ∧ DvOk F dv (ls j).nm
  exc := fun _ _ _ => False
  tabS := fun s k h => by
    obtain ⟨e, ps, h1, h2, h3⟩ := h
    subst e
    refine ⟨rfl, ps, k.trans h1, h2, fun pos cv hc => ?_⟩
    obtain ⟨c, e1, e2⟩ := h3 pos cv hc
    exact ⟨c, e1, s _ _ e2⟩
  lamS := fun s h => by
    obtain ⟨c', dv, h1, h2, h3⟩ := h
    exact ⟨c', dv, s _ _ h1, s _ _ h2, h3.mono s⟩
  excS := fun _ h => h
def tabL (e : Option (Option E)) : Bool := match e with
  | some (some (.odd (.tab _))) => true
  | _ => false
def isTab (ρ : Env) : Bool := tabL ρ[0]?
section
variable {K : PySem.W.Frag} {z : Z} {ρ : Env} {σ : L2.St} {F H H' : Hp} {O : Nat → List Addr}
theorem isTab_of (h : isTab ρ = true) : ∃ d, ρ[0]? = some (some (.odd (.tab d))) := by
  unfold isTab tabL at h
  split at h
  · next e => exact ⟨_, e⟩
  · cases h
theorem Rel.tabbed {P : Addr} (R : Rel K z ρ σ F H O) (h : isTab ρ = true) : ∃ P, O 0 = [P] ∧ z.B P ∧ z.x.tab F H P := by
  obtain ⟨d, h⟩ := isTab_of h
  obtain ⟨v, _, h2⟩ := R.ent 0 _ h
  obtain ⟨_, P, e, h3, h4⟩ := h2
  exact ⟨P, e, h3, h4⟩
/-- new things; the table has grown -/
theorem Rel.growT {P : Addr} (R : Rel K z ρ σ F H O) (h : isTab ρ = true) (hP : O 0 = [P]) (hB : z.B P) (k : ∀ a o, a ≠ P → H a = some o → H' a = some o) (hP' : ∃ ps, H' P = some (.tbl ps)) (ht : z.x.tab (ext F H H') H' P) : Rel K z ρ σ (ext F H H') H' O ∧ Kp F H (ext F H H') H' O := by
  obtain ⟨d, h⟩ := isTab_of h
  obtain ⟨v, hv, hE⟩ := R.ent 0 _ h
  have hm : P ∈ O 0 := by rw [hP]; exact List.mem_cons_self
  obtain ⟨hFP, hHP⟩ := R.off 0 P hm
  obtain ⟨ps, hP'⟩ := hP'
  have eH : ∃ H1 : Hp, H1 = fun a => if a = P then H P else H' a := ⟨_, rfl⟩
  obtain ⟨H1, e1⟩ := eH
  have s01 : Same H H1 := fun a o ha => by
    rw [e1]
    dsimp only
    split
    · next q => rw [← q]; exact ha
    · next q => exact k a o q ha
  have eF : ext F H H1 = ext F H H' := by
    funext a
    unfold ext
    cases q : H a with
    | some o => simp
    | none =>
      have n : a ≠ P := fun e => hHP (by rw [← e]; exact q)
      simp [e1, n]
  have R1 := R.grow s01
  rw [eF] at R1
  have e2 : upd H1 P (.tbl ps) = H' := by
    funext a
    by_cases q : a = P
    · rw [q, upd_same, hP']
    · rw [upd_ne q, e1]
      dsimp only
      rw [if_neg q]
  have R2 := R1.mut (i := 0) (a := P) (o := .tbl ps) (e := .odd (.tab d)) (v := v) hm (.inr hB) hv (by
    rw [e2]
    exact ⟨hE.1.mono (same_ext R.sub), P, hP, hB, ht⟩)
  rw [e2] at R2
  have e3 : ρ.set 0 (some (.odd (.tab d))) = ρ := by
    have hl : 0 < ρ.length := (List.getElem?_eq_some_iff.mp h).1
    have := (List.getElem?_eq_some_iff.mp h).2
    rw [← this]
    exact List.set_getElem_self hl
  rw [e3] at R2
  refine ⟨R2, ⟨same_ext R.sub, fun a o ha n => k a o (fun q => n 0 (by rw [q]; exact hm)) ha, fun a ha hF => ?_, fun a ha => ?_⟩⟩
  · obtain ⟨o, q⟩ := some_of ha
    unfold ext
    simp [q, hF]
  · obtain ⟨o, q⟩ := some_of ha
    by_cases n : a = P
    · rw [n]
      exact ne_none hP'
    · exact ne_none (k a o n q)
end
/-- what the making of a lambda gives -/
def tMk (K : PySem.W.Frag) (z : Z) (j : Nat) : TE := fun σ H Q => ∃ ρ F O, Rel K z ρ σ F H O ∧ isTab ρ = true ∧ ∀ f F' H', Rel K z ρ σ F' H' O → Kp F H F' H' O → z.x.lam j F' f → Q (.ref f) H'
section
variable {X : Cx} {z : Z}
theorem pe_lam {j : Nat} {ad : Nat → Addr} {q : Str} {c P : Addr} {ls : Nat → LamI} {params : Arguments} {body : Expr} {scope : Scope} {nm : Option Str} {pos : Pos} (TB : TabB X.base X.mg c P) (hcode : X.env.code = .ref c) (hq : q = X.env.qual ++ "<lambda>")
    (hz : z.x = lamZx ad q P X.env.cells ls) (hj : ls j = ⟨params, body, scope, nm⟩) (hsh : LamSh params nm) (hfree : ∀ y ∈ scope.names, y.2 = .free → X.env.scope.names.lookup y.1 = some .cell ∨ X.env.scope.names.lookup y.1 = some .free) :
    PE X (.Lambda params body scope pos) (tMk X.K z j) := by
  refine ⟨fun pins s σ H Q I ⟨ρ, F, O, R, hT, qq⟩ => ?_⟩
  obtain ⟨P', hO, hB, ht⟩ := R.tabbed (P := P) hT
  rw [hz] at ht
  obtain ⟨eP, ht⟩ := ht
  subst eP
  have hfr : ∀ y ∈ scope.names, y.2 = .free → ∃ c, X.env.cells.lookup y.1 = some c := fun y hy e => (hfree y hy e).elim (fun w => I.ok.has _ (.inl w)) fun w => I.ok.has _ (.inr w)
  have main : ∀ (dv : Option Addr) (H0 : Hp) (s0 : Shared), Inv X pins σ H0 s0 → Same H H0 → DvOk (ext F H H0) dv nm → wpAny (model X.prog X.w) X.A (makeTail "<lambda>" (X.env.qual ++ "<lambda>") params (.expr body) scope X.env (dvV dv) .none none pos pos.line) (EP X pins σ Q) X.xe s0 := by
    intro dv H0 s0 I0 s01 hdv
    have R0 := R.grow s01
    obtain ⟨ps, h1, h2, h3⟩ := ht
    refine lam_made (F := ext F H H0) (dv := dv) I0 TB hcode hq ⟨ps, s01 _ _ h1, h2, fun pos cv hc => ?_⟩ R0.sub hfr fun f c' H1 s' I1 eN T1 hf0 hf hc' => ?_
    · obtain ⟨c0, e1, e2⟩ := h3 pos cv hc
      exact ⟨c0, e1, same_ext R.sub _ _ e2⟩
    · have T2 := T1
      obtain ⟨ps1, t1, _⟩ := T2
      obtain ⟨R1, k1⟩ := R0.growT hT hO hB eN ⟨ps1, t1⟩ (by rw [hz]; exact ⟨rfl, T1⟩)
      refine ⟨.ref f, H1, I1, rfl, qq f _ H1 R1 ((Kp.of_same R.sub s01).trans k1) ?_⟩
      rw [hz]
      show ∃ (c' : Addr) (dv : Option Addr), _
      rw [hj]
      refine ⟨c', dv, ?_, hc', hdv.mono (same_ext R0.sub)⟩
      unfold ext
      rw [hf0]
      exact hf
  cases hsh with
  | no =>
    refine PySem.W.kla_eval rfl ?_
    rw [makeFunction_eq]
    simp only [List.zip_nil_right, List.filterMap_nil, List.isEmpty_nil, if_true, pure_bind]
    exact main none H s I (Same.refl _) rfl
  | one nm p j2 p2 =>
    rw [arm_eval_Lambda]
    show wpAny _ _ (do let dv ← evalAll [eval (.Constant (.int 0) j2 p2) X.env]; let kdv ← holding dv (evalAllOpt []); makeFunction "<lambda>" (X.env.qual ++ "<lambda>") _ (.expr body) scope X.env dv kdv [] pos pos.line) _ _ s
    refine wpAny_bind (wpAny_evalAll_cons (thn ((pe_int (X := X)).run pins s σ H (fun v H1 => v = .int 0 ∧ H1 = H) I ⟨rfl, rfl⟩) fun u s1 ⟨v, H1, I1, r1, ev, eH⟩ => ?_))
    subst ev eH
    refine wpAny_evalAll_nil ?_
    refine wpAny_bind (wpAny_holding (wpAny_pure ?_))
    rw [makeFunction_eq]
    simp only [List.zip_nil_right, List.filterMap_nil, List.isEmpty_nil, List.isEmpty_cons, if_true, pure_bind, Bool.false_eq_true, if_false]
    refine wpAny_bind (wpAny_newTextTuple ?_)
    have hf : H1 s1.heap.objs.size = none := I1.hok.fresh (Nat.le_refl _)
    have I2 : Inv X pins σ (upd H1 s1.heap.objs.size (.tup [.int 0])) { s1 with heap := s1.heap.push { cls := .type "tuple", data := .seq [u].toArray } } := I1.laid (t' := s1.toks) (fun b u e => Heap.get?_push_of_some _ e) (Nat.le_refl _) ⟨by show 1 ≤ sizeLine; rw [sizeLine_eq]; omega, [u], .cons r1 .nil, ⟨_, Heap.get?_push_size _ rfl, rfl, _, rfl⟩⟩
    exact main (some s1.heap.objs.size) _ _ I2 (same_new hf) ⟨_, rfl, by rw [ext_new R.sub hf]; exact upd_same⟩
end
end DL
set_option maxHeartbeats 2000000
namespace DL
open PySem PySem.Spec PyProof.Rows L2 LamX
theorem Lams.length {L : Nat → Hp → Addr → Prop} {F : Hp} : ∀ {fs : List Addr} {js : List Nat}, Lams L F fs js → fs.length = js.length
  | _, _, .nil => rfl
  | _, _, .cons _ t => congrArg (· + 1) t.length
theorem Lams.append {L : Nat → Hp → Addr → Prop} {F : Hp} : ∀ {fs gs : List Addr} {js ks : List Nat}, Lams L F fs js → Lams L F gs ks → Lams L F (fs ++ gs) (js ++ ks)
  | _, _, _, _, .nil, t => t
  | _, _, _, _, .cons h s, t => .cons h (s.append t)
theorem Lams.get {L : Nat → Hp → Addr → Prop} {F : Hp} : ∀ {fs : List Addr} {js : List Nat} {i j : Nat}, Lams L F fs js → js[i]? = some j → ∃ f, fs[i]? = some f ∧ L j F f
  | _, _, _, _, .nil, e => by simp at e
  | _, _, 0, _, .cons h _, e => by
    simp at e
    subst e
    exact ⟨_, rfl, h⟩
  | _, _, i + 1, _, .cons _ t, e => by
    obtain ⟨f, h1, h2⟩ := t.get (i := i) (by simpa using e)
    exact ⟨f, by simpa using h1, h2⟩
def FinP (K : PySem.W.Frag) (mg : Str → Option Value) (F H : Hp) (σ : L2.St) (W : WX) (Q : VK) : Oc → Prop
  | .ok d => ∀ v H', Same H H' → Rep K (ext F H H') v d → Q v H'
  | .er e => ∀ cls d H', Same H H' → ErOk K mg (ext F H H') e cls d → W cls d σ H'
def tPx (K : PySem.W.Frag) (z : Z) (mg : Str → Option Value) (W : WX) (f : Env → Option Oc) : TE := fun σ H Q => ∃ ρ F O r, Rel K z ρ σ F H O ∧ f ρ = some r ∧ FinP K mg F H σ W Q r
def pCall (m : List D → Option Oc) (f : Env → Option (List D)) : Env → Option Oc := fun ρ => (f ρ).bind m
section
variable {X : Cx} {z : Z} {W : WX} {x : Str} {k j : Nat} {p p1 p2 pos : Pos} {e : Expr} {es : List Expr}
theorem FinP.to {K : PySem.W.Frag} {mg : Str → Option Value} {F H H1 : Hp} {σ : L2.St} {W : WX} {Q : VK} {r : Oc} (s : Same H H1) (h : FinP K mg F H σ W Q r) : FinO K mg (ext F H H1) H1 Q (fun cls d H' => W cls d σ H') r := by
  cases r with
  | ok d => exact fun v H' s2 r => h v H' (s.trans s2) (by rw [ext_ext s s2] at r; exact r)
  | er e => exact fun cls d H' s2 r => h cls d H' (s.trans s2) (by rw [ext_ext s s2] at r; exact r)
theorem p_call {m : List D → Option Oc} {f : Env → Option (List D)} (tk : Takes X W) (c : CalX X.prog X.w X.K X.mg X.base k x (spX X.K X.mg m)) (hr : Room j X.A) (hk : k ≤ j) (hg : Gl X x) (ha : PA X (e :: es) (tPs X.K z f))
    (hdb : (x == ("__debug__" : Str)) = false := by decide) (he : starEach (e :: es) X.env = (false, eval e X.env) :: starEach es X.env := by rfl) (hpl : (backTo pos (starEach es X.env)).any (·.1) = false := by rfl) : PE X (.Call (.Name x p) (e :: es) [] pos) (tPx X.K z X.mg W (pCall m f)) := by
  obtain ⟨g, fd, ps, F, h1, h2, h3⟩ := c.ex
  refine (pe_callS F (hr.mono hk) hg h1 h2 h3 (fun σ => passAt tk σ) ha hdb he hpl).mono fun σ H Q ⟨ρ, F, O, r, R, e, q⟩ => ?_
  obtain ⟨ds, h4, h5⟩ := bind_some e
  exact ⟨ρ, F, O, ds, R, h4, fun vs H1 s1 r1 => ⟨_, ds, _, ⟨(R.grow s1).sub, (R.grow s1).tup⟩, r1, h5, q.to s1⟩⟩
end
end DL
set_option maxHeartbeats 2000000
namespace DL
open PySem PySem.Spec PyProof.Rows L2 LamX
theorem bind_one {M : Model} {A : Around} {E : Value → Shared → Prop} {s : Shared} {Q : List (Str × Value) → Shared → Prop} {fd : FuncData} {nm : Str} {p : Pos} {d : Expr} {T : Addr} {o : Obj} {v : Value} {n : Nat}
    (hp : fd.params = ⟨[], [⟨nm, none, p⟩], none, [], [], none, [d]⟩) (hd : fd.defaults = .ref T) (hT : s.heap.get? T = some o) (ho : o.data = .seq #[v] n) (h : Q [(nm, v)] s) : wpAny M A (bindArgs fd ⟨[], []⟩) Q E s := by
  unfold bindArgs
  simp only [hp, hd]
  simp
  refine wpAny_bind (wpAny_seqItems hT ho ?_)
  simp
  exact wpAny_pure h
/-- the lambda's names: captured ones, globals, its own parameter -/
structure LamN (N : List Str) (sc scope : Scope) (nm : Option Str) : Prop where
  kind : scope.kind = .function
  co : scope.isCoroutine = false
  gen : scope.isGenerator = false
  cell : ∀ y ∈ scope.names, y.2 ≠ .cell
  own : ∀ y ∈ scope.names, y.2 = .local → y.1 ∉ N
  par : ∀ n, nm = some n → scope.names.lookup n = some .local
  free : ∀ y ∈ scope.names, y.2 = .free → sc.names.lookup y.1 = some .cell ∨ sc.names.lookup y.1 = some .free
def lamNB (N : List Str) (sc scope : Scope) (nm : Option Str) : Bool :=
  decide (scope.kind = .function) && !scope.isCoroutine && !scope.isGenerator && scope.names.all (fun y => !decide (y.2 = .cell) && (!decide (y.2 = .local) || !decide (y.1 ∈ N)) && (!decide (y.2 = .free) || decide (sc.names.lookup y.1 = some .cell) || decide (sc.names.lookup y.1 = some .free))) && (match nm with | none => true | some n => decide (scope.names.lookup n = some .local))
theorem lamN_by {N : List Str} {sc scope : Scope} {nm : Option Str} (h : lamNB N sc scope nm = true) : LamN N sc scope nm := by
  unfold lamNB at h
  simp only [Bool.and_eq_true, Bool.or_eq_true, Bool.not_eq_true', decide_eq_true_eq, decide_eq_false_iff_not, List.all_eq_true] at h
  obtain ⟨⟨⟨⟨h1, h2⟩, h3⟩, h4⟩, h5⟩ := h
  refine ⟨h1, h2, h3, fun y hy => (h4 y hy).1.1, fun y hy e => ?_, fun n e => ?_, fun y hy e => ?_⟩
  · rcases (h4 y hy).1.2 with q | q
    · exact absurd e q
    · exact q
  · subst e
    simpa using h5
  · rcases (h4 y hy).2 with (q | q) | q
    · exact absurd e q
    · exact .inl q
    · exact .inr q
section
variable {X : Cx} {pins : List (Addr × Obj)} {σ : L2.St} {H HZ : Hp} {s s1 : Shared}
theorem LamN.has {scope : Scope} {nm : Option Str} (L : LamN X.N X.env.scope scope nm) (ok : X.Ok) : ∀ y ∈ scope.names, y.2 = .free → ∃ c, X.env.cells.lookup y.1 = some c := fun y hy e => by
  rcases L.free y hy e with k | k
  · exact ok.has _ (.inl k)
  · exact ok.has _ (.inr k)
theorem lam_start3 {A : Around} {outer : List PySem.Env} {E : XK} {scope : Scope} {nm : Option Str} {f c' : Addr} {h₁ : Heap} {tk : Nat} {m : Str → Option Value} (I : Inv X pins σ H s) (L : LamN X.N X.env.scope scope nm) (e0 : Env0 X.prog X.w X.K X.mg X.base A outer s1 HZ) (hd : A.handled = none)
    (un : Un (frs X.stack) [] H HZ s.heap s1.heap) (hns : h₁.Ns s1.heap.objs.size m) (kp : ∀ b o, s1.heap.get? b = some o → h₁.get? b = some o) :
    Inv (lamCx X A outer s1 HZ E scope f c') [] σ HZ { s1 with heap := h₁, toks := tk } := by
  have hfree := L.has I.ok
  have cm : ∀ {y c}, (cloFrom X.env.cells scope.names []).lookup y = some c → X.env.cells.lookup y = some c := fun {y c} e => by
    rcases cloFrom_mem (PySem.mem_of_lookup e) with hm | ⟨h1, h2⟩
    · cases hm
    · obtain ⟨c1, hc⟩ := hfree _ h1 rfl
      have hc : X.env.cells.lookup y = some c1 := hc
      have e2 : c = c1 := by
        rw [h2, hc] <;> rfl
      rw [e2]
      exact hc
  have look : ∀ {y}, scope.names.lookup y = some .free → ∃ c, (cloFrom X.env.cells scope.names []).lookup y = some c := fun {y} hl => by
    have hy : (y, NameKind.free) ∈ scope.names := PySem.mem_of_lookup hl
    exact mem_lookup (cloFrom_has (cells := X.env.cells) (acc := []) hy)
  have cellK : ∀ {c : Addr} {v : Option Value}, H c = none → s.heap.IsCell c v → h₁.IsCell c v := fun {c v} n ⟨o, ho, hd⟩ => by
    obtain ⟨sl, q⟩ := un.any ho n (by simp)
    exact ⟨_, kp _ _ q, hd⟩
  have noA : ∀ b : Addr, b ∉ (lamCx X A outer s1 HZ E scope f c').ex := fun b z => absurd (show b ∈ ([] : List Addr) from z) (by simp)
  refine ⟨⟨e0.mod, L.kind, rfl, rfl, Nat.le_refl _, fun y z c e1 e2 => I.ok.inj y z c (cm e1) (cm e2), fun y hy => ?_, fun y c z _ => ?_, fun _ => hd, Around.frames_deeper e0.frames, .inr ⟨rfl, rfl⟩, fun b z => absurd z (noA b), e0.bs, e0.bsz, fun b _ _ => noA b,
      fun b z => absurd z (noA b), e0.funs, e0.frf⟩,
    rfl, e0.bare, Un.kept kp, ⟨_, hns, fun i y v e1 e2 e3 => ?_⟩, fun y c e => ?_, e0.hok.fresh (Nat.le_refl _), fun y c e => ?_, fun q hq => absurd (show q ∈ ([] : List (Addr × Obj)) ++ [] from hq) (by simp), e0.hok.kept kp, I.len⟩
  · have hy : scope.names.lookup y = some .cell ∨ scope.names.lookup y = some .free := hy
    rcases hy with hy | hy
    · exact absurd rfl (L.cell _ (PySem.mem_of_lookup hy))
    · exact look hy
  · have z : false = true := z
    cases z
  · have e3 : Vis scope y := e3
    rcases e3 with k | k | k
    · exact absurd (List.mem_of_getElem? (show X.N[i]? = some y from e1)) (L.own _ (PySem.mem_of_lookup k) rfl)
    · exact absurd rfl (L.cell _ (PySem.mem_of_lookup k))
    · obtain ⟨m, hn, hl⟩ := I.loc
      have hvis : Vis X.env.scope y := (L.free _ (PySem.mem_of_lookup k) rfl).elim (fun k => .inr (.inl k)) (fun k => .inr (.inr k))
      obtain ⟨w', r, q⟩ := hl i y v e1 e2 hvis
      obtain ⟨c2, h2⟩ := look k
      refine ⟨w', r, .inr ⟨.inr k, c2, h2, ?_⟩⟩
      have c1 := cm h2
      rcases q with ⟨k', _⟩ | ⟨_, c3, e', z⟩
      · have k' : X.env.scope.names.lookup y = some .local := k'
        rcases L.free _ (PySem.mem_of_lookup k) rfl with k2 | k2 <;> rw [show X.env.scope.names.lookup y = _ from k2] at k' <;> cases k'
      · rw [c1] at e'
        cases e'
        exact cellK (I.freeC y _ c1) z
  · obtain ⟨w', z⟩ := I.cell y c (cm e)
    exact ⟨w', cellK (I.freeC y c (cm e)) z⟩
  · obtain ⟨v, o, ho, hd⟩ := I.cell y c (cm e)
    exact un.free c o ho (I.freeC y c (cm e)) (by simp)
end
def Zx.wk (f : Addr) : Zx := ⟨fun _ => f, fun _ _ _ => False, fun _ _ _ => False, fun _ _ _ => False, fun _ _ h => h, fun _ h => h, fun _ h => h⟩
abbrev zWk (H F : Hp) (f : Addr) : Z := ⟨H, F, fun _ => False, 0, [], Zx.wk f⟩
def atL (e : Option (Option E)) : Bool := match e with
  | some (some (.odd (.at _))) => true
  | _ => false
def pWork (r : Oc) : Env → Option Oc := fun ρ => if atL ρ[0]? = true then some r else none
def ActP (X : Cx) (z : Z) (a : Str) (r : Oc) : Prop := ∀ (W : WX) (pn : List (Addr × Obj)) (xe : Value → Shared → Prop) (p1 p2 : Pos), Takes (X.tr pn xe) W → PE (X.tr pn xe) (.Call (.Name a p1) [] [] p2) (tPx X.K z X.mg W (pWork r))
/-- a frame's own relation, under that of a frame above it -/
theorem Rel.under {K : PySem.W.Frag} {z : Z} {x : Zx} {c : Addr} {l : List Addr} {ρ ρ' : Env} {σ σ' : L2.St} {F H F' H' : Hp} {O O' : Nat → List Addr} (R : Rel K z ρ σ F H O) (R' : Rel K ⟨H, F, fun _ => False, c, l, x⟩ ρ' σ' F' H' O') : Rel K z ρ σ F' H' O where
  len := R.len
  sub := R'.sub
  ent := fun i e h => by
    obtain ⟨v, h1, h2⟩ := R.ent i e h
    refine ⟨v, h1, h2.mono R'.f0 fun a ha => ?_⟩
    obtain ⟨o, e⟩ := some_of (R.off i a ha).2
    rw [e]
    exact R'.keep a o e id
  off := fun i a ha => by
    obtain ⟨h1, h2⟩ := R.off i a ha
    exact ⟨R'.old a h2 h1, R'.oldH a h2⟩
  apt := R.apt
  old := fun a h0 f0 => R'.old a (R.oldH a h0) (R.old a h0 f0)
  oldH := fun a h0 => R'.oldH a (R.oldH a h0)
  keep := fun a o h b => R'.keep a o (R.keep a o h b) id
  f0 := R.f0.trans R'.f0
  tup := R'.tup
section
variable {X : Cx} {pins : List (Addr × Obj)} {σ : L2.St} {H : Hp} {s : Shared} {z : Z}
theorem act_lam {ρ : Env} {F : Hp} {O : Nat → List Addr} {ad : Nat → Addr} {q a : Str} {P f g : Addr} {ls : Nat → LamI} {j k : Nat} {params : Arguments} {body : Expr} {scope sg : Scope} {nm : Option Str} {Ng : List Str} {qg : Str} {cdg : Value} {b : Env → Option Oc} {r : Oc}
    (I : Inv X pins σ H s) (R : Rel X.K z ρ σ F H O) (L : LamN X.N X.env.scope scope nm) (hq : q = X.env.qual ++ "<lambda>") (hz : z.x = lamZx ad q P X.env.cells ls) (hj : ls j = ⟨params, body, scope, nm⟩) (hsh : LamSh params nm) (hl : z.x.lam j F f)
    (hr : Room (k + 1) (X.A.deeper (envOfC qg sg s.heap.objs.size g cdg)))
    (hbody : ∀ (A : Around) (outer : List PySem.Env) (s : Shared) (H : Hp) (E : XK) (f c' : Addr), Room k (A.deeper (lamEnv X scope s.heap.objs.size f c')) → PE (lamCx X A outer s H E scope f c') body (tPx X.K z X.mg (fun cls d _ H' => E cls d H') b))
    (hb : b ρ = some r) (hN : Ng[0]? = some a) (hv : Vis sg a) (hd : (a == ("__debug__" : Str)) = false := by decide) (hcd : (a == ("__classdict__" : Str)) = false := by decide) :
    ActP (cxOf C8.CX0 X.prog X.w X.K X.mg X.base Ng qg sg g cdg X.A X.stack s H C8.E0).nox (zWk H F f) a r := by
  intro W pn xe p1 p2 tk
  refine ⟨fun pinsZ sZ σZ HZ Q IZ ⟨ρZ, FZ, OZ, r', RZ, e, qq⟩ => ?_⟩
  have hat : atL ρZ[0]? = true ∧ r' = r := by
    unfold pWork at e
    split at e
    · cases e
      exact ⟨by assumption, rfl⟩
    · cases e
  obtain ⟨hat, er⟩ := hat
  subst er
  have hs0 : σZ[0]? = some (some (.ref f)) := by
    unfold atL at hat
    split at hat
    · next ea =>
      obtain ⟨v, h1, h2, _⟩ := RZ.ent 0 _ ea
      rw [h1, h2]
      rfl
    · cases hat
  have R2 := R.under RZ
  have hl2 := z.x.lamS RZ.f0 hl
  rw [hz] at hl2
  obtain ⟨c', dv, hlo, hco, hdv⟩ := hl2
  rw [hj] at hlo hdv
  refine wpAny_Call_Name_kw (thn ((pe_var (pos := p1) (i := 0) hN hv hd hcd).run pinsZ sZ σZ HZ (fun v H1 => v = .ref f ∧ H1 = HZ) IZ ⟨.ref f, hs0, rfl, rfl⟩) fun u s1 ⟨v, H1, I1, r1, q1⟩ => ?_)
  obtain ⟨ev, eH⟩ := q1
  subst ev
  rw [eH] at I1
  obtain rfl : u = Value.ref f := r1
  obtain ⟨⟨od, sl, pm, ctv, of1⟩, _, _⟩ := I1.hok f _ (RZ.sub _ _ hlo)
  obtain ⟨⟨oc, vs, t, hoc, hdc, hvc⟩, _, _⟩ := I1.hok c' _ (RZ.sub _ _ hco)
  refine PySem.W.callWith_F0 ⟨_, _, _, _, of1⟩ ?_
  have un : Un (frs X.stack) [] H HZ s.heap s1.heap := I1.base
  have hx := passAt tk σZ
  have enter : ∀ (binds : List (Str × Value)), (∀ y ∈ binds, scope.names.lookup y.1 = some .local) → wpAny (model X.prog X.w) (X.A.deeper (envOfC qg sg s.heap.objs.size g cdg)).in1 (newFunctionEnv scope mainGlobals (cloFrom X.env.cells scope.names []) binds (q ++ ".<locals>.") (some f) (.ref c') none builtinsNs)
      (fun env s₂ => s₂.heap.NoLimit ∧ codeAny (model X.prog X.w) (X.A.deeper (envOfC qg sg s.heap.objs.size g cdg)) (.expr body env) (CR (L2.CX X.prog X.w) (envOfC qg sg s.heap.objs.size g cdg :: X.stack) X.prog X.w HZ s1 Q (WE W σZ)) s₂) (fun e s' => CR (L2.CX X.prog X.w) (envOfC qg sg s.heap.objs.size g cdg :: X.stack) X.prog X.w HZ s1 Q (WE W σZ) (.error e) s') s1 := by
    intro binds hbl
    refine wpAny_newFunctionEnv L.cell hbl (fun h₁ hns hsb => ⟨I1.nolimit.fresh _ hsb, ?_⟩) L.kind
    subst hq
    show codeAny _ _ (.expr body (lamEnv X scope s1.heap.objs.size f c')) _ _
    have kp : ∀ b o, s1.heap.get? b = some o → h₁.get? b = some o := fun b o e => hsb.extBut b o (Nat.ne_of_lt (Heap.lt_size e)) (Heap.get?_push_of_some _ e)
    have J := lam_start3 (E := WE W σZ) (f := f) (c' := c') (tk := s1.toks + binds.length) I L I1.env0 hr.hd un hns kp
    refine PySem.W.kla_codeExpr (wpAny_mono ((hbody _ _ s1 HZ (WE W σZ) f c' (hr.deeper _)).run [] _ _ HZ Q J ⟨ρ, FZ, O, r', R2, hb, ?_⟩) (fun v s' hq => ?_) fun e s' hq => hq)
    · cases r' with
      | ok d => exact qq
      | er e => exact qq
    · obtain ⟨w', H', J', rv, q⟩ := hq
      exact ⟨w', H', J'.os, J'.bare, J'.base, J'.hok, rv, q⟩
  have rc : codeAny (model X.prog X.w) (X.A.deeper (envOfC qg sg s.heap.objs.size g cdg)) (.call (.ref f) ⟨[], []⟩) (CR (L2.CX X.prog X.w) (envOfC qg sg s.heap.objs.size g cdg :: X.stack) X.prog X.w HZ s1 Q (WE W σZ)) s1 := by
    refine PySem.W.kla_callFunE hr.depth of1 rfl L.co L.gen rfl ⟨c', oc, vs, t, rfl, hoc, hdc, hvc⟩ ?_
    cases hsh with
    | no =>
      have e0 : dv = none := hdv
      subst e0
      exact wpAny_of_eq (a := []) (by rfl) (enter [] fun y hy => nomatch hy)
    | one nm' pp jj p2' =>
      obtain ⟨T, edv, hT⟩ := hdv
      subst edv
      obtain ⟨_, its, rv, oT, hgT, hcT, nT, hdT⟩ := I1.hok T _ (RZ.sub _ _ hT)
      cases rv with
      | cons rv0 rvn =>
        cases rvn
        refine bind_one rfl rfl hgT hdT (enter _ fun y hy => ?_)
        rw [List.mem_singleton] at hy
        rw [hy]
        exact L.par _ rfl
  refine wpAny_call (codeAny_mono rc fun rr s' hq => ?_)
  cases rr with
  | error e => exact hx pinsZ HZ s1 e s' I1 hq
  | ok fl =>
    cases fl with
    | ret u => exact I1.after hq
    | next => exact False.elim hq
    | brk => exact False.elim hq
    | cont => exact False.elim hq
end
end DL
set_option maxHeartbeats 2000000
namespace DL
open PySem PySem.Spec PyProof.Rows L2 LamX
def runW (N : Nat) (gs : Oc → Gs) : Oc → Option D := fun r => (gs r (some (.odd (.at 0)) :: List.replicate (N - 1) none)).bind fin
structure Wk (P : Program) (w : World) (K : PySem.W.Frag) (mg : Str → Option Value) (base : Heap) (k : Nat) (x a : Str) (m : Oc → Option D) : Prop where
  ex : ∃ (g : Addr) (oc : Value) (od : Option Addr) (pg : Arguments) (bg : List Stmt) (sg : Scope) (dV kV doc pm : Value) (an : Option Addr) (cdv ct : Value) (osl : Array (Option Value)) (Ng : List Str) (gs : Oc → Gs),
    mg x = some (.ref g) ∧ PySem.W.keepIn K (.ref g) = true ∧ K.lookup g = some ⟨oc, od, .func (PySem.W.fnOf x x pg bg sg dV kV doc pm an cdv ct), osl⟩ ∧ PySem.W.codeIn K cdv x = true ∧ Binds K (PySem.W.fnOf x x pg bg sg dV kV doc pm an cdv ct) [a] [] ∧ FnScope Ng [a] sg ∧ Ng[0]? = some a ∧ Vis sg a ∧
    m = runW Ng.length gs ∧ ∀ (r : Oc) (A : Around) (outer : List PySem.Env) (s : Shared) (H : Hp) (z : Z), Room k (A.deeper (envOfC x sg s.heap.objs.size g cdv)) → ActP (cxOf C8.CX0 P w K mg base Ng x sg g cdv A outer s H C8.E0).nox z a r → PSs (cxOf C8.CX0 P w K mg base Ng x sg g cdv A outer s H C8.E0).nox bg (tS K z (gs r))
theorem rel_startW {K : PySem.W.Frag} {Ng : List Str} {F H : Hp} {f : Addr} (hN : 0 < Ng.length) (s : Same F H) (t : AllT F H) : Rel K (zWk H F f) (some (.odd (.at 0)) :: List.replicate (Ng.length - 1) none) (L2.start Ng [.ref f]) F H (fun _ => []) where
  len := by
    unfold L2.start
    simp only [List.length_append, List.length_map, List.length_replicate, List.length_cons, List.length_nil]
    omega
  sub := s
  ent := fun i e h => by
    cases i with
    | zero =>
      cases h
      exact ⟨.ref f, rfl, rfl, fun _ => rfl, fun h => absurd rfl h⟩
    | succ i =>
      rw [List.getElem?_cons_succ, List.getElem?_replicate] at h
      split at h <;> cases h
  off := fun i a ha => by cases ha
  apt := fun i j a ha => by cases ha
  old := fun a _ f => f
  oldH := fun a h => h
  keep := fun a o h _ => h
  f0 := Same.refl _
  tup := t
section
variable {P : Program} {w : World} {K : PySem.W.Frag} {mg : Str → Option Value} {base : Heap}
theorem wk_of {x a : Str} {st : Stmt} {g : Addr} {fd : FuncData} {N : List Str} {k : Nat} {gs : Oc → Gs} (n : Nat) (F : Fun K x x st g fd) (S : FnScope N [a] (defScope st)) (hn : N.length = n) (hm : mg x = some (.ref g)) (hb : Binds K fd [a] []) (h0 : N[0]? = some a := by rfl) (hv : Vis (defScope st) a := by exact Or.inl rfl)
    (h : ∀ (r : Oc) (cdv : Value) (A : Around) (outer : List PySem.Env) (s : Shared) (H : Hp) (z : Z), Room k (A.deeper (envOfC x (defScope st) s.heap.objs.size g cdv)) → ActP (cxOf C8.CX0 P w K mg base N x (defScope st) g cdv A outer s H C8.E0).nox z a r → PSs (cxOf C8.CX0 P w K mg base N x (defScope st) g cdv A outer s H C8.E0).nox (defBody st) (tS K z (gs r))) :
    Wk P w K mg base k x a (runW n gs) := by
  subst hn
  have hkp := F.kp
  obtain ⟨oc, od, kV, doc, pm, an, cdv, ct, osl, rfl, lk, hcd⟩ := F.ex
  exact ⟨g, oc, od, _, _, _, _, kV, doc, pm, an, cdv, ct, osl, N, gs, hm, hkp, lk, hcd, hb, S, h0, hv, rfl, fun r A outer s H z => h r cdv A outer s H z⟩
end
/-- a lambda of the frame, its body's mirror -/
structure LamOk (X : Cx) (z : Z) (kk : Nat) (l : LamI) (b : Env → Option Oc) : Prop where
  sh : LamSh l.params l.nm
  nm : LamN X.N X.env.scope l.scope l.nm
  bd : ∀ (A : Around) (outer : List PySem.Env) (s : Shared) (H : Hp) (E : XK) (f c' : Addr), Room kk (A.deeper (lamEnv X l.scope s.heap.objs.size f c')) → PE (lamCx X A outer s H E l.scope f c') l.body (tPx X.K z X.mg (fun cls d _ H' => E cls d H') b)
section
variable {X : Cx} {pins : List (Addr × Obj)} {σ : L2.St} {z : Z}
theorem run_wk {H1 F1 : Hp} {s1 : Shared} {ρ : Env} {O : Nat → List Addr} {ad : Nat → Addr} {q x a : Str} {P f : Addr} {ls : Nat → LamI} {j k kk : Nat} {m : Oc → Option D} {b : Env → Option Oc} {r : Oc} {d : D} {Q : VK} {g : Addr} {E : Value → Shared → Prop}
    (wk : Wk X.prog X.w X.K X.mg X.base k x a m) (hg : X.mg x = some (.ref g)) (hk : k ≤ kk + 1) (hr : Room (kk + 2) X.A) (hd : (a == ("__debug__" : Str)) = false) (hcd : (a == ("__classdict__" : Str)) = false) (I : Inv X pins σ H1 s1) (R : Rel X.K z ρ σ F1 H1 O) (hq : q = X.env.qual ++ "<lambda>") (hz : z.x = lamZx ad q P X.env.cells ls)
    (L : LamOk X z kk (ls j) b) (hl : z.x.lam j F1 f) (hb : b ρ = some r) (hm : m r = some d) (qq : ∀ v H2, Same H1 H2 → Rep X.K (ext F1 H1 H2) v d → Q v H2) :
    wpAny (model X.prog X.w) X.A (call (.ref g) [.ref f]) (EP X pins σ Q) E s1 := by
  obtain ⟨g', oc, od, pg, bg, sg, dV, kV, doc, pm, an, cdv, ct, osl, Ng, gs, h1, h2, lk, hc, hbn, S, h0, hv, em, hbody⟩ := wk.ex
  rw [hg] at h1
  cases h1
  subst em
  obtain ⟨⟨fl, ρ'⟩, e1, e2⟩ := bind_some hm
  have hN : 0 < Ng.length := (List.getElem?_eq_some_iff.mp h0).1
  have rc : codeAny (model X.prog X.w) X.A (.call (.ref g) ⟨[.ref f], []⟩) (CR C8.CX0 X.stack X.prog X.w H1 s1 Q C8.E0) s1 := by
    refine run_ofS (N := Ng) (ps := [a]) (us := [.ref f]) (vs := [.ref f]) lk hc S hr I.env0 (hbn s1 [.ref f] I.kIn rfl) (.cons rfl .nil) rfl fun hr' => ?_
    have act : ActP (cxOf C8.CX0 X.prog X.w X.K X.mg X.base Ng x sg g cdv X.A X.stack s1 H1 C8.E0).nox (zWk H1 F1 f) a r := act_lam I R L.nm hq hz (j := j) (by cases ls j; rfl) L.sh hl hr' L.bd hb h0 hv hd hcd
    refine ⟨_, (hbody r X.A X.stack s1 H1 (zWk H1 F1 f) (hr'.mono hk) act).nox, ?_⟩
    refine ⟨_, F1, _, fl, ρ', rel_startW hN R.sub R.tup, e1, ?_⟩
    cases fl with
    | nx =>
      cases e2
      exact fun σ F' H' O R s => qq .non H' (fun a o h => R.keep a o h id) .non
    | bk => cases e2
    | ct => cases e2
    | ret d2 =>
      cases e2
      exact fun v σ F' H' O R' s r => qq v H' (fun a o h => R'.keep a o h id) (r.mono (end_sub R.sub R'))
  refine wpAny_call (codeAny_mono rc fun rr s2 hq => ?_)
  cases rr with
  | error e => exact (show False from hq).elim
  | ok fl =>
    cases fl with
    | ret u => exact I.after hq
    | next => exact False.elim hq
    | brk => exact False.elim hq
    | cont => exact False.elim hq
end
def rErr (b : Env → Option Oc) (m : Oc → Option D) : Env → Option (D × Env) := fun ρ => if isTab ρ = true then (b ρ).bind fun r => (m r).map fun d => (d, ρ) else none
section
variable {X : Cx} {z : Z} {x y a : Str} {k kk j : Nat} {p p1 p2 pos : Pos}
theorem r_errL {jj : Nat} {b : Env → Option Oc} {m : Oc → Option D} {ad : Nat → Addr} {q : Str} {c P : Addr} {ls : Nat → LamI} {params : Arguments} {body : Expr} {scope : Scope} {nm : Option Str} (wk : Wk X.prog X.w X.K X.mg X.base k x a m) (hk : k ≤ kk + 1) (hr : Room (kk + 2) X.A) (hg : Gl X x) (TB : TabB X.base X.mg c P) (hcode : X.env.code = .ref c) (hq : q = X.env.qual ++ "<lambda>") (hz : z.x = lamZx ad q P X.env.cells ls) (hj : ls jj = ⟨params, body, scope, nm⟩) (L : LamOk X z kk (ls jj) b)
    (hdb : (x == ("__debug__" : Str)) = false := by decide) (hda : (a == ("__debug__" : Str)) = false := by decide) (hca : (a == ("__classdict__" : Str)) = false := by decide)
    (he : starEach [.Lambda params body scope p2] X.env = (false, eval (.Lambda params body scope p2) X.env) :: starEach [] X.env := by rfl) : PE X (.Call (.Name x p) [.Lambda params body scope p2] [] pos) (tR X.K z (rErr b m)) := by
  refine ⟨fun pins s σ H Q I ⟨ρ, F, O, d, ρ', R, e, qq⟩ => ?_⟩
  unfold rErr at e
  split at e
  · next hT =>
    obtain ⟨r, h5, e⟩ := bind_some e
    obtain ⟨d', h6, e⟩ := map_some e
    cases e
    obtain ⟨g, _, _, _, _, _, _, _, _, _, _, _, _, _, _, _, hmg, hkp, _⟩ := wk.ex
    have Lj := L
    rw [hj] at Lj
    refine wpAny_Call_Name_kw (ld_glob I hg hmg ?_ hdb)
    have ha := pa_cons (pe_lam (pos := p2) (z := z) TB hcode hq hz hj Lj.sh Lj.nm.free) pa_nil he
    refine PySem.W.callWith_K (h₀ := X.base) I.ok.mod.kin hkp (thn (ha.run pos pins s σ H (fun vs H1 => ∃ f F1, vs = [.ref f] ∧ Rel X.K z ρ σ F1 H1 O ∧ Kp F H F1 H1 O ∧ z.x.lam jj F1 f) I ⟨ρ, F, O, R, hT, fun f F1 H1 R1 k1 l1 => ⟨f, F1, rfl, R1, k1, l1⟩⟩) fun us s2 ⟨vs, H1, I1, r1, f, F1, ev, R1, k1, l1⟩ => ⟨I1.kIn, ?_⟩) he rfl
    subst ev
    cases r1 with
    | cons ru rn =>
      cases rn
      cases ru
      exact run_wk wk hmg hk hr hda hca I1 R1 hq hz L l1 h5 h6 fun v H2 s2 r2 => qq v _ H2 (R1.grow s2) (k1.trans (.of_same R1.sub s2)) r2
  · cases e
end
section
variable {X : Cx} {z : Z}
/-- the script's slot, which holds the table, too -/
def tabOf : Option (Option E) → Option D
  | some (some (.odd (.tab d))) => some d
  | _ => none
def cVarT : Env → Option D := fun ρ => tabOf ρ[0]?
theorem tabOf_eq {o : Option (Option E)} {d : D} (h : tabOf o = some d) : o = some (some (.odd (.tab d))) := by
  unfold tabOf at h
  split at h
  · cases h; rfl
  · cases h
theorem q_varT {x : Str} {pos : Pos} (hN : X.N[0]? = some x := by rfl) (hv : Vis X.env.scope x := by first | exact Or.inl rfl | exact Or.inr (Or.inl rfl) | exact Or.inr (Or.inr rfl)) (hd : (x == ("__debug__" : Str)) = false := by decide)
    (hcd : (x == ("__classdict__" : Str)) = false := by decide) : PE X (.Name x pos) (tP X.K z cVarT) :=
  (pe_var hN hv hd hcd).mono fun σ H Q ⟨ρ, F, O, d, R, e, q⟩ => by
    obtain ⟨v, h1, h2, _⟩ := R.ent 0 _ (tabOf_eq e)
    exact ⟨v, h1, q v H (Same.refl _) (by rw [ext_self R.sub]; exact h2)⟩
end
def runT (N : Nat) (g : Gs) : List D → Option D := fun ds => match ds with
  | [d] => (g (some (.odd (.tab d)) :: List.replicate (N - 1) none)).bind fin
  | _ => none
def spLawT (K : PySem.W.Frag) (n : Nat) (P : Addr) : Sp := fun vs H Q _ => ∃ (a : Addr) (ns : List Int), vs = [.ref a] ∧ SqL K H a (ns.map V.int) ∧ ns.length ≤ n ∧ H P = some (.tbl #[]) ∧ ∀ H', Q (.bl true) H'
theorem rel_startT {K : PySem.W.Frag} {N : List Str} {H : Hp} {a P : Addr} {d : D} {x : Zx} (hN : 0 < N.length) (hP : H P = some (.tbl #[])) (hr : Rep K (fun b => if b = P then none else H b) (.ref a) d) (hx : ∀ F H' P', x.tab F H' P' ↔ P' = P ∧ TabF F H' P (q : Str)) :
    Rel K ⟨H, (fun b => if b = P then none else H b), fun b => b = P, 0, [], x⟩ (some (.odd (.tab d)) :: List.replicate (N.length - 1) none) (L2.start N [.ref a]) (fun b => if b = P then none else H b) H (fun i => if i = 0 then [P] else []) where
  len := by
    unfold L2.start
    simp only [List.length_append, List.length_map, List.length_replicate, List.length_cons, List.length_nil]
    omega
  sub := fun b o e => by
    dsimp only at e
    split at e
    · cases e
    · exact e
  ent := fun i e h => by
    cases i with
    | zero =>
      cases h
      refine ⟨.ref a, rfl, hr, P, rfl, rfl, (hx _ _ _).mpr ⟨rfl, #[], hP, True.intro, fun pos cv hc => ?_⟩⟩
      have z : codeAmong pos [] = some cv := hc
      simp [codeAmong] at z
    | succ i =>
      rw [List.getElem?_cons_succ, List.getElem?_replicate] at h
      split at h <;> cases h
  off := fun i b hb => by
    split at hb
    · rcases List.mem_cons.mp hb with e | e
      · subst e
        exact ⟨if_pos rfl, ne_none hP⟩
      · cases e
    · cases hb
  apt := fun i j b hi hj => by
    split at hi
    · split at hj
      · omega
      · cases hj
    · cases hi
  old := fun b _ f => f
  oldH := fun b h => h
  keep := fun b o h _ => h
  f0 := Same.refl _
  tup := fun b vs e => by
    show (if b = P then none else H b) = _
    rw [if_neg (fun q => by rw [q, hP] at e; cases e)]
    exact e
theorem ok_lawT {P : Program} {w : World} {K : PySem.W.Frag} {mg : Str → Option Value} {base : Heap} {x p : Str} {st : Stmt} {f c PT : Addr} {oc : Value} {od an : Option Addr} {osl : Array (Option Value)} {kV doc pm ct : Value} {N : List Str} {k n : Nat} {g : Gs} {ad : Nat → Addr} {ls : Nat → LamI} (b : Nat)
    (lk : K.lookup f = some ⟨oc, od, .func (PySem.W.fnOf x x (defArgs st) (defBody st) (defScope st) .none kV doc pm an (.ref c) ct), osl⟩) (hcd : PySem.W.codeIn K (.ref c) x = true) (S : FnScope N [p] (defScope st)) (hb : N.length = b) (hN : 0 < b)
    (h : ∀ (A : Around) (outer : List PySem.Env) (s : Shared) (H : Hp) (E : XK) (z : Z), z.x = lamZx ad (x ++ ".<locals>." ++ "<lambda>") PT (cxOf C8.CX0 P w K mg base N x (defScope st) f (.ref c) A outer s H E).nox.env.cells ls → Room k (A.deeper (envOfC x (defScope st) s.heap.objs.size f (.ref c))) → PSs (cxOf C8.CX0 P w K mg base N x (defScope st) f (.ref c) A outer s H E).nox (defBody st) (tS K z g))
    (H : ∀ ns : List Int, ns.length ≤ n → runT b g [.list (ns.map .int)] = some (.bool true)) :
    FnOk P w K mg base C8.CX0 (k + 1) f (PySem.W.fnOf x x (defArgs st) (defBody st) (defScope st) .none kV doc pm an (.ref c) ct) [p] (spLawT K n PT) := by
  subst hb
  refine fn_of lk hcd S (fun vs H Q E ⟨a, ns, e, _⟩ => by rw [e]; rfl) fun A outer s H0 vs Q E hr ⟨a, ns, ev, hS, hl, hP, q⟩ => ?_
  subst ev
  obtain ⟨⟨fl, ρ'⟩, e1, e2⟩ := bind_some (show (g (some (.odd (.tab (.list (ns.map .int)))) :: List.replicate (N.length - 1) none)).bind fin = some (.bool true) from H ns hl)
  have hrep : Rep K (fun b => if b = PT then none else H0 b) (.ref a) (.list (ns.map .int)) := by
    refine .lst ?_ (DpAll.of_ints ns)
    rcases hS with hS | hS
    · refine .inl ?_
      rcases hS with hS | ⟨o, hS⟩
      · exact .inl (by show (if a = PT then none else H0 a) = _; rw [if_neg (fun e => by rw [e, hP] at hS; cases hS)]; exact hS)
      · exact .inr ⟨o, by show (if a = PT then none else H0 a) = _; rw [if_neg (fun e => by rw [e, hP] at hS; cases hS)]; exact hS⟩
    · exact .inr hS
  refine ⟨_, (h A outer s H0 E ⟨H0, (fun b => if b = PT then none else H0 b), fun b => b = PT, 0, [], lamZx ad (x ++ ".<locals>." ++ "<lambda>") PT (cxOf C8.CX0 P w K mg base N x (defScope st) f (.ref c) A outer s H0 E).nox.env.cells ls⟩ rfl hr).nox, ?_⟩
  refine ⟨_, _, _, fl, ρ', rel_startT (q := x ++ ".<locals>." ++ "<lambda>") hN hP hrep (fun F H' P' => Iff.rfl), e1, ?_⟩
  cases fl with
  | nx => cases e2
  | bk => cases e2
  | ct => cases e2
  | ret d2 =>
    cases e2
    intro v σ F' H' O R s r
    cases r
    exact q H'
end DL
set_option maxHeartbeats 2000000
namespace DL
open PySem PySem.Spec PyProof.Rows L2 LamX
def ePx (f : Env → Option Oc) : Ex := fun ρ => (f ρ).map fun r => (r, ρ)
theorem e_ofP {X : Cx} {z : Z} {W : WX} {e : Expr} {f : Env → Option Oc} (h : PE X e (tPx X.K z X.mg W f)) : PE X e (tRx X.K z X.mg W (ePx f)) := h.mono fun σ H Q ⟨ρ, F, O, r, ρ', R, e, q⟩ => by
  obtain ⟨ro, h1, h2⟩ := map_some e
  cases h2
  refine ⟨ρ, F, O, r, R, h1, ?_⟩
  cases r with
  | ok d => exact fun v H' s r => q v _ H' (R.grow s) (.of_same R.sub s) r
  | er e => exact fun cls d H' s r => q cls d _ H' (R.grow s) (.of_same R.sub s) r
/-- an own class of errors without __init__ -/
structure Own0 (K : PySem.W.Frag) (mg : Str → Option Value) (c : Str) : Prop where
  ex : ∃ C : Addr, mg c = some (.ref C) ∧ PySem.W.excIn K C veT "ValueError.__new__" = true ∧ PySem.W.keepIn K (.ref C) = true ∧ PySem.W.subIn K (.ref C) (.type "BaseException") = some true ∧ PySem.W.typeIn K (.ref C) = some (.type "type")
structure OwnS (K : PySem.W.Frag) (prog : Program) (mg : Str → Option Value) (c n : Str) : Prop where
  ex : ∃ C fI : Addr, mg c = some (.ref C) ∧ SupC K prog C fI n
  zs : mg "super" = none
section
variable {X : Cx} {z : Z} {W : WX}
theorem x_raiseO {c : Str} {p pos pos2 : Pos} (hc : X.calm = true) (tk : Takes X W) (o : Own0 X.K X.mg c) (hg : Gl X c) (hdb : (c == ("__debug__" : Str)) = false := by decide) : PS X (.Raise (some (.Call (.Name c p) [] [] pos)) none pos2) (tX X.K z X.mg W (xRaise0 c)) := by
  obtain ⟨C, h1, h2, h3, h4, h5⟩ := o.ex
  exact x_raise0 hc tk h1 (pmk_own0 F.excBase_ValueError h2 h1 h3 (raises_own h4 h5) hg hdb)
theorem x_raiseS {c n : Str} {k : Nat} {e : Expr} {f : Env → Option (D × Env)} {p pos pos2 : Pos} (hc : X.calm = true) (tk : Takes X W) (o : OwnS X.K X.prog X.mg c n) (hr : Room k X.A) (hg : Gl X c) (he : PE X e (tR X.K z f)) (hdb : (c == ("__debug__" : Str)) = false := by decide)
    (hs : starEach [e] X.env = (false, eval e X.env) :: starEach [] X.env := by rfl) : PS X (.Raise (some (.Call (.Name c p) [e] [] pos)) none pos2) (tX X.K z X.mg W (xRaise1 c n f)) := by
  obtain ⟨C, fI, h1, h2⟩ := o.ex
  exact x_raise1 (a := e) hc tk h1 (pmk_sup h2 h1 hg o.zs hr he hdb hs)
theorem lamOk_of {kk : Nat} {l : LamI} {b : Env → Option Oc} (sh : LamSh l.params l.nm) (nm : lamNB X.N X.env.scope l.scope l.nm = true)
    (bd : ∀ (A : Around) (outer : List PySem.Env) (s : Shared) (H : Hp) (E : XK) (f c' : Addr), Room kk (A.deeper (lamEnv X l.scope s.heap.objs.size f c')) → PE (lamCx X A outer s H E l.scope f c') l.body (tPx X.K z X.mg (fun cls d _ H' => E cls d H') b)) : LamOk X z kk l b := ⟨sh, lamN_by nm, bd⟩
end
/-- the law's frame at the end -/
theorem lawAt {l : PySem.W.OpenLaw} {w : World} {K : PySem.W.Frag} {k n : Nat} {x : Str} {mg : Str → Option Value} {fa c PT : Addr} {h : Heap} {o : Obj} {fd : FuncData} {e : Value} {dd : Option Addr} {vs : Array Value} {sl : Array (Option Value)} (KX : K.In h) (own : OwnTab K fa h)
    (lk : K.lookup fa = some o) (ho : o.data = .func fd) (hc : fd.code = .ref c) (lc : K.lookup c = some ⟨e, dd, .fields vs, sl⟩) (hv : vs[11]? = some (.ref PT)) (nT : K.lookup PT = none) (hd : PySem.W.codeHdIn K c PT = true) (hb : ∀ (s : Shared) (u : Value), BindsTo s fd ⟨[u], []⟩ [(x, u)])
    (F : ∀ base : Heap, K.In base → base.Ns mainGlobals mg → TabB base mg c PT → FnOk l.prog w K mg base C8.CX0 k fa fd [x] (spLawT K n PT)) : LawAtS l w K C8.CX0 k n x mg fa h := by
  refine ⟨fd, [(c, PT)], spLawT K n PT, fun p hp => ?_, fun p hp => ?_, fun p hp => ?_, hb, fun H a ns hl _ hT hS => ?_, fun base X1 G1 hT => F base X1 G1 (hT _ List.mem_cons_self)⟩
  · rcases List.mem_cons.mp hp with q | q
    · subst q
      exact own c PT o fd e dd vs sl lk ho hc lc hv
    · cases q
  · rcases List.mem_cons.mp hp with q | q
    · subst q
      exact nT
    · cases q
  · rcases List.mem_cons.mp hp with q | q
    · subst q
      exact PySem.W.codeHd_of_K KX hd
    · cases q
  · exact ⟨a, ns, rfl, hS, hl, hT _ List.mem_cons_self, fun _ => rfl⟩
end DL
set_option maxHeartbeats 2000000
namespace DL
open PySem PySem.Spec PyProof.Rows L2 LamX
def rCountD (K : PySem.W.Frag) : V → List V → Hp → VK → Prop := fun x xs H Q => ∃ (a : Addr) (y : V) (b : Bool) (ds : List PyData), x = V.ref a ∧ xs = [y] ∧ L2.Dp K H (V.ref a) (.list ds) ∧ L2.Dp K H y (.bool b) ∧
  PyData.plainAll ds = true ∧ Q (.int ((ds.countP fun y => PyData.eqv y (.bool b) : Nat) : Int)) H
theorem mt_countD {X : Cx} (hu : X.A.units + 65 < cLine) : MtR X "list.count" (rCountD X.K) := by
  intro pins s σ H x xs v us Q I rx rxs h
  obtain ⟨a, y, b, ds, rfl, rfl, hl, hy, hxs, q⟩ := h
  cases rx
  cases rxs with
  | cons ry rt =>
    rename_i uy ut
    cases rt
    obtain ⟨bs, r1⟩ := L2.Dp.reads I (.bool b) y uy hy ry
    cases hl with
    | lst hs ha =>
      obtain ⟨its, rv, ho, hlen⟩ := I.list hs
      obtain ⟨as, h4⟩ := L2.Dp.readsAll I ds _ its ha rv
      have hd : (PyData.bool b).depth ≤ 1 := by simp [PyData.depth]
      refine PySem.SeqAt.count_list_data (vs := its.toArray) (xs := ds) (as := as) (d := .bool b) (bs := bs) ?_ (by simpa using h4) r1 hxs rfl (by have := Nat.min_le_right (PyData.depthAll ds) (PyData.bool b).depth; omega) ?_
      · obtain ⟨⟨cls, dd, data, sls⟩, n, ho, hc, hdn, hdt⟩ := ho
        exact ⟨_, ho, hc, n, hdt⟩
      · exact ⟨.int _, H, I.tok _, ⟨_, rfl⟩, q⟩
def oCount : D → List D → Option D
  | .list ds, [.bool b] => if PyData.plainAll ds && noDics ds then some (.int ((ds.countP fun y => PyData.eqv y (.bool b) : Nat) : Int)) else none
  | _, _ => none
section
variable {X : Cx} {z : Z}
theorem q_count {o e : Expr} {apos cpos : Pos} {f : Env → Option D} {g : Env → Option (List D)} (hu : X.A.units + 65 < cLine) (ho : PE X o (tP X.K z f)) (ha : PA X [e] (tPs X.K z g))
    (hbase : attributeBase o "count" X.env (eval o X.env) = eval o X.env := by rfl)
    (hfew : ((backTo cpos (starEach [e] X.env)).all (fun x => !x.1) && (backToKw cpos (keywordEach [] X.env)).all (fun x => x.1.isSome)
      && decide ([e].length + ([] : List Keyword).length + (if ([] : List Keyword).isEmpty then 0 else 1) < 30)) = true := by rfl)
    (hline : (apos.endLine == cpos.line) = true := by rfl) (hs : starEach [e] X.env = (false, eval e X.env) :: starEach [] X.env := by rfl) (hpl : (backTo cpos (starEach [] X.env)).any (·.1) = false := by rfl) :
    PE X (.Call (.Attribute o "count" apos) [e] [] cpos) (tP X.K z (cM oCount f g)) :=
  (pe_bm PySem.F.plainAttrs_list PySem.F.slot_list_count PySem.F.type_list_count (mt_countD hu) ho ha hbase hfew hline hs hpl).mono fun σ H Q ⟨ρ, F, O, d, R, e, q⟩ => by
    obtain ⟨a, h1, e⟩ := bind_some e
    obtain ⟨as, h2, e⟩ := bind_some e
    unfold oCount at e
    split at e
    · split at e
      · next k1 =>
        cases e
        rw [Bool.and_eq_true] at k1
        refine ⟨ρ, F, O, _, R, h1, fun v H1 s1 r1 => ?_⟩
        cases r1 with
        | lst hs t =>
          refine ⟨.inl ⟨rfl, _, (R.grow s1).sub.seq hs⟩, ρ, _, O, _, R.grow s1, h2, fun ws H2 s2 r2 => ?_⟩
          cases r2 with
          | cons r2 t2 =>
            cases t2
            have R2 := (R.grow s1).grow s2
            have r1' := ((Dp.lst hs t).mono (same_ext (H' := H2) (R.grow s1).sub)).mono R2.sub
            exact ⟨_, _, _, _, rfl, rfl, r1'.kit (by unfold noDic; exact k1.2), (r2.mono R2.sub).kit rfl, k1.1, q _ H2 (s1.trans s2) (.int _)⟩
      · cases e
    · cases e
end
end DL
namespace DL
open PySem PySem.Spec PyProof.Rows L2 LamX
def exNo : Expr := .Name "" ⟨0, 0, 0, 0⟩
def lamStE : Stmt → Expr
  | .Assign _ v _ => v
  | .Expr v _ => v
  | .Return (some v) _ => v
  | _ => exNo
def lamArg (n : Nat) : Expr → Expr
  | .Call _ as _ _ => as.getD n exNo
  | .List as _ => as.getD n exNo
  | _ => exNo
def lamNo : LamI := ⟨⟨[], [], none, [], [], none, []⟩, exNo, { kind := .function, names := [], isGenerator := false, isCoroutine := false, more := [] }, none⟩
def lamOf : Expr → LamI
  | .Lambda p b s _ => ⟨p, b, s, p.args.head?.map (·.arg)⟩
  | _ => lamNo
end DL
set_option maxHeartbeats 2000000
namespace DL
open PySem PySem.Spec PyProof.Rows L2
end DL
set_option maxHeartbeats 2000000
namespace DL
open PySem PySem.Spec PyProof.Rows L2
end DL
namespace DL
open PySem PySem.Spec PyProof.Rows L2 LamX
end DL
set_option maxHeartbeats 2000000
namespace DL
open PySem PySem.Spec PyProof.Rows L2
end DL
set_option maxHeartbeats 2000000
namespace DL
open PySem PySem.Spec PyProof.Rows L2
end DL
namespace DG
open PySem PySem.Spec PyProof.Rows L2 DL LamX
def top (i : Nat) : Stmt := PySem.Challenge.pw_nearhouses_k99_order_of_errors.main.body.getD i (.Pass ⟨0, 0, 0, 0⟩)
structure Txt (mg : Str → Option Value) : Prop where
  bl_int : mg "int" = none
  bl_len : mg "len" = none
  bl_isinstance : mg "isinstance" = none
  bl_bool : mg "bool" = none
  bl_tuple : mg "tuple" = none
  gl_MOST_POINTS : ∃ t, mg "MOST_POINTS" = some (.int 8 t)
  gl_MOST_WEIGHT : ∃ t, mg "MOST_WEIGHT" = some (.int 100 t)
  bl_sum : mg "sum" = none
  gl_MOST_LENGTH : ∃ t, mg "MOST_LENGTH" = some (.int 100 t)
  bl_list : mg "list" = none
  bl_sorted : mg "sorted" = none
  gl_MOST_ROADS : ∃ t, mg "MOST_ROADS" = some (.int 14 t)
  bl_enumerate : mg "enumerate" = none
  bl_range : mg "range" = none
  gl_MOST_RADIUS : ∃ t, mg "MOST_RADIUS" = some (.int 10000 t)
  gl_MOST_PRICE : ∃ t, mg "MOST_PRICE" = some (.int 1000 t)
  bl_abs : mg "abs" = none
  gl_MOST_FIRST : ∃ t, mg "MOST_FIRST" = some (.int 2 t)
  bl_set : mg "set" = none
  gl_MOST_LOYALTY : ∃ t, mg "MOST_LOYALTY" = some (.int 1000 t)
  gl_MOST_ROOM : ∃ t, mg "MOST_ROOM" = some (.int 1000 t)
  gl_MOST_GROWN : ∃ t, mg "MOST_GROWN" = some (.int 1000 t)
  gl_MOST_FLOW : ∃ t, mg "MOST_FLOW" = some (.int 100 t)
  gl_MOST_HUBS : ∃ t, mg "MOST_HUBS" = some (.int 3 t)
abbrev csAll : List Str := ["BadCount", "BadHouses", "BadHighs", "BadNumber", "BadPlace", "BadPoint", "BadPrices", "BadReaches", "BadRooms", "BadShare", "NotTree", "TooMany", "BadWeb", "BadFlows"]
structure TxE (P : Program) (K : PySem.W.Frag) (mg : Str → Option Value) (AH : Addr) : Prop where
  hh : ErrH K mg AH
  es : Errs K mg AH csAll
  e_BadCount : Own0 K mg "BadCount"
  e_BadHouses : Own0 K mg "BadHouses"
  e_BadHighs : Own0 K mg "BadHighs"
  e_BadNumber : Own0 K mg "BadNumber"
  e_BadPlace : Own0 K mg "BadPlace"
  e_BadPoint : Own0 K mg "BadPoint"
  e_BadPrices : Own0 K mg "BadPrices"
  e_BadReaches : Own0 K mg "BadReaches"
  e_BadRooms : Own0 K mg "BadRooms"
  e_BadShare : Own0 K mg "BadShare"
  e_NotTree : Own0 K mg "NotTree"
  e_TooMany : OwnS K P mg "TooMany" "most"
  e_BadWeb : OwnS K P mg "BadWeb" "index"
  e_BadFlows : OwnS K P mg "BadFlows" "index"
section
variable {P : Program} {w : World} {K : PySem.W.Frag} {mg : Str → Option Value} {base : Heap}
abbrev st__law_taken : Stmt := top 155
def gs__law_taken : Gs :=
  (gSeq (gIf (lfb (bV (c2 oGt (cIxO 0 (cK (.int 3))) (cK (.int 0)))))
  (gSeq (gAsg (lf (c2 oMod (cN oInt (cCons (cIxO 0 (cK (.int 3))) cNil)) (cVar 1))) (bNm 3))
  (gSeq (gSetI 0 (lf (c2 oDiv (cIxO 0 (cK (.int 3))) (cVar 1))) (lf (cK (.int 3))))
  (gRet (lf (cVar 3)))))
  gNx)
  (gSeq (gSetI 0 (lf (c2 oAdd (cIxO 0 (cK (.int 1))) (cK (.int 1)))) (lf (cK (.int 1))))
  (gSeq (gIf (lfb (bV (c2 oGt (cIxO 0 (cK (.int 1))) (cN oLen (cCons (cIxO 0 (cK (.int 0))) cNil)))))
  (gSeq (gSetI 0 (lf (c2 oMod (cN oInt (cCons (c2 oAdd (c2 oMul (cIxO 0 (cK (.int 2))) (cK (.int 48271))) (cK (.int 11))) cNil)) (cK (.int 2147483647)))) (lf (cK (.int 2))))
  (gRet (lf (c2 oMod (cN oInt (cCons (c2 oDiv (cIxO 0 (cK (.int 2))) (cK (.int 7))) cNil)) (cVar 1)))))
  gNx)
  (gSeq (gAsg (lf (c2 oIx (cIxO 0 (cK (.int 0))) (c2 oSub (cIxO 0 (cK (.int 1))) (cK (.int 1))))) (bNm 2))
  (gSeq (gSetI 0 (lf (c2 oMod (cN oInt (cCons (c2 oAdd (c2 oAdd (c2 oMul (cIxO 0 (cK (.int 2))) (cK (.int 48271))) (cVar 2)) (cK (.int 11))) cNil)) (cK (.int 2147483647)))) (lf (cK (.int 2))))
  (gSeq (gIf (lfb (bV (c2 oGe (cVar 2) (c2 oPow (cK (.int 10)) (cK (.int 18))))))
  (gSetI 0 (lf (c2 oDiv (cVar 2) (cVar 1))) (lf (cK (.int 3))))
  gNx)
  (gRet (lf (c2 oMod (cN oInt (cCons (cVar 2) cNil)) (cVar 1))))))))))
def mm__law_taken := runR 4 2 gs__law_taken
theorem sc__law_taken : FnScope ["_law_row", "_law_many", "_law_cell", "_law_found"] ["_law_row", "_law_many"] (defScope st__law_taken) := ⟨rfl, rfl, rfl, by decide +kernel, rfl, by decide +kernel, by decide +kernel⟩
theorem ok__law_taken {f : Addr} {fd : FuncData} (F : Fun K "_law_taken" "_law_taken" st__law_taken f fd) (T : Txt mg) : FnOk P w K mg base CX0 1 f fd ["_law_row", "_law_many"] (spR K mm__law_taken) := by
  have S := sc__law_taken
  refine okR 4 2 F S rfl rfl (by decide) (g := gs__law_taken) fun cdv A outer s H E z hr => ?_
  exact (s_cons (s_if (r_lfb (b_cmp (op_gtD (hu64 hr)) w_gt (q_ixO 0 q_int) q_int (by rfl)))
  (s_cons (s_set 3 S.nd (r_lf (q_op op_modN w_mod (q_callTy call_int1 w_int (by rfl) T.bl_int bt_int (q_cons (q_ixO 0 q_int) q_nil)) (q_var 1))))
  (s_cons (s_setI 0 (r_lf (q_op DL.op_fdivW w_div (q_ixO 0 q_int) (q_var 1))) (r_lf q_int))
  (s_one (s_ret (r_lf (q_var 3))))))
  s_nil)
  (s_cons (s_setI 0 (r_lf (q_op op_addA w_add (q_ixO 0 q_int) q_int)) (r_lf q_int))
  (s_cons (s_if (r_lfb (b_cmp (op_gtD (hu64 hr)) w_gt (q_ixO 0 q_int) (q_callB call_len w_len (by rfl) T.bl_len bt_len (q_cons (q_ixO 0 q_int) q_nil)) (by rfl)))
  (s_cons (s_setI 0 (r_lf (q_op op_modN w_mod (q_callTy call_int1 w_int (by rfl) T.bl_int bt_int (q_cons (q_op op_addA w_add (q_op op_mulA w_mul (q_ixO 0 q_int) q_int) q_int) q_nil)) q_int)) (r_lf q_int))
  (s_one (s_ret (r_lf (q_op op_modN w_mod (q_callTy call_int1 w_int (by rfl) T.bl_int bt_int (q_cons (q_op DL.op_fdivW w_div (q_ixO 0 q_int) q_int) q_nil)) (q_var 1))))))
  s_nil)
  (s_cons (s_set 2 S.nd (r_lf (q_ix ix_seq w_ix (q_ixO 0 q_int) (q_op op_sub w_sub (q_ixO 0 q_int) q_int))))
  (s_cons (s_setI 0 (r_lf (q_op op_modN w_mod (q_callTy call_int1 w_int (by rfl) T.bl_int bt_int (q_cons (q_op op_addA w_add (q_op op_addA w_add (q_op op_mulA w_mul (q_ixO 0 q_int) q_int) (q_var 2)) q_int) q_nil)) q_int)) (r_lf q_int))
  (s_cons (s_if (r_lfb (b_cmp (op_geD (hu64 hr)) w_ge (q_var 2) (q_op op_pow w_pow q_int q_int) (by rfl)))
  (s_one (s_setI 0 (r_lf (q_op DL.op_fdivW w_div (q_var 2) (q_var 1))) (r_lf q_int)))
  s_nil)
  (s_one (s_ret (r_lf (q_op op_modN w_mod (q_callTy call_int1 w_int (by rfl) T.bl_int bt_int (q_cons (q_var 2) q_nil)) (q_var 1)))))))))))
abbrev st__law_told : Stmt := top 156
theorem sc__law_told : FnScope ["_law_work", "_law_known", "_law_words", "error"] ["_law_work"] (defScope st__law_told) := ⟨rfl, rfl, rfl, by decide +kernel, rfl, by decide +kernel, by decide +kernel⟩
def gs__law_told (r : Oc) : Gs :=
  (gSeq (gTry 3 csAll (xExpr (ePx (pWork r)))
  (gSeq (gAsg (lf (cLst (cCons (cIsE 3 csAll "BadCount") (cCons (cIsE 3 csAll "BadHouses") (cCons (cIsE 3 csAll "BadHighs") cNil))))) (bNm 1))
  (gSeq (gAsg (lf (c2 oAdd (cVar 1) (cLst (cCons (cIsE 3 csAll "BadNumber") cNil)))) (bNm 1))
  (gSeq (gAsg (lf (c2 oAdd (cVar 1) (cLst (cCons (cIsE 3 csAll "BadPlace") (cCons (cIsE 3 csAll "BadPoint") (cCons (cIsE 3 csAll "BadPrices") cNil)))))) (bNm 1))
  (gSeq (gAsg (lf (c2 oAdd (cVar 1) (cLst (cCons (cIsE 3 csAll "BadReaches") cNil)))) (bNm 1))
  (gSeq (gAsg (lf (c2 oAdd (cVar 1) (cLst (cCons (cIsE 3 csAll "BadRooms") (cCons (cIsE 3 csAll "BadShare") (cCons (cIsE 3 csAll "NotTree") cNil)))))) (bNm 1))
  (gSeq (gAsg (lf (c2 oAdd (cVar 1) (cLst (cCons (cIsE 3 csAll "TooMany") cNil)))) (bNm 1))
  (gSeq (gAsg (lf (cLst (cCons (cK (.str "count")) (cCons (cK (.str "houses")) (cCons (cK (.str "highs")) (cCons (cK (.str "number")) (cCons (cK (.str "place")) (cCons (cK (.str "point")) (cCons (cK (.str "prices")) (cCons (cK (.str "reaches")) (cCons (cK (.str "rooms")) (cCons (cK (.str "share")) cNil)))))))))))) (bNm 2))
  (gSeq (gAsg (lf (c2 oAdd (cVar 2) (cLst (cCons (cK (.str "tree")) (cCons (cK (.str "many")) cNil))))) (bNm 2))
  (gRet (lf (cIf (bV (c2 oEq (cM oCount (cVar 1) (cCons (cK (.bool true)) cNil)) (cK (.int 1)))) (c2 oIx (cVar 2) (cM oIndex (cVar 1) (cCons (cK (.bool true)) cNil))) (cK (.str "other"))))))))))))))
  (gRet (lf (cK (.str "")))))
def mm__law_told := runW 4 gs__law_told
theorem ok__law_told {f : Addr} {fd : FuncData} (F : Fun K "_law_told" "_law_told" st__law_told f fd) (T : Txt mg) {AH : Addr} (TE : TxE P K mg AH) (hm : mg "_law_told" = some (.ref f)) (hb : Binds K fd ["_law_work"] []) : Wk P w K mg base 0 "_law_told" "_law_work" mm__law_told := by
  have S := sc__law_told
  refine wk_of 4 F S rfl hm hb (gs := gs__law_told) (h := fun r cdv A outer s H z hr act => ?_)
  have hu6 := hu65 hr
  have hu4 := hu64 hr
  exact (s_cons (s_try 3 csAll rfl rfl S.nd TE.hh TE.es (by rfl) (fun W pn xe tk hp => x_one (x_expr (e_ofP (act W pn xe _ _ tk)))) (fun a oe cls d pn z hzc hf hx =>
  (s_cons (s_set 1 S.nd (r_lf (q_lst (q_cons (q_isE 3 TE.hh TE.es (TE.es "BadCount" (by decide)) hzc hf hx (by rfl) T.bl_isinstance (by rfl)) (q_cons (q_isE 3 TE.hh TE.es (TE.es "BadHouses" (by decide)) hzc hf hx (by rfl) T.bl_isinstance (by rfl)) (q_cons (q_isE 3 TE.hh TE.es (TE.es "BadHighs" (by decide)) hzc hf hx (by rfl) T.bl_isinstance (by rfl)) q_nil))))))
  (s_cons (s_set 1 S.nd (r_lf (q_op op_addA w_add (q_var 1) (q_lst (q_cons (q_isE 3 TE.hh TE.es (TE.es "BadNumber" (by decide)) hzc hf hx (by rfl) T.bl_isinstance (by rfl)) q_nil)))))
  (s_cons (s_set 1 S.nd (r_lf (q_op op_addA w_add (q_var 1) (q_lst (q_cons (q_isE 3 TE.hh TE.es (TE.es "BadPlace" (by decide)) hzc hf hx (by rfl) T.bl_isinstance (by rfl)) (q_cons (q_isE 3 TE.hh TE.es (TE.es "BadPoint" (by decide)) hzc hf hx (by rfl) T.bl_isinstance (by rfl)) (q_cons (q_isE 3 TE.hh TE.es (TE.es "BadPrices" (by decide)) hzc hf hx (by rfl) T.bl_isinstance (by rfl)) q_nil)))))))
  (s_cons (s_set 1 S.nd (r_lf (q_op op_addA w_add (q_var 1) (q_lst (q_cons (q_isE 3 TE.hh TE.es (TE.es "BadReaches" (by decide)) hzc hf hx (by rfl) T.bl_isinstance (by rfl)) q_nil)))))
  (s_cons (s_set 1 S.nd (r_lf (q_op op_addA w_add (q_var 1) (q_lst (q_cons (q_isE 3 TE.hh TE.es (TE.es "BadRooms" (by decide)) hzc hf hx (by rfl) T.bl_isinstance (by rfl)) (q_cons (q_isE 3 TE.hh TE.es (TE.es "BadShare" (by decide)) hzc hf hx (by rfl) T.bl_isinstance (by rfl)) (q_cons (q_isE 3 TE.hh TE.es (TE.es "NotTree" (by decide)) hzc hf hx (by rfl) T.bl_isinstance (by rfl)) q_nil)))))))
  (s_cons (s_set 1 S.nd (r_lf (q_op op_addA w_add (q_var 1) (q_lst (q_cons (q_isE 3 TE.hh TE.es (TE.es "TooMany" (by decide)) hzc hf hx (by rfl) T.bl_isinstance (by rfl)) q_nil)))))
  (s_cons (s_set 2 S.nd (r_lf (q_lst (q_cons q_str (q_cons q_str (q_cons q_str (q_cons q_str (q_cons q_str (q_cons q_str (q_cons q_str (q_cons q_str (q_cons q_str (q_cons q_str q_nil)))))))))))))
  (s_cons (s_set 2 S.nd (r_lf (q_op op_addA w_add (q_var 2) (q_lst (q_cons q_str (q_cons q_str q_nil))))))
  (s_one (s_ret (r_lf (q_if (b_cmp (op_eqQ hu4) w_eq (q_count hu6 (q_var 1) (q_cons q_bl q_nil)) q_int (by rfl)) (q_ix ix_seq w_ix (q_var 2) (q_index hu6 (q_var 1) (q_cons q_bl q_nil))) q_str))))))))))))))
  (s_one (s_ret (r_lf q_str))))
abbrev st_is_in : Stmt := top 1
def gs_is_in : Gs :=
  (gRet (lf (cAnd (cIsi .int (cVar 0)) (cAnd (cNot (cIsi .bool (cVar 0))) (cChain oLe oLe (cVar 1) (cVar 0) (cVar 2))))))
def mm_is_in := run 3 3 gs_is_in
theorem sc_is_in : FnScope ["value", "least", "most"] ["value", "least", "most"] (defScope st_is_in) := ⟨rfl, rfl, rfl, by decide +kernel, rfl, by decide +kernel, by decide +kernel⟩
theorem ok_is_in {f : Addr} {fd : FuncData} (F : Fun K "is_in" "is_in" st_is_in f fd) (T : Txt mg) : FnOk P w K mg base CX0 1 f fd ["value", "least", "most"] (spP K mm_is_in) := by
  have S := sc_is_in
  refine okP 3 3 F S rfl rfl (g := gs_is_in) fun cdv A outer s H E z hr => ?_
  exact (s_one (s_ret (r_lf (q_and (q_isi (q_var 0) (by rfl) T.bl_isinstance bt_isinstance (q_ty .int (by rfl) T.bl_int bt_int)) (q_and (q_not (q_isi (q_var 0) (by rfl) T.bl_isinstance bt_isinstance (q_ty .bool (by rfl) T.bl_bool bt_bool))) (q_one (q_chain (op_leD (hu64 hr)) w_le (op_leD (hu64 hr)) w_le (q_var 1) (q_var 0) (q_var 2))))))))
abbrev st_is_weights : Stmt := top 33
def gs_is_weights : Gs :=
  (gSeq (gIf (lfb (bOr (bNot (bT (cIsi .tuple (cVar 0)))) (bNot (bV (cChain oLe oLe (cK (.int 2)) (cN oLen (cCons (cVar 0) cNil)) (cK (.int 8)))))))
  (gRet (lf (cK (.bool false))))
  gNx)
  (gRet (lf (cAnd (c2 oEq (cLc [1] (iS (cVar 0)) (bNm 1) (bNot (bT (cN mm_is_in (cCons (cVar 1) (cCons (cK (.int 0)) (cCons (cK (.int 100)) cNil)))))) (cVar 1)) (cLst cNil)) (c2 oGt (cN oSum (cCons (cVar 0) cNil)) (cK (.int 0)))))))
def mm_is_weights := run 2 1 gs_is_weights
theorem sc_is_weights : FnScope ["value", "one"] ["value"] (defScope st_is_weights) := ⟨rfl, rfl, rfl, by decide +kernel, rfl, by decide +kernel, by decide +kernel⟩
theorem ok_is_weights {f : Addr} {fd : FuncData} (F : Fun K "is_weights" "is_weights" st_is_weights f fd) (T : Txt mg) (c_is_in : Cal P w K mg base 1 "is_in" (spP K mm_is_in)) : FnOk P w K mg base CX0 2 f fd ["value"] (spP K mm_is_weights) := by
  have S := sc_is_weights
  refine okP 2 1 F S rfl rfl (g := gs_is_weights) fun cdv A outer s H E z hr => ?_
  exact (s_cons (s_if (r_lfb ((b_or (b_not (b_val (q_isi (q_var 0) (by rfl) T.bl_isinstance bt_isinstance (q_ty .tuple (by rfl) T.bl_tuple bt_tuple)))) (b_or1 (b_not (b_chain (op_leD (hu64 hr)) w_le (op_leD (hu64 hr)) w_le q_int (q_callB call_len w_len (by rfl) T.bl_len bt_len (q_cons (q_var 0) q_nil)) (q_glob (by rfl) T.gl_MOST_POINTS)))))).pt)
  (s_one (s_ret (r_lf q_bl)))
  s_nil)
  (s_one (s_ret (r_lf (q_and (q_cmp (op_eqQ (hu64 hr)) w_eq (q_lc rfl S.nd (blkOk_by (own := [("one", 1)]) (by kernel_rfl)) (i_seq (q_var 0)) (fun _ _ _ _ _ => (g_nm 1 S.nd)) (fun _ _ _ _ _ => (t_one (b_not (b_val (q_call c_is_in hr (by decide) (by rfl) (q_cons (q_var 1) (q_cons q_int (q_cons (q_glob (by rfl) T.gl_MOST_WEIGHT) q_nil)))))))) (fun _ _ _ _ _ => (q_var 1))) (q_lst q_nil) (by rfl)) (q_one (q_cmp (op_gtD (hu64 hr)) w_gt (q_callB (cr_sumA rfl) w_sum (by rfl) T.bl_sum bt_sum (q_cons (q_var 0) q_nil)) q_int (by rfl))))))))
abbrev st_is_road : Stmt := top 32
def gs_is_road : Gs :=
  (gSeq (gIf (lfb (bOr (bNot (bT (cIsi .tuple (cVar 0)))) (bV (c2 oNe (cN oLen (cCons (cVar 0) cNil)) (cK (.int 3))))))
  (gRet (lf (cK (.bool false))))
  gNx)
  (gSeq (gIf (lfb (bOr (bNot (bT (cN mm_is_in (cCons (c2 oIx (cVar 0) (cK (.int 0))) (cCons (cK (.int 0)) (cCons (c2 oSub (cVar 1) (cK (.int 1))) cNil)))))) (bNot (bT (cN mm_is_in (cCons (c2 oIx (cVar 0) (cK (.int 1))) (cCons (c2 oAdd (c2 oIx (cVar 0) (cK (.int 0))) (cK (.int 1))) (cCons (c2 oSub (cVar 1) (cK (.int 1))) cNil))))))))
  (gRet (lf (cK (.bool false))))
  gNx)
  (gRet (lf (cN mm_is_in (cCons (c2 oIx (cVar 0) (cK (.int 2))) (cCons (cK (.int 1)) (cCons (cK (.int 100)) cNil))))))))
def mm_is_road := run 2 2 gs_is_road
theorem sc_is_road : FnScope ["value", "count"] ["value", "count"] (defScope st_is_road) := ⟨rfl, rfl, rfl, by decide +kernel, rfl, by decide +kernel, by decide +kernel⟩
theorem ok_is_road {f : Addr} {fd : FuncData} (F : Fun K "is_road" "is_road" st_is_road f fd) (T : Txt mg) (c_is_in : Cal P w K mg base 1 "is_in" (spP K mm_is_in)) : FnOk P w K mg base CX0 2 f fd ["value", "count"] (spP K mm_is_road) := by
  have S := sc_is_road
  refine okP 2 2 F S rfl rfl (g := gs_is_road) fun cdv A outer s H E z hr => ?_
  exact (s_cons (s_if (r_lfb ((b_or (b_not (b_val (q_isi (q_var 0) (by rfl) T.bl_isinstance bt_isinstance (q_ty .tuple (by rfl) T.bl_tuple bt_tuple)))) (b_or1 (b_cmp (op_neQ (hu64 hr)) w_ne (q_callB call_len w_len (by rfl) T.bl_len bt_len (q_cons (q_var 0) q_nil)) q_int (by rfl))))).pt)
  (s_one (s_ret (r_lf q_bl)))
  s_nil)
  (s_cons (s_if (r_lfb ((b_or (b_not (b_val (q_call c_is_in hr (by decide) (by rfl) (q_cons (q_ix ix_seq w_ix (q_var 0) q_int) (q_cons q_int (q_cons (q_op op_sub w_sub (q_var 1) q_int) q_nil)))))) (b_or1 (b_not (b_val (q_call c_is_in hr (by decide) (by rfl) (q_cons (q_ix ix_seq w_ix (q_var 0) q_int) (q_cons (q_op op_addA w_add (q_ix ix_seq w_ix (q_var 0) q_int) q_int) (q_cons (q_op op_sub w_sub (q_var 1) q_int) q_nil))))))))).pt)
  (s_one (s_ret (r_lf q_bl)))
  s_nil)
  (s_one (s_ret (r_lf (q_call c_is_in hr (by decide) (by rfl) (q_cons (q_ix ix_seq w_ix (q_var 0) q_int) (q_cons q_int (q_cons (q_glob (by rfl) T.gl_MOST_LENGTH) q_nil)))))))))
abbrev st_parts_in : Stmt := top 37
def gs_parts_in : Gs :=
  (gSeq (gPar2 2 3 (wsh (lf (cN oList (cCons (cVar 0) cNil)))) (wN few (lfs cNil)))
  (gSeq (gWhile (lfb (bV (c2 oNe (cVar 2) (cLst cNil))))
  (gSeq (gPar2 4 5 (wN few (lfs (cCons (c2 oIx (cVar 2) (cK (.int 0))) cNil))) (wsh (lf (cK (.int 0)))))
  (gSeq (gWhile (lfb (bV (c2 oLt (cVar 5) (cBor (cN oLen (cCons (cVar 4) cNil))))))
  (gSeq (gFor (lfs (iS (cVar 1))) (bTp 3 (bCons (bNm 6) (bCons (bNm 7) (bCons (bNm 8) bNil))))
  (gFor (lfs (iS (cTup (cCons (cTup (cCons (cVar 6) (cCons (cVar 7) cNil))) (cCons (cTup (cCons (cVar 7) (cCons (cVar 6) cNil))) cNil))))) (bTp 2 (bCons (bNm 9) (bCons (bNm 10) bNil)))
  (gIf (lfb (bAnd (bV (c2 oEq (cVar 9) (cIxO 4 (cVar 5)))) (bAnd (bV (c2 oIn (cVar 10) (cVar 2))) (bBor (bV (c2 oNotIn (cVar 10) (cVar 4)))))))
  (gApp 4 (lf (cVar 10)))
  gNx)))
  (gAug 5 oAddI (lf (cK (.int 1))))) 400)
  (gSeq (gFz 4 (gApp 3 (lf (cN oTuple (cCons (cN oSortedA (cCons (cVar 4) cNil)) cNil)))))
  (gAsg (lf (cLc [11] (iS (cVar 2)) (bNm 11) (bV (c2 oNotIn (cVar 11) (cVar 4))) (cVar 11))) (bNm 2))))) 400)
  (gFz 3 (gRet (lf (cN oSortedA (cCons (cVar 3) cNil)))))))
def mm_parts_in := run 12 2 gs_parts_in
theorem sc_parts_in : FnScope ["points", "roads", "left", "found", "part", "at", "a", "b", "length", "one", "other", "x"] ["points", "roads"] (defScope st_parts_in) := ⟨rfl, rfl, rfl, by decide +kernel, rfl, by decide +kernel, by decide +kernel⟩
theorem ok_parts_in {f : Addr} {fd : FuncData} (F : Fun K "parts_in" "parts_in" st_parts_in f fd) (T : Txt mg) : FnOk P w K mg base CX0 1 f fd ["points", "roads"] (spP K mm_parts_in) := by
  have S := sc_parts_in
  refine okP 12 2 F S rfl rfl (g := gs_parts_in) fun cdv A outer s H E z hr => ?_
  exact (s_cons (s_par2 2 3 rfl S.nd (w_sh (r_lf (q_callTy call_list_of w_list (by rfl) T.bl_list bt_list (q_cons (q_var 0) q_nil)))) (w_lst (r_lfs q_nil)))
  (s_cons (s_while 400 (r_lfb (b_cmp (op_neQ (hu64 hr)) w_ne (q_var 2) (q_lst q_nil) (by rfl)))
  (s_cons (s_tup2 4 5 rfl S.nd (w_lst (r_lfs (q_cons (q_ix ix_seq w_ix (q_var 2) q_int) q_nil))) (w_sh (r_lf q_int)))
  (s_cons (s_while 400 (r_lfb (b_cmp (op_ltD (hu64 hr)) w_lt (q_var 5) (q_bor fun _ => (q_callB call_len w_len (by rfl) T.bl_len bt_len (q_cons (q_var 4) q_nil))) (by rfl)))
  (s_cons (s_for rfl (i_lf (i_seq (q_var 1))) (g_tup rfl (g_cons (g_nm 6 S.nd) (g_cons (g_nm 7 S.nd) (g_cons (g_nm 8 S.nd) g_nil))))
  (s_one (s_for rfl (i_lf (i_seq (q_tup (q_cons (q_tup (q_cons (q_var 6) (q_cons (q_var 7) q_nil))) (q_cons (q_tup (q_cons (q_var 7) (q_cons (q_var 6) q_nil))) q_nil))))) (g_tup rfl (g_cons (g_nm 9 S.nd) (g_cons (g_nm 10 S.nd) g_nil)))
  (s_one (s_if (r_lfb ((b_and (b_cmp (op_eqQ (hu64 hr)) w_eq (q_var 9) (q_ixO 4 (q_var 5)) (by rfl)) (b_and (b_cmp (op_inA (hu65 hr)) w_in (q_var 10) (q_var 2) (by rfl)) (b_and1 (b_bor fun _ => (b_cmp (op_notInA (hu65 hr)) w_notIn (q_var 10) (q_var 4) (by rfl))))))).pt)
  (s_one (s_app 4 (r_lf (q_var 10))))
  s_nil)) PassesOwn.never)) PassesOwn.never)
  (s_one (s_aug 5 iop_add w_addI S.nd (r_lf q_int)))) PassesOwn.never)
  (s_cons (s_fz 4 (s_app 3 (r_lf (q_callTy call_tuple_of w_tuple (by rfl) T.bl_tuple bt_tuple (q_cons (q_callB (cr_sortedA (hu64 hr)) w_sortedA (by rfl) T.bl_sorted bt_sorted (q_cons (q_var 4) q_nil)) q_nil)))))
  (s_one (s_lc 2 rfl S.nd (blkOk_by (own := [("x", 11)]) (by kernel_rfl)) (sw_true rfl rfl rfl (by rfl)) (i_seq (q_var 2)) (fun _ _ _ _ _ => (g_nm 11 S.nd)) (fun _ _ _ _ _ => (t_one (b_cmp (op_notInA (hu65 hr)) w_notIn (q_var 11) (q_var 4) (by rfl)))) (fun _ _ _ _ _ => (q_var 11))))))) PassesOwn.never)
  (s_one (s_fz 3 (s_ret (r_lf (q_callB (cr_sortedA (hu64 hr)) w_sortedA (by rfl) T.bl_sorted bt_sorted (q_cons (q_var 3) q_nil))))))))
abbrev st_need_web : Stmt := top 34
theorem sc_need_web : FnScope ["web", "pairs", "index", "one"] ["web"] (defScope st_need_web) := ⟨rfl, rfl, rfl, by decide +kernel, rfl, by decide +kernel, by decide +kernel⟩
def gs_need_web : Gx :=
  (xSeq (xIf (lfb (bOr (bNot (bT (cIsi .tuple (cVar 0)))) (bOr (bV (c2 oNe (cN oLen (cCons (cVar 0) cNil)) (cK (.int 2)))) (bNot (bT (cN mm_is_weights (cCons (c2 oIx (cVar 0) (cK (.int 0))) cNil)))))))
  (xRaise1 "BadWeb" "index" (lf (cK .none)))
  (xF gNx))
  (xSeq (xIf (lfb (bOr (bNot (bT (cIsi .tuple (c2 oIx (cVar 0) (cK (.int 1)))))) (bV (c2 oGt (cN oLen (cCons (c2 oIx (cVar 0) (cK (.int 1))) cNil)) (cK (.int 14))))))
  (xRaise1 "BadWeb" "index" (lf (cK .none)))
  (xF gNx))
  (xSeq (xF (gSetW 1 (wN few (lfs cNil))))
  (xSeq (xFor (lfs (iN en1 (cCons (c2 oIx (cVar 0) (cK (.int 1))) cNil))) (bTp 2 (bCons (bNm 2) (bCons (bNm 3) bNil)))
  (xSeq (xIf (lfb (bOr (bNot (bT (cN mm_is_road (cCons (cVar 3) (cCons (cN oLen (cCons (c2 oIx (cVar 0) (cK (.int 0))) cNil)) cNil))))) (bBor (bV (c2 oIn (cSl (cVar 3) cNoPart (cPart (cK (.int 2)))) (cVar 1))))))
  (xRaise1 "BadWeb" "index" (lf (cVar 2)))
  (xF gNx))
  (xF (gApp 1 (lf (cSl (cVar 3) cNoPart (cPart (cK (.int 2)))))))))
  (xIf (lfb (bV (c2 oGt (cN oLen (cCons (cN mm_parts_in (cCons (cListRg (cRg1 (cN oLen (cCons (c2 oIx (cVar 0) (cK (.int 0))) cNil)))) (cCons (c2 oIx (cVar 0) (cK (.int 1))) cNil))) cNil)) (cK (.int 1)))))
  (xRaise1 "BadWeb" "index" (lf (cK .none)))
  (xF gNx))))))
def mm_need_web := runX 4 1 gs_need_web
theorem ok_need_web {f : Addr} {fd : FuncData} (F : Fun K "need_web" "need_web" st_need_web f fd) (T : Txt mg) {AH : Addr} (TE : TxE P K mg AH) (c_is_weights : Cal P w K mg base 2 "is_weights" (spP K mm_is_weights)) (c_is_road : Cal P w K mg base 2 "is_road" (spP K mm_is_road)) (c_parts_in : Cal P w K mg base 1 "parts_in" (spP K mm_parts_in)) : FnOk P w K mg base (L2.CX P w) 3 f fd ["web"] (spX K mg mm_need_web) := by
  have S := sc_need_web
  refine okX 4 1 F S rfl rfl (g := gs_need_web) fun cdv A outer s H E z hr => ?_
  have tk : Takes (cxOf (L2.CX P w) P w K mg base ["web", "pairs", "index", "one"] "need_web" (defScope st_need_web) f cdv A outer s H E) (fun cls d _ H => E cls d H) := takes_of rfl rfl rfl rfl
  exact (x_cons (x_if (r_lfb ((b_or (b_not (b_val (q_isi (q_var 0) (by rfl) T.bl_isinstance bt_isinstance (q_ty .tuple (by rfl) T.bl_tuple bt_tuple)))) (b_or (b_cmp (op_neQ (hu64 hr)) w_ne (q_callB call_len w_len (by rfl) T.bl_len bt_len (q_cons (q_var 0) q_nil)) q_int (by rfl)) (b_or1 (b_not (b_val (q_call c_is_weights hr (by decide) (by rfl) (q_cons (q_ix ix_seq w_ix (q_var 0) q_int) q_nil)))))))).pt)
  (x_one (x_raiseS rfl tk TE.e_BadWeb hr (by rfl) (r_lf q_non)))
  (xs_of s_nil))
  (x_cons (x_if (r_lfb ((b_or (b_not (b_val (q_isi (q_ix ix_seq w_ix (q_var 0) q_int) (by rfl) T.bl_isinstance bt_isinstance (q_ty .tuple (by rfl) T.bl_tuple bt_tuple)))) (b_or1 (b_cmp (op_gtD (hu64 hr)) w_gt (q_callB call_len w_len (by rfl) T.bl_len bt_len (q_cons (q_ix ix_seq w_ix (q_var 0) q_int) q_nil)) (q_glob (by rfl) T.gl_MOST_ROADS) (by rfl))))).pt)
  (x_one (x_raiseS rfl tk TE.e_BadWeb hr (by rfl) (r_lf q_non)))
  (xs_of s_nil))
  (x_cons (x_of (s_setW 1 S.nd (w_lst (r_lfs q_nil))))
  (x_cons (x_for rfl (i_lf (i_enum (by rfl) T.bl_enumerate (q_cons (q_ix ix_seq w_ix (q_var 0) q_int) q_nil))) (g_tup rfl (g_cons (g_nm 2 S.nd) (g_cons (g_nm 3 S.nd) g_nil)))
  (x_cons (x_if (r_lfb ((b_or (b_not (b_val (q_call c_is_road hr (by decide) (by rfl) (q_cons (q_var 3) (q_cons (q_callB call_len w_len (by rfl) T.bl_len bt_len (q_cons (q_ix ix_seq w_ix (q_var 0) q_int) q_nil)) q_nil))))) (b_or1 (b_bor fun _ => (b_cmp (op_inA (hu65 hr)) w_in (q_slice (q_var 3) q_nopart (q_part q_int)) (q_var 1) (by rfl)))))).pt)
  (x_one (x_raiseS rfl tk TE.e_BadWeb hr (by rfl) (r_lf (q_var 2))))
  (xs_of s_nil))
  (xs_of (s_one (s_app 1 (r_lf (q_slice (q_var 3) q_nopart (q_part q_int))))))) (passes_of rfl))
  (x_one (x_if (r_lfb (b_cmp (op_gtD (hu64 hr)) w_gt (q_callB call_len w_len (by rfl) T.bl_len bt_len (q_cons (q_call c_parts_in hr (by decide) (by rfl) (q_cons (q_listRg rfl (by rfl) T.bl_list (q_rg1 (by rfl) T.bl_range (q_callB call_len w_len (by rfl) T.bl_len bt_len (q_cons (q_ix ix_seq w_ix (q_var 0) q_int) q_nil)))) (q_cons (q_ix ix_seq w_ix (q_var 0) q_int) q_nil))) q_nil)) q_int (by rfl)))
  (x_one (x_raiseS rfl tk TE.e_BadWeb hr (by rfl) (r_lf q_non)))
  (xs_of s_nil)))))))
abbrev st_need_tree : Stmt := top 36
theorem sc_need_tree : FnScope ["web"] ["web"] (defScope st_need_tree) := ⟨rfl, rfl, rfl, by decide +kernel, rfl, by decide +kernel, by decide +kernel⟩
def gs_need_tree : Gx :=
  (xSeq (xExpr (eCall mm_need_web (lfs (cCons (cVar 0) cNil))))
  (xIf (lfb (bV (c2 oNe (cN oLen (cCons (c2 oIx (cVar 0) (cK (.int 1))) cNil)) (c2 oSub (cN oLen (cCons (c2 oIx (cVar 0) (cK (.int 0))) cNil)) (cK (.int 1))))))
  (xRaise0 "NotTree")
  (xF gNx)))
def mm_need_tree := runX 1 1 gs_need_tree
theorem ok_need_tree {f : Addr} {fd : FuncData} (F : Fun K "need_tree" "need_tree" st_need_tree f fd) (T : Txt mg) {AH : Addr} (TE : TxE P K mg AH) (c_need_web : CalX P w K mg base 3 "need_web" (spX K mg mm_need_web)) : FnOk P w K mg base (L2.CX P w) 4 f fd ["web"] (spX K mg mm_need_tree) := by
  have S := sc_need_tree
  refine okX 1 1 F S rfl rfl (g := gs_need_tree) fun cdv A outer s H E z hr => ?_
  have tk : Takes (cxOf (L2.CX P w) P w K mg base ["web"] "need_tree" (defScope st_need_tree) f cdv A outer s H E) (fun cls d _ H => E cls d H) := takes_of rfl rfl rfl rfl
  exact (x_cons (x_expr (e_call tk c_need_web hr (by decide) (by rfl) (r_lfs (q_cons (q_var 0) q_nil))))
  (x_one (x_if (r_lfb (b_cmp (op_neQ (hu64 hr)) w_ne (q_callB call_len w_len (by rfl) T.bl_len bt_len (q_cons (q_ix ix_seq w_ix (q_var 0) q_int) q_nil)) (q_op op_sub w_sub (q_callB call_len w_len (by rfl) T.bl_len bt_len (q_cons (q_ix ix_seq w_ix (q_var 0) q_int) q_nil)) q_int) (by rfl)))
  (x_one (x_raiseO rfl tk TE.e_NotTree (by rfl)))
  (xs_of s_nil))))
abbrev st_need_reaches : Stmt := top 51
theorem sc_need_reaches : FnScope ["tree", "reaches", "one"] ["tree", "reaches"] (defScope st_need_reaches) := ⟨rfl, rfl, rfl, by decide +kernel, rfl, by decide +kernel, by decide +kernel⟩
def gs_need_reaches : Gx :=
  (xSeq (xExpr (eCall mm_need_tree (lfs (cCons (cVar 0) cNil))))
  (xSeq (xIf (lfb (bOr (bNot (bT (cIsi .tuple (cVar 1)))) (bV (c2 oNe (cN oLen (cCons (cVar 1) cNil)) (cN oLen (cCons (c2 oIx (cVar 0) (cK (.int 0))) cNil))))))
  (xRaise0 "BadReaches")
  (xF gNx))
  (xIf (lfb (bV (c2 oNe (cLc [2] (iS (cVar 1)) (bNm 2) (bNot (bT (cN mm_is_in (cCons (cVar 2) (cCons (cK (.int 0)) (cCons (cK (.int 10000)) cNil)))))) (cVar 2)) (cLst cNil))))
  (xRaise0 "BadReaches")
  (xF gNx))))
def mm_need_reaches := runX 3 2 gs_need_reaches
theorem ok_need_reaches {f : Addr} {fd : FuncData} (F : Fun K "need_reaches" "need_reaches" st_need_reaches f fd) (T : Txt mg) {AH : Addr} (TE : TxE P K mg AH) (c_need_tree : CalX P w K mg base 4 "need_tree" (spX K mg mm_need_tree)) (c_is_in : Cal P w K mg base 1 "is_in" (spP K mm_is_in)) : FnOk P w K mg base (L2.CX P w) 5 f fd ["tree", "reaches"] (spX K mg mm_need_reaches) := by
  have S := sc_need_reaches
  refine okX 3 2 F S rfl rfl (g := gs_need_reaches) fun cdv A outer s H E z hr => ?_
  have tk : Takes (cxOf (L2.CX P w) P w K mg base ["tree", "reaches", "one"] "need_reaches" (defScope st_need_reaches) f cdv A outer s H E) (fun cls d _ H => E cls d H) := takes_of rfl rfl rfl rfl
  exact (x_cons (x_expr (e_call tk c_need_tree hr (by decide) (by rfl) (r_lfs (q_cons (q_var 0) q_nil))))
  (x_cons (x_if (r_lfb ((b_or (b_not (b_val (q_isi (q_var 1) (by rfl) T.bl_isinstance bt_isinstance (q_ty .tuple (by rfl) T.bl_tuple bt_tuple)))) (b_or1 (b_cmp (op_neQ (hu64 hr)) w_ne (q_callB call_len w_len (by rfl) T.bl_len bt_len (q_cons (q_var 1) q_nil)) (q_callB call_len w_len (by rfl) T.bl_len bt_len (q_cons (q_ix ix_seq w_ix (q_var 0) q_int) q_nil)) (by rfl))))).pt)
  (x_one (x_raiseO rfl tk TE.e_BadReaches (by rfl)))
  (xs_of s_nil))
  (x_one (x_if (r_lfb (b_cmp (op_neQ (hu64 hr)) w_ne (q_lc rfl S.nd (blkOk_by (own := [("one", 2)]) (by kernel_rfl)) (i_seq (q_var 1)) (fun _ _ _ _ _ => (g_nm 2 S.nd)) (fun _ _ _ _ _ => (t_one (b_not (b_val (q_call c_is_in hr (by decide) (by rfl) (q_cons (q_var 2) (q_cons q_int (q_cons (q_glob (by rfl) T.gl_MOST_RADIUS) q_nil)))))))) (fun _ _ _ _ _ => (q_var 2))) (q_lst q_nil) (by rfl)))
  (x_one (x_raiseO rfl tk TE.e_BadReaches (by rfl)))
  (xs_of s_nil)))))
abbrev st_cover : Stmt := top 59
theorem sc_cover : FnScope ["tree", "reaches", "houses"] ["tree", "reaches"] (defScope st_cover) := ⟨rfl, rfl, rfl, by decide +kernel, rfl, by decide +kernel, by decide +kernel⟩
def gs_cover : Gx :=
  (xSeq (xExpr (eCall mm_need_reaches (lfs (cCons (cVar 0) (cCons (cVar 1) cNil)))))
  (xSeq (xF gNever)
  (xF gNever)))
def mm_cover := runX 3 2 gs_cover
theorem ok_cover {f : Addr} {fd : FuncData} (F : Fun K "cover" "cover" st_cover f fd) (T : Txt mg) {AH : Addr} (TE : TxE P K mg AH) (c_need_reaches : CalX P w K mg base 5 "need_reaches" (spX K mg mm_need_reaches)) : FnOk P w K mg base (L2.CX P w) 6 f fd ["tree", "reaches"] (spX K mg mm_cover) := by
  have S := sc_cover
  refine okX 3 2 F S rfl rfl (g := gs_cover) fun cdv A outer s H E z hr => ?_
  have tk : Takes (cxOf (L2.CX P w) P w K mg base ["tree", "reaches", "houses"] "cover" (defScope st_cover) f cdv A outer s H E) (fun cls d _ H => E cls d H) := takes_of rfl rfl rfl rfl
  exact (x_cons (x_expr (e_call tk c_need_reaches hr (by decide) (by rfl) (r_lfs (q_cons (q_var 0) (q_cons (q_var 1) q_nil)))))
  (x_cons (x_of s_never)
  (x_one (x_of s_never))))
abbrev st_shows_cover : Stmt := top 61
theorem sc_shows_cover : FnScope ["tree", "reaches", "value", "table"] ["tree", "reaches", "value"] (defScope st_shows_cover) := ⟨rfl, rfl, rfl, by decide +kernel, rfl, by decide +kernel, by decide +kernel⟩
def gs_shows_cover : Gx :=
  (xSeq (xExpr (eCall mm_need_reaches (lfs (cCons (cVar 0) (cCons (cVar 1) cNil)))))
  (xSeq (xF gNever)
  (xSeq (xF gNever)
  (xSeq (xF gNever)
  (xF gNever)))))
def mm_shows_cover := runX 4 3 gs_shows_cover
theorem ok_shows_cover {f : Addr} {fd : FuncData} (F : Fun K "shows_cover" "shows_cover" st_shows_cover f fd) (T : Txt mg) {AH : Addr} (TE : TxE P K mg AH) (c_need_reaches : CalX P w K mg base 5 "need_reaches" (spX K mg mm_need_reaches)) : FnOk P w K mg base (L2.CX P w) 6 f fd ["tree", "reaches", "value"] (spX K mg mm_shows_cover) := by
  have S := sc_shows_cover
  refine okX 4 3 F S rfl rfl (g := gs_shows_cover) fun cdv A outer s H E z hr => ?_
  have tk : Takes (cxOf (L2.CX P w) P w K mg base ["tree", "reaches", "value", "table"] "shows_cover" (defScope st_shows_cover) f cdv A outer s H E) (fun cls d _ H => E cls d H) := takes_of rfl rfl rfl rfl
  exact (x_cons (x_expr (e_call tk c_need_reaches hr (by decide) (by rfl) (r_lfs (q_cons (q_var 0) (q_cons (q_var 1) q_nil)))))
  (x_cons (x_of s_never)
  (x_cons (x_of s_never)
  (x_cons (x_of s_never)
  (x_one (x_of s_never))))))
abbrev st_need_point : Stmt := top 35
theorem sc_need_point : FnScope ["web", "point"] ["web", "point"] (defScope st_need_point) := ⟨rfl, rfl, rfl, by decide +kernel, rfl, by decide +kernel, by decide +kernel⟩
def gs_need_point : Gx :=
  (xIf (lfb (bNot (bT (cN mm_is_in (cCons (cVar 1) (cCons (cK (.int 0)) (cCons (c2 oSub (cN oLen (cCons (c2 oIx (cVar 0) (cK (.int 0))) cNil)) (cK (.int 1))) cNil)))))))
  (xRaise0 "BadPoint")
  (xF gNx))
def mm_need_point := runX 2 2 gs_need_point
theorem ok_need_point {f : Addr} {fd : FuncData} (F : Fun K "need_point" "need_point" st_need_point f fd) (T : Txt mg) {AH : Addr} (TE : TxE P K mg AH) (c_is_in : Cal P w K mg base 1 "is_in" (spP K mm_is_in)) : FnOk P w K mg base (L2.CX P w) 2 f fd ["web", "point"] (spX K mg mm_need_point) := by
  have S := sc_need_point
  refine okX 2 2 F S rfl rfl (g := gs_need_point) fun cdv A outer s H E z hr => ?_
  have tk : Takes (cxOf (L2.CX P w) P w K mg base ["web", "point"] "need_point" (defScope st_need_point) f cdv A outer s H E) (fun cls d _ H => E cls d H) := takes_of rfl rfl rfl rfl
  exact (x_one (x_if (r_lfb (b_not (b_val (q_call c_is_in hr (by decide) (by rfl) (q_cons (q_var 1) (q_cons q_int (q_cons (q_op op_sub w_sub (q_callB call_len w_len (by rfl) T.bl_len bt_len (q_cons (q_ix ix_seq w_ix (q_var 0) q_int) q_nil)) q_int) q_nil)))))))
  (x_one (x_raiseO rfl tk TE.e_BadPoint (by rfl)))
  (xs_of s_nil)))
abbrev st_side_weights : Stmt := top 99
theorem sc_side_weights : FnScope ["tree", "point"] ["tree", "point"] (defScope st_side_weights) := ⟨rfl, rfl, rfl, by decide +kernel, rfl, by decide +kernel, by decide +kernel⟩
def gs_side_weights : Gx :=
  (xSeq (xExpr (eCall mm_need_tree (lfs (cCons (cVar 0) cNil))))
  (xSeq (xExpr (eCall mm_need_point (lfs (cCons (cVar 0) (cCons (cVar 1) cNil)))))
  (xF gNever)))
def mm_side_weights := runX 2 2 gs_side_weights
theorem ok_side_weights {f : Addr} {fd : FuncData} (F : Fun K "side_weights" "side_weights" st_side_weights f fd) (T : Txt mg) {AH : Addr} (TE : TxE P K mg AH) (c_need_tree : CalX P w K mg base 4 "need_tree" (spX K mg mm_need_tree)) (c_need_point : CalX P w K mg base 2 "need_point" (spX K mg mm_need_point)) : FnOk P w K mg base (L2.CX P w) 5 f fd ["tree", "point"] (spX K mg mm_side_weights) := by
  have S := sc_side_weights
  refine okX 2 2 F S rfl rfl (g := gs_side_weights) fun cdv A outer s H E z hr => ?_
  have tk : Takes (cxOf (L2.CX P w) P w K mg base ["tree", "point"] "side_weights" (defScope st_side_weights) f cdv A outer s H E) (fun cls d _ H => E cls d H) := takes_of rfl rfl rfl rfl
  exact (x_cons (x_expr (e_call tk c_need_tree hr (by decide) (by rfl) (r_lfs (q_cons (q_var 0) q_nil))))
  (x_cons (x_expr (e_call tk c_need_point hr (by decide) (by rfl) (r_lfs (q_cons (q_var 0) (q_cons (q_var 1) q_nil)))))
  (x_one (x_of s_never))))
abbrev st_way : Stmt := top 41
theorem sc_way : FnScope ["web", "a", "b"] ["web", "a", "b"] (defScope st_way) := ⟨rfl, rfl, rfl, by decide +kernel, rfl, by decide +kernel, by decide +kernel⟩
def gs_way : Gx :=
  (xSeq (xExpr (eCall mm_need_web (lfs (cCons (cVar 0) cNil))))
  (xSeq (xExpr (eCall mm_need_point (lfs (cCons (cVar 0) (cCons (cVar 1) cNil)))))
  (xSeq (xExpr (eCall mm_need_point (lfs (cCons (cVar 0) (cCons (cVar 2) cNil)))))
  (xF gNever))))
def mm_way := runX 3 3 gs_way
theorem ok_way {f : Addr} {fd : FuncData} (F : Fun K "way" "way" st_way f fd) (T : Txt mg) {AH : Addr} (TE : TxE P K mg AH) (c_need_web : CalX P w K mg base 3 "need_web" (spX K mg mm_need_web)) (c_need_point : CalX P w K mg base 2 "need_point" (spX K mg mm_need_point)) : FnOk P w K mg base (L2.CX P w) 4 f fd ["web", "a", "b"] (spX K mg mm_way) := by
  have S := sc_way
  refine okX 3 3 F S rfl rfl (g := gs_way) fun cdv A outer s H E z hr => ?_
  have tk : Takes (cxOf (L2.CX P w) P w K mg base ["web", "a", "b"] "way" (defScope st_way) f cdv A outer s H E) (fun cls d _ H => E cls d H) := takes_of rfl rfl rfl rfl
  exact (x_cons (x_expr (e_call tk c_need_web hr (by decide) (by rfl) (r_lfs (q_cons (q_var 0) q_nil))))
  (x_cons (x_expr (e_call tk c_need_point hr (by decide) (by rfl) (r_lfs (q_cons (q_var 0) (q_cons (q_var 1) q_nil)))))
  (x_cons (x_expr (e_call tk c_need_point hr (by decide) (by rfl) (r_lfs (q_cons (q_var 0) (q_cons (q_var 2) q_nil)))))
  (x_one (x_of s_never)))))
abbrev st_ball : Stmt := top 42
theorem sc_ball : FnScope ["web", "point", "radius", "row", "k"] ["web", "point", "radius"] (defScope st_ball) := ⟨rfl, rfl, rfl, by decide +kernel, rfl, by decide +kernel, by decide +kernel⟩
def gs_ball : Gx :=
  (xSeq (xExpr (eCall mm_need_web (lfs (cCons (cVar 0) cNil))))
  (xSeq (xExpr (eCall mm_need_point (lfs (cCons (cVar 0) (cCons (cVar 1) cNil)))))
  (xSeq (xIf (lfb (bNot (bT (cN mm_is_in (cCons (cVar 2) (cCons (cK (.int 0)) (cCons (cK (.int 10000)) cNil)))))))
  (xRaise0 "BadNumber")
  (xF gNx))
  (xSeq (xF gNever)
  (xF gNever)))))
def mm_ball := runX 5 3 gs_ball
theorem ok_ball {f : Addr} {fd : FuncData} (F : Fun K "ball" "ball" st_ball f fd) (T : Txt mg) {AH : Addr} (TE : TxE P K mg AH) (c_need_web : CalX P w K mg base 3 "need_web" (spX K mg mm_need_web)) (c_need_point : CalX P w K mg base 2 "need_point" (spX K mg mm_need_point)) (c_is_in : Cal P w K mg base 1 "is_in" (spP K mm_is_in)) : FnOk P w K mg base (L2.CX P w) 4 f fd ["web", "point", "radius"] (spX K mg mm_ball) := by
  have S := sc_ball
  refine okX 5 3 F S rfl rfl (g := gs_ball) fun cdv A outer s H E z hr => ?_
  have tk : Takes (cxOf (L2.CX P w) P w K mg base ["web", "point", "radius", "row", "k"] "ball" (defScope st_ball) f cdv A outer s H E) (fun cls d _ H => E cls d H) := takes_of rfl rfl rfl rfl
  exact (x_cons (x_expr (e_call tk c_need_web hr (by decide) (by rfl) (r_lfs (q_cons (q_var 0) q_nil))))
  (x_cons (x_expr (e_call tk c_need_point hr (by decide) (by rfl) (r_lfs (q_cons (q_var 0) (q_cons (q_var 1) q_nil)))))
  (x_cons (x_if (r_lfb (b_not (b_val (q_call c_is_in hr (by decide) (by rfl) (q_cons (q_var 2) (q_cons q_int (q_cons (q_glob (by rfl) T.gl_MOST_RADIUS) q_nil)))))))
  (x_one (x_raiseO rfl tk TE.e_BadNumber (by rfl)))
  (xs_of s_nil))
  (x_cons (x_of s_never)
  (x_one (x_of s_never))))))
abbrev st_need_ends : Stmt := top 119
theorem sc_need_ends : FnScope ["tree", "a", "b"] ["tree", "a", "b"] (defScope st_need_ends) := ⟨rfl, rfl, rfl, by decide +kernel, rfl, by decide +kernel, by decide +kernel⟩
def gs_need_ends : Gx :=
  (xSeq (xExpr (eCall mm_need_tree (lfs (cCons (cVar 0) cNil))))
  (xSeq (xExpr (eCall mm_need_point (lfs (cCons (cVar 0) (cCons (cVar 1) cNil)))))
  (xExpr (eCall mm_need_point (lfs (cCons (cVar 0) (cCons (cVar 2) cNil)))))))
def mm_need_ends := runX 3 3 gs_need_ends
theorem ok_need_ends {f : Addr} {fd : FuncData} (F : Fun K "need_ends" "need_ends" st_need_ends f fd) (T : Txt mg) {AH : Addr} (TE : TxE P K mg AH) (c_need_tree : CalX P w K mg base 4 "need_tree" (spX K mg mm_need_tree)) (c_need_point : CalX P w K mg base 2 "need_point" (spX K mg mm_need_point)) : FnOk P w K mg base (L2.CX P w) 5 f fd ["tree", "a", "b"] (spX K mg mm_need_ends) := by
  have S := sc_need_ends
  refine okX 3 3 F S rfl rfl (g := gs_need_ends) fun cdv A outer s H E z hr => ?_
  have tk : Takes (cxOf (L2.CX P w) P w K mg base ["tree", "a", "b"] "need_ends" (defScope st_need_ends) f cdv A outer s H E) (fun cls d _ H => E cls d H) := takes_of rfl rfl rfl rfl
  exact (x_cons (x_expr (e_call tk c_need_tree hr (by decide) (by rfl) (r_lfs (q_cons (q_var 0) q_nil))))
  (x_cons (x_expr (e_call tk c_need_point hr (by decide) (by rfl) (r_lfs (q_cons (q_var 0) (q_cons (q_var 1) q_nil)))))
  (x_one (x_expr (e_call tk c_need_point hr (by decide) (by rfl) (r_lfs (q_cons (q_var 0) (q_cons (q_var 2) q_nil))))))))
abbrev st_way_sum : Stmt := top 121
theorem sc_way_sum : FnScope ["tree", "a", "b"] ["tree", "a", "b"] (defScope st_way_sum) := ⟨rfl, rfl, rfl, by decide +kernel, rfl, by decide +kernel, by decide +kernel⟩
def gs_way_sum : Gx :=
  (xSeq (xExpr (eCall mm_need_ends (lfs (cCons (cVar 0) (cCons (cVar 1) (cCons (cVar 2) cNil))))))
  (xF gNever))
def mm_way_sum := runX 3 3 gs_way_sum
theorem ok_way_sum {f : Addr} {fd : FuncData} (F : Fun K "way_sum" "way_sum" st_way_sum f fd) (T : Txt mg) {AH : Addr} (TE : TxE P K mg AH) (c_need_ends : CalX P w K mg base 5 "need_ends" (spX K mg mm_need_ends)) : FnOk P w K mg base (L2.CX P w) 6 f fd ["tree", "a", "b"] (spX K mg mm_way_sum) := by
  have S := sc_way_sum
  refine okX 3 3 F S rfl rfl (g := gs_way_sum) fun cdv A outer s H E z hr => ?_
  have tk : Takes (cxOf (L2.CX P w) P w K mg base ["tree", "a", "b"] "way_sum" (defScope st_way_sum) f cdv A outer s H E) (fun cls d _ H => E cls d H) := takes_of rfl rfl rfl rfl
  exact (x_cons (x_expr (e_call tk c_need_ends hr (by decide) (by rfl) (r_lfs (q_cons (q_var 0) (q_cons (q_var 1) (q_cons (q_var 2) q_nil))))))
  (x_one (x_of s_never)))
abbrev st_need_prices : Stmt := top 124
theorem sc_need_prices : FnScope ["tree", "reaches", "prices", "one"] ["tree", "reaches", "prices"] (defScope st_need_prices) := ⟨rfl, rfl, rfl, by decide +kernel, rfl, by decide +kernel, by decide +kernel⟩
def gs_need_prices : Gx :=
  (xSeq (xExpr (eCall mm_need_reaches (lfs (cCons (cVar 0) (cCons (cVar 1) cNil)))))
  (xSeq (xIf (lfb (bOr (bNot (bT (cIsi .tuple (cVar 2)))) (bV (c2 oNe (cN oLen (cCons (cVar 2) cNil)) (cN oLen (cCons (c2 oIx (cVar 0) (cK (.int 0))) cNil))))))
  (xRaise0 "BadPrices")
  (xF gNx))
  (xIf (lfb (bV (c2 oNe (cLc [3] (iS (cVar 2)) (bNm 3) (bNot (bT (cN mm_is_in (cCons (cVar 3) (cCons (cK (.int 0)) (cCons (cK (.int 1000)) cNil)))))) (cVar 3)) (cLst cNil))))
  (xRaise0 "BadPrices")
  (xF gNx))))
def mm_need_prices := runX 4 3 gs_need_prices
theorem ok_need_prices {f : Addr} {fd : FuncData} (F : Fun K "need_prices" "need_prices" st_need_prices f fd) (T : Txt mg) {AH : Addr} (TE : TxE P K mg AH) (c_need_reaches : CalX P w K mg base 5 "need_reaches" (spX K mg mm_need_reaches)) (c_is_in : Cal P w K mg base 1 "is_in" (spP K mm_is_in)) : FnOk P w K mg base (L2.CX P w) 6 f fd ["tree", "reaches", "prices"] (spX K mg mm_need_prices) := by
  have S := sc_need_prices
  refine okX 4 3 F S rfl rfl (g := gs_need_prices) fun cdv A outer s H E z hr => ?_
  have tk : Takes (cxOf (L2.CX P w) P w K mg base ["tree", "reaches", "prices", "one"] "need_prices" (defScope st_need_prices) f cdv A outer s H E) (fun cls d _ H => E cls d H) := takes_of rfl rfl rfl rfl
  exact (x_cons (x_expr (e_call tk c_need_reaches hr (by decide) (by rfl) (r_lfs (q_cons (q_var 0) (q_cons (q_var 1) q_nil)))))
  (x_cons (x_if (r_lfb ((b_or (b_not (b_val (q_isi (q_var 2) (by rfl) T.bl_isinstance bt_isinstance (q_ty .tuple (by rfl) T.bl_tuple bt_tuple)))) (b_or1 (b_cmp (op_neQ (hu64 hr)) w_ne (q_callB call_len w_len (by rfl) T.bl_len bt_len (q_cons (q_var 2) q_nil)) (q_callB call_len w_len (by rfl) T.bl_len bt_len (q_cons (q_ix ix_seq w_ix (q_var 0) q_int) q_nil)) (by rfl))))).pt)
  (x_one (x_raiseO rfl tk TE.e_BadPrices (by rfl)))
  (xs_of s_nil))
  (x_one (x_if (r_lfb (b_cmp (op_neQ (hu64 hr)) w_ne (q_lc rfl S.nd (blkOk_by (own := [("one", 3)]) (by kernel_rfl)) (i_seq (q_var 2)) (fun _ _ _ _ _ => (g_nm 3 S.nd)) (fun _ _ _ _ _ => (t_one (b_not (b_val (q_call c_is_in hr (by decide) (by rfl) (q_cons (q_var 3) (q_cons q_int (q_cons (q_glob (by rfl) T.gl_MOST_PRICE) q_nil)))))))) (fun _ _ _ _ _ => (q_var 3))) (q_lst q_nil) (by rfl)))
  (x_one (x_raiseO rfl tk TE.e_BadPrices (by rfl)))
  (xs_of s_nil)))))
abbrev st_priced_cover : Stmt := top 127
theorem sc_priced_cover : FnScope ["tree", "reaches", "prices"] ["tree", "reaches", "prices"] (defScope st_priced_cover) := ⟨rfl, rfl, rfl, by decide +kernel, rfl, by decide +kernel, by decide +kernel⟩
def gs_priced_cover : Gx :=
  (xSeq (xExpr (eCall mm_need_prices (lfs (cCons (cVar 0) (cCons (cVar 1) (cCons (cVar 2) cNil))))))
  (xF gNever))
def mm_priced_cover := runX 3 3 gs_priced_cover
theorem ok_priced_cover {f : Addr} {fd : FuncData} (F : Fun K "priced_cover" "priced_cover" st_priced_cover f fd) (T : Txt mg) {AH : Addr} (TE : TxE P K mg AH) (c_need_prices : CalX P w K mg base 6 "need_prices" (spX K mg mm_need_prices)) : FnOk P w K mg base (L2.CX P w) 7 f fd ["tree", "reaches", "prices"] (spX K mg mm_priced_cover) := by
  have S := sc_priced_cover
  refine okX 3 3 F S rfl rfl (g := gs_priced_cover) fun cdv A outer s H E z hr => ?_
  have tk : Takes (cxOf (L2.CX P w) P w K mg base ["tree", "reaches", "prices"] "priced_cover" (defScope st_priced_cover) f cdv A outer s H E) (fun cls d _ H => E cls d H) := takes_of rfl rfl rfl rfl
  exact (x_cons (x_expr (e_call tk c_need_prices hr (by decide) (by rfl) (r_lfs (q_cons (q_var 0) (q_cons (q_var 1) (q_cons (q_var 2) q_nil))))))
  (x_one (x_of s_never)))
abbrev st_need_count : Stmt := top 76
theorem sc_need_count : FnScope ["web", "count"] ["web", "count"] (defScope st_need_count) := ⟨rfl, rfl, rfl, by decide +kernel, rfl, by decide +kernel, by decide +kernel⟩
def gs_need_count : Gx :=
  (xIf (lfb (bNot (bT (cN mm_is_in (cCons (cVar 1) (cCons (cK (.int 1)) (cCons (cN oLen (cCons (c2 oIx (cVar 0) (cK (.int 0))) cNil)) cNil)))))))
  (xRaise0 "BadCount")
  (xF gNx))
def mm_need_count := runX 2 2 gs_need_count
theorem ok_need_count {f : Addr} {fd : FuncData} (F : Fun K "need_count" "need_count" st_need_count f fd) (T : Txt mg) {AH : Addr} (TE : TxE P K mg AH) (c_is_in : Cal P w K mg base 1 "is_in" (spP K mm_is_in)) : FnOk P w K mg base (L2.CX P w) 2 f fd ["web", "count"] (spX K mg mm_need_count) := by
  have S := sc_need_count
  refine okX 2 2 F S rfl rfl (g := gs_need_count) fun cdv A outer s H E z hr => ?_
  have tk : Takes (cxOf (L2.CX P w) P w K mg base ["web", "count"] "need_count" (defScope st_need_count) f cdv A outer s H E) (fun cls d _ H => E cls d H) := takes_of rfl rfl rfl rfl
  exact (x_one (x_if (r_lfb (b_not (b_val (q_call c_is_in hr (by decide) (by rfl) (q_cons (q_var 1) (q_cons q_int (q_cons (q_callB call_len w_len (by rfl) T.bl_len bt_len (q_cons (q_ix ix_seq w_ix (q_var 0) q_int) q_nil)) q_nil)))))))
  (x_one (x_raiseO rfl tk TE.e_BadCount (by rfl)))
  (xs_of s_nil)))
abbrev st_need_both_r : Stmt := top 77
theorem sc_need_both_r : FnScope ["tree", "count"] ["tree", "count"] (defScope st_need_both_r) := ⟨rfl, rfl, rfl, by decide +kernel, rfl, by decide +kernel, by decide +kernel⟩
def gs_need_both_r : Gx :=
  (xSeq (xExpr (eCall mm_need_tree (lfs (cCons (cVar 0) cNil))))
  (xExpr (eCall mm_need_count (lfs (cCons (cVar 0) (cCons (cVar 1) cNil))))))
def mm_need_both_r := runX 2 2 gs_need_both_r
theorem ok_need_both_r {f : Addr} {fd : FuncData} (F : Fun K "need_both" "need_both" st_need_both_r f fd) (T : Txt mg) {AH : Addr} (TE : TxE P K mg AH) (c_need_tree : CalX P w K mg base 4 "need_tree" (spX K mg mm_need_tree)) (c_need_count : CalX P w K mg base 2 "need_count" (spX K mg mm_need_count)) : FnOk P w K mg base (L2.CX P w) 5 f fd ["tree", "count"] (spX K mg mm_need_both_r) := by
  have S := sc_need_both_r
  refine okX 2 2 F S rfl rfl (g := gs_need_both_r) fun cdv A outer s H E z hr => ?_
  have tk : Takes (cxOf (L2.CX P w) P w K mg base ["tree", "count"] "need_both" (defScope st_need_both_r) f cdv A outer s H E) (fun cls d _ H => E cls d H) := takes_of rfl rfl rfl rfl
  exact (x_cons (x_expr (e_call tk c_need_tree hr (by decide) (by rfl) (r_lfs (q_cons (q_var 0) q_nil))))
  (x_one (x_expr (e_call tk c_need_count hr (by decide) (by rfl) (r_lfs (q_cons (q_var 0) (q_cons (q_var 1) q_nil)))))))
abbrev st_least_reach : Stmt := top 82
theorem sc_least_reach : FnScope ["tree", "count", "rows", "reach", "houses"] ["tree", "count"] (defScope st_least_reach) := ⟨rfl, rfl, rfl, by decide +kernel, rfl, by decide +kernel, by decide +kernel⟩
def gs_least_reach : Gx :=
  (xSeq (xExpr (eCall mm_need_both_r (lfs (cCons (cVar 0) (cCons (cVar 1) cNil)))))
  (xSeq (xF gNever)
  (xSeq (xF gNever)
  (xSeq (xF gNever)
  (xSeq (xF gNever)
  (xF gNever))))))
def mm_least_reach := runX 5 2 gs_least_reach
theorem ok_least_reach {f : Addr} {fd : FuncData} (F : Fun K "least_reach" "least_reach" st_least_reach f fd) (T : Txt mg) {AH : Addr} (TE : TxE P K mg AH) (c_need_both_reachings : CalX P w K mg base 5 "need_both_reachings" (spX K mg mm_need_both_r)) : FnOk P w K mg base (L2.CX P w) 6 f fd ["tree", "count"] (spX K mg mm_least_reach) := by
  have S := sc_least_reach
  refine okX 5 2 F S rfl rfl (g := gs_least_reach) fun cdv A outer s H E z hr => ?_
  have tk : Takes (cxOf (L2.CX P w) P w K mg base ["tree", "count", "rows", "reach", "houses"] "least_reach" (defScope st_least_reach) f cdv A outer s H E) (fun cls d _ H => E cls d H) := takes_of rfl rfl rfl rfl
  exact (x_cons (x_expr (e_call tk c_need_both_reachings hr (by decide) (by rfl) (r_lfs (q_cons (q_var 0) (q_cons (q_var 1) q_nil)))))
  (x_cons (x_of s_never)
  (x_cons (x_of s_never)
  (x_cons (x_of s_never)
  (x_cons (x_of s_never)
  (x_one (x_of s_never)))))))
abbrev st_gcd : Stmt := top 2
def gs_gcd : Gs :=
  (gSeq (gPar2 0 1 (wsh (lf (cN oAbs (cCons (cVar 0) cNil)))) (wsh (lf (cN oAbs (cCons (cVar 1) cNil)))))
  (gSeq (gWhile (lfb (bV (c2 oNe (cVar 1) (cK (.int 0)))))
  (gPar2 0 1 (wsh (lf (cVar 1))) (wsh (lf (c2 oMod (cVar 0) (cVar 1))))) 400)
  (gRet (lf (cVar 0)))))
def mm_gcd := run 2 2 gs_gcd
theorem sc_gcd : FnScope ["one", "other"] ["one", "other"] (defScope st_gcd) := ⟨rfl, rfl, rfl, by decide +kernel, rfl, by decide +kernel, by decide +kernel⟩
theorem ok_gcd {f : Addr} {fd : FuncData} (F : Fun K "gcd" "gcd" st_gcd f fd) (T : Txt mg) : FnOk P w K mg base CX0 1 f fd ["one", "other"] (spP K mm_gcd) := by
  have S := sc_gcd
  refine okP 2 2 F S rfl rfl (g := gs_gcd) fun cdv A outer s H E z hr => ?_
  exact (s_cons (s_par2 0 1 rfl S.nd (w_sh (r_lf (q_callB call_abs w_abs (by rfl) T.bl_abs bt_abs (q_cons (q_var 0) q_nil)))) (w_sh (r_lf (q_callB call_abs w_abs (by rfl) T.bl_abs bt_abs (q_cons (q_var 1) q_nil)))))
  (s_cons (s_while 400 (r_lfb (b_cmp (op_neQ (hu64 hr)) w_ne (q_var 1) q_int (by rfl)))
  (s_one (s_par2 0 1 rfl S.nd (w_sh (r_lf (q_var 1))) (w_sh (r_lf (q_op op_modN w_mod (q_var 0) (q_var 1)))))) PassesOwn.never)
  (s_one (s_ret (r_lf (q_var 0))))))
abbrev st_is_ratio : Stmt := top 9
def gs_is_ratio : Gs :=
  (gSeq (gIf (lfb (bOr (bNot (bT (cIsi .tuple (cVar 0)))) (bV (c2 oNe (cN oLen (cCons (cVar 0) cNil)) (cK (.int 2))))))
  (gRet (lf (cK (.bool false))))
  gNx)
  (gSeq (gFor (lfs (iS (cVar 0))) (bNm 1)
  (gIf (lfb (bOr (bNot (bT (cIsi .int (cVar 1)))) (bT (cIsi .bool (cVar 1)))))
  (gRet (lf (cK (.bool false))))
  gNx))
  (gRet (lf (cAnd (c2 oGt (c2 oIx (cVar 0) (cK (.int 1))) (cK (.int 0))) (c2 oEq (cN mm_gcd (cCons (c2 oIx (cVar 0) (cK (.int 0))) (cCons (c2 oIx (cVar 0) (cK (.int 1))) cNil))) (cK (.int 1))))))))
def mm_is_ratio := run 2 1 gs_is_ratio
theorem sc_is_ratio : FnScope ["value", "item"] ["value"] (defScope st_is_ratio) := ⟨rfl, rfl, rfl, by decide +kernel, rfl, by decide +kernel, by decide +kernel⟩
theorem ok_is_ratio {f : Addr} {fd : FuncData} (F : Fun K "is_ratio" "is_ratio" st_is_ratio f fd) (T : Txt mg) (c_gcd : Cal P w K mg base 1 "gcd" (spP K mm_gcd)) : FnOk P w K mg base CX0 2 f fd ["value"] (spP K mm_is_ratio) := by
  have S := sc_is_ratio
  refine okP 2 1 F S rfl rfl (g := gs_is_ratio) fun cdv A outer s H E z hr => ?_
  exact (s_cons (s_if (r_lfb ((b_or (b_not (b_val (q_isi (q_var 0) (by rfl) T.bl_isinstance bt_isinstance (q_ty .tuple (by rfl) T.bl_tuple bt_tuple)))) (b_or1 (b_cmp (op_neQ (hu64 hr)) w_ne (q_callB call_len w_len (by rfl) T.bl_len bt_len (q_cons (q_var 0) q_nil)) q_int (by rfl))))).pt)
  (s_one (s_ret (r_lf q_bl)))
  s_nil)
  (s_cons (s_for rfl (i_lf (i_seq (q_var 0))) (g_nm 1 S.nd)
  (s_one (s_if (r_lfb ((b_or (b_not (b_val (q_isi (q_var 1) (by rfl) T.bl_isinstance bt_isinstance (q_ty .int (by rfl) T.bl_int bt_int)))) (b_or1 (b_val (q_isi (q_var 1) (by rfl) T.bl_isinstance bt_isinstance (q_ty .bool (by rfl) T.bl_bool bt_bool)))))).pt)
  (s_one (s_ret (r_lf q_bl)))
  s_nil)) PassesOwn.never)
  (s_one (s_ret (r_lf (q_and (q_cmp (op_gtD (hu64 hr)) w_gt (q_ix ix_seq w_ix (q_var 0) q_int) q_int (by rfl)) (q_one (q_cmp (op_eqQ (hu64 hr)) w_eq (q_call c_gcd hr (by decide) (by rfl) (q_cons (q_ix ix_seq w_ix (q_var 0) q_int) (q_cons (q_ix ix_seq w_ix (q_var 0) q_int) q_nil))) q_int (by rfl)))))))))
abbrev st_need_share : Stmt := top 101
theorem sc_need_share : FnScope ["share"] ["share"] (defScope st_need_share) := ⟨rfl, rfl, rfl, by decide +kernel, rfl, by decide +kernel, by decide +kernel⟩
def gs_need_share : Gx :=
  (xIf (lfb (bOr (bNot (bT (cN mm_is_ratio (cCons (cVar 0) cNil)))) (bNot (bV (cChain oLe oLe (cK (.int 0)) (c2 oIx (cVar 0) (cK (.int 0))) (c2 oIx (cVar 0) (cK (.int 1))))))))
  (xRaise0 "BadShare")
  (xF gNx))
def mm_need_share := runX 1 1 gs_need_share
theorem ok_need_share {f : Addr} {fd : FuncData} (F : Fun K "need_share" "need_share" st_need_share f fd) (T : Txt mg) {AH : Addr} (TE : TxE P K mg AH) (c_is_ratio : Cal P w K mg base 2 "is_ratio" (spP K mm_is_ratio)) : FnOk P w K mg base (L2.CX P w) 3 f fd ["share"] (spX K mg mm_need_share) := by
  have S := sc_need_share
  refine okX 1 1 F S rfl rfl (g := gs_need_share) fun cdv A outer s H E z hr => ?_
  have tk : Takes (cxOf (L2.CX P w) P w K mg base ["share"] "need_share" (defScope st_need_share) f cdv A outer s H E) (fun cls d _ H => E cls d H) := takes_of rfl rfl rfl rfl
  exact (x_one (x_if (r_lfb ((b_or (b_not (b_val (q_call c_is_ratio hr (by decide) (by rfl) (q_cons (q_var 0) q_nil)))) (b_or1 (b_not (b_chain (op_leD (hu64 hr)) w_le (op_leD (hu64 hr)) w_le q_int (q_ix ix_seq w_ix (q_var 0) q_int) (q_ix ix_seq w_ix (q_var 0) q_int)))))).pt)
  (x_one (x_raiseO rfl tk TE.e_BadShare (by rfl)))
  (xs_of s_nil)))
abbrev st_best_mixed : Stmt := top 107
theorem sc_best_mixed : FnScope ["tree", "share"] ["tree", "share"] (defScope st_best_mixed) := ⟨rfl, rfl, rfl, by decide +kernel, rfl, by decide +kernel, by decide +kernel⟩
def gs_best_mixed : Gx :=
  (xSeq (xExpr (eCall mm_need_tree (lfs (cCons (cVar 0) cNil))))
  (xSeq (xExpr (eCall mm_need_share (lfs (cCons (cVar 1) cNil))))
  (xF gNever)))
def mm_best_mixed := runX 2 2 gs_best_mixed
theorem ok_best_mixed {f : Addr} {fd : FuncData} (F : Fun K "best_mixed" "best_mixed" st_best_mixed f fd) (T : Txt mg) {AH : Addr} (TE : TxE P K mg AH) (c_need_tree : CalX P w K mg base 4 "need_tree" (spX K mg mm_need_tree)) (c_need_share : CalX P w K mg base 3 "need_share" (spX K mg mm_need_share)) : FnOk P w K mg base (L2.CX P w) 5 f fd ["tree", "share"] (spX K mg mm_best_mixed) := by
  have S := sc_best_mixed
  refine okX 2 2 F S rfl rfl (g := gs_best_mixed) fun cdv A outer s H E z hr => ?_
  have tk : Takes (cxOf (L2.CX P w) P w K mg base ["tree", "share"] "best_mixed" (defScope st_best_mixed) f cdv A outer s H E) (fun cls d _ H => E cls d H) := takes_of rfl rfl rfl rfl
  exact (x_cons (x_expr (e_call tk c_need_tree hr (by decide) (by rfl) (r_lfs (q_cons (q_var 0) q_nil))))
  (x_cons (x_expr (e_call tk c_need_share hr (by decide) (by rfl) (r_lfs (q_cons (q_var 1) q_nil))))
  (x_one (x_of s_never))))
abbrev st_is_below : Stmt := top 8
def gs_is_below : Gs :=
  (gRet (lf (c2 oLt (c2 oMul (c2 oIx (cVar 0) (cK (.int 0))) (c2 oIx (cVar 1) (cK (.int 1)))) (c2 oMul (c2 oIx (cVar 1) (cK (.int 0))) (c2 oIx (cVar 0) (cK (.int 1)))))))
def mm_is_below := run 2 2 gs_is_below
theorem sc_is_below : FnScope ["one", "other"] ["one", "other"] (defScope st_is_below) := ⟨rfl, rfl, rfl, by decide +kernel, rfl, by decide +kernel, by decide +kernel⟩
theorem ok_is_below {f : Addr} {fd : FuncData} (F : Fun K "is_below" "is_below" st_is_below f fd) (T : Txt mg) : FnOk P w K mg base CX0 1 f fd ["one", "other"] (spP K mm_is_below) := by
  have S := sc_is_below
  refine okP 2 2 F S rfl rfl (g := gs_is_below) fun cdv A outer s H E z hr => ?_
  exact (s_one (s_ret (r_lf (q_cmp (op_ltD (hu64 hr)) w_lt (q_op op_mulA w_mul (q_ix ix_seq w_ix (q_var 0) q_int) (q_ix ix_seq w_ix (q_var 1) q_int)) (q_op op_mulA w_mul (q_ix ix_seq w_ix (q_var 1) q_int) (q_ix ix_seq w_ix (q_var 0) q_int)) (by rfl)))))
abbrev st_is_place : Stmt := top 63
def gs_is_place : Gs :=
  (gSeq (gIf (lfb (bOr (bNot (bT (cIsi .tuple (cVar 1)))) (bOr (bV (c2 oNe (cN oLen (cCons (cVar 1) cNil)) (cK (.int 2)))) (bNot (bT (cN mm_is_in (cCons (c2 oIx (cVar 1) (cK (.int 0))) (cCons (cK (.int 0)) (cCons (c2 oSub (cN oLen (cCons (c2 oIx (cVar 0) (cK (.int 1))) cNil)) (cK (.int 1))) cNil)))))))))
  (gRet (lf (cK (.bool false))))
  gNx)
  (gSeq (gIf (lfb (bOr (bNot (bT (cN mm_is_ratio (cCons (c2 oIx (cVar 1) (cK (.int 1))) cNil)))) (bV (c2 oLt (c2 oIx (c2 oIx (cVar 1) (cK (.int 1))) (cK (.int 0))) (cK (.int 0))))))
  (gRet (lf (cK (.bool false))))
  gNx)
  (gRet (lf (cNot (cN mm_is_below (cCons (cTup (cCons (c2 oIx (c2 oIx (c2 oIx (cVar 0) (cK (.int 1))) (c2 oIx (cVar 1) (cK (.int 0)))) (cK (.int 2))) (cCons (cK (.int 1)) cNil))) (cCons (c2 oIx (cVar 1) (cK (.int 1))) cNil))))))))
def mm_is_place := run 2 2 gs_is_place
theorem sc_is_place : FnScope ["web", "value"] ["web", "value"] (defScope st_is_place) := ⟨rfl, rfl, rfl, by decide +kernel, rfl, by decide +kernel, by decide +kernel⟩
theorem ok_is_place {f : Addr} {fd : FuncData} (F : Fun K "is_place" "is_place" st_is_place f fd) (T : Txt mg) (c_is_in : Cal P w K mg base 1 "is_in" (spP K mm_is_in)) (c_is_ratio : Cal P w K mg base 2 "is_ratio" (spP K mm_is_ratio)) (c_is_below : Cal P w K mg base 1 "is_below" (spP K mm_is_below)) : FnOk P w K mg base CX0 3 f fd ["web", "value"] (spP K mm_is_place) := by
  have S := sc_is_place
  refine okP 2 2 F S rfl rfl (g := gs_is_place) fun cdv A outer s H E z hr => ?_
  exact (s_cons (s_if (r_lfb ((b_or (b_not (b_val (q_isi (q_var 1) (by rfl) T.bl_isinstance bt_isinstance (q_ty .tuple (by rfl) T.bl_tuple bt_tuple)))) (b_or (b_cmp (op_neQ (hu64 hr)) w_ne (q_callB call_len w_len (by rfl) T.bl_len bt_len (q_cons (q_var 1) q_nil)) q_int (by rfl)) (b_or1 (b_not (b_val (q_call c_is_in hr (by decide) (by rfl) (q_cons (q_ix ix_seq w_ix (q_var 1) q_int) (q_cons q_int (q_cons (q_op op_sub w_sub (q_callB call_len w_len (by rfl) T.bl_len bt_len (q_cons (q_ix ix_seq w_ix (q_var 0) q_int) q_nil)) q_int) q_nil)))))))))).pt)
  (s_one (s_ret (r_lf q_bl)))
  s_nil)
  (s_cons (s_if (r_lfb ((b_or (b_not (b_val (q_call c_is_ratio hr (by decide) (by rfl) (q_cons (q_ix ix_seq w_ix (q_var 1) q_int) q_nil)))) (b_or1 (b_cmp (op_ltD (hu64 hr)) w_lt (q_ix ix_seq w_ix (q_ix ix_seq w_ix (q_var 1) q_int) q_int) q_int (by rfl))))).pt)
  (s_one (s_ret (r_lf q_bl)))
  s_nil)
  (s_one (s_ret (r_lf (q_not (q_call c_is_below hr (by decide) (by rfl) (q_cons (q_tup (q_cons (q_ix ix_seq w_ix (q_ix ix_seq w_ix (q_ix ix_seq w_ix (q_var 0) q_int) (q_ix ix_seq w_ix (q_var 1) q_int)) q_int) (q_cons q_int q_nil))) (q_cons (q_ix ix_seq w_ix (q_var 1) q_int) q_nil)))))))))
abbrev st_need_place : Stmt := top 64
theorem sc_need_place : FnScope ["web", "place"] ["web", "place"] (defScope st_need_place) := ⟨rfl, rfl, rfl, by decide +kernel, rfl, by decide +kernel, by decide +kernel⟩
def gs_need_place : Gx :=
  (xSeq (xExpr (eCall mm_need_web (lfs (cCons (cVar 0) cNil))))
  (xIf (lfb (bNot (bT (cN mm_is_place (cCons (cVar 0) (cCons (cVar 1) cNil))))))
  (xRaise0 "BadPlace")
  (xF gNx)))
def mm_need_place := runX 2 2 gs_need_place
theorem ok_need_place {f : Addr} {fd : FuncData} (F : Fun K "need_place" "need_place" st_need_place f fd) (T : Txt mg) {AH : Addr} (TE : TxE P K mg AH) (c_need_web : CalX P w K mg base 3 "need_web" (spX K mg mm_need_web)) (c_is_place : Cal P w K mg base 3 "is_place" (spP K mm_is_place)) : FnOk P w K mg base (L2.CX P w) 4 f fd ["web", "place"] (spX K mg mm_need_place) := by
  have S := sc_need_place
  refine okX 2 2 F S rfl rfl (g := gs_need_place) fun cdv A outer s H E z hr => ?_
  have tk : Takes (cxOf (L2.CX P w) P w K mg base ["web", "place"] "need_place" (defScope st_need_place) f cdv A outer s H E) (fun cls d _ H => E cls d H) := takes_of rfl rfl rfl rfl
  exact (x_cons (x_expr (e_call tk c_need_web hr (by decide) (by rfl) (r_lfs (q_cons (q_var 0) q_nil))))
  (x_one (x_if (r_lfb (b_not (b_val (q_call c_is_place hr (by decide) (by rfl) (q_cons (q_var 0) (q_cons (q_var 1) q_nil))))))
  (x_one (x_raiseO rfl tk TE.e_BadPlace (by rfl)))
  (xs_of s_nil))))
abbrev st_mixed : Stmt := top 104
theorem sc_mixed : FnScope ["web", "place", "share"] ["web", "place", "share"] (defScope st_mixed) := ⟨rfl, rfl, rfl, by decide +kernel, rfl, by decide +kernel, by decide +kernel⟩
def gs_mixed : Gx :=
  (xSeq (xExpr (eCall mm_need_place (lfs (cCons (cVar 0) (cCons (cVar 1) cNil)))))
  (xSeq (xExpr (eCall mm_need_share (lfs (cCons (cVar 2) cNil))))
  (xF gNever)))
def mm_mixed := runX 3 3 gs_mixed
theorem ok_mixed {f : Addr} {fd : FuncData} (F : Fun K "mixed" "mixed" st_mixed f fd) (T : Txt mg) {AH : Addr} (TE : TxE P K mg AH) (c_need_place : CalX P w K mg base 4 "need_place" (spX K mg mm_need_place)) (c_need_share : CalX P w K mg base 3 "need_share" (spX K mg mm_need_share)) : FnOk P w K mg base (L2.CX P w) 5 f fd ["web", "place", "share"] (spX K mg mm_mixed) := by
  have S := sc_mixed
  refine okX 3 3 F S rfl rfl (g := gs_mixed) fun cdv A outer s H E z hr => ?_
  have tk : Takes (cxOf (L2.CX P w) P w K mg base ["web", "place", "share"] "mixed" (defScope st_mixed) f cdv A outer s H E) (fun cls d _ H => E cls d H) := takes_of rfl rfl rfl rfl
  exact (x_cons (x_expr (e_call tk c_need_place hr (by decide) (by rfl) (r_lfs (q_cons (q_var 0) (q_cons (q_var 1) q_nil)))))
  (x_cons (x_expr (e_call tk c_need_share hr (by decide) (by rfl) (r_lfs (q_cons (q_var 2) q_nil))))
  (x_one (x_of s_never))))
abbrev st_need_number : Stmt := top 85
theorem sc_need_number : FnScope ["web", "count"] ["web", "count"] (defScope st_need_number) := ⟨rfl, rfl, rfl, by decide +kernel, rfl, by decide +kernel, by decide +kernel⟩
def gs_need_number : Gx :=
  (xSeq (xExpr (eCall mm_need_web (lfs (cCons (cVar 0) cNil))))
  (xExpr (eCall mm_need_count (lfs (cCons (cVar 0) (cCons (cVar 1) cNil))))))
def mm_need_number := runX 2 2 gs_need_number
theorem ok_need_number {f : Addr} {fd : FuncData} (F : Fun K "need_number" "need_number" st_need_number f fd) (T : Txt mg) {AH : Addr} (TE : TxE P K mg AH) (c_need_web : CalX P w K mg base 3 "need_web" (spX K mg mm_need_web)) (c_need_count : CalX P w K mg base 2 "need_count" (spX K mg mm_need_count)) : FnOk P w K mg base (L2.CX P w) 4 f fd ["web", "count"] (spX K mg mm_need_number) := by
  have S := sc_need_number
  refine okX 2 2 F S rfl rfl (g := gs_need_number) fun cdv A outer s H E z hr => ?_
  have tk : Takes (cxOf (L2.CX P w) P w K mg base ["web", "count"] "need_number" (defScope st_need_number) f cdv A outer s H E) (fun cls d _ H => E cls d H) := takes_of rfl rfl rfl rfl
  exact (x_cons (x_expr (e_call tk c_need_web hr (by decide) (by rfl) (r_lfs (q_cons (q_var 0) q_nil))))
  (x_one (x_expr (e_call tk c_need_count hr (by decide) (by rfl) (r_lfs (q_cons (q_var 0) (q_cons (q_var 1) q_nil)))))))
abbrev st_first_houses : Stmt := top 92
theorem sc_first_houses : FnScope ["web", "count", "rows", "lead", "houses", "one"] ["web", "count"] (defScope st_first_houses) := ⟨rfl, rfl, rfl, by decide +kernel, rfl, by decide +kernel, by decide +kernel⟩
def gs_first_houses : Gx :=
  (xSeq (xExpr (eCall mm_need_number (lfs (cCons (cVar 0) (cCons (cVar 1) cNil)))))
  (xSeq (xIf (lfb (bV (c2 oGt (cVar 1) (cK (.int 2)))))
  (xRaise1 "TooMany" "most" (lf (cK (.int 2))))
  (xF gNx))
  (xSeq (xF gNever)
  (xSeq (xF gNever)
  (xF gNever)))))
def mm_first_houses := runX 6 2 gs_first_houses
theorem ok_first_houses {f : Addr} {fd : FuncData} (F : Fun K "first_houses" "first_houses" st_first_houses f fd) (T : Txt mg) {AH : Addr} (TE : TxE P K mg AH) (c_need_number : CalX P w K mg base 4 "need_number" (spX K mg mm_need_number)) : FnOk P w K mg base (L2.CX P w) 5 f fd ["web", "count"] (spX K mg mm_first_houses) := by
  have S := sc_first_houses
  refine okX 6 2 F S rfl rfl (g := gs_first_houses) fun cdv A outer s H E z hr => ?_
  have tk : Takes (cxOf (L2.CX P w) P w K mg base ["web", "count", "rows", "lead", "houses", "one"] "first_houses" (defScope st_first_houses) f cdv A outer s H E) (fun cls d _ H => E cls d H) := takes_of rfl rfl rfl rfl
  exact (x_cons (x_expr (e_call tk c_need_number hr (by decide) (by rfl) (r_lfs (q_cons (q_var 0) (q_cons (q_var 1) q_nil)))))
  (x_cons (x_if (r_lfb (b_cmp (op_gtD (hu64 hr)) w_gt (q_var 1) (q_glob (by rfl) T.gl_MOST_FIRST) (by rfl)))
  (x_one (x_raiseS rfl tk TE.e_TooMany hr (by rfl) (r_lf (q_glob (by rfl) T.gl_MOST_FIRST))))
  (xs_of s_nil))
  (x_cons (x_of s_never)
  (x_cons (x_of s_never)
  (x_one (x_of s_never))))))
abbrev st_need_houses : Stmt := top 45
theorem sc_need_houses : FnScope ["web", "houses", "x"] ["web", "houses"] (defScope st_need_houses) := ⟨rfl, rfl, rfl, by decide +kernel, rfl, by decide +kernel, by decide +kernel⟩
def gs_need_houses : Gx :=
  (xSeq (xIf (lfb (bOr (bNot (bT (cIsi .tuple (cVar 1)))) (bV (c2 oEq (cVar 1) (cTup cNil)))))
  (xRaise0 "BadHouses")
  (xF gNx))
  (xIf (lfb (bOr (bV (c2 oNe (cLc [2] (iS (cVar 1)) (bNm 2) (bNot (bT (cN mm_is_in (cCons (cVar 2) (cCons (cK (.int 0)) (cCons (c2 oSub (cN oLen (cCons (c2 oIx (cVar 0) (cK (.int 0))) cNil)) (cK (.int 1))) cNil)))))) (cVar 2)) (cLst cNil))) (bV (c2 oNe (cN oList (cCons (cVar 1) cNil)) (c1 oSSet (cVar 1))))))
  (xRaise0 "BadHouses")
  (xF gNx)))
def mm_need_houses := runX 3 2 gs_need_houses
theorem ok_need_houses {f : Addr} {fd : FuncData} (F : Fun K "need_houses" "need_houses" st_need_houses f fd) (T : Txt mg) {AH : Addr} (TE : TxE P K mg AH) (c_is_in : Cal P w K mg base 1 "is_in" (spP K mm_is_in)) : FnOk P w K mg base (L2.CX P w) 2 f fd ["web", "houses"] (spX K mg mm_need_houses) := by
  have S := sc_need_houses
  refine okX 3 2 F S rfl rfl (g := gs_need_houses) fun cdv A outer s H E z hr => ?_
  have tk : Takes (cxOf (L2.CX P w) P w K mg base ["web", "houses", "x"] "need_houses" (defScope st_need_houses) f cdv A outer s H E) (fun cls d _ H => E cls d H) := takes_of rfl rfl rfl rfl
  exact (x_cons (x_if (r_lfb ((b_or (b_not (b_val (q_isi (q_var 1) (by rfl) T.bl_isinstance bt_isinstance (q_ty .tuple (by rfl) T.bl_tuple bt_tuple)))) (b_or1 (b_cmp (op_eqQ (hu64 hr)) w_eq (q_var 1) (q_tup q_nil) (by rfl))))).pt)
  (x_one (x_raiseO rfl tk TE.e_BadHouses (by rfl)))
  (xs_of s_nil))
  (x_one (x_if (r_lfb ((b_or (b_cmp (op_neQ (hu64 hr)) w_ne (q_lc rfl S.nd (blkOk_by (own := [("x", 2)]) (by kernel_rfl)) (i_seq (q_var 1)) (fun _ _ _ _ _ => (g_nm 2 S.nd)) (fun _ _ _ _ _ => (t_one (b_not (b_val (q_call c_is_in hr (by decide) (by rfl) (q_cons (q_var 2) (q_cons q_int (q_cons (q_op op_sub w_sub (q_callB call_len w_len (by rfl) T.bl_len bt_len (q_cons (q_ix ix_seq w_ix (q_var 0) q_int) q_nil)) q_int) q_nil)))))))) (fun _ _ _ _ _ => (q_var 2))) (q_lst q_nil) (by rfl)) (b_or1 (b_cmp (op_neQ (hu64 hr)) w_ne (q_callTy call_list_of w_list (by rfl) T.bl_list bt_list (q_cons (q_var 1) q_nil)) (q_sset rfl (by rfl) T.bl_sorted (by rfl) T.bl_set (q_var 1)) (by rfl))))).pt)
  (x_one (x_raiseO rfl tk TE.e_BadHouses (by rfl)))
  (xs_of s_nil))))
abbrev st_need_both : Stmt := top 47
theorem sc_need_both : FnScope ["web", "houses"] ["web", "houses"] (defScope st_need_both) := ⟨rfl, rfl, rfl, by decide +kernel, rfl, by decide +kernel, by decide +kernel⟩
def gs_need_both : Gx :=
  (xSeq (xExpr (eCall mm_need_web (lfs (cCons (cVar 0) cNil))))
  (xExpr (eCall mm_need_houses (lfs (cCons (cVar 0) (cCons (cVar 1) cNil))))))
def mm_need_both := runX 2 2 gs_need_both
theorem ok_need_both {f : Addr} {fd : FuncData} (F : Fun K "need_both" "need_both" st_need_both f fd) (T : Txt mg) {AH : Addr} (TE : TxE P K mg AH) (c_need_web : CalX P w K mg base 3 "need_web" (spX K mg mm_need_web)) (c_need_houses : CalX P w K mg base 2 "need_houses" (spX K mg mm_need_houses)) : FnOk P w K mg base (L2.CX P w) 4 f fd ["web", "houses"] (spX K mg mm_need_both) := by
  have S := sc_need_both
  refine okX 2 2 F S rfl rfl (g := gs_need_both) fun cdv A outer s H E z hr => ?_
  have tk : Takes (cxOf (L2.CX P w) P w K mg base ["web", "houses"] "need_both" (defScope st_need_both) f cdv A outer s H E) (fun cls d _ H => E cls d H) := takes_of rfl rfl rfl rfl
  exact (x_cons (x_expr (e_call tk c_need_web hr (by decide) (by rfl) (r_lfs (q_cons (q_var 0) q_nil))))
  (x_one (x_expr (e_call tk c_need_houses hr (by decide) (by rfl) (r_lfs (q_cons (q_var 0) (q_cons (q_var 1) q_nil)))))))
abbrev st_houses_answer : Stmt := top 91
theorem sc_houses_answer : FnScope ["web", "houses", "count", "lead", "others"] ["web", "houses", "count"] (defScope st_houses_answer) := ⟨rfl, rfl, rfl, by decide +kernel, rfl, by decide +kernel, by decide +kernel⟩
def gs_houses_answer : Gx :=
  (xSeq (xExpr (eCall mm_need_both (lfs (cCons (cVar 0) (cCons (cVar 1) cNil)))))
  (xSeq (xExpr (eCall mm_need_count (lfs (cCons (cVar 0) (cCons (cVar 2) cNil)))))
  (xSeq (xF gNever)
  (xF gNever))))
def mm_houses_answer := runX 5 3 gs_houses_answer
theorem ok_houses_answer {f : Addr} {fd : FuncData} (F : Fun K "houses_answer" "houses_answer" st_houses_answer f fd) (T : Txt mg) {AH : Addr} (TE : TxE P K mg AH) (c_need_both_houses : CalX P w K mg base 4 "need_both_houses" (spX K mg mm_need_both)) (c_need_count : CalX P w K mg base 2 "need_count" (spX K mg mm_need_count)) : FnOk P w K mg base (L2.CX P w) 5 f fd ["web", "houses", "count"] (spX K mg mm_houses_answer) := by
  have S := sc_houses_answer
  refine okX 5 3 F S rfl rfl (g := gs_houses_answer) fun cdv A outer s H E z hr => ?_
  have tk : Takes (cxOf (L2.CX P w) P w K mg base ["web", "houses", "count", "lead", "others"] "houses_answer" (defScope st_houses_answer) f cdv A outer s H E) (fun cls d _ H => E cls d H) := takes_of rfl rfl rfl rfl
  exact (x_cons (x_expr (e_call tk c_need_both_houses hr (by decide) (by rfl) (r_lfs (q_cons (q_var 0) (q_cons (q_var 1) q_nil)))))
  (x_cons (x_expr (e_call tk c_need_count hr (by decide) (by rfl) (r_lfs (q_cons (q_var 0) (q_cons (q_var 2) q_nil)))))
  (x_cons (x_of s_never)
  (x_one (x_of s_never)))))
abbrev st_need_loyalty : Stmt := top 93
theorem sc_need_loyalty : FnScope ["loyalty"] ["loyalty"] (defScope st_need_loyalty) := ⟨rfl, rfl, rfl, by decide +kernel, rfl, by decide +kernel, by decide +kernel⟩
def gs_need_loyalty : Gx :=
  (xIf (lfb (bNot (bT (cN mm_is_in (cCons (cVar 0) (cCons (cK (.int 0)) (cCons (cK (.int 1000)) cNil)))))))
  (xRaise0 "BadNumber")
  (xF gNx))
def mm_need_loyalty := runX 1 1 gs_need_loyalty
theorem ok_need_loyalty {f : Addr} {fd : FuncData} (F : Fun K "need_loyalty" "need_loyalty" st_need_loyalty f fd) (T : Txt mg) {AH : Addr} (TE : TxE P K mg AH) (c_is_in : Cal P w K mg base 1 "is_in" (spP K mm_is_in)) : FnOk P w K mg base (L2.CX P w) 2 f fd ["loyalty"] (spX K mg mm_need_loyalty) := by
  have S := sc_need_loyalty
  refine okX 1 1 F S rfl rfl (g := gs_need_loyalty) fun cdv A outer s H E z hr => ?_
  have tk : Takes (cxOf (L2.CX P w) P w K mg base ["loyalty"] "need_loyalty" (defScope st_need_loyalty) f cdv A outer s H E) (fun cls d _ H => E cls d H) := takes_of rfl rfl rfl rfl
  exact (x_one (x_if (r_lfb (b_not (b_val (q_call c_is_in hr (by decide) (by rfl) (q_cons (q_var 0) (q_cons q_int (q_cons (q_glob (by rfl) T.gl_MOST_LOYALTY) q_nil)))))))
  (x_one (x_raiseO rfl tk TE.e_BadNumber (by rfl)))
  (xs_of s_nil)))
abbrev st_loyal_share : Stmt := top 95
theorem sc_loyal_share : FnScope ["web", "a", "b", "loyalty"] ["web", "a", "b", "loyalty"] (defScope st_loyal_share) := ⟨rfl, rfl, rfl, by decide +kernel, rfl, by decide +kernel, by decide +kernel⟩
def gs_loyal_share : Gx :=
  (xSeq (xExpr (eCall mm_need_web (lfs (cCons (cVar 0) cNil))))
  (xSeq (xExpr (eCall mm_need_point (lfs (cCons (cVar 0) (cCons (cVar 1) cNil)))))
  (xSeq (xExpr (eCall mm_need_point (lfs (cCons (cVar 0) (cCons (cVar 2) cNil)))))
  (xSeq (xExpr (eCall mm_need_loyalty (lfs (cCons (cVar 3) cNil))))
  (xF gNever)))))
def mm_loyal_share := runX 4 4 gs_loyal_share
theorem ok_loyal_share {f : Addr} {fd : FuncData} (F : Fun K "loyal_share" "loyal_share" st_loyal_share f fd) (T : Txt mg) {AH : Addr} (TE : TxE P K mg AH) (c_need_web : CalX P w K mg base 3 "need_web" (spX K mg mm_need_web)) (c_need_point : CalX P w K mg base 2 "need_point" (spX K mg mm_need_point)) (c_need_loyalty : CalX P w K mg base 2 "need_loyalty" (spX K mg mm_need_loyalty)) : FnOk P w K mg base (L2.CX P w) 4 f fd ["web", "a", "b", "loyalty"] (spX K mg mm_loyal_share) := by
  have S := sc_loyal_share
  refine okX 4 4 F S rfl rfl (g := gs_loyal_share) fun cdv A outer s H E z hr => ?_
  have tk : Takes (cxOf (L2.CX P w) P w K mg base ["web", "a", "b", "loyalty"] "loyal_share" (defScope st_loyal_share) f cdv A outer s H E) (fun cls d _ H => E cls d H) := takes_of rfl rfl rfl rfl
  exact (x_cons (x_expr (e_call tk c_need_web hr (by decide) (by rfl) (r_lfs (q_cons (q_var 0) q_nil))))
  (x_cons (x_expr (e_call tk c_need_point hr (by decide) (by rfl) (r_lfs (q_cons (q_var 0) (q_cons (q_var 1) q_nil)))))
  (x_cons (x_expr (e_call tk c_need_point hr (by decide) (by rfl) (r_lfs (q_cons (q_var 0) (q_cons (q_var 2) q_nil)))))
  (x_cons (x_expr (e_call tk c_need_loyalty hr (by decide) (by rfl) (r_lfs (q_cons (q_var 3) q_nil))))
  (x_one (x_of s_never))))))
abbrev st_need_rooms : Stmt := top 134
theorem sc_need_rooms : FnScope ["web", "houses", "rooms", "one"] ["web", "houses", "rooms"] (defScope st_need_rooms) := ⟨rfl, rfl, rfl, by decide +kernel, rfl, by decide +kernel, by decide +kernel⟩
def gs_need_rooms : Gx :=
  (xSeq (xExpr (eCall mm_need_both (lfs (cCons (cVar 0) (cCons (cVar 1) cNil)))))
  (xSeq (xIf (lfb (bOr (bNot (bT (cIsi .tuple (cVar 2)))) (bV (c2 oNe (cN oLen (cCons (cVar 2) cNil)) (cN oLen (cCons (cVar 1) cNil))))))
  (xRaise0 "BadRooms")
  (xF gNx))
  (xIf (lfb (bV (c2 oNe (cLc [3] (iS (cVar 2)) (bNm 3) (bNot (bT (cN mm_is_in (cCons (cVar 3) (cCons (cK (.int 0)) (cCons (cK (.int 1000)) cNil)))))) (cVar 3)) (cLst cNil))))
  (xRaise0 "BadRooms")
  (xF gNx))))
def mm_need_rooms := runX 4 3 gs_need_rooms
theorem ok_need_rooms {f : Addr} {fd : FuncData} (F : Fun K "need_rooms" "need_rooms" st_need_rooms f fd) (T : Txt mg) {AH : Addr} (TE : TxE P K mg AH) (c_need_both_houses : CalX P w K mg base 4 "need_both_houses" (spX K mg mm_need_both)) (c_is_in : Cal P w K mg base 1 "is_in" (spP K mm_is_in)) : FnOk P w K mg base (L2.CX P w) 5 f fd ["web", "houses", "rooms"] (spX K mg mm_need_rooms) := by
  have S := sc_need_rooms
  refine okX 4 3 F S rfl rfl (g := gs_need_rooms) fun cdv A outer s H E z hr => ?_
  have tk : Takes (cxOf (L2.CX P w) P w K mg base ["web", "houses", "rooms", "one"] "need_rooms" (defScope st_need_rooms) f cdv A outer s H E) (fun cls d _ H => E cls d H) := takes_of rfl rfl rfl rfl
  exact (x_cons (x_expr (e_call tk c_need_both_houses hr (by decide) (by rfl) (r_lfs (q_cons (q_var 0) (q_cons (q_var 1) q_nil)))))
  (x_cons (x_if (r_lfb ((b_or (b_not (b_val (q_isi (q_var 2) (by rfl) T.bl_isinstance bt_isinstance (q_ty .tuple (by rfl) T.bl_tuple bt_tuple)))) (b_or1 (b_cmp (op_neQ (hu64 hr)) w_ne (q_callB call_len w_len (by rfl) T.bl_len bt_len (q_cons (q_var 2) q_nil)) (q_callB call_len w_len (by rfl) T.bl_len bt_len (q_cons (q_var 1) q_nil)) (by rfl))))).pt)
  (x_one (x_raiseO rfl tk TE.e_BadRooms (by rfl)))
  (xs_of s_nil))
  (x_one (x_if (r_lfb (b_cmp (op_neQ (hu64 hr)) w_ne (q_lc rfl S.nd (blkOk_by (own := [("one", 3)]) (by kernel_rfl)) (i_seq (q_var 2)) (fun _ _ _ _ _ => (g_nm 3 S.nd)) (fun _ _ _ _ _ => (t_one (b_not (b_val (q_call c_is_in hr (by decide) (by rfl) (q_cons (q_var 3) (q_cons q_int (q_cons (q_glob (by rfl) T.gl_MOST_ROOM) q_nil)))))))) (fun _ _ _ _ _ => (q_var 3))) (q_lst q_nil) (by rfl)))
  (x_one (x_raiseO rfl tk TE.e_BadRooms (by rfl)))
  (xs_of s_nil)))))
abbrev st_serving : Stmt := top 137
theorem sc_serving : FnScope ["web", "houses", "rooms", "kind", "value", "amounts", "weights", "wide", "parts", "one", "k"] ["web", "houses", "rooms"] (defScope st_serving) := ⟨rfl, rfl, rfl, by decide +kernel, rfl, by decide +kernel, by decide +kernel⟩
def gs_serving : Gx :=
  (xSeq (xExpr (eCall mm_need_rooms (lfs (cCons (cVar 0) (cCons (cVar 1) (cCons (cVar 2) cNil))))))
  (xSeq (xF gNever)
  (xSeq (xF gNever)
  (xSeq (xF gNever)
  (xSeq (xF gNever)
  (xF gNever))))))
def mm_serving := runX 11 3 gs_serving
theorem ok_serving {f : Addr} {fd : FuncData} (F : Fun K "serving" "serving" st_serving f fd) (T : Txt mg) {AH : Addr} (TE : TxE P K mg AH) (c_need_rooms : CalX P w K mg base 5 "need_rooms" (spX K mg mm_need_rooms)) : FnOk P w K mg base (L2.CX P w) 6 f fd ["web", "houses", "rooms"] (spX K mg mm_serving) := by
  have S := sc_serving
  refine okX 11 3 F S rfl rfl (g := gs_serving) fun cdv A outer s H E z hr => ?_
  have tk : Takes (cxOf (L2.CX P w) P w K mg base ["web", "houses", "rooms", "kind", "value", "amounts", "weights", "wide", "parts", "one", "k"] "serving" (defScope st_serving) f cdv A outer s H E) (fun cls d _ H => E cls d H) := takes_of rfl rfl rfl rfl
  exact (x_cons (x_expr (e_call tk c_need_rooms hr (by decide) (by rfl) (r_lfs (q_cons (q_var 0) (q_cons (q_var 1) (q_cons (q_var 2) q_nil))))))
  (x_cons (x_of s_never)
  (x_cons (x_of s_never)
  (x_cons (x_of s_never)
  (x_cons (x_of s_never)
  (x_one (x_of s_never)))))))
abbrev st_need_reach : Stmt := top 140
theorem sc_need_reach : FnScope ["web", "houses", "rooms", "reach"] ["web", "houses", "rooms", "reach"] (defScope st_need_reach) := ⟨rfl, rfl, rfl, by decide +kernel, rfl, by decide +kernel, by decide +kernel⟩
def gs_need_reach : Gx :=
  (xSeq (xExpr (eCall mm_need_rooms (lfs (cCons (cVar 0) (cCons (cVar 1) (cCons (cVar 2) cNil))))))
  (xIf (lfb (bNot (bT (cN mm_is_in (cCons (cVar 3) (cCons (cK (.int 0)) (cCons (cK (.int 10000)) cNil)))))))
  (xRaise0 "BadNumber")
  (xF gNx)))
def mm_need_reach := runX 4 4 gs_need_reach
theorem ok_need_reach {f : Addr} {fd : FuncData} (F : Fun K "need_reach" "need_reach" st_need_reach f fd) (T : Txt mg) {AH : Addr} (TE : TxE P K mg AH) (c_need_rooms : CalX P w K mg base 5 "need_rooms" (spX K mg mm_need_rooms)) (c_is_in : Cal P w K mg base 1 "is_in" (spP K mm_is_in)) : FnOk P w K mg base (L2.CX P w) 6 f fd ["web", "houses", "rooms", "reach"] (spX K mg mm_need_reach) := by
  have S := sc_need_reach
  refine okX 4 4 F S rfl rfl (g := gs_need_reach) fun cdv A outer s H E z hr => ?_
  have tk : Takes (cxOf (L2.CX P w) P w K mg base ["web", "houses", "rooms", "reach"] "need_reach" (defScope st_need_reach) f cdv A outer s H E) (fun cls d _ H => E cls d H) := takes_of rfl rfl rfl rfl
  exact (x_cons (x_expr (e_call tk c_need_rooms hr (by decide) (by rfl) (r_lfs (q_cons (q_var 0) (q_cons (q_var 1) (q_cons (q_var 2) q_nil))))))
  (x_one (x_if (r_lfb (b_not (b_val (q_call c_is_in hr (by decide) (by rfl) (q_cons (q_var 3) (q_cons q_int (q_cons (q_glob (by rfl) T.gl_MOST_RADIUS) q_nil)))))))
  (x_one (x_raiseO rfl tk TE.e_BadNumber (by rfl)))
  (xs_of s_nil))))
abbrev st_crowd : Stmt := top 141
theorem sc_crowd : FnScope ["web", "houses", "rooms", "reach"] ["web", "houses", "rooms", "reach"] (defScope st_crowd) := ⟨rfl, rfl, rfl, by decide +kernel, rfl, by decide +kernel, by decide +kernel⟩
def gs_crowd : Gx :=
  (xSeq (xExpr (eCall mm_need_reach (lfs (cCons (cVar 0) (cCons (cVar 1) (cCons (cVar 2) (cCons (cVar 3) cNil)))))))
  (xF gNever))
def mm_crowd := runX 4 4 gs_crowd
theorem ok_crowd {f : Addr} {fd : FuncData} (F : Fun K "crowd" "crowd" st_crowd f fd) (T : Txt mg) {AH : Addr} (TE : TxE P K mg AH) (c_need_reach : CalX P w K mg base 6 "need_reach" (spX K mg mm_need_reach)) : FnOk P w K mg base (L2.CX P w) 7 f fd ["web", "houses", "rooms", "reach"] (spX K mg mm_crowd) := by
  have S := sc_crowd
  refine okX 4 4 F S rfl rfl (g := gs_crowd) fun cdv A outer s H E z hr => ?_
  have tk : Takes (cxOf (L2.CX P w) P w K mg base ["web", "houses", "rooms", "reach"] "crowd" (defScope st_crowd) f cdv A outer s H E) (fun cls d _ H => E cls d H) := takes_of rfl rfl rfl rfl
  exact (x_cons (x_expr (e_call tk c_need_reach hr (by decide) (by rfl) (r_lfs (q_cons (q_var 0) (q_cons (q_var 1) (q_cons (q_var 2) (q_cons (q_var 3) q_nil)))))))
  (x_one (x_of s_never)))
abbrev st_need_highs : Stmt := top 144
theorem sc_need_highs : FnScope ["web", "highs", "k"] ["web", "highs"] (defScope st_need_highs) := ⟨rfl, rfl, rfl, by decide +kernel, rfl, by decide +kernel, by decide +kernel⟩
def gs_need_highs : Gx :=
  (xSeq (xExpr (eCall mm_need_web (lfs (cCons (cVar 0) cNil))))
  (xSeq (xIf (lfb (bOr (bNot (bT (cIsi .tuple (cVar 1)))) (bV (c2 oNe (cN oLen (cCons (cVar 1) cNil)) (cN oLen (cCons (c2 oIx (cVar 0) (cK (.int 0))) cNil))))))
  (xRaise0 "BadHighs")
  (xF gNx))
  (xIf (lfb (bV (c2 oNe (cLc [2] (iN rg1 (cCons (cN oLen (cCons (cVar 1) cNil)) cNil)) (bNm 2) (bNot (bT (cN mm_is_in (cCons (c2 oIx (cVar 1) (cVar 2)) (cCons (c2 oIx (c2 oIx (cVar 0) (cK (.int 0))) (cVar 2)) (cCons (cK (.int 100)) cNil)))))) (cVar 2)) (cLst cNil))))
  (xRaise0 "BadHighs")
  (xF gNx))))
def mm_need_highs := runX 3 2 gs_need_highs
theorem ok_need_highs {f : Addr} {fd : FuncData} (F : Fun K "need_highs" "need_highs" st_need_highs f fd) (T : Txt mg) {AH : Addr} (TE : TxE P K mg AH) (c_need_web : CalX P w K mg base 3 "need_web" (spX K mg mm_need_web)) (c_is_in : Cal P w K mg base 1 "is_in" (spP K mm_is_in)) : FnOk P w K mg base (L2.CX P w) 4 f fd ["web", "highs"] (spX K mg mm_need_highs) := by
  have S := sc_need_highs
  refine okX 3 2 F S rfl rfl (g := gs_need_highs) fun cdv A outer s H E z hr => ?_
  have tk : Takes (cxOf (L2.CX P w) P w K mg base ["web", "highs", "k"] "need_highs" (defScope st_need_highs) f cdv A outer s H E) (fun cls d _ H => E cls d H) := takes_of rfl rfl rfl rfl
  exact (x_cons (x_expr (e_call tk c_need_web hr (by decide) (by rfl) (r_lfs (q_cons (q_var 0) q_nil))))
  (x_cons (x_if (r_lfb ((b_or (b_not (b_val (q_isi (q_var 1) (by rfl) T.bl_isinstance bt_isinstance (q_ty .tuple (by rfl) T.bl_tuple bt_tuple)))) (b_or1 (b_cmp (op_neQ (hu64 hr)) w_ne (q_callB call_len w_len (by rfl) T.bl_len bt_len (q_cons (q_var 1) q_nil)) (q_callB call_len w_len (by rfl) T.bl_len bt_len (q_cons (q_ix ix_seq w_ix (q_var 0) q_int) q_nil)) (by rfl))))).pt)
  (x_one (x_raiseO rfl tk TE.e_BadHighs (by rfl)))
  (xs_of s_nil))
  (x_one (x_if (r_lfb (b_cmp (op_neQ (hu64 hr)) w_ne (q_lc rfl S.nd (blkOk_by (own := [("k", 2)]) (by kernel_rfl)) (i_range1 (by rfl) T.bl_range (q_cons (q_callB call_len w_len (by rfl) T.bl_len bt_len (q_cons (q_var 1) q_nil)) q_nil)) (fun _ _ _ _ _ => (g_nm 2 S.nd)) (fun _ _ _ _ _ => (t_one (b_not (b_val (q_call c_is_in hr (by decide) (by rfl) (q_cons (q_ix ix_seq w_ix (q_var 1) (q_var 2)) (q_cons (q_ix ix_seq w_ix (q_ix ix_seq w_ix (q_var 0) q_int) (q_var 2)) (q_cons (q_glob (by rfl) T.gl_MOST_WEIGHT) q_nil)))))))) (fun _ _ _ _ _ => (q_var 2))) (q_lst q_nil) (by rfl)))
  (x_one (x_raiseO rfl tk TE.e_BadHighs (by rfl)))
  (xs_of s_nil)))))
abbrev st_need_all : Stmt := top 146
theorem sc_need_all : FnScope ["web", "highs", "point"] ["web", "highs", "point"] (defScope st_need_all) := ⟨rfl, rfl, rfl, by decide +kernel, rfl, by decide +kernel, by decide +kernel⟩
def gs_need_all : Gx :=
  (xSeq (xExpr (eCall mm_need_highs (lfs (cCons (cVar 0) (cCons (cVar 1) cNil)))))
  (xExpr (eCall mm_need_point (lfs (cCons (cVar 0) (cCons (cVar 2) cNil))))))
def mm_need_all := runX 3 3 gs_need_all
theorem ok_need_all {f : Addr} {fd : FuncData} (F : Fun K "need_all" "need_all" st_need_all f fd) (T : Txt mg) {AH : Addr} (TE : TxE P K mg AH) (c_need_highs : CalX P w K mg base 4 "need_highs" (spX K mg mm_need_highs)) (c_need_point : CalX P w K mg base 2 "need_point" (spX K mg mm_need_point)) : FnOk P w K mg base (L2.CX P w) 5 f fd ["web", "highs", "point"] (spX K mg mm_need_all) := by
  have S := sc_need_all
  refine okX 3 3 F S rfl rfl (g := gs_need_all) fun cdv A outer s H E z hr => ?_
  have tk : Takes (cxOf (L2.CX P w) P w K mg base ["web", "highs", "point"] "need_all" (defScope st_need_all) f cdv A outer s H E) (fun cls d _ H => E cls d H) := takes_of rfl rfl rfl rfl
  exact (x_cons (x_expr (e_call tk c_need_highs hr (by decide) (by rfl) (r_lfs (q_cons (q_var 0) (q_cons (q_var 1) q_nil)))))
  (x_one (x_expr (e_call tk c_need_point hr (by decide) (by rfl) (r_lfs (q_cons (q_var 0) (q_cons (q_var 2) q_nil)))))))
abbrev st_weights_for : Stmt := top 149
theorem sc_weights_for : FnScope ["web", "highs", "point", "kind", "value", "amounts", "weights", "low", "more"] ["web", "highs", "point"] (defScope st_weights_for) := ⟨rfl, rfl, rfl, by decide +kernel, rfl, by decide +kernel, by decide +kernel⟩
def gs_weights_for : Gx :=
  (xSeq (xExpr (eCall mm_need_all (lfs (cCons (cVar 0) (cCons (cVar 1) (cCons (cVar 2) cNil))))))
  (xSeq (xF gNever)
  (xSeq (xF gNever)
  (xF gNever))))
def mm_weights_for := runX 9 3 gs_weights_for
theorem ok_weights_for {f : Addr} {fd : FuncData} (F : Fun K "weights_for" "weights_for" st_weights_for f fd) (T : Txt mg) {AH : Addr} (TE : TxE P K mg AH) (c_need_all : CalX P w K mg base 5 "need_all" (spX K mg mm_need_all)) : FnOk P w K mg base (L2.CX P w) 6 f fd ["web", "highs", "point"] (spX K mg mm_weights_for) := by
  have S := sc_weights_for
  refine okX 9 3 F S rfl rfl (g := gs_weights_for) fun cdv A outer s H E z hr => ?_
  have tk : Takes (cxOf (L2.CX P w) P w K mg base ["web", "highs", "point", "kind", "value", "amounts", "weights", "low", "more"] "weights_for" (defScope st_weights_for) f cdv A outer s H E) (fun cls d _ H => E cls d H) := takes_of rfl rfl rfl rfl
  exact (x_cons (x_expr (e_call tk c_need_all hr (by decide) (by rfl) (r_lfs (q_cons (q_var 0) (q_cons (q_var 1) (q_cons (q_var 2) q_nil))))))
  (x_cons (x_of s_never)
  (x_cons (x_of s_never)
  (x_one (x_of s_never)))))
abbrev st_growing_best : Stmt := top 151
theorem sc_growing_best : FnScope ["web", "point", "most", "sums", "row", "first", "steps", "x", "found", "step", "values", "kept", "y", "k"] ["web", "point", "most"] (defScope st_growing_best) := ⟨rfl, rfl, rfl, by decide +kernel, rfl, by decide +kernel, by decide +kernel⟩
def gs_growing_best : Gx :=
  (xSeq (xExpr (eCall mm_need_web (lfs (cCons (cVar 0) cNil))))
  (xSeq (xExpr (eCall mm_need_point (lfs (cCons (cVar 0) (cCons (cVar 1) cNil)))))
  (xSeq (xIf (lfb (bNot (bT (cN mm_is_in (cCons (cVar 2) (cCons (c2 oIx (c2 oIx (cVar 0) (cK (.int 0))) (cVar 1)) (cCons (cK (.int 1000)) cNil)))))))
  (xRaise0 "BadNumber")
  (xF gNx))
  (xSeq (xF gNever)
  (xSeq (xF gNever)
  (xSeq (xF gNever)
  (xSeq (xF gNever)
  (xSeq (xF gNever)
  (xSeq (xF gNever)
  (xSeq (xF gNever)
  (xSeq (xF gNever)
  (xF gNever))))))))))))
def mm_growing_best := runX 14 3 gs_growing_best
theorem ok_growing_best {f : Addr} {fd : FuncData} (F : Fun K "growing_best" "growing_best" st_growing_best f fd) (T : Txt mg) {AH : Addr} (TE : TxE P K mg AH) (c_need_web : CalX P w K mg base 3 "need_web" (spX K mg mm_need_web)) (c_need_point : CalX P w K mg base 2 "need_point" (spX K mg mm_need_point)) (c_is_in : Cal P w K mg base 1 "is_in" (spP K mm_is_in)) : FnOk P w K mg base (L2.CX P w) 4 f fd ["web", "point", "most"] (spX K mg mm_growing_best) := by
  have S := sc_growing_best
  refine okX 14 3 F S rfl rfl (g := gs_growing_best) fun cdv A outer s H E z hr => ?_
  have tk : Takes (cxOf (L2.CX P w) P w K mg base ["web", "point", "most", "sums", "row", "first", "steps", "x", "found", "step", "values", "kept", "y", "k"] "growing_best" (defScope st_growing_best) f cdv A outer s H E) (fun cls d _ H => E cls d H) := takes_of rfl rfl rfl rfl
  exact (x_cons (x_expr (e_call tk c_need_web hr (by decide) (by rfl) (r_lfs (q_cons (q_var 0) q_nil))))
  (x_cons (x_expr (e_call tk c_need_point hr (by decide) (by rfl) (r_lfs (q_cons (q_var 0) (q_cons (q_var 1) q_nil)))))
  (x_cons (x_if (r_lfb (b_not (b_val (q_call c_is_in hr (by decide) (by rfl) (q_cons (q_var 2) (q_cons (q_ix ix_seq w_ix (q_ix ix_seq w_ix (q_var 0) q_int) (q_var 1)) (q_cons (q_glob (by rfl) T.gl_MOST_GROWN) q_nil)))))))
  (x_one (x_raiseO rfl tk TE.e_BadNumber (by rfl)))
  (xs_of s_nil))
  (x_cons (x_of s_never)
  (x_cons (x_of s_never)
  (x_cons (x_of s_never)
  (x_cons (x_of s_never)
  (x_cons (x_of s_never)
  (x_cons (x_of s_never)
  (x_cons (x_of s_never)
  (x_cons (x_of s_never)
  (x_one (x_of s_never)))))))))))))
abbrev st_need_flows : Stmt := top 111
theorem sc_need_flows : FnScope ["web", "flows", "size", "index", "row", "x"] ["web", "flows"] (defScope st_need_flows) := ⟨rfl, rfl, rfl, by decide +kernel, rfl, by decide +kernel, by decide +kernel⟩
def gs_need_flows : Gx :=
  (xSeq (xExpr (eCall mm_need_web (lfs (cCons (cVar 0) cNil))))
  (xSeq (xF (gAsg (lf (cN oLen (cCons (c2 oIx (cVar 0) (cK (.int 0))) cNil))) (bNm 2)))
  (xSeq (xIf (lfb (bOr (bNot (bT (cIsi .tuple (cVar 1)))) (bV (c2 oNe (cN oLen (cCons (cVar 1) cNil)) (cVar 2)))))
  (xRaise1 "BadFlows" "index" (lf (cK .none)))
  (xF gNx))
  (xFor (lfs (iN en1 (cCons (cVar 1) cNil))) (bTp 2 (bCons (bNm 3) (bCons (bNm 4) bNil)))
  (xIf (lfb (bOr (bNot (bT (cIsi .tuple (cVar 4)))) (bOr (bV (c2 oNe (cN oLen (cCons (cVar 4) cNil)) (cVar 2))) (bV (c2 oNe (cLc [5] (iS (cVar 4)) (bNm 5) (bNot (bT (cN mm_is_in (cCons (cVar 5) (cCons (cK (.int 0)) (cCons (cK (.int 100)) cNil)))))) (cVar 5)) (cLst cNil))))))
  (xRaise1 "BadFlows" "index" (lf (cVar 3)))
  (xF gNx))))))
def mm_need_flows := runX 6 2 gs_need_flows
theorem ok_need_flows {f : Addr} {fd : FuncData} (F : Fun K "need_flows" "need_flows" st_need_flows f fd) (T : Txt mg) {AH : Addr} (TE : TxE P K mg AH) (c_need_web : CalX P w K mg base 3 "need_web" (spX K mg mm_need_web)) (c_is_in : Cal P w K mg base 1 "is_in" (spP K mm_is_in)) : FnOk P w K mg base (L2.CX P w) 4 f fd ["web", "flows"] (spX K mg mm_need_flows) := by
  have S := sc_need_flows
  refine okX 6 2 F S rfl rfl (g := gs_need_flows) fun cdv A outer s H E z hr => ?_
  have tk : Takes (cxOf (L2.CX P w) P w K mg base ["web", "flows", "size", "index", "row", "x"] "need_flows" (defScope st_need_flows) f cdv A outer s H E) (fun cls d _ H => E cls d H) := takes_of rfl rfl rfl rfl
  exact (x_cons (x_expr (e_call tk c_need_web hr (by decide) (by rfl) (r_lfs (q_cons (q_var 0) q_nil))))
  (x_cons (x_of (s_set 2 S.nd (r_lf (q_callB call_len w_len (by rfl) T.bl_len bt_len (q_cons (q_ix ix_seq w_ix (q_var 0) q_int) q_nil)))))
  (x_cons (x_if (r_lfb ((b_or (b_not (b_val (q_isi (q_var 1) (by rfl) T.bl_isinstance bt_isinstance (q_ty .tuple (by rfl) T.bl_tuple bt_tuple)))) (b_or1 (b_cmp (op_neQ (hu64 hr)) w_ne (q_callB call_len w_len (by rfl) T.bl_len bt_len (q_cons (q_var 1) q_nil)) (q_var 2) (by rfl))))).pt)
  (x_one (x_raiseS rfl tk TE.e_BadFlows hr (by rfl) (r_lf q_non)))
  (xs_of s_nil))
  (x_one (x_for rfl (i_lf (i_enum (by rfl) T.bl_enumerate (q_cons (q_var 1) q_nil))) (g_tup rfl (g_cons (g_nm 3 S.nd) (g_cons (g_nm 4 S.nd) g_nil)))
  (x_one (x_if (r_lfb ((b_or (b_not (b_val (q_isi (q_var 4) (by rfl) T.bl_isinstance bt_isinstance (q_ty .tuple (by rfl) T.bl_tuple bt_tuple)))) (b_or (b_cmp (op_neQ (hu64 hr)) w_ne (q_callB call_len w_len (by rfl) T.bl_len bt_len (q_cons (q_var 4) q_nil)) (q_var 2) (by rfl)) (b_or1 (b_cmp (op_neQ (hu64 hr)) w_ne (q_lc rfl S.nd (blkOk_by (own := [("x", 5)]) (by kernel_rfl)) (i_seq (q_var 4)) (fun _ _ _ _ _ => (g_nm 5 S.nd)) (fun _ _ _ _ _ => (t_one (b_not (b_val (q_call c_is_in hr (by decide) (by rfl) (q_cons (q_var 5) (q_cons q_int (q_cons (q_glob (by rfl) T.gl_MOST_FLOW) q_nil)))))))) (fun _ _ _ _ _ => (q_var 5))) (q_lst q_nil) (by rfl)))))).pt)
  (x_one (x_raiseS rfl tk TE.e_BadFlows hr (by rfl) (r_lf (q_var 3))))
  (xs_of s_nil))) (passes_of rfl))))))
abbrev st_hub_cost : Stmt := top 115
theorem sc_hub_cost : FnScope ["web", "flows", "hubs", "share"] ["web", "flows", "hubs", "share"] (defScope st_hub_cost) := ⟨rfl, rfl, rfl, by decide +kernel, rfl, by decide +kernel, by decide +kernel⟩
def gs_hub_cost : Gx :=
  (xSeq (xExpr (eCall mm_need_flows (lfs (cCons (cVar 0) (cCons (cVar 1) cNil)))))
  (xSeq (xExpr (eCall mm_need_houses (lfs (cCons (cVar 0) (cCons (cVar 2) cNil)))))
  (xSeq (xExpr (eCall mm_need_share (lfs (cCons (cVar 3) cNil))))
  (xF gNever))))
def mm_hub_cost := runX 4 4 gs_hub_cost
theorem ok_hub_cost {f : Addr} {fd : FuncData} (F : Fun K "hub_cost" "hub_cost" st_hub_cost f fd) (T : Txt mg) {AH : Addr} (TE : TxE P K mg AH) (c_need_flows : CalX P w K mg base 4 "need_flows" (spX K mg mm_need_flows)) (c_need_houses : CalX P w K mg base 2 "need_houses" (spX K mg mm_need_houses)) (c_need_share : CalX P w K mg base 3 "need_share" (spX K mg mm_need_share)) : FnOk P w K mg base (L2.CX P w) 5 f fd ["web", "flows", "hubs", "share"] (spX K mg mm_hub_cost) := by
  have S := sc_hub_cost
  refine okX 4 4 F S rfl rfl (g := gs_hub_cost) fun cdv A outer s H E z hr => ?_
  have tk : Takes (cxOf (L2.CX P w) P w K mg base ["web", "flows", "hubs", "share"] "hub_cost" (defScope st_hub_cost) f cdv A outer s H E) (fun cls d _ H => E cls d H) := takes_of rfl rfl rfl rfl
  exact (x_cons (x_expr (e_call tk c_need_flows hr (by decide) (by rfl) (r_lfs (q_cons (q_var 0) (q_cons (q_var 1) q_nil)))))
  (x_cons (x_expr (e_call tk c_need_houses hr (by decide) (by rfl) (r_lfs (q_cons (q_var 0) (q_cons (q_var 2) q_nil)))))
  (x_cons (x_expr (e_call tk c_need_share hr (by decide) (by rfl) (r_lfs (q_cons (q_var 3) q_nil))))
  (x_one (x_of s_never)))))
abbrev st_best_homes : Stmt := top 117
theorem sc_best_homes : FnScope ["web", "flows", "hubs", "share", "rows", "best", "some", "k", "homes", "here", "x"] ["web", "flows", "hubs", "share"] (defScope st_best_homes) := ⟨rfl, rfl, rfl, by decide +kernel, rfl, by decide +kernel, by decide +kernel⟩
def gs_best_homes : Gx :=
  (xSeq (xExpr (eCall mm_need_flows (lfs (cCons (cVar 0) (cCons (cVar 1) cNil)))))
  (xSeq (xExpr (eCall mm_need_houses (lfs (cCons (cVar 0) (cCons (cVar 2) cNil)))))
  (xSeq (xExpr (eCall mm_need_share (lfs (cCons (cVar 3) cNil))))
  (xSeq (xIf (lfb (bV (c2 oGt (cN oLen (cCons (cVar 2) cNil)) (cK (.int 3)))))
  (xRaise1 "TooMany" "most" (lf (cK (.int 3))))
  (xF gNx))
  (xSeq (xF gNever)
  (xSeq (xF gNever)
  (xSeq (xF gNever)
  (xF gNever))))))))
def mm_best_homes := runX 11 4 gs_best_homes
theorem ok_best_homes {f : Addr} {fd : FuncData} (F : Fun K "best_homes" "best_homes" st_best_homes f fd) (T : Txt mg) {AH : Addr} (TE : TxE P K mg AH) (c_need_flows : CalX P w K mg base 4 "need_flows" (spX K mg mm_need_flows)) (c_need_houses : CalX P w K mg base 2 "need_houses" (spX K mg mm_need_houses)) (c_need_share : CalX P w K mg base 3 "need_share" (spX K mg mm_need_share)) : FnOk P w K mg base (L2.CX P w) 5 f fd ["web", "flows", "hubs", "share"] (spX K mg mm_best_homes) := by
  have S := sc_best_homes
  refine okX 11 4 F S rfl rfl (g := gs_best_homes) fun cdv A outer s H E z hr => ?_
  have tk : Takes (cxOf (L2.CX P w) P w K mg base ["web", "flows", "hubs", "share", "rows", "best", "some", "k", "homes", "here", "x"] "best_homes" (defScope st_best_homes) f cdv A outer s H E) (fun cls d _ H => E cls d H) := takes_of rfl rfl rfl rfl
  exact (x_cons (x_expr (e_call tk c_need_flows hr (by decide) (by rfl) (r_lfs (q_cons (q_var 0) (q_cons (q_var 1) q_nil)))))
  (x_cons (x_expr (e_call tk c_need_houses hr (by decide) (by rfl) (r_lfs (q_cons (q_var 0) (q_cons (q_var 2) q_nil)))))
  (x_cons (x_expr (e_call tk c_need_share hr (by decide) (by rfl) (r_lfs (q_cons (q_var 3) q_nil))))
  (x_cons (x_if (r_lfb (b_cmp (op_gtD (hu64 hr)) w_gt (q_callB call_len w_len (by rfl) T.bl_len bt_len (q_cons (q_var 2) q_nil)) (q_glob (by rfl) T.gl_MOST_HUBS) (by rfl)))
  (x_one (x_raiseS rfl tk TE.e_TooMany hr (by rfl) (r_lf (q_glob (by rfl) T.gl_MOST_HUBS))))
  (xs_of s_nil))
  (x_cons (x_of s_never)
  (x_cons (x_of s_never)
  (x_cons (x_of s_never)
  (x_one (x_of s_never)))))))))
abbrev st_law : Stmt := top 157
def ls_law : List LamI := [lamOf (lamArg 0 (lamArg 0 (lamStE ((defBody st_law).getD 5 (.Pass ⟨0, 0, 0, 0⟩))))),
  lamOf (lamArg 0 (lamArg 0 (lamStE ((defBody st_law).getD 6 (.Pass ⟨0, 0, 0, 0⟩))))),
  lamOf (lamArg 0 (lamArg 0 (lamStE ((defBody st_law).getD 7 (.Pass ⟨0, 0, 0, 0⟩))))),
  lamOf (lamArg 0 (lamArg 0 (lamStE ((defBody st_law).getD 8 (.Pass ⟨0, 0, 0, 0⟩))))),
  lamOf (lamArg 0 (lamArg 0 (lamStE ((defBody st_law).getD 9 (.Pass ⟨0, 0, 0, 0⟩))))),
  lamOf (lamArg 0 (lamArg 0 (lamStE ((defBody st_law).getD 10 (.Pass ⟨0, 0, 0, 0⟩))))),
  lamOf (lamArg 0 (lamArg 0 (lamStE ((defBody st_law).getD 12 (.Pass ⟨0, 0, 0, 0⟩))))),
  lamOf (lamArg 0 (lamArg 0 (lamStE ((defBody st_law).getD 13 (.Pass ⟨0, 0, 0, 0⟩))))),
  lamOf (lamArg 0 (lamArg 0 (lamStE ((defBody st_law).getD 14 (.Pass ⟨0, 0, 0, 0⟩))))),
  lamOf (lamArg 0 (lamArg 0 (lamStE ((defBody st_law).getD 15 (.Pass ⟨0, 0, 0, 0⟩))))),
  lamOf (lamArg 0 (lamArg 0 (lamStE ((defBody st_law).getD 16 (.Pass ⟨0, 0, 0, 0⟩))))),
  lamOf (lamArg 0 (lamArg 0 (lamStE ((defBody st_law).getD 17 (.Pass ⟨0, 0, 0, 0⟩))))),
  lamOf (lamArg 0 (lamArg 0 (lamStE ((defBody st_law).getD 18 (.Pass ⟨0, 0, 0, 0⟩))))),
  lamOf (lamArg 0 (lamArg 0 (lamStE ((defBody st_law).getD 20 (.Pass ⟨0, 0, 0, 0⟩))))),
  lamOf (lamArg 0 (lamArg 0 (lamStE ((defBody st_law).getD 21 (.Pass ⟨0, 0, 0, 0⟩))))),
  lamOf (lamArg 0 (lamArg 0 (lamStE ((defBody st_law).getD 22 (.Pass ⟨0, 0, 0, 0⟩))))),
  lamOf (lamArg 0 (lamArg 0 (lamStE ((defBody st_law).getD 23 (.Pass ⟨0, 0, 0, 0⟩))))),
  lamOf (lamArg 0 (lamArg 0 (lamStE ((defBody st_law).getD 24 (.Pass ⟨0, 0, 0, 0⟩))))),
  lamOf (lamArg 0 (lamArg 0 (lamStE ((defBody st_law).getD 25 (.Pass ⟨0, 0, 0, 0⟩))))),
  lamOf (lamArg 0 (lamArg 0 (lamStE ((defBody st_law).getD 26 (.Pass ⟨0, 0, 0, 0⟩))))),
  lamOf (lamArg 0 (lamArg 0 (lamStE ((defBody st_law).getD 27 (.Pass ⟨0, 0, 0, 0⟩))))),
  lamOf (lamArg 0 (lamArg 0 (lamStE ((defBody st_law).getD 29 (.Pass ⟨0, 0, 0, 0⟩))))),
  lamOf (lamArg 0 (lamArg 0 (lamStE ((defBody st_law).getD 30 (.Pass ⟨0, 0, 0, 0⟩))))),
  lamOf (lamArg 0 (lamArg 0 (lamStE ((defBody st_law).getD 31 (.Pass ⟨0, 0, 0, 0⟩))))),
  lamOf (lamArg 0 (lamArg 0 (lamStE ((defBody st_law).getD 32 (.Pass ⟨0, 0, 0, 0⟩))))),
  lamOf (lamArg 0 (lamArg 0 (lamStE ((defBody st_law).getD 33 (.Pass ⟨0, 0, 0, 0⟩)))))]
def gs_law_rest : Gs :=
  (gSeq (gAsg (lf (cTup (cCons (cTup (cCons (cK (.int 1)) (cCons (cK (.int 1)) (cCons (cK (.int 1)) (cCons (cK (.int 1)) cNil))))) (cCons (cTup (cCons (cTup (cCons (cK (.int 0)) (cCons (cK (.int 1)) (cCons (cVar 2) cNil)))) (cCons (cTup (cCons (cK (.int 1)) (cCons (cK (.int 2)) (cCons (cVar 2) cNil)))) (cCons (cTup (cCons (cK (.int 2)) (cCons (cK (.int 3)) (cCons (cVar 2) cNil)))) (cCons (cTup (cCons (cK (.int 0)) (cCons (cK (.int 3)) (cCons (cVar 2) cNil)))) cNil))))) cNil)))) (bNm 3))
  (gSeq (gAsg (lf (cTup (cCons (c2 oIx (cVar 3) (cK (.int 0))) (cCons (cSl (c2 oIx (cVar 3) (cK (.int 1))) cNoPart (cPart (cK (.int 3)))) cNil)))) (bNm 4))
  (gSeq (gAsg (lf (c2 oMul (cTup (cCons (c2 oMul (cTup (cCons (cK (.int 0)) cNil)) (cK (.int 4))) cNil)) (cK (.int 4)))) (bNm 5))
  (gSeq (gSetW 6 (wN few (rCons (rErr (pCall mm_cover (cCons (cVar 3) (cCons (cK .none) cNil))) mm__law_told) rNil)))
  (gSeq (gApp 6 (rErr (pCall mm_shows_cover (cCons (cVar 4) (cCons (cK .none) (cCons (cK .none) cNil)))) mm__law_told))
  (gSeq (gApp 6 (rErr (pCall mm_side_weights (cCons (cVar 3) (cCons (cK (.int 9)) cNil))) mm__law_told))
  (gSeq (gApp 6 (rErr (pCall mm_way (cCons (cVar 3) (cCons (cK (.int 9)) (cCons (cK .none) cNil)))) mm__law_told))
  (gSeq (gApp 6 (rErr (pCall mm_ball (cCons (cVar 3) (cCons (cK (.int 0)) (cCons (cK .none) cNil)))) mm__law_told))
  (gSeq (gApp 6 (rErr (pCall mm_way_sum (cCons (cVar 4) (cCons (cK (.int 0)) (cCons (cK (.int 4)) cNil)))) mm__law_told))
  (gSeq (gIf (lfb (bBor (bV (c2 oNe (cVar 6) (cLst (cCons (cK (.str "tree")) (cCons (cK (.str "reaches")) (cCons (cK (.str "tree")) (cCons (cK (.str "point")) (cCons (cK (.str "number")) (cCons (cK (.str "point")) cNil)))))))))))
  (gRet (lf (cK (.bool false))))
  gNx)
  (gSeq (gSetW 6 (wN few (rCons (rErr (pCall mm_priced_cover (cCons (cVar 4) (cCons (c2 oMul (cTup (cCons (cK (.int 0)) cNil)) (cK (.int 4))) (cCons (cK .none) cNil)))) mm__law_told) rNil)))
  (gSeq (gApp 6 (rErr (pCall mm_priced_cover (cCons (cVar 4) (cCons (cK .none) (cCons (cK .none) cNil)))) mm__law_told))
  (gSeq (gApp 6 (rErr (pCall mm_least_reach (cCons (cVar 3) (cCons (cK (.int 0)) cNil))) mm__law_told))
  (gSeq (gApp 6 (rErr (pCall mm_best_mixed (cCons (cVar 3) (cCons (cK .none) cNil))) mm__law_told))
  (gSeq (gApp 6 (rErr (pCall mm_mixed (cCons (cVar 3) (cCons (cK .none) (cCons (cK .none) cNil)))) mm__law_told))
  (gSeq (gApp 6 (rErr (pCall mm_mixed (cCons (cVar 3) (cCons (cTup (cCons (cK (.int 0)) (cCons (cTup (cCons (cK (.int 0)) (cCons (cK (.int 1)) cNil))) cNil))) (cCons (cK .none) cNil)))) mm__law_told))
  (gSeq (gApp 6 (rErr (pCall mm_least_reach (cCons (cVar 4) (cCons (cK (.int 0)) cNil))) mm__law_told))
  (gSeq (gIf (lfb (bBor (bV (c2 oNe (cVar 6) (cLst (cCons (cK (.str "prices")) (cCons (cK (.str "reaches")) (cCons (cK (.str "tree")) (cCons (cK (.str "tree")) (cCons (cK (.str "place")) (cCons (cK (.str "share")) (cCons (cK (.str "count")) cNil))))))))))))
  (gRet (lf (cK (.bool false))))
  gNx)
  (gSeq (gSetW 6 (wN few (rCons (rErr (pCall mm_first_houses (cCons (cVar 3) (cCons (cK (.int 3)) cNil))) mm__law_told) rNil)))
  (gSeq (gApp 6 (rErr (pCall mm_first_houses (cCons (cVar 3) (cCons (cK (.int 5)) cNil))) mm__law_told))
  (gSeq (gApp 6 (rErr (pCall mm_houses_answer (cCons (cVar 3) (cCons (cTup cNil) (cCons (cK (.int 0)) cNil)))) mm__law_told))
  (gSeq (gApp 6 (rErr (pCall mm_loyal_share (cCons (cVar 3) (cCons (cK (.int 0)) (cCons (cK (.int 0)) (cCons (c1 oNeg (cK (.int 1))) cNil))))) mm__law_told))
  (gSeq (gApp 6 (rErr (pCall mm_serving (cCons (cVar 3) (cCons (cTup (cCons (cK (.int 4)) cNil)) (cCons (cK .none) cNil)))) mm__law_told))
  (gSeq (gApp 6 (rErr (pCall mm_serving (cCons (cVar 3) (cCons (cTup (cCons (cK (.int 0)) cNil)) (cCons (cK .none) cNil)))) mm__law_told))
  (gSeq (gApp 6 (rErr (pCall mm_crowd (cCons (cVar 3) (cCons (cTup (cCons (cK (.int 0)) cNil)) (cCons (cTup (cCons (cK (.int 1)) cNil)) (cCons (cK .none) cNil))))) mm__law_told))
  (gSeq (gApp 6 (rErr (pCall mm_weights_for (cCons (cVar 3) (cCons (cK .none) (cCons (cK .none) cNil)))) mm__law_told))
  (gSeq (gIf (lfb (bBor (bV (c2 oNe (cVar 6) (cLst (cCons (cK (.str "many")) (cCons (cK (.str "count")) (cCons (cK (.str "houses")) (cCons (cK (.str "number")) (cCons (cK (.str "houses")) (cCons (cK (.str "rooms")) (cCons (cK (.str "number")) (cCons (cK (.str "highs")) cNil)))))))))))))
  (gRet (lf (cK (.bool false))))
  gNx)
  (gSeq (gSetW 6 (wN few (rCons (rErr (pCall mm_growing_best (cCons (cVar 3) (cCons (cK (.int 4)) (cCons (cK .none) cNil)))) mm__law_told) rNil)))
  (gSeq (gApp 6 (rErr (pCall mm_growing_best (cCons (cVar 3) (cCons (cK (.int 0)) (cCons (cK (.int 0)) cNil)))) mm__law_told))
  (gSeq (gApp 6 (rErr (pCall mm_hub_cost (cCons (cVar 3) (cCons (cVar 5) (cCons (cTup cNil) (cCons (cK .none) cNil))))) mm__law_told))
  (gSeq (gApp 6 (rErr (pCall mm_best_homes (cCons (cVar 3) (cCons (cVar 5) (cCons (cTup (cCons (cK (.int 0)) (cCons (cK (.int 1)) (cCons (cK (.int 2)) (cCons (cK (.int 3)) cNil))))) (cCons (cK .none) cNil))))) mm__law_told))
  (gSeq (gApp 6 (rErr (pCall mm_best_homes (cCons (cVar 3) (cCons (cVar 5) (cCons (cTup (cCons (cK (.int 0)) (cCons (cK (.int 1)) (cCons (cK (.int 2)) (cCons (cK (.int 3)) cNil))))) (cCons (cTup (cCons (cK (.int 1)) (cCons (cK (.int 2)) cNil))) cNil))))) mm__law_told))
  (gRet (lf (cBor (c2 oEq (cVar 6) (cLst (cCons (cK (.str "point")) (cCons (cK (.str "number")) (cCons (cK (.str "houses")) (cCons (cK (.str "share")) (cCons (cK (.str "many")) cNil))))))))))))))))))))))))))))))))))))))))))
def gs_law_head (rest : Gs) : Gs :=
  (gSeq (gSetW 1 (wN few (lfs (cCons cVarT (cCons (cK (.int 0)) (cCons (cK (.int 6399)) (cCons (cK (.int 0)) cNil)))))))
  (gSeq (gAsg (r2 oAdd (lf (cK (.int 1))) (rRow 1 mm__law_taken (lfs (cCons (cK (.int 50)) cNil)))) (bNm 2))
  rest))
def gs_law : Gs :=
  gs_law_head gs_law_rest
def mm_law := runT 7 gs_law
theorem sc_law : FnScope ["_law_script", "_law_row", "_law_size", "_law_ring", "_law_tree", "_law_flows", "_law_told_here"] ["_law_script"] (defScope st_law) := ⟨rfl, rfl, rfl, by decide +kernel, rfl, by decide +kernel, by decide +kernel⟩
set_option maxHeartbeats 0 in
theorem ok_law {f c PT : Addr} {oc : Value} {od an : Option Addr} {osl : Array (Option Value)} {kV doc pm ct : Value} (lk : K.lookup f = some ⟨oc, od, .func (PySem.W.fnOf "law" "law" (defArgs st_law) (defBody st_law) (defScope st_law) .none kV doc pm an (.ref c) ct), osl⟩) (hcd : PySem.W.codeIn K (.ref c) "law" = true) (TB : TabB base mg c PT) (T : Txt mg) {AH : Addr} (TE : TxE P K mg AH) (c__law_taken : Cal P w K mg base 1 "_law_taken" (spR K mm__law_taken)) (c__law_told : Wk P w K mg base 0 "_law_told" "_law_work" mm__law_told) (c_cover : CalX P w K mg base 6 "cover" (spX K mg mm_cover)) (c_shows_cover : CalX P w K mg base 6 "shows_cover" (spX K mg mm_shows_cover)) (c_side_weights : CalX P w K mg base 5 "side_weights" (spX K mg mm_side_weights)) (c_way : CalX P w K mg base 4 "way" (spX K mg mm_way)) (c_ball : CalX P w K mg base 4 "ball" (spX K mg mm_ball)) (c_way_sum : CalX P w K mg base 6 "way_sum" (spX K mg mm_way_sum)) (c_priced_cover : CalX P w K mg base 7 "priced_cover" (spX K mg mm_priced_cover)) (c_least_reach : CalX P w K mg base 6 "least_reach" (spX K mg mm_least_reach)) (c_best_mixed : CalX P w K mg base 5 "best_mixed" (spX K mg mm_best_mixed)) (c_mixed : CalX P w K mg base 5 "mixed" (spX K mg mm_mixed)) (c_first_houses : CalX P w K mg base 5 "first_houses" (spX K mg mm_first_houses)) (c_houses_answer : CalX P w K mg base 5 "houses_answer" (spX K mg mm_houses_answer)) (c_loyal_share : CalX P w K mg base 4 "loyal_share" (spX K mg mm_loyal_share)) (c_serving : CalX P w K mg base 6 "serving" (spX K mg mm_serving)) (c_crowd : CalX P w K mg base 7 "crowd" (spX K mg mm_crowd)) (c_weights_for : CalX P w K mg base 6 "weights_for" (spX K mg mm_weights_for)) (c_growing_best : CalX P w K mg base 4 "growing_best" (spX K mg mm_growing_best)) (c_hub_cost : CalX P w K mg base 5 "hub_cost" (spX K mg mm_hub_cost)) (c_best_homes : CalX P w K mg base 5 "best_homes" (spX K mg mm_best_homes))
    (H : ∀ ns : List Int, ns.length ≤ 63 → mm_law [.list (ns.map .int)] = some (.bool true)) : FnOk P w K mg base C8.CX0 10 f (PySem.W.fnOf "law" "law" (defArgs st_law) (defBody st_law) (defScope st_law) .none kV doc pm an (.ref c) ct) ["_law_script"] (spLawT K 63 PT) := by
  have S := sc_law
  refine ok_lawT (ad := (fun _ => 0)) (ls := fun j => ls_law.getD j lamNo) 7 lk hcd S rfl (by decide) (g := gs_law) (fun A outer s H E z hz hr => ?_) H
  exact (s_cons (s_setW 1 S.nd (w_lst (r_lfs (q_cons q_varT (q_cons q_int (q_cons q_int (q_cons q_int q_nil)))))))
  (s_cons (s_set 2 S.nd (r_op op_addA w_add (r_lf q_int) (r_row 1 c__law_taken hr (by decide) (by rfl) (r_lfs (q_cons q_int q_nil)))))
  (s_cons (s_set 3 S.nd (r_lf (q_tup (q_cons (q_tup (q_cons q_int (q_cons q_int (q_cons q_int (q_cons q_int q_nil))))) (q_cons (q_tup (q_cons (q_tup (q_cons q_int (q_cons q_int (q_cons (q_var 2) q_nil)))) (q_cons (q_tup (q_cons q_int (q_cons q_int (q_cons (q_var 2) q_nil)))) (q_cons (q_tup (q_cons q_int (q_cons q_int (q_cons (q_var 2) q_nil)))) (q_cons (q_tup (q_cons q_int (q_cons q_int (q_cons (q_var 2) q_nil)))) q_nil))))) q_nil)))))
  (s_cons (s_set 4 S.nd (r_lf (q_tup (q_cons (q_ix ix_seq w_ix (q_var 3) q_int) (q_cons (q_slice (q_ix ix_seq w_ix (q_var 3) q_int) q_nopart (q_part q_int)) q_nil)))))
  (s_cons (s_set 5 S.nd (r_lf (q_op op_mulA w_mul (q_tup (q_cons (q_op op_mulA w_mul (q_tup (q_cons q_int q_nil)) q_int) q_nil)) q_int)))
  (s_cons (s_setW 6 S.nd (w_lst (r_cons (r_errL (jj := 0) (kk := 7) c__law_told (by decide) hr (by rfl) TB rfl rfl hz rfl (lamOk_of .no (by rfl) fun A outer s H E f c' hr => (p_call (takes_of rfl rfl rfl rfl) c_cover hr (by decide) (by rfl) (q_cons (q_var 3) (q_cons q_non q_nil))))) r_nil)))
  (s_cons (s_app 6 (r_errL (jj := 1) (kk := 7) c__law_told (by decide) hr (by rfl) TB rfl rfl hz rfl (lamOk_of .no (by rfl) fun A outer s H E f c' hr => (p_call (takes_of rfl rfl rfl rfl) c_shows_cover hr (by decide) (by rfl) (q_cons (q_var 4) (q_cons q_non (q_cons q_non q_nil)))))))
  (s_cons (s_app 6 (r_errL (jj := 2) (kk := 7) c__law_told (by decide) hr (by rfl) TB rfl rfl hz rfl (lamOk_of .no (by rfl) fun A outer s H E f c' hr => (p_call (takes_of rfl rfl rfl rfl) c_side_weights hr (by decide) (by rfl) (q_cons (q_var 3) (q_cons q_int q_nil))))))
  (s_cons (s_app 6 (r_errL (jj := 3) (kk := 7) c__law_told (by decide) hr (by rfl) TB rfl rfl hz rfl (lamOk_of .no (by rfl) fun A outer s H E f c' hr => (p_call (takes_of rfl rfl rfl rfl) c_way hr (by decide) (by rfl) (q_cons (q_var 3) (q_cons q_int (q_cons q_non q_nil)))))))
  (s_cons (s_app 6 (r_errL (jj := 4) (kk := 7) c__law_told (by decide) hr (by rfl) TB rfl rfl hz rfl (lamOk_of .no (by rfl) fun A outer s H E f c' hr => (p_call (takes_of rfl rfl rfl rfl) c_ball hr (by decide) (by rfl) (q_cons (q_var 3) (q_cons q_int (q_cons q_non q_nil)))))))
  (s_cons (s_app 6 (r_errL (jj := 5) (kk := 7) c__law_told (by decide) hr (by rfl) TB rfl rfl hz rfl (lamOk_of .no (by rfl) fun A outer s H E f c' hr => (p_call (takes_of rfl rfl rfl rfl) c_way_sum hr (by decide) (by rfl) (q_cons (q_var 4) (q_cons q_int (q_cons q_int q_nil)))))))
  (s_cons (s_if (r_lfb (b_bor fun _ => (b_cmp (op_neQ (hu64 hr)) w_ne (q_var 6) (q_lst (q_cons q_str (q_cons q_str (q_cons q_str (q_cons q_str (q_cons q_str (q_cons q_str q_nil))))))) (by rfl))))
  (s_one (s_ret (r_lf q_bl)))
  s_nil)
  (s_cons (s_setW 6 S.nd (w_lst (r_cons (r_errL (jj := 6) (kk := 7) c__law_told (by decide) hr (by rfl) TB rfl rfl hz rfl (lamOk_of .no (by rfl) fun A outer s H E f c' hr => (p_call (takes_of rfl rfl rfl rfl) c_priced_cover hr (by decide) (by rfl) (q_cons (q_var 4) (q_cons (q_op op_mulA w_mul (q_tup (q_cons q_int q_nil)) q_int) (q_cons q_non q_nil)))))) r_nil)))
  (s_cons (s_app 6 (r_errL (jj := 7) (kk := 7) c__law_told (by decide) hr (by rfl) TB rfl rfl hz rfl (lamOk_of .no (by rfl) fun A outer s H E f c' hr => (p_call (takes_of rfl rfl rfl rfl) c_priced_cover hr (by decide) (by rfl) (q_cons (q_var 4) (q_cons q_non (q_cons q_non q_nil)))))))
  (s_cons (s_app 6 (r_errL (jj := 8) (kk := 7) c__law_told (by decide) hr (by rfl) TB rfl rfl hz rfl (lamOk_of .no (by rfl) fun A outer s H E f c' hr => (p_call (takes_of rfl rfl rfl rfl) c_least_reach hr (by decide) (by rfl) (q_cons (q_var 3) (q_cons q_int q_nil))))))
  (s_cons (s_app 6 (r_errL (jj := 9) (kk := 7) c__law_told (by decide) hr (by rfl) TB rfl rfl hz rfl (lamOk_of .no (by rfl) fun A outer s H E f c' hr => (p_call (takes_of rfl rfl rfl rfl) c_best_mixed hr (by decide) (by rfl) (q_cons (q_var 3) (q_cons q_non q_nil))))))
  (s_cons (s_app 6 (r_errL (jj := 10) (kk := 7) c__law_told (by decide) hr (by rfl) TB rfl rfl hz rfl (lamOk_of .no (by rfl) fun A outer s H E f c' hr => (p_call (takes_of rfl rfl rfl rfl) c_mixed hr (by decide) (by rfl) (q_cons (q_var 3) (q_cons q_non (q_cons q_non q_nil)))))))
  (s_cons (s_app 6 (r_errL (jj := 11) (kk := 7) c__law_told (by decide) hr (by rfl) TB rfl rfl hz rfl (lamOk_of .no (by rfl) fun A outer s H E f c' hr => (p_call (takes_of rfl rfl rfl rfl) c_mixed hr (by decide) (by rfl) (q_cons (q_var 3) (q_cons (q_tup (q_cons q_int (q_cons (q_tup (q_cons q_int (q_cons q_int q_nil))) q_nil))) (q_cons q_non q_nil)))))))
  (s_cons (s_app 6 (r_errL (jj := 12) (kk := 7) c__law_told (by decide) hr (by rfl) TB rfl rfl hz rfl (lamOk_of .no (by rfl) fun A outer s H E f c' hr => (p_call (takes_of rfl rfl rfl rfl) c_least_reach hr (by decide) (by rfl) (q_cons (q_var 4) (q_cons q_int q_nil))))))
  (s_cons (s_if (r_lfb (b_bor fun _ => (b_cmp (op_neQ (hu64 hr)) w_ne (q_var 6) (q_lst (q_cons q_str (q_cons q_str (q_cons q_str (q_cons q_str (q_cons q_str (q_cons q_str (q_cons q_str q_nil)))))))) (by rfl))))
  (s_one (s_ret (r_lf q_bl)))
  s_nil)
  (s_cons (s_setW 6 S.nd (w_lst (r_cons (r_errL (jj := 13) (kk := 7) c__law_told (by decide) hr (by rfl) TB rfl rfl hz rfl (lamOk_of .no (by rfl) fun A outer s H E f c' hr => (p_call (takes_of rfl rfl rfl rfl) c_first_houses hr (by decide) (by rfl) (q_cons (q_var 3) (q_cons q_int q_nil))))) r_nil)))
  (s_cons (s_app 6 (r_errL (jj := 14) (kk := 7) c__law_told (by decide) hr (by rfl) TB rfl rfl hz rfl (lamOk_of .no (by rfl) fun A outer s H E f c' hr => (p_call (takes_of rfl rfl rfl rfl) c_first_houses hr (by decide) (by rfl) (q_cons (q_var 3) (q_cons q_int q_nil))))))
  (s_cons (s_app 6 (r_errL (jj := 15) (kk := 7) c__law_told (by decide) hr (by rfl) TB rfl rfl hz rfl (lamOk_of .no (by rfl) fun A outer s H E f c' hr => (p_call (takes_of rfl rfl rfl rfl) c_houses_answer hr (by decide) (by rfl) (q_cons (q_var 3) (q_cons (q_tup q_nil) (q_cons q_int q_nil)))))))
  (s_cons (s_app 6 (r_errL (jj := 16) (kk := 7) c__law_told (by decide) hr (by rfl) TB rfl rfl hz rfl (lamOk_of .no (by rfl) fun A outer s H E f c' hr => (p_call (takes_of rfl rfl rfl rfl) c_loyal_share hr (by decide) (by rfl) (q_cons (q_var 3) (q_cons q_int (q_cons q_int (q_cons (q_un un_neg w_neg q_int) q_nil))))))))
  (s_cons (s_app 6 (r_errL (jj := 17) (kk := 7) c__law_told (by decide) hr (by rfl) TB rfl rfl hz rfl (lamOk_of .no (by rfl) fun A outer s H E f c' hr => (p_call (takes_of rfl rfl rfl rfl) c_serving hr (by decide) (by rfl) (q_cons (q_var 3) (q_cons (q_tup (q_cons q_int q_nil)) (q_cons q_non q_nil)))))))
  (s_cons (s_app 6 (r_errL (jj := 18) (kk := 7) c__law_told (by decide) hr (by rfl) TB rfl rfl hz rfl (lamOk_of .no (by rfl) fun A outer s H E f c' hr => (p_call (takes_of rfl rfl rfl rfl) c_serving hr (by decide) (by rfl) (q_cons (q_var 3) (q_cons (q_tup (q_cons q_int q_nil)) (q_cons q_non q_nil)))))))
  (s_cons (s_app 6 (r_errL (jj := 19) (kk := 7) c__law_told (by decide) hr (by rfl) TB rfl rfl hz rfl (lamOk_of .no (by rfl) fun A outer s H E f c' hr => (p_call (takes_of rfl rfl rfl rfl) c_crowd hr (by decide) (by rfl) (q_cons (q_var 3) (q_cons (q_tup (q_cons q_int q_nil)) (q_cons (q_tup (q_cons q_int q_nil)) (q_cons q_non q_nil))))))))
  (s_cons (s_app 6 (r_errL (jj := 20) (kk := 7) c__law_told (by decide) hr (by rfl) TB rfl rfl hz rfl (lamOk_of .no (by rfl) fun A outer s H E f c' hr => (p_call (takes_of rfl rfl rfl rfl) c_weights_for hr (by decide) (by rfl) (q_cons (q_var 3) (q_cons q_non (q_cons q_non q_nil)))))))
  (s_cons (s_if (r_lfb (b_bor fun _ => (b_cmp (op_neQ (hu64 hr)) w_ne (q_var 6) (q_lst (q_cons q_str (q_cons q_str (q_cons q_str (q_cons q_str (q_cons q_str (q_cons q_str (q_cons q_str (q_cons q_str q_nil))))))))) (by rfl))))
  (s_one (s_ret (r_lf q_bl)))
  s_nil)
  (s_cons (s_setW 6 S.nd (w_lst (r_cons (r_errL (jj := 21) (kk := 7) c__law_told (by decide) hr (by rfl) TB rfl rfl hz rfl (lamOk_of .no (by rfl) fun A outer s H E f c' hr => (p_call (takes_of rfl rfl rfl rfl) c_growing_best hr (by decide) (by rfl) (q_cons (q_var 3) (q_cons q_int (q_cons q_non q_nil)))))) r_nil)))
  (s_cons (s_app 6 (r_errL (jj := 22) (kk := 7) c__law_told (by decide) hr (by rfl) TB rfl rfl hz rfl (lamOk_of .no (by rfl) fun A outer s H E f c' hr => (p_call (takes_of rfl rfl rfl rfl) c_growing_best hr (by decide) (by rfl) (q_cons (q_var 3) (q_cons q_int (q_cons q_int q_nil)))))))
  (s_cons (s_app 6 (r_errL (jj := 23) (kk := 7) c__law_told (by decide) hr (by rfl) TB rfl rfl hz rfl (lamOk_of .no (by rfl) fun A outer s H E f c' hr => (p_call (takes_of rfl rfl rfl rfl) c_hub_cost hr (by decide) (by rfl) (q_cons (q_var 3) (q_cons (q_var 5) (q_cons (q_tup q_nil) (q_cons q_non q_nil))))))))
  (s_cons (s_app 6 (r_errL (jj := 24) (kk := 7) c__law_told (by decide) hr (by rfl) TB rfl rfl hz rfl (lamOk_of .no (by rfl) fun A outer s H E f c' hr => (p_call (takes_of rfl rfl rfl rfl) c_best_homes hr (by decide) (by rfl) (q_cons (q_var 3) (q_cons (q_var 5) (q_cons (q_tup (q_cons q_int (q_cons q_int (q_cons q_int (q_cons q_int q_nil))))) (q_cons q_non q_nil))))))))
  (s_cons (s_app 6 (r_errL (jj := 25) (kk := 7) c__law_told (by decide) hr (by rfl) TB rfl rfl hz rfl (lamOk_of .no (by rfl) fun A outer s H E f c' hr => (p_call (takes_of rfl rfl rfl rfl) c_best_homes hr (by decide) (by rfl) (q_cons (q_var 3) (q_cons (q_var 5) (q_cons (q_tup (q_cons q_int (q_cons q_int (q_cons q_int (q_cons q_int q_nil))))) (q_cons (q_tup (q_cons q_int (q_cons q_int q_nil))) q_nil))))))))
  (s_one (s_ret (r_lf (q_bor fun _ => (q_cmp (op_eqQ (hu64 hr)) w_eq (q_var 6) (q_lst (q_cons q_str (q_cons q_str (q_cons q_str (q_cons q_str (q_cons q_str q_nil)))))) (by rfl))))))))))))))))))))))))))))))))))))))))
end
end DG
namespace DG
open PySem PySem.Spec PyProof.Rows L2 DL LamX
theorem lt_ii (a b : Int) : PySem.W.dataLt (.int a) (.int b) = decide (a < b) := by
  have h := congrFun (congrFun (PySem.W.dataLe_int (fun x : Int => x)) b) a
  rw [PySem.W.dataLe_eq] at h
  have h : (!PySem.W.dataLt (.int a) (.int b)) = decide (b ≤ a) := h
  by_cases q : a < b
  · rw [decide_eq_false (by omega)] at h
    rw [decide_eq_true q]
    simpa using h
  · rw [decide_eq_true (by omega)] at h
    rw [decide_eq_false q]
    simpa using h
theorem oGt_ii (a b : Int) : oGt (.int a) (.int b) = some (.bool (decide (b < a))) := by
  have e : oGt (.int a) (.int b) = some (.bool (PySem.W.dataLt (.int b) (.int a))) := rfl
  rw [e, lt_ii]
theorem oGe_ii (a b : Int) : oGe (.int a) (.int b) = some (.bool (decide (b ≤ a))) := by
  have e : oGe (.int a) (.int b) = some (.bool (!PySem.W.dataLt (.int a) (.int b))) := rfl
  rw [e, lt_ii]
  congr 2
  by_cases q : a < b
  · rw [decide_eq_true q, decide_eq_false (by omega)]; rfl
  · rw [decide_eq_false q, decide_eq_true (by omega)]; rfl
theorem oDiv_ii (a b : Int) (h : b ≠ 0) (h2 : b.natAbs < 1073741824) : oDiv (.int a) (.int b) = some (.int (a.fdiv b)) := by
  unfold oDiv
  simp [h, Nat.lt_of_lt_of_le h2 (show 1073741824 ≤ 2 ^ 200 by decide)]
theorem oMod_ii (a b : Int) (h : b ≠ 0) : oMod (.int a) (.int b) = some (.int (a.fmod b)) := by
  unfold oMod
  simp [h]
def rowD (ns : List Int) (k sd ps : Int) : List D := [.list (ns.map .int), .int k, .int sd, .int ps]
theorem atI_int (ns : List Int) (k : Int) (h0 : 0 ≤ k) (h1 : k < ns.length) : ∃ c : Int, atI (ns.map PyData.int) k = some (.int c) := by
  unfold atI ixN
  rw [if_pos h0, if_pos (by rw [List.length_map]; exact h1)]
  refine ⟨ns[k.toNat]'(by omega), ?_⟩
  show (ns.map PyData.int)[k.toNat]? = _
  rw [List.getElem?_map, List.getElem?_eq_getElem (by omega)]
  rfl
theorem at0 (a b c d : D) : atI [a, b, c, d] 0 = some a := rfl
theorem at1 (a b c d : D) : atI [a, b, c, d] 1 = some b := rfl
theorem at2 (a b c d : D) : atI [a, b, c, d] 2 = some c := rfl
theorem at3 (a b c d : D) : atI [a, b, c, d] 3 = some d := rfl
theorem taken_ok (ns : List Int) (k sd ps m : Int) (hk : 0 ≤ k) (hm : 0 < m) (hm2 : m < 1000000) : ∃ r k' sd' ps', mm__law_taken (rowD ns k sd ps) [.int m] = some (.int r, rowD ns k' sd' ps') ∧ 0 ≤ r ∧ r < m ∧ 0 ≤ k' := by
  have hmz : m ≠ 0 := by omega
  have hma : m.natAbs < 1073741824 := by omega
  have hr : ∀ x : Int, 0 ≤ x.fmod m ∧ x.fmod m < m := fun x => ⟨Int.fmod_nonneg_of_pos _ hm, Int.fmod_lt_of_pos _ hm⟩
  by_cases h1 : 0 < ps
  · refine ⟨ps.fmod m, k, sd, ps.fdiv m, ?_, (hr _).1, (hr _).2, hk⟩
    simp [mm__law_taken, rowD, runR, gs__law_taken, ini, gSeq, gIf, gAsg, gSetI, gRet, lf, lfb, bV, c2, cN, cCons, cNil, cIxO, cVar, cK, bNm, ownL, putL, oGt_ii, oDiv_ii, oMod_ii, hmz, hma, h1, isB, oInt, fin, rowL, atI, ixN]
  · have hmul : ∀ a : Int, oMul (.int a) (.int 48271) = some (.int (a * 48271)) := fun a => by
      show (if (b64 a || b64 48271) = true then some (PyData.int (a * 48271)) else none) = _
      rw [show b64 48271 = true from rfl, Bool.or_true, if_pos rfl]
    have hadd : ∀ a b : Int, oAdd (.int a) (.int b) = some (.int (a + b)) := fun _ _ => rfl
    have hsub : ∀ a b : Int, oSub (.int a) (.int b) = some (.int (a - b)) := fun _ _ => rfl
    have hix : ∀ i : Int, oIx (.list (ns.map .int)) (.int i) = atI (ns.map .int) i := fun _ => rfl
    have hpow : oPow (.int 10) (.int 18) = some (.int 1000000000000000000) := rfl
    have hlen : oLen [.list (ns.map .int)] = some (.int ns.length) := by
      show some (PyData.int ((ns.map PyData.int).length : Nat)) = _
      rw [List.length_map]
    by_cases h2 : (ns.length : Int) < k + 1
    · refine ⟨(((sd * 48271 + 11).fmod 2147483647).fdiv 7).fmod m, k + 1, (sd * 48271 + 11).fmod 2147483647, ps, ?_, (hr _).1, (hr _).2, by omega⟩
      simp [mm__law_taken, rowD, runR, gs__law_taken, ini, gSeq, gIf, gAsg, gSetI, gRet, lf, lfb, bV, c2, cN, cCons, cNil, cIxO, cVar, cK, bNm, ownL, putL, oGt_ii, oDiv_ii, oMod_ii, hmz, hma, h1, isB, oInt, fin, rowL, at0, at1, at2, at3, ixN, hmul, hadd, hlen, h2, gNx]
    · obtain ⟨c, hc⟩ := atI_int ns k hk (by omega)
      have hc' : atI (ns.map PyData.int) (k + 1 - 1) = some (.int c) := by
        rw [show k + 1 - 1 = k by omega]
        exact hc
      by_cases h3 : (1000000000000000000 : Int) ≤ c
      · refine ⟨c.fmod m, k + 1, (sd * 48271 + c + 11).fmod 2147483647, c.fdiv m, ?_, (hr _).1, (hr _).2, by omega⟩
        simp [mm__law_taken, rowD, runR, gs__law_taken, ini, gSeq, gIf, gAsg, gSetI, gRet, lf, lfb, bV, c2, cN, cCons, cNil, cIxO, cVar, cK, bNm, ownL, putL, oGt_ii, oGe_ii, oDiv_ii, oMod_ii, hmz, hma, h1, isB, oInt, fin, rowL, ixN, hmul, hadd, hsub, hlen, h2, hix, hc, hpow, h3, at0, at1, at2, at3, gNx]
      · refine ⟨c.fmod m, k + 1, (sd * 48271 + c + 11).fmod 2147483647, ps, ?_, (hr _).1, (hr _).2, by omega⟩
        simp [mm__law_taken, rowD, runR, gs__law_taken, ini, gSeq, gIf, gAsg, gSetI, gRet, lf, lfb, bV, c2, cN, cCons, cNil, cIxO, cVar, cK, bNm, ownL, putL, oGt_ii, oGe_ii, oDiv_ii, oMod_ii, hmz, hma, h1, isB, oInt, fin, rowL, ixN, hmul, hadd, hsub, hlen, h2, hix, hc, hpow, h3, at0, at1, at2, at3, gNx]
theorem case_0 (x : E) (y : D) : (gs_law_rest [some (.odd (.tab y)), some x, some (.sh (.int (1 + 0))), none, none, none, none]).bind fin = some (.bool true) := by kernel_rfl
theorem case_1 (x : E) (y : D) : (gs_law_rest [some (.odd (.tab y)), some x, some (.sh (.int (1 + 1))), none, none, none, none]).bind fin = some (.bool true) := by kernel_rfl
theorem case_2 (x : E) (y : D) : (gs_law_rest [some (.odd (.tab y)), some x, some (.sh (.int (1 + 2))), none, none, none, none]).bind fin = some (.bool true) := by kernel_rfl
theorem case_3 (x : E) (y : D) : (gs_law_rest [some (.odd (.tab y)), some x, some (.sh (.int (1 + 3))), none, none, none, none]).bind fin = some (.bool true) := by kernel_rfl
theorem case_4 (x : E) (y : D) : (gs_law_rest [some (.odd (.tab y)), some x, some (.sh (.int (1 + 4))), none, none, none, none]).bind fin = some (.bool true) := by kernel_rfl
theorem case_5 (x : E) (y : D) : (gs_law_rest [some (.odd (.tab y)), some x, some (.sh (.int (1 + 5))), none, none, none, none]).bind fin = some (.bool true) := by kernel_rfl
theorem case_6 (x : E) (y : D) : (gs_law_rest [some (.odd (.tab y)), some x, some (.sh (.int (1 + 6))), none, none, none, none]).bind fin = some (.bool true) := by kernel_rfl
theorem case_7 (x : E) (y : D) : (gs_law_rest [some (.odd (.tab y)), some x, some (.sh (.int (1 + 7))), none, none, none, none]).bind fin = some (.bool true) := by kernel_rfl
theorem case_8 (x : E) (y : D) : (gs_law_rest [some (.odd (.tab y)), some x, some (.sh (.int (1 + 8))), none, none, none, none]).bind fin = some (.bool true) := by kernel_rfl
theorem case_9 (x : E) (y : D) : (gs_law_rest [some (.odd (.tab y)), some x, some (.sh (.int (1 + 9))), none, none, none, none]).bind fin = some (.bool true) := by kernel_rfl
theorem case_10 (x : E) (y : D) : (gs_law_rest [some (.odd (.tab y)), some x, some (.sh (.int (1 + 10))), none, none, none, none]).bind fin = some (.bool true) := by kernel_rfl
theorem case_11 (x : E) (y : D) : (gs_law_rest [some (.odd (.tab y)), some x, some (.sh (.int (1 + 11))), none, none, none, none]).bind fin = some (.bool true) := by kernel_rfl
theorem case_12 (x : E) (y : D) : (gs_law_rest [some (.odd (.tab y)), some x, some (.sh (.int (1 + 12))), none, none, none, none]).bind fin = some (.bool true) := by kernel_rfl
theorem case_13 (x : E) (y : D) : (gs_law_rest [some (.odd (.tab y)), some x, some (.sh (.int (1 + 13))), none, none, none, none]).bind fin = some (.bool true) := by kernel_rfl
theorem case_14 (x : E) (y : D) : (gs_law_rest [some (.odd (.tab y)), some x, some (.sh (.int (1 + 14))), none, none, none, none]).bind fin = some (.bool true) := by kernel_rfl
theorem case_15 (x : E) (y : D) : (gs_law_rest [some (.odd (.tab y)), some x, some (.sh (.int (1 + 15))), none, none, none, none]).bind fin = some (.bool true) := by kernel_rfl
theorem case_16 (x : E) (y : D) : (gs_law_rest [some (.odd (.tab y)), some x, some (.sh (.int (1 + 16))), none, none, none, none]).bind fin = some (.bool true) := by kernel_rfl
theorem case_17 (x : E) (y : D) : (gs_law_rest [some (.odd (.tab y)), some x, some (.sh (.int (1 + 17))), none, none, none, none]).bind fin = some (.bool true) := by kernel_rfl
theorem case_18 (x : E) (y : D) : (gs_law_rest [some (.odd (.tab y)), some x, some (.sh (.int (1 + 18))), none, none, none, none]).bind fin = some (.bool true) := by kernel_rfl
theorem case_19 (x : E) (y : D) : (gs_law_rest [some (.odd (.tab y)), some x, some (.sh (.int (1 + 19))), none, none, none, none]).bind fin = some (.bool true) := by kernel_rfl
theorem case_20 (x : E) (y : D) : (gs_law_rest [some (.odd (.tab y)), some x, some (.sh (.int (1 + 20))), none, none, none, none]).bind fin = some (.bool true) := by kernel_rfl
theorem case_21 (x : E) (y : D) : (gs_law_rest [some (.odd (.tab y)), some x, some (.sh (.int (1 + 21))), none, none, none, none]).bind fin = some (.bool true) := by kernel_rfl
theorem case_22 (x : E) (y : D) : (gs_law_rest [some (.odd (.tab y)), some x, some (.sh (.int (1 + 22))), none, none, none, none]).bind fin = some (.bool true) := by kernel_rfl
theorem case_23 (x : E) (y : D) : (gs_law_rest [some (.odd (.tab y)), some x, some (.sh (.int (1 + 23))), none, none, none, none]).bind fin = some (.bool true) := by kernel_rfl
theorem case_24 (x : E) (y : D) : (gs_law_rest [some (.odd (.tab y)), some x, some (.sh (.int (1 + 24))), none, none, none, none]).bind fin = some (.bool true) := by kernel_rfl
theorem case_25 (x : E) (y : D) : (gs_law_rest [some (.odd (.tab y)), some x, some (.sh (.int (1 + 25))), none, none, none, none]).bind fin = some (.bool true) := by kernel_rfl
theorem case_26 (x : E) (y : D) : (gs_law_rest [some (.odd (.tab y)), some x, some (.sh (.int (1 + 26))), none, none, none, none]).bind fin = some (.bool true) := by kernel_rfl
theorem case_27 (x : E) (y : D) : (gs_law_rest [some (.odd (.tab y)), some x, some (.sh (.int (1 + 27))), none, none, none, none]).bind fin = some (.bool true) := by kernel_rfl
theorem case_28 (x : E) (y : D) : (gs_law_rest [some (.odd (.tab y)), some x, some (.sh (.int (1 + 28))), none, none, none, none]).bind fin = some (.bool true) := by kernel_rfl
theorem case_29 (x : E) (y : D) : (gs_law_rest [some (.odd (.tab y)), some x, some (.sh (.int (1 + 29))), none, none, none, none]).bind fin = some (.bool true) := by kernel_rfl
theorem case_30 (x : E) (y : D) : (gs_law_rest [some (.odd (.tab y)), some x, some (.sh (.int (1 + 30))), none, none, none, none]).bind fin = some (.bool true) := by kernel_rfl
theorem case_31 (x : E) (y : D) : (gs_law_rest [some (.odd (.tab y)), some x, some (.sh (.int (1 + 31))), none, none, none, none]).bind fin = some (.bool true) := by kernel_rfl
theorem case_32 (x : E) (y : D) : (gs_law_rest [some (.odd (.tab y)), some x, some (.sh (.int (1 + 32))), none, none, none, none]).bind fin = some (.bool true) := by kernel_rfl
theorem case_33 (x : E) (y : D) : (gs_law_rest [some (.odd (.tab y)), some x, some (.sh (.int (1 + 33))), none, none, none, none]).bind fin = some (.bool true) := by kernel_rfl
theorem case_34 (x : E) (y : D) : (gs_law_rest [some (.odd (.tab y)), some x, some (.sh (.int (1 + 34))), none, none, none, none]).bind fin = some (.bool true) := by kernel_rfl
theorem case_35 (x : E) (y : D) : (gs_law_rest [some (.odd (.tab y)), some x, some (.sh (.int (1 + 35))), none, none, none, none]).bind fin = some (.bool true) := by kernel_rfl
theorem case_36 (x : E) (y : D) : (gs_law_rest [some (.odd (.tab y)), some x, some (.sh (.int (1 + 36))), none, none, none, none]).bind fin = some (.bool true) := by kernel_rfl
theorem case_37 (x : E) (y : D) : (gs_law_rest [some (.odd (.tab y)), some x, some (.sh (.int (1 + 37))), none, none, none, none]).bind fin = some (.bool true) := by kernel_rfl
theorem case_38 (x : E) (y : D) : (gs_law_rest [some (.odd (.tab y)), some x, some (.sh (.int (1 + 38))), none, none, none, none]).bind fin = some (.bool true) := by kernel_rfl
theorem case_39 (x : E) (y : D) : (gs_law_rest [some (.odd (.tab y)), some x, some (.sh (.int (1 + 39))), none, none, none, none]).bind fin = some (.bool true) := by kernel_rfl
theorem case_40 (x : E) (y : D) : (gs_law_rest [some (.odd (.tab y)), some x, some (.sh (.int (1 + 40))), none, none, none, none]).bind fin = some (.bool true) := by kernel_rfl
theorem case_41 (x : E) (y : D) : (gs_law_rest [some (.odd (.tab y)), some x, some (.sh (.int (1 + 41))), none, none, none, none]).bind fin = some (.bool true) := by kernel_rfl
theorem case_42 (x : E) (y : D) : (gs_law_rest [some (.odd (.tab y)), some x, some (.sh (.int (1 + 42))), none, none, none, none]).bind fin = some (.bool true) := by kernel_rfl
theorem case_43 (x : E) (y : D) : (gs_law_rest [some (.odd (.tab y)), some x, some (.sh (.int (1 + 43))), none, none, none, none]).bind fin = some (.bool true) := by kernel_rfl
theorem case_44 (x : E) (y : D) : (gs_law_rest [some (.odd (.tab y)), some x, some (.sh (.int (1 + 44))), none, none, none, none]).bind fin = some (.bool true) := by kernel_rfl
theorem case_45 (x : E) (y : D) : (gs_law_rest [some (.odd (.tab y)), some x, some (.sh (.int (1 + 45))), none, none, none, none]).bind fin = some (.bool true) := by kernel_rfl
theorem case_46 (x : E) (y : D) : (gs_law_rest [some (.odd (.tab y)), some x, some (.sh (.int (1 + 46))), none, none, none, none]).bind fin = some (.bool true) := by kernel_rfl
theorem case_47 (x : E) (y : D) : (gs_law_rest [some (.odd (.tab y)), some x, some (.sh (.int (1 + 47))), none, none, none, none]).bind fin = some (.bool true) := by kernel_rfl
theorem case_48 (x : E) (y : D) : (gs_law_rest [some (.odd (.tab y)), some x, some (.sh (.int (1 + 48))), none, none, none, none]).bind fin = some (.bool true) := by kernel_rfl
theorem case_49 (x : E) (y : D) : (gs_law_rest [some (.odd (.tab y)), some x, some (.sh (.int (1 + 49))), none, none, none, none]).bind fin = some (.bool true) := by kernel_rfl
theorem cases_all (r : Int) (h0 : 0 ≤ r) (h1 : r < 50) (x : E) (y : D) : (gs_law_rest [some (.odd (.tab y)), some x, some (.sh (.int (1 + r))), none, none, none, none]).bind fin = some (.bool true) := by
  have hr : r = 0 ∨ r = 1 ∨ r = 2 ∨ r = 3 ∨ r = 4 ∨ r = 5 ∨ r = 6 ∨ r = 7 ∨ r = 8 ∨ r = 9 ∨ r = 10 ∨ r = 11 ∨ r = 12 ∨ r = 13 ∨ r = 14 ∨ r = 15 ∨ r = 16 ∨ r = 17 ∨ r = 18 ∨ r = 19 ∨ r = 20 ∨ r = 21 ∨ r = 22 ∨ r = 23 ∨ r = 24 ∨ r = 25 ∨ r = 26 ∨ r = 27 ∨ r = 28 ∨ r = 29 ∨ r = 30 ∨ r = 31 ∨ r = 32 ∨ r = 33 ∨ r = 34 ∨ r = 35 ∨ r = 36 ∨ r = 37 ∨ r = 38 ∨ r = 39 ∨ r = 40 ∨ r = 41 ∨ r = 42 ∨ r = 43 ∨ r = 44 ∨ r = 45 ∨ r = 46 ∨ r = 47 ∨ r = 48 ∨ r = 49 := by omega
  rcases hr with h | h | h | h | h | h | h | h | h | h | h | h | h | h | h | h | h | h | h | h | h | h | h | h | h | h | h | h | h | h | h | h | h | h | h | h | h | h | h | h | h | h | h | h | h | h | h | h | h | h
  · rw [h]
    exact case_0 _ _
  · rw [h]
    exact case_1 _ _
  · rw [h]
    exact case_2 _ _
  · rw [h]
    exact case_3 _ _
  · rw [h]
    exact case_4 _ _
  · rw [h]
    exact case_5 _ _
  · rw [h]
    exact case_6 _ _
  · rw [h]
    exact case_7 _ _
  · rw [h]
    exact case_8 _ _
  · rw [h]
    exact case_9 _ _
  · rw [h]
    exact case_10 _ _
  · rw [h]
    exact case_11 _ _
  · rw [h]
    exact case_12 _ _
  · rw [h]
    exact case_13 _ _
  · rw [h]
    exact case_14 _ _
  · rw [h]
    exact case_15 _ _
  · rw [h]
    exact case_16 _ _
  · rw [h]
    exact case_17 _ _
  · rw [h]
    exact case_18 _ _
  · rw [h]
    exact case_19 _ _
  · rw [h]
    exact case_20 _ _
  · rw [h]
    exact case_21 _ _
  · rw [h]
    exact case_22 _ _
  · rw [h]
    exact case_23 _ _
  · rw [h]
    exact case_24 _ _
  · rw [h]
    exact case_25 _ _
  · rw [h]
    exact case_26 _ _
  · rw [h]
    exact case_27 _ _
  · rw [h]
    exact case_28 _ _
  · rw [h]
    exact case_29 _ _
  · rw [h]
    exact case_30 _ _
  · rw [h]
    exact case_31 _ _
  · rw [h]
    exact case_32 _ _
  · rw [h]
    exact case_33 _ _
  · rw [h]
    exact case_34 _ _
  · rw [h]
    exact case_35 _ _
  · rw [h]
    exact case_36 _ _
  · rw [h]
    exact case_37 _ _
  · rw [h]
    exact case_38 _ _
  · rw [h]
    exact case_39 _ _
  · rw [h]
    exact case_40 _ _
  · rw [h]
    exact case_41 _ _
  · rw [h]
    exact case_42 _ _
  · rw [h]
    exact case_43 _ _
  · rw [h]
    exact case_44 _ _
  · rw [h]
    exact case_45 _ _
  · rw [h]
    exact case_46 _ _
  · rw [h]
    exact case_47 _ _
  · rw [h]
    exact case_48 _ _
  · rw [h]
    exact case_49 _ _
theorem law_head (rest : Gs) (ns : List Int) : ∃ (r : Int) (x : E), 0 ≤ r ∧ r < 50 ∧ gs_law_head rest (some (.odd (.tab (.list (ns.map .int)))) :: List.replicate (7 - 1) none) = rest [some (.odd (.tab (.list (ns.map .int)))), some x, some (.sh (.int (1 + r))), none, none, none, none] := by
  obtain ⟨r, k, sd, ps, e, h0, h1, _⟩ := taken_ok ns 0 6399 0 50 (by decide) (by decide) (by decide)
  refine ⟨r, .own (.list (rowD ns k sd ps)), h0, h1, ?_⟩
  have ha : ∀ a b : Int, oAdd (.int a) (.int b) = some (.int (a + b)) := fun _ _ => rfl
  unfold rowD at e
  simp [gs_law_head, cVarT, DL.tabOf, List.replicate, gSeq, gSetW, wN, few, lfs, cCons, cNil, cVar, cK, gAsg, r2, lf, rRow, ownL, bNm, putL, e, ha, rowD]
theorem law_true (ns : List Int) (hl : ns.length ≤ 63) : mm_law [.list (ns.map .int)] = some (.bool true) := by
  obtain ⟨r, x, h0, h1, e⟩ := law_head gs_law_rest ns
  have e2 : mm_law [.list (ns.map .int)] = (gs_law_head gs_law_rest (some (.odd (.tab (.list (ns.map .int)))) :: List.replicate (7 - 1) none)).bind fin := rfl
  rw [e2, e]
  exact cases_all r h0 h1 _ _
end DG
namespace DG
open PySem PySem.Spec PyProof.Rows L2 DL LamX
set_option maxHeartbeats 0 in
theorem all_mk {l : PySem.W.OpenLaw} {w : World} {K : PySem.W.Frag} {h : Heap} {mg : Str → Option Value} {fa f0 f1 f2 f3 f4 f5 f6 f7 f8 f9 f10 f11 f12 f13 f14 f15 f16 f17 f18 f19 f20 f21 f22 f23 f24 f25 f26 f27 f28 f29 f30 f31 f32 f33 f34 f35 f36 f37 f38 f39 f40 f41 f42 f43 f44 f45 f46 f47 f48 : Addr} (X : K.In h) (G : h.Ns mainGlobals mg) (hfa : mg "law" = some (.ref fa)) (own : OwnTab K fa h) {AH cL PT E_BadCount E_BadHouses E_BadHighs E_BadNumber E_BadPlace E_BadPoint E_BadPrices E_BadReaches E_BadRooms E_BadShare E_NotTree E_TooMany E_BadWeb E_BadFlows fI_TooMany cda_TooMany cc_TooMany fI_BadWeb cda_BadWeb cc_BadWeb fI_BadFlows cda_BadFlows cc_BadFlows : Addr} {nq_HouseError : Str} {N_HouseError : Addr} {bs_HouseError : List Value} {sn_HouseError : List Str} {sub_HouseError : List Value} {ab_HouseError : Bool} {col_HouseError : Option Bool} {dd_HouseError : Option Addr} {k0_HouseError k1_HouseError k2_HouseError k3_HouseError k5_HouseError : Option Value} {nq_BadCount : Str} {N_BadCount : Addr} {bs_BadCount : List Value} {sn_BadCount : List Str} {sub_BadCount : List Value} {ab_BadCount : Bool} {col_BadCount : Option Bool} {dd_BadCount : Option Addr} {k0_BadCount k1_BadCount k2_BadCount k3_BadCount k5_BadCount : Option Value} {nq_BadHouses : Str} {N_BadHouses : Addr} {bs_BadHouses : List Value} {sn_BadHouses : List Str} {sub_BadHouses : List Value} {ab_BadHouses : Bool} {col_BadHouses : Option Bool} {dd_BadHouses : Option Addr} {k0_BadHouses k1_BadHouses k2_BadHouses k3_BadHouses k5_BadHouses : Option Value} {nq_BadHighs : Str} {N_BadHighs : Addr} {bs_BadHighs : List Value} {sn_BadHighs : List Str} {sub_BadHighs : List Value} {ab_BadHighs : Bool} {col_BadHighs : Option Bool} {dd_BadHighs : Option Addr} {k0_BadHighs k1_BadHighs k2_BadHighs k3_BadHighs k5_BadHighs : Option Value} {nq_BadNumber : Str} {N_BadNumber : Addr} {bs_BadNumber : List Value} {sn_BadNumber : List Str} {sub_BadNumber : List Value} {ab_BadNumber : Bool} {col_BadNumber : Option Bool} {dd_BadNumber : Option Addr} {k0_BadNumber k1_BadNumber k2_BadNumber k3_BadNumber k5_BadNumber : Option Value} {nq_BadPlace : Str} {N_BadPlace : Addr} {bs_BadPlace : List Value} {sn_BadPlace : List Str} {sub_BadPlace : List Value} {ab_BadPlace : Bool} {col_BadPlace : Option Bool} {dd_BadPlace : Option Addr} {k0_BadPlace k1_BadPlace k2_BadPlace k3_BadPlace k5_BadPlace : Option Value} {nq_BadPoint : Str} {N_BadPoint : Addr} {bs_BadPoint : List Value} {sn_BadPoint : List Str} {sub_BadPoint : List Value} {ab_BadPoint : Bool} {col_BadPoint : Option Bool} {dd_BadPoint : Option Addr} {k0_BadPoint k1_BadPoint k2_BadPoint k3_BadPoint k5_BadPoint : Option Value} {nq_BadPrices : Str} {N_BadPrices : Addr} {bs_BadPrices : List Value} {sn_BadPrices : List Str} {sub_BadPrices : List Value} {ab_BadPrices : Bool} {col_BadPrices : Option Bool} {dd_BadPrices : Option Addr} {k0_BadPrices k1_BadPrices k2_BadPrices k3_BadPrices k5_BadPrices : Option Value} {nq_BadReaches : Str} {N_BadReaches : Addr} {bs_BadReaches : List Value} {sn_BadReaches : List Str} {sub_BadReaches : List Value} {ab_BadReaches : Bool} {col_BadReaches : Option Bool} {dd_BadReaches : Option Addr} {k0_BadReaches k1_BadReaches k2_BadReaches k3_BadReaches k5_BadReaches : Option Value} {nq_BadRooms : Str} {N_BadRooms : Addr} {bs_BadRooms : List Value} {sn_BadRooms : List Str} {sub_BadRooms : List Value} {ab_BadRooms : Bool} {col_BadRooms : Option Bool} {dd_BadRooms : Option Addr} {k0_BadRooms k1_BadRooms k2_BadRooms k3_BadRooms k5_BadRooms : Option Value} {nq_BadShare : Str} {N_BadShare : Addr} {bs_BadShare : List Value} {sn_BadShare : List Str} {sub_BadShare : List Value} {ab_BadShare : Bool} {col_BadShare : Option Bool} {dd_BadShare : Option Addr} {k0_BadShare k1_BadShare k2_BadShare k3_BadShare k5_BadShare : Option Value} {nq_NotTree : Str} {N_NotTree : Addr} {bs_NotTree : List Value} {sn_NotTree : List Str} {sub_NotTree : List Value} {ab_NotTree : Bool} {col_NotTree : Option Bool} {dd_NotTree : Option Addr} {k0_NotTree k1_NotTree k2_NotTree k3_NotTree k5_NotTree : Option Value} {nq_TooMany : Str} {N_TooMany : Addr} {bs_TooMany : List Value} {sn_TooMany : List Str} {sub_TooMany : List Value} {ab_TooMany : Bool} {col_TooMany : Option Bool} {dd_TooMany : Option Addr} {k0_TooMany k1_TooMany k2_TooMany k3_TooMany k5_TooMany : Option Value} {oc_TooMany kV_TooMany dc_TooMany pm_TooMany ct_TooMany ccl_TooMany cl_TooMany : Value} {od_TooMany an_TooMany cdd_TooMany cld_TooMany : Option Addr} {osl_TooMany ccs_TooMany csl_TooMany : Array (Option Value)} {vs_TooMany : Array Value} {fl_TooMany : Str} {tf_TooMany : Tok} {nq_BadWeb : Str} {N_BadWeb : Addr} {bs_BadWeb : List Value} {sn_BadWeb : List Str} {sub_BadWeb : List Value} {ab_BadWeb : Bool} {col_BadWeb : Option Bool} {dd_BadWeb : Option Addr} {k0_BadWeb k1_BadWeb k2_BadWeb k3_BadWeb k5_BadWeb : Option Value} {oc_BadWeb kV_BadWeb dc_BadWeb pm_BadWeb ct_BadWeb ccl_BadWeb cl_BadWeb : Value} {od_BadWeb an_BadWeb cdd_BadWeb cld_BadWeb : Option Addr} {osl_BadWeb ccs_BadWeb csl_BadWeb : Array (Option Value)} {vs_BadWeb : Array Value} {fl_BadWeb : Str} {tf_BadWeb : Tok} {nq_BadFlows : Str} {N_BadFlows : Addr} {bs_BadFlows : List Value} {sn_BadFlows : List Str} {sub_BadFlows : List Value} {ab_BadFlows : Bool} {col_BadFlows : Option Bool} {dd_BadFlows : Option Addr} {k0_BadFlows k1_BadFlows k2_BadFlows k3_BadFlows k5_BadFlows : Option Value} {oc_BadFlows kV_BadFlows dc_BadFlows pm_BadFlows ct_BadFlows ccl_BadFlows cl_BadFlows : Value} {od_BadFlows an_BadFlows cdd_BadFlows cld_BadFlows : Option Addr} {osl_BadFlows ccs_BadFlows csl_BadFlows : Array (Option Value)} {vs_BadFlows : Array Value} {fl_BadFlows : Str} {tf_BadFlows : Tok} {e_L : Value} {dd_L : Option Addr} {vs_L : Array Value} {sl_L : Array (Option Value)}
    {od0 an0 od1 an1 od2 an2 od3 an3 od4 an4 od5 an5 od6 an6 od7 an7 od8 an8 od9 an9 od10 an10 od11 an11 od12 an12 od13 an13 od14 an14 od15 an15 od16 an16 od17 an17 od18 an18 od19 an19 od20 an20 od21 an21 od22 an22 od23 an23 od24 an24 od25 an25 od26 an26 od27 an27 od28 an28 od29 an29 od30 an30 od31 an31 od32 an32 od33 an33 od34 an34 od35 an35 od36 an36 od37 an37 od38 an38 od39 an39 od40 an40 od41 an41 od42 an42 od43 an43 od44 an44 od45 an45 od46 an46 od47 an47 od48 an48 : Option Addr} {sl0 sl1 sl2 sl3 sl4 sl5 sl6 sl7 sl8 sl9 sl10 sl11 sl12 sl13 sl14 sl15 sl16 sl17 sl18 sl19 sl20 sl21 sl22 sl23 sl24 sl25 sl26 sl27 sl28 sl29 sl30 sl31 sl32 sl33 sl34 sl35 sl36 sl37 sl38 sl39 sl40 sl41 sl42 sl43 sl44 sl45 sl46 sl47 sl48 : Array (Option Value)} {oc0 kV0 dc0 pm0 cd0 ct0 oc1 kV1 dc1 pm1 cd1 ct1 oc2 kV2 dc2 pm2 cd2 ct2 oc3 kV3 dc3 pm3 cd3 ct3 oc4 kV4 dc4 pm4 cd4 ct4 oc5 kV5 dc5 pm5 cd5 ct5 oc6 kV6 dc6 pm6 cd6 ct6 oc7 kV7 dc7 pm7 cd7 ct7 oc8 kV8 dc8 pm8 cd8 ct8 oc9 kV9 dc9 pm9 cd9 ct9 oc10 kV10 dc10 pm10 cd10 ct10 oc11 kV11 dc11 pm11 cd11 ct11 oc12 kV12 dc12 pm12 cd12 ct12 oc13 kV13 dc13 pm13 cd13 ct13 oc14 kV14 dc14 pm14 cd14 ct14 oc15 kV15 dc15 pm15 cd15 ct15 oc16 kV16 dc16 pm16 cd16 ct16 oc17 kV17 dc17 pm17 cd17 ct17 oc18 kV18 dc18 pm18 cd18 ct18 oc19 kV19 dc19 pm19 cd19 ct19 oc20 kV20 dc20 pm20 cd20 ct20 oc21 kV21 dc21 pm21 cd21 ct21 oc22 kV22 dc22 pm22 cd22 ct22 oc23 kV23 dc23 pm23 cd23 ct23 oc24 kV24 dc24 pm24 cd24 ct24 oc25 kV25 dc25 pm25 cd25 ct25 oc26 kV26 dc26 pm26 cd26 ct26 oc27 kV27 dc27 pm27 cd27 ct27 oc28 kV28 dc28 pm28 cd28 ct28 oc29 kV29 dc29 pm29 cd29 ct29 oc30 kV30 dc30 pm30 cd30 ct30 oc31 kV31 dc31 pm31 cd31 ct31 oc32 kV32 dc32 pm32 cd32 ct32 oc33 kV33 dc33 pm33 cd33 ct33 oc34 kV34 dc34 pm34 cd34 ct34 oc35 kV35 dc35 pm35 cd35 ct35 oc36 kV36 dc36 pm36 cd36 ct36 oc37 kV37 dc37 pm37 cd37 ct37 oc38 kV38 dc38 pm38 cd38 ct38 oc39 kV39 dc39 pm39 cd39 ct39 oc40 kV40 dc40 pm40 cd40 ct40 oc41 kV41 dc41 pm41 cd41 ct41 oc42 kV42 dc42 pm42 cd42 ct42 oc43 kV43 dc43 pm43 cd43 ct43 oc44 kV44 dc44 pm44 cd44 ct44 oc45 kV45 dc45 pm45 cd45 ct45 oc46 kV46 dc46 pm46 cd46 ct46 oc47 kV47 dc47 pm47 cd47 ct47 oc48 kV48 dc48 pm48 ct48 : Value} {t_MOST_POINTS t_MOST_WEIGHT t_MOST_LENGTH t_MOST_ROADS t_MOST_RADIUS t_MOST_PRICE t_MOST_FIRST t_MOST_LOYALTY t_MOST_ROOM t_MOST_GROWN t_MOST_FLOW t_MOST_HUBS : Tok}
    (H : ∀ ns : List Int, ns.length ≤ 63 → mm_law [.list (ns.map .int)] = some (.bool true))
    (a0 : PySem.W.nsIn K mainGlobals "_law_taken" = some (some (.ref f0)))
    (l0 : K.lookup f0 = some ⟨oc0, od0, .func (PySem.W.fnOf "_law_taken" "_law_taken" (defArgs st__law_taken) (defBody st__law_taken) (defScope st__law_taken) .none kV0 dc0 pm0 an0 cd0 ct0), sl0⟩)
    (c0 : PySem.W.codeIn K cd0 "_law_taken" = true)
    (k0 : PySem.W.keepIn K (.ref f0) = true)
    (a1 : PySem.W.nsIn K mainGlobals "_law_told" = some (some (.ref f1)))
    (l1 : K.lookup f1 = some ⟨oc1, od1, .func (PySem.W.fnOf "_law_told" "_law_told" (defArgs st__law_told) (defBody st__law_told) (defScope st__law_told) .none kV1 dc1 pm1 an1 cd1 ct1), sl1⟩)
    (c1 : PySem.W.codeIn K cd1 "_law_told" = true)
    (k1 : PySem.W.keepIn K (.ref f1) = true)
    (a2 : PySem.W.nsIn K mainGlobals "is_in" = some (some (.ref f2)))
    (l2 : K.lookup f2 = some ⟨oc2, od2, .func (PySem.W.fnOf "is_in" "is_in" (defArgs st_is_in) (defBody st_is_in) (defScope st_is_in) .none kV2 dc2 pm2 an2 cd2 ct2), sl2⟩)
    (c2 : PySem.W.codeIn K cd2 "is_in" = true)
    (k2 : PySem.W.keepIn K (.ref f2) = true)
    (a3 : PySem.W.nsIn K mainGlobals "is_weights" = some (some (.ref f3)))
    (l3 : K.lookup f3 = some ⟨oc3, od3, .func (PySem.W.fnOf "is_weights" "is_weights" (defArgs st_is_weights) (defBody st_is_weights) (defScope st_is_weights) .none kV3 dc3 pm3 an3 cd3 ct3), sl3⟩)
    (c3 : PySem.W.codeIn K cd3 "is_weights" = true)
    (k3 : PySem.W.keepIn K (.ref f3) = true)
    (a4 : PySem.W.nsIn K mainGlobals "is_road" = some (some (.ref f4)))
    (l4 : K.lookup f4 = some ⟨oc4, od4, .func (PySem.W.fnOf "is_road" "is_road" (defArgs st_is_road) (defBody st_is_road) (defScope st_is_road) .none kV4 dc4 pm4 an4 cd4 ct4), sl4⟩)
    (c4 : PySem.W.codeIn K cd4 "is_road" = true)
    (k4 : PySem.W.keepIn K (.ref f4) = true)
    (a5 : PySem.W.nsIn K mainGlobals "parts_in" = some (some (.ref f5)))
    (l5 : K.lookup f5 = some ⟨oc5, od5, .func (PySem.W.fnOf "parts_in" "parts_in" (defArgs st_parts_in) (defBody st_parts_in) (defScope st_parts_in) .none kV5 dc5 pm5 an5 cd5 ct5), sl5⟩)
    (c5 : PySem.W.codeIn K cd5 "parts_in" = true)
    (k5 : PySem.W.keepIn K (.ref f5) = true)
    (a6 : PySem.W.nsIn K mainGlobals "need_web" = some (some (.ref f6)))
    (l6 : K.lookup f6 = some ⟨oc6, od6, .func (PySem.W.fnOf "need_web" "need_web" (defArgs st_need_web) (defBody st_need_web) (defScope st_need_web) .none kV6 dc6 pm6 an6 cd6 ct6), sl6⟩)
    (c6 : PySem.W.codeIn K cd6 "need_web" = true)
    (k6 : PySem.W.keepIn K (.ref f6) = true)
    (a7 : PySem.W.nsIn K mainGlobals "need_tree" = some (some (.ref f7)))
    (l7 : K.lookup f7 = some ⟨oc7, od7, .func (PySem.W.fnOf "need_tree" "need_tree" (defArgs st_need_tree) (defBody st_need_tree) (defScope st_need_tree) .none kV7 dc7 pm7 an7 cd7 ct7), sl7⟩)
    (c7 : PySem.W.codeIn K cd7 "need_tree" = true)
    (k7 : PySem.W.keepIn K (.ref f7) = true)
    (a8 : PySem.W.nsIn K mainGlobals "need_reaches" = some (some (.ref f8)))
    (l8 : K.lookup f8 = some ⟨oc8, od8, .func (PySem.W.fnOf "need_reaches" "need_reaches" (defArgs st_need_reaches) (defBody st_need_reaches) (defScope st_need_reaches) .none kV8 dc8 pm8 an8 cd8 ct8), sl8⟩)
    (c8 : PySem.W.codeIn K cd8 "need_reaches" = true)
    (k8 : PySem.W.keepIn K (.ref f8) = true)
    (a9 : PySem.W.nsIn K mainGlobals "cover" = some (some (.ref f9)))
    (l9 : K.lookup f9 = some ⟨oc9, od9, .func (PySem.W.fnOf "cover" "cover" (defArgs st_cover) (defBody st_cover) (defScope st_cover) .none kV9 dc9 pm9 an9 cd9 ct9), sl9⟩)
    (c9 : PySem.W.codeIn K cd9 "cover" = true)
    (k9 : PySem.W.keepIn K (.ref f9) = true)
    (a10 : PySem.W.nsIn K mainGlobals "shows_cover" = some (some (.ref f10)))
    (l10 : K.lookup f10 = some ⟨oc10, od10, .func (PySem.W.fnOf "shows_cover" "shows_cover" (defArgs st_shows_cover) (defBody st_shows_cover) (defScope st_shows_cover) .none kV10 dc10 pm10 an10 cd10 ct10), sl10⟩)
    (c10 : PySem.W.codeIn K cd10 "shows_cover" = true)
    (k10 : PySem.W.keepIn K (.ref f10) = true)
    (a11 : PySem.W.nsIn K mainGlobals "need_point" = some (some (.ref f11)))
    (l11 : K.lookup f11 = some ⟨oc11, od11, .func (PySem.W.fnOf "need_point" "need_point" (defArgs st_need_point) (defBody st_need_point) (defScope st_need_point) .none kV11 dc11 pm11 an11 cd11 ct11), sl11⟩)
    (c11 : PySem.W.codeIn K cd11 "need_point" = true)
    (k11 : PySem.W.keepIn K (.ref f11) = true)
    (a12 : PySem.W.nsIn K mainGlobals "side_weights" = some (some (.ref f12)))
    (l12 : K.lookup f12 = some ⟨oc12, od12, .func (PySem.W.fnOf "side_weights" "side_weights" (defArgs st_side_weights) (defBody st_side_weights) (defScope st_side_weights) .none kV12 dc12 pm12 an12 cd12 ct12), sl12⟩)
    (c12 : PySem.W.codeIn K cd12 "side_weights" = true)
    (k12 : PySem.W.keepIn K (.ref f12) = true)
    (a13 : PySem.W.nsIn K mainGlobals "way" = some (some (.ref f13)))
    (l13 : K.lookup f13 = some ⟨oc13, od13, .func (PySem.W.fnOf "way" "way" (defArgs st_way) (defBody st_way) (defScope st_way) .none kV13 dc13 pm13 an13 cd13 ct13), sl13⟩)
    (c13 : PySem.W.codeIn K cd13 "way" = true)
    (k13 : PySem.W.keepIn K (.ref f13) = true)
    (a14 : PySem.W.nsIn K mainGlobals "ball" = some (some (.ref f14)))
    (l14 : K.lookup f14 = some ⟨oc14, od14, .func (PySem.W.fnOf "ball" "ball" (defArgs st_ball) (defBody st_ball) (defScope st_ball) .none kV14 dc14 pm14 an14 cd14 ct14), sl14⟩)
    (c14 : PySem.W.codeIn K cd14 "ball" = true)
    (k14 : PySem.W.keepIn K (.ref f14) = true)
    (a15 : PySem.W.nsIn K mainGlobals "need_ends" = some (some (.ref f15)))
    (l15 : K.lookup f15 = some ⟨oc15, od15, .func (PySem.W.fnOf "need_ends" "need_ends" (defArgs st_need_ends) (defBody st_need_ends) (defScope st_need_ends) .none kV15 dc15 pm15 an15 cd15 ct15), sl15⟩)
    (c15 : PySem.W.codeIn K cd15 "need_ends" = true)
    (k15 : PySem.W.keepIn K (.ref f15) = true)
    (a16 : PySem.W.nsIn K mainGlobals "way_sum" = some (some (.ref f16)))
    (l16 : K.lookup f16 = some ⟨oc16, od16, .func (PySem.W.fnOf "way_sum" "way_sum" (defArgs st_way_sum) (defBody st_way_sum) (defScope st_way_sum) .none kV16 dc16 pm16 an16 cd16 ct16), sl16⟩)
    (c16 : PySem.W.codeIn K cd16 "way_sum" = true)
    (k16 : PySem.W.keepIn K (.ref f16) = true)
    (a17 : PySem.W.nsIn K mainGlobals "need_prices" = some (some (.ref f17)))
    (l17 : K.lookup f17 = some ⟨oc17, od17, .func (PySem.W.fnOf "need_prices" "need_prices" (defArgs st_need_prices) (defBody st_need_prices) (defScope st_need_prices) .none kV17 dc17 pm17 an17 cd17 ct17), sl17⟩)
    (c17 : PySem.W.codeIn K cd17 "need_prices" = true)
    (k17 : PySem.W.keepIn K (.ref f17) = true)
    (a18 : PySem.W.nsIn K mainGlobals "priced_cover" = some (some (.ref f18)))
    (l18 : K.lookup f18 = some ⟨oc18, od18, .func (PySem.W.fnOf "priced_cover" "priced_cover" (defArgs st_priced_cover) (defBody st_priced_cover) (defScope st_priced_cover) .none kV18 dc18 pm18 an18 cd18 ct18), sl18⟩)
    (c18 : PySem.W.codeIn K cd18 "priced_cover" = true)
    (k18 : PySem.W.keepIn K (.ref f18) = true)
    (a19 : PySem.W.nsIn K mainGlobals "need_count" = some (some (.ref f19)))
    (l19 : K.lookup f19 = some ⟨oc19, od19, .func (PySem.W.fnOf "need_count" "need_count" (defArgs st_need_count) (defBody st_need_count) (defScope st_need_count) .none kV19 dc19 pm19 an19 cd19 ct19), sl19⟩)
    (c19 : PySem.W.codeIn K cd19 "need_count" = true)
    (k19 : PySem.W.keepIn K (.ref f19) = true)
    (a20 : PySem.W.nsIn K mainGlobals "need_both_reachings" = some (some (.ref f20)))
    (l20 : K.lookup f20 = some ⟨oc20, od20, .func (PySem.W.fnOf "need_both" "need_both" (defArgs st_need_both_r) (defBody st_need_both_r) (defScope st_need_both_r) .none kV20 dc20 pm20 an20 cd20 ct20), sl20⟩)
    (c20 : PySem.W.codeIn K cd20 "need_both" = true)
    (k20 : PySem.W.keepIn K (.ref f20) = true)
    (a21 : PySem.W.nsIn K mainGlobals "least_reach" = some (some (.ref f21)))
    (l21 : K.lookup f21 = some ⟨oc21, od21, .func (PySem.W.fnOf "least_reach" "least_reach" (defArgs st_least_reach) (defBody st_least_reach) (defScope st_least_reach) .none kV21 dc21 pm21 an21 cd21 ct21), sl21⟩)
    (c21 : PySem.W.codeIn K cd21 "least_reach" = true)
    (k21 : PySem.W.keepIn K (.ref f21) = true)
    (a22 : PySem.W.nsIn K mainGlobals "gcd" = some (some (.ref f22)))
    (l22 : K.lookup f22 = some ⟨oc22, od22, .func (PySem.W.fnOf "gcd" "gcd" (defArgs st_gcd) (defBody st_gcd) (defScope st_gcd) .none kV22 dc22 pm22 an22 cd22 ct22), sl22⟩)
    (c22 : PySem.W.codeIn K cd22 "gcd" = true)
    (k22 : PySem.W.keepIn K (.ref f22) = true)
    (a23 : PySem.W.nsIn K mainGlobals "is_ratio" = some (some (.ref f23)))
    (l23 : K.lookup f23 = some ⟨oc23, od23, .func (PySem.W.fnOf "is_ratio" "is_ratio" (defArgs st_is_ratio) (defBody st_is_ratio) (defScope st_is_ratio) .none kV23 dc23 pm23 an23 cd23 ct23), sl23⟩)
    (c23 : PySem.W.codeIn K cd23 "is_ratio" = true)
    (k23 : PySem.W.keepIn K (.ref f23) = true)
    (a24 : PySem.W.nsIn K mainGlobals "need_share" = some (some (.ref f24)))
    (l24 : K.lookup f24 = some ⟨oc24, od24, .func (PySem.W.fnOf "need_share" "need_share" (defArgs st_need_share) (defBody st_need_share) (defScope st_need_share) .none kV24 dc24 pm24 an24 cd24 ct24), sl24⟩)
    (c24 : PySem.W.codeIn K cd24 "need_share" = true)
    (k24 : PySem.W.keepIn K (.ref f24) = true)
    (a25 : PySem.W.nsIn K mainGlobals "best_mixed" = some (some (.ref f25)))
    (l25 : K.lookup f25 = some ⟨oc25, od25, .func (PySem.W.fnOf "best_mixed" "best_mixed" (defArgs st_best_mixed) (defBody st_best_mixed) (defScope st_best_mixed) .none kV25 dc25 pm25 an25 cd25 ct25), sl25⟩)
    (c25 : PySem.W.codeIn K cd25 "best_mixed" = true)
    (k25 : PySem.W.keepIn K (.ref f25) = true)
    (a26 : PySem.W.nsIn K mainGlobals "is_below" = some (some (.ref f26)))
    (l26 : K.lookup f26 = some ⟨oc26, od26, .func (PySem.W.fnOf "is_below" "is_below" (defArgs st_is_below) (defBody st_is_below) (defScope st_is_below) .none kV26 dc26 pm26 an26 cd26 ct26), sl26⟩)
    (c26 : PySem.W.codeIn K cd26 "is_below" = true)
    (k26 : PySem.W.keepIn K (.ref f26) = true)
    (a27 : PySem.W.nsIn K mainGlobals "is_place" = some (some (.ref f27)))
    (l27 : K.lookup f27 = some ⟨oc27, od27, .func (PySem.W.fnOf "is_place" "is_place" (defArgs st_is_place) (defBody st_is_place) (defScope st_is_place) .none kV27 dc27 pm27 an27 cd27 ct27), sl27⟩)
    (c27 : PySem.W.codeIn K cd27 "is_place" = true)
    (k27 : PySem.W.keepIn K (.ref f27) = true)
    (a28 : PySem.W.nsIn K mainGlobals "need_place" = some (some (.ref f28)))
    (l28 : K.lookup f28 = some ⟨oc28, od28, .func (PySem.W.fnOf "need_place" "need_place" (defArgs st_need_place) (defBody st_need_place) (defScope st_need_place) .none kV28 dc28 pm28 an28 cd28 ct28), sl28⟩)
    (c28 : PySem.W.codeIn K cd28 "need_place" = true)
    (k28 : PySem.W.keepIn K (.ref f28) = true)
    (a29 : PySem.W.nsIn K mainGlobals "mixed" = some (some (.ref f29)))
    (l29 : K.lookup f29 = some ⟨oc29, od29, .func (PySem.W.fnOf "mixed" "mixed" (defArgs st_mixed) (defBody st_mixed) (defScope st_mixed) .none kV29 dc29 pm29 an29 cd29 ct29), sl29⟩)
    (c29 : PySem.W.codeIn K cd29 "mixed" = true)
    (k29 : PySem.W.keepIn K (.ref f29) = true)
    (a30 : PySem.W.nsIn K mainGlobals "need_number" = some (some (.ref f30)))
    (l30 : K.lookup f30 = some ⟨oc30, od30, .func (PySem.W.fnOf "need_number" "need_number" (defArgs st_need_number) (defBody st_need_number) (defScope st_need_number) .none kV30 dc30 pm30 an30 cd30 ct30), sl30⟩)
    (c30 : PySem.W.codeIn K cd30 "need_number" = true)
    (k30 : PySem.W.keepIn K (.ref f30) = true)
    (a31 : PySem.W.nsIn K mainGlobals "first_houses" = some (some (.ref f31)))
    (l31 : K.lookup f31 = some ⟨oc31, od31, .func (PySem.W.fnOf "first_houses" "first_houses" (defArgs st_first_houses) (defBody st_first_houses) (defScope st_first_houses) .none kV31 dc31 pm31 an31 cd31 ct31), sl31⟩)
    (c31 : PySem.W.codeIn K cd31 "first_houses" = true)
    (k31 : PySem.W.keepIn K (.ref f31) = true)
    (a32 : PySem.W.nsIn K mainGlobals "need_houses" = some (some (.ref f32)))
    (l32 : K.lookup f32 = some ⟨oc32, od32, .func (PySem.W.fnOf "need_houses" "need_houses" (defArgs st_need_houses) (defBody st_need_houses) (defScope st_need_houses) .none kV32 dc32 pm32 an32 cd32 ct32), sl32⟩)
    (c32 : PySem.W.codeIn K cd32 "need_houses" = true)
    (k32 : PySem.W.keepIn K (.ref f32) = true)
    (a33 : PySem.W.nsIn K mainGlobals "need_both_houses" = some (some (.ref f33)))
    (l33 : K.lookup f33 = some ⟨oc33, od33, .func (PySem.W.fnOf "need_both" "need_both" (defArgs st_need_both) (defBody st_need_both) (defScope st_need_both) .none kV33 dc33 pm33 an33 cd33 ct33), sl33⟩)
    (c33 : PySem.W.codeIn K cd33 "need_both" = true)
    (k33 : PySem.W.keepIn K (.ref f33) = true)
    (a34 : PySem.W.nsIn K mainGlobals "houses_answer" = some (some (.ref f34)))
    (l34 : K.lookup f34 = some ⟨oc34, od34, .func (PySem.W.fnOf "houses_answer" "houses_answer" (defArgs st_houses_answer) (defBody st_houses_answer) (defScope st_houses_answer) .none kV34 dc34 pm34 an34 cd34 ct34), sl34⟩)
    (c34 : PySem.W.codeIn K cd34 "houses_answer" = true)
    (k34 : PySem.W.keepIn K (.ref f34) = true)
    (a35 : PySem.W.nsIn K mainGlobals "need_loyalty" = some (some (.ref f35)))
    (l35 : K.lookup f35 = some ⟨oc35, od35, .func (PySem.W.fnOf "need_loyalty" "need_loyalty" (defArgs st_need_loyalty) (defBody st_need_loyalty) (defScope st_need_loyalty) .none kV35 dc35 pm35 an35 cd35 ct35), sl35⟩)
    (c35 : PySem.W.codeIn K cd35 "need_loyalty" = true)
    (k35 : PySem.W.keepIn K (.ref f35) = true)
    (a36 : PySem.W.nsIn K mainGlobals "loyal_share" = some (some (.ref f36)))
    (l36 : K.lookup f36 = some ⟨oc36, od36, .func (PySem.W.fnOf "loyal_share" "loyal_share" (defArgs st_loyal_share) (defBody st_loyal_share) (defScope st_loyal_share) .none kV36 dc36 pm36 an36 cd36 ct36), sl36⟩)
    (c36 : PySem.W.codeIn K cd36 "loyal_share" = true)
    (k36 : PySem.W.keepIn K (.ref f36) = true)
    (a37 : PySem.W.nsIn K mainGlobals "need_rooms" = some (some (.ref f37)))
    (l37 : K.lookup f37 = some ⟨oc37, od37, .func (PySem.W.fnOf "need_rooms" "need_rooms" (defArgs st_need_rooms) (defBody st_need_rooms) (defScope st_need_rooms) .none kV37 dc37 pm37 an37 cd37 ct37), sl37⟩)
    (c37 : PySem.W.codeIn K cd37 "need_rooms" = true)
    (k37 : PySem.W.keepIn K (.ref f37) = true)
    (a38 : PySem.W.nsIn K mainGlobals "serving" = some (some (.ref f38)))
    (l38 : K.lookup f38 = some ⟨oc38, od38, .func (PySem.W.fnOf "serving" "serving" (defArgs st_serving) (defBody st_serving) (defScope st_serving) .none kV38 dc38 pm38 an38 cd38 ct38), sl38⟩)
    (c38 : PySem.W.codeIn K cd38 "serving" = true)
    (k38 : PySem.W.keepIn K (.ref f38) = true)
    (a39 : PySem.W.nsIn K mainGlobals "need_reach" = some (some (.ref f39)))
    (l39 : K.lookup f39 = some ⟨oc39, od39, .func (PySem.W.fnOf "need_reach" "need_reach" (defArgs st_need_reach) (defBody st_need_reach) (defScope st_need_reach) .none kV39 dc39 pm39 an39 cd39 ct39), sl39⟩)
    (c39 : PySem.W.codeIn K cd39 "need_reach" = true)
    (k39 : PySem.W.keepIn K (.ref f39) = true)
    (a40 : PySem.W.nsIn K mainGlobals "crowd" = some (some (.ref f40)))
    (l40 : K.lookup f40 = some ⟨oc40, od40, .func (PySem.W.fnOf "crowd" "crowd" (defArgs st_crowd) (defBody st_crowd) (defScope st_crowd) .none kV40 dc40 pm40 an40 cd40 ct40), sl40⟩)
    (c40 : PySem.W.codeIn K cd40 "crowd" = true)
    (k40 : PySem.W.keepIn K (.ref f40) = true)
    (a41 : PySem.W.nsIn K mainGlobals "need_highs" = some (some (.ref f41)))
    (l41 : K.lookup f41 = some ⟨oc41, od41, .func (PySem.W.fnOf "need_highs" "need_highs" (defArgs st_need_highs) (defBody st_need_highs) (defScope st_need_highs) .none kV41 dc41 pm41 an41 cd41 ct41), sl41⟩)
    (c41 : PySem.W.codeIn K cd41 "need_highs" = true)
    (k41 : PySem.W.keepIn K (.ref f41) = true)
    (a42 : PySem.W.nsIn K mainGlobals "need_all" = some (some (.ref f42)))
    (l42 : K.lookup f42 = some ⟨oc42, od42, .func (PySem.W.fnOf "need_all" "need_all" (defArgs st_need_all) (defBody st_need_all) (defScope st_need_all) .none kV42 dc42 pm42 an42 cd42 ct42), sl42⟩)
    (c42 : PySem.W.codeIn K cd42 "need_all" = true)
    (k42 : PySem.W.keepIn K (.ref f42) = true)
    (a43 : PySem.W.nsIn K mainGlobals "weights_for" = some (some (.ref f43)))
    (l43 : K.lookup f43 = some ⟨oc43, od43, .func (PySem.W.fnOf "weights_for" "weights_for" (defArgs st_weights_for) (defBody st_weights_for) (defScope st_weights_for) .none kV43 dc43 pm43 an43 cd43 ct43), sl43⟩)
    (c43 : PySem.W.codeIn K cd43 "weights_for" = true)
    (k43 : PySem.W.keepIn K (.ref f43) = true)
    (a44 : PySem.W.nsIn K mainGlobals "growing_best" = some (some (.ref f44)))
    (l44 : K.lookup f44 = some ⟨oc44, od44, .func (PySem.W.fnOf "growing_best" "growing_best" (defArgs st_growing_best) (defBody st_growing_best) (defScope st_growing_best) .none kV44 dc44 pm44 an44 cd44 ct44), sl44⟩)
    (c44 : PySem.W.codeIn K cd44 "growing_best" = true)
    (k44 : PySem.W.keepIn K (.ref f44) = true)
    (a45 : PySem.W.nsIn K mainGlobals "need_flows" = some (some (.ref f45)))
    (l45 : K.lookup f45 = some ⟨oc45, od45, .func (PySem.W.fnOf "need_flows" "need_flows" (defArgs st_need_flows) (defBody st_need_flows) (defScope st_need_flows) .none kV45 dc45 pm45 an45 cd45 ct45), sl45⟩)
    (c45 : PySem.W.codeIn K cd45 "need_flows" = true)
    (k45 : PySem.W.keepIn K (.ref f45) = true)
    (a46 : PySem.W.nsIn K mainGlobals "hub_cost" = some (some (.ref f46)))
    (l46 : K.lookup f46 = some ⟨oc46, od46, .func (PySem.W.fnOf "hub_cost" "hub_cost" (defArgs st_hub_cost) (defBody st_hub_cost) (defScope st_hub_cost) .none kV46 dc46 pm46 an46 cd46 ct46), sl46⟩)
    (c46 : PySem.W.codeIn K cd46 "hub_cost" = true)
    (k46 : PySem.W.keepIn K (.ref f46) = true)
    (a47 : PySem.W.nsIn K mainGlobals "best_homes" = some (some (.ref f47)))
    (l47 : K.lookup f47 = some ⟨oc47, od47, .func (PySem.W.fnOf "best_homes" "best_homes" (defArgs st_best_homes) (defBody st_best_homes) (defScope st_best_homes) .none kV47 dc47 pm47 an47 cd47 ct47), sl47⟩)
    (c47 : PySem.W.codeIn K cd47 "best_homes" = true)
    (k47 : PySem.W.keepIn K (.ref f47) = true)
    (a48 : PySem.W.nsIn K mainGlobals "law" = some (some (.ref f48)))
    (l48 : K.lookup f48 = some ⟨oc48, od48, .func (PySem.W.fnOf "law" "law" (defArgs st_law) (defBody st_law) (defScope st_law) .none kV48 dc48 pm48 an48 (.ref cL) ct48), sl48⟩)
    (c48 : PySem.W.codeIn K (.ref cL) "law" = true)
    (k48 : PySem.W.keepIn K (.ref f48) = true)
    (z_int : PySem.W.nsIn K mainGlobals "int" = some none)
    (z_len : PySem.W.nsIn K mainGlobals "len" = some none)
    (z_isinstance : PySem.W.nsIn K mainGlobals "isinstance" = some none)
    (z_bool : PySem.W.nsIn K mainGlobals "bool" = some none)
    (z_tuple : PySem.W.nsIn K mainGlobals "tuple" = some none)
    (g_MOST_POINTS : PySem.W.nsIn K mainGlobals "MOST_POINTS" = some (some (.int 8 t_MOST_POINTS)))
    (g_MOST_WEIGHT : PySem.W.nsIn K mainGlobals "MOST_WEIGHT" = some (some (.int 100 t_MOST_WEIGHT)))
    (z_sum : PySem.W.nsIn K mainGlobals "sum" = some none)
    (g_MOST_LENGTH : PySem.W.nsIn K mainGlobals "MOST_LENGTH" = some (some (.int 100 t_MOST_LENGTH)))
    (z_list : PySem.W.nsIn K mainGlobals "list" = some none)
    (z_sorted : PySem.W.nsIn K mainGlobals "sorted" = some none)
    (g_MOST_ROADS : PySem.W.nsIn K mainGlobals "MOST_ROADS" = some (some (.int 14 t_MOST_ROADS)))
    (z_enumerate : PySem.W.nsIn K mainGlobals "enumerate" = some none)
    (z_range : PySem.W.nsIn K mainGlobals "range" = some none)
    (g_MOST_RADIUS : PySem.W.nsIn K mainGlobals "MOST_RADIUS" = some (some (.int 10000 t_MOST_RADIUS)))
    (g_MOST_PRICE : PySem.W.nsIn K mainGlobals "MOST_PRICE" = some (some (.int 1000 t_MOST_PRICE)))
    (z_abs : PySem.W.nsIn K mainGlobals "abs" = some none)
    (g_MOST_FIRST : PySem.W.nsIn K mainGlobals "MOST_FIRST" = some (some (.int 2 t_MOST_FIRST)))
    (z_set : PySem.W.nsIn K mainGlobals "set" = some none)
    (g_MOST_LOYALTY : PySem.W.nsIn K mainGlobals "MOST_LOYALTY" = some (some (.int 1000 t_MOST_LOYALTY)))
    (g_MOST_ROOM : PySem.W.nsIn K mainGlobals "MOST_ROOM" = some (some (.int 1000 t_MOST_ROOM)))
    (g_MOST_GROWN : PySem.W.nsIn K mainGlobals "MOST_GROWN" = some (some (.int 1000 t_MOST_GROWN)))
    (g_MOST_FLOW : PySem.W.nsIn K mainGlobals "MOST_FLOW" = some (some (.int 100 t_MOST_FLOW)))
    (g_MOST_HUBS : PySem.W.nsIn K mainGlobals "MOST_HUBS" = some (some (.int 3 t_MOST_HUBS)))
    (b_HouseError : PySem.W.nsIn K mainGlobals "HouseError" = some (some (.ref AH)))
    (x_HouseError : K.lookup AH = some (excClassObj "HouseError" nq_HouseError AH N_HouseError bs_HouseError veT true sn_HouseError sub_HouseError ab_HouseError col_HouseError dd_HouseError k0_HouseError k1_HouseError k2_HouseError k3_HouseError k5_HouseError "ValueError.__new__"))
    (ty_HouseError : PySem.W.typeIn K (.ref AH) = some (.type "type"))
    (hsp : PySem.W.specialIn K (.builtin "object.__class__") "__get__" = some (some (.builtin "getset_descriptor.__get__")))
    (htk : PySem.W.takesIn K (.builtin "object.__class__") = some true)
    (b_BadCount : PySem.W.nsIn K mainGlobals "BadCount" = some (some (.ref E_BadCount)))
    (x_BadCount : K.lookup E_BadCount = some (excClassObj "BadCount" nq_BadCount E_BadCount N_BadCount bs_BadCount ((.ref AH) :: veT) true sn_BadCount sub_BadCount ab_BadCount col_BadCount dd_BadCount k0_BadCount k1_BadCount k2_BadCount k3_BadCount k5_BadCount "ValueError.__new__"))
    (ty_BadCount : PySem.W.typeIn K (.ref E_BadCount) = some (.type "type"))
    (ga_BadCount : PySem.W.findIn K (.ref E_BadCount) "__getattribute__" = some (some (.builtin "BaseException.__getattribute__")))
    (gg_BadCount : PySem.W.findIn K (.ref E_BadCount) "__getattr__" = some none)
    (cz_BadCount : PySem.W.findIn K (.ref E_BadCount) "__class__" = some (some (.builtin "object.__class__")))
    (kC_BadCount : PySem.W.keepIn K (.ref E_BadCount) = true)
    (ex_BadCount : PySem.W.subIn K (.ref E_BadCount) (.type "BaseException") = some true)
    (q_BadCount : PySem.W.excIn K E_BadCount veT "ValueError.__new__" = true)
    (b_BadHouses : PySem.W.nsIn K mainGlobals "BadHouses" = some (some (.ref E_BadHouses)))
    (x_BadHouses : K.lookup E_BadHouses = some (excClassObj "BadHouses" nq_BadHouses E_BadHouses N_BadHouses bs_BadHouses ((.ref AH) :: veT) true sn_BadHouses sub_BadHouses ab_BadHouses col_BadHouses dd_BadHouses k0_BadHouses k1_BadHouses k2_BadHouses k3_BadHouses k5_BadHouses "ValueError.__new__"))
    (ty_BadHouses : PySem.W.typeIn K (.ref E_BadHouses) = some (.type "type"))
    (ga_BadHouses : PySem.W.findIn K (.ref E_BadHouses) "__getattribute__" = some (some (.builtin "BaseException.__getattribute__")))
    (gg_BadHouses : PySem.W.findIn K (.ref E_BadHouses) "__getattr__" = some none)
    (cz_BadHouses : PySem.W.findIn K (.ref E_BadHouses) "__class__" = some (some (.builtin "object.__class__")))
    (kC_BadHouses : PySem.W.keepIn K (.ref E_BadHouses) = true)
    (ex_BadHouses : PySem.W.subIn K (.ref E_BadHouses) (.type "BaseException") = some true)
    (q_BadHouses : PySem.W.excIn K E_BadHouses veT "ValueError.__new__" = true)
    (b_BadHighs : PySem.W.nsIn K mainGlobals "BadHighs" = some (some (.ref E_BadHighs)))
    (x_BadHighs : K.lookup E_BadHighs = some (excClassObj "BadHighs" nq_BadHighs E_BadHighs N_BadHighs bs_BadHighs ((.ref AH) :: veT) true sn_BadHighs sub_BadHighs ab_BadHighs col_BadHighs dd_BadHighs k0_BadHighs k1_BadHighs k2_BadHighs k3_BadHighs k5_BadHighs "ValueError.__new__"))
    (ty_BadHighs : PySem.W.typeIn K (.ref E_BadHighs) = some (.type "type"))
    (ga_BadHighs : PySem.W.findIn K (.ref E_BadHighs) "__getattribute__" = some (some (.builtin "BaseException.__getattribute__")))
    (gg_BadHighs : PySem.W.findIn K (.ref E_BadHighs) "__getattr__" = some none)
    (cz_BadHighs : PySem.W.findIn K (.ref E_BadHighs) "__class__" = some (some (.builtin "object.__class__")))
    (kC_BadHighs : PySem.W.keepIn K (.ref E_BadHighs) = true)
    (ex_BadHighs : PySem.W.subIn K (.ref E_BadHighs) (.type "BaseException") = some true)
    (q_BadHighs : PySem.W.excIn K E_BadHighs veT "ValueError.__new__" = true)
    (b_BadNumber : PySem.W.nsIn K mainGlobals "BadNumber" = some (some (.ref E_BadNumber)))
    (x_BadNumber : K.lookup E_BadNumber = some (excClassObj "BadNumber" nq_BadNumber E_BadNumber N_BadNumber bs_BadNumber ((.ref AH) :: veT) true sn_BadNumber sub_BadNumber ab_BadNumber col_BadNumber dd_BadNumber k0_BadNumber k1_BadNumber k2_BadNumber k3_BadNumber k5_BadNumber "ValueError.__new__"))
    (ty_BadNumber : PySem.W.typeIn K (.ref E_BadNumber) = some (.type "type"))
    (ga_BadNumber : PySem.W.findIn K (.ref E_BadNumber) "__getattribute__" = some (some (.builtin "BaseException.__getattribute__")))
    (gg_BadNumber : PySem.W.findIn K (.ref E_BadNumber) "__getattr__" = some none)
    (cz_BadNumber : PySem.W.findIn K (.ref E_BadNumber) "__class__" = some (some (.builtin "object.__class__")))
    (kC_BadNumber : PySem.W.keepIn K (.ref E_BadNumber) = true)
    (ex_BadNumber : PySem.W.subIn K (.ref E_BadNumber) (.type "BaseException") = some true)
    (q_BadNumber : PySem.W.excIn K E_BadNumber veT "ValueError.__new__" = true)
    (b_BadPlace : PySem.W.nsIn K mainGlobals "BadPlace" = some (some (.ref E_BadPlace)))
    (x_BadPlace : K.lookup E_BadPlace = some (excClassObj "BadPlace" nq_BadPlace E_BadPlace N_BadPlace bs_BadPlace ((.ref AH) :: veT) true sn_BadPlace sub_BadPlace ab_BadPlace col_BadPlace dd_BadPlace k0_BadPlace k1_BadPlace k2_BadPlace k3_BadPlace k5_BadPlace "ValueError.__new__"))
    (ty_BadPlace : PySem.W.typeIn K (.ref E_BadPlace) = some (.type "type"))
    (ga_BadPlace : PySem.W.findIn K (.ref E_BadPlace) "__getattribute__" = some (some (.builtin "BaseException.__getattribute__")))
    (gg_BadPlace : PySem.W.findIn K (.ref E_BadPlace) "__getattr__" = some none)
    (cz_BadPlace : PySem.W.findIn K (.ref E_BadPlace) "__class__" = some (some (.builtin "object.__class__")))
    (kC_BadPlace : PySem.W.keepIn K (.ref E_BadPlace) = true)
    (ex_BadPlace : PySem.W.subIn K (.ref E_BadPlace) (.type "BaseException") = some true)
    (q_BadPlace : PySem.W.excIn K E_BadPlace veT "ValueError.__new__" = true)
    (b_BadPoint : PySem.W.nsIn K mainGlobals "BadPoint" = some (some (.ref E_BadPoint)))
    (x_BadPoint : K.lookup E_BadPoint = some (excClassObj "BadPoint" nq_BadPoint E_BadPoint N_BadPoint bs_BadPoint ((.ref AH) :: veT) true sn_BadPoint sub_BadPoint ab_BadPoint col_BadPoint dd_BadPoint k0_BadPoint k1_BadPoint k2_BadPoint k3_BadPoint k5_BadPoint "ValueError.__new__"))
    (ty_BadPoint : PySem.W.typeIn K (.ref E_BadPoint) = some (.type "type"))
    (ga_BadPoint : PySem.W.findIn K (.ref E_BadPoint) "__getattribute__" = some (some (.builtin "BaseException.__getattribute__")))
    (gg_BadPoint : PySem.W.findIn K (.ref E_BadPoint) "__getattr__" = some none)
    (cz_BadPoint : PySem.W.findIn K (.ref E_BadPoint) "__class__" = some (some (.builtin "object.__class__")))
    (kC_BadPoint : PySem.W.keepIn K (.ref E_BadPoint) = true)
    (ex_BadPoint : PySem.W.subIn K (.ref E_BadPoint) (.type "BaseException") = some true)
    (q_BadPoint : PySem.W.excIn K E_BadPoint veT "ValueError.__new__" = true)
    (b_BadPrices : PySem.W.nsIn K mainGlobals "BadPrices" = some (some (.ref E_BadPrices)))
    (x_BadPrices : K.lookup E_BadPrices = some (excClassObj "BadPrices" nq_BadPrices E_BadPrices N_BadPrices bs_BadPrices ((.ref AH) :: veT) true sn_BadPrices sub_BadPrices ab_BadPrices col_BadPrices dd_BadPrices k0_BadPrices k1_BadPrices k2_BadPrices k3_BadPrices k5_BadPrices "ValueError.__new__"))
    (ty_BadPrices : PySem.W.typeIn K (.ref E_BadPrices) = some (.type "type"))
    (ga_BadPrices : PySem.W.findIn K (.ref E_BadPrices) "__getattribute__" = some (some (.builtin "BaseException.__getattribute__")))
    (gg_BadPrices : PySem.W.findIn K (.ref E_BadPrices) "__getattr__" = some none)
    (cz_BadPrices : PySem.W.findIn K (.ref E_BadPrices) "__class__" = some (some (.builtin "object.__class__")))
    (kC_BadPrices : PySem.W.keepIn K (.ref E_BadPrices) = true)
    (ex_BadPrices : PySem.W.subIn K (.ref E_BadPrices) (.type "BaseException") = some true)
    (q_BadPrices : PySem.W.excIn K E_BadPrices veT "ValueError.__new__" = true)
    (b_BadReaches : PySem.W.nsIn K mainGlobals "BadReaches" = some (some (.ref E_BadReaches)))
    (x_BadReaches : K.lookup E_BadReaches = some (excClassObj "BadReaches" nq_BadReaches E_BadReaches N_BadReaches bs_BadReaches ((.ref AH) :: veT) true sn_BadReaches sub_BadReaches ab_BadReaches col_BadReaches dd_BadReaches k0_BadReaches k1_BadReaches k2_BadReaches k3_BadReaches k5_BadReaches "ValueError.__new__"))
    (ty_BadReaches : PySem.W.typeIn K (.ref E_BadReaches) = some (.type "type"))
    (ga_BadReaches : PySem.W.findIn K (.ref E_BadReaches) "__getattribute__" = some (some (.builtin "BaseException.__getattribute__")))
    (gg_BadReaches : PySem.W.findIn K (.ref E_BadReaches) "__getattr__" = some none)
    (cz_BadReaches : PySem.W.findIn K (.ref E_BadReaches) "__class__" = some (some (.builtin "object.__class__")))
    (kC_BadReaches : PySem.W.keepIn K (.ref E_BadReaches) = true)
    (ex_BadReaches : PySem.W.subIn K (.ref E_BadReaches) (.type "BaseException") = some true)
    (q_BadReaches : PySem.W.excIn K E_BadReaches veT "ValueError.__new__" = true)
    (b_BadRooms : PySem.W.nsIn K mainGlobals "BadRooms" = some (some (.ref E_BadRooms)))
    (x_BadRooms : K.lookup E_BadRooms = some (excClassObj "BadRooms" nq_BadRooms E_BadRooms N_BadRooms bs_BadRooms ((.ref AH) :: veT) true sn_BadRooms sub_BadRooms ab_BadRooms col_BadRooms dd_BadRooms k0_BadRooms k1_BadRooms k2_BadRooms k3_BadRooms k5_BadRooms "ValueError.__new__"))
    (ty_BadRooms : PySem.W.typeIn K (.ref E_BadRooms) = some (.type "type"))
    (ga_BadRooms : PySem.W.findIn K (.ref E_BadRooms) "__getattribute__" = some (some (.builtin "BaseException.__getattribute__")))
    (gg_BadRooms : PySem.W.findIn K (.ref E_BadRooms) "__getattr__" = some none)
    (cz_BadRooms : PySem.W.findIn K (.ref E_BadRooms) "__class__" = some (some (.builtin "object.__class__")))
    (kC_BadRooms : PySem.W.keepIn K (.ref E_BadRooms) = true)
    (ex_BadRooms : PySem.W.subIn K (.ref E_BadRooms) (.type "BaseException") = some true)
    (q_BadRooms : PySem.W.excIn K E_BadRooms veT "ValueError.__new__" = true)
    (b_BadShare : PySem.W.nsIn K mainGlobals "BadShare" = some (some (.ref E_BadShare)))
    (x_BadShare : K.lookup E_BadShare = some (excClassObj "BadShare" nq_BadShare E_BadShare N_BadShare bs_BadShare ((.ref AH) :: veT) true sn_BadShare sub_BadShare ab_BadShare col_BadShare dd_BadShare k0_BadShare k1_BadShare k2_BadShare k3_BadShare k5_BadShare "ValueError.__new__"))
    (ty_BadShare : PySem.W.typeIn K (.ref E_BadShare) = some (.type "type"))
    (ga_BadShare : PySem.W.findIn K (.ref E_BadShare) "__getattribute__" = some (some (.builtin "BaseException.__getattribute__")))
    (gg_BadShare : PySem.W.findIn K (.ref E_BadShare) "__getattr__" = some none)
    (cz_BadShare : PySem.W.findIn K (.ref E_BadShare) "__class__" = some (some (.builtin "object.__class__")))
    (kC_BadShare : PySem.W.keepIn K (.ref E_BadShare) = true)
    (ex_BadShare : PySem.W.subIn K (.ref E_BadShare) (.type "BaseException") = some true)
    (q_BadShare : PySem.W.excIn K E_BadShare veT "ValueError.__new__" = true)
    (b_NotTree : PySem.W.nsIn K mainGlobals "NotTree" = some (some (.ref E_NotTree)))
    (x_NotTree : K.lookup E_NotTree = some (excClassObj "NotTree" nq_NotTree E_NotTree N_NotTree bs_NotTree ((.ref AH) :: veT) true sn_NotTree sub_NotTree ab_NotTree col_NotTree dd_NotTree k0_NotTree k1_NotTree k2_NotTree k3_NotTree k5_NotTree "ValueError.__new__"))
    (ty_NotTree : PySem.W.typeIn K (.ref E_NotTree) = some (.type "type"))
    (ga_NotTree : PySem.W.findIn K (.ref E_NotTree) "__getattribute__" = some (some (.builtin "BaseException.__getattribute__")))
    (gg_NotTree : PySem.W.findIn K (.ref E_NotTree) "__getattr__" = some none)
    (cz_NotTree : PySem.W.findIn K (.ref E_NotTree) "__class__" = some (some (.builtin "object.__class__")))
    (kC_NotTree : PySem.W.keepIn K (.ref E_NotTree) = true)
    (ex_NotTree : PySem.W.subIn K (.ref E_NotTree) (.type "BaseException") = some true)
    (q_NotTree : PySem.W.excIn K E_NotTree veT "ValueError.__new__" = true)
    (b_TooMany : PySem.W.nsIn K mainGlobals "TooMany" = some (some (.ref E_TooMany)))
    (x_TooMany : K.lookup E_TooMany = some (excClassObj "TooMany" nq_TooMany E_TooMany N_TooMany bs_TooMany ((.ref AH) :: veT) true sn_TooMany sub_TooMany ab_TooMany col_TooMany dd_TooMany k0_TooMany k1_TooMany k2_TooMany k3_TooMany k5_TooMany "ValueError.__new__"))
    (ty_TooMany : PySem.W.typeIn K (.ref E_TooMany) = some (.type "type"))
    (ga_TooMany : PySem.W.findIn K (.ref E_TooMany) "__getattribute__" = some (some (.builtin "BaseException.__getattribute__")))
    (gg_TooMany : PySem.W.findIn K (.ref E_TooMany) "__getattr__" = some none)
    (cz_TooMany : PySem.W.findIn K (.ref E_TooMany) "__class__" = some (some (.builtin "object.__class__")))
    (kC_TooMany : PySem.W.keepIn K (.ref E_TooMany) = true)
    (ex_TooMany : PySem.W.subIn K (.ref E_TooMany) (.type "BaseException") = some true)
    (sa_TooMany : PySem.W.findIn K (.ref E_TooMany) "__setattr__" = some (some (.builtin "object.__setattr__")))
    (in_TooMany : PySem.W.findIn K (.ref E_TooMany) "__init__" = some (some (.ref fI_TooMany)))
    (ti_TooMany : PySem.W.typeIn K (.ref fI_TooMany) = some (.type "function"))
    (li_TooMany : K.lookup fI_TooMany = some ⟨oc_TooMany, od_TooMany, .func (PySem.W.ksFn "__init__" "TooMany.__init__" ⟨[], [⟨"self", none, ⟨59, 17, 59, 21⟩⟩, ⟨"most", none, ⟨59, 23, 59, 27⟩⟩], none, [], [], none, []⟩ (supBody "most" ⟨60, 8, 60, 13⟩ ⟨60, 8, 60, 15⟩ ⟨60, 8, 60, 24⟩ ⟨60, 25, 60, 29⟩ ⟨60, 8, 60, 30⟩ ⟨60, 8, 60, 30⟩ ⟨61, 8, 61, 12⟩ ⟨61, 8, 61, 17⟩ ⟨61, 20, 61, 24⟩ ⟨61, 8, 61, 24⟩) (supScope "most") .none kV_TooMany dc_TooMany pm_TooMany an_TooMany (.ref cda_TooMany) ct_TooMany cc_TooMany), osl_TooMany⟩)
    (ci_TooMany : PySem.W.codeIn K (.ref cda_TooMany) "TooMany.__init__" = true)
    (lc_TooMany : K.lookup cda_TooMany = some ⟨ccl_TooMany, cdd_TooMany, .fields vs_TooMany, ccs_TooMany⟩)
    (v2_TooMany : vs_TooMany[2]? = some (.str fl_TooMany tf_TooMany))
    (fi_TooMany : ((l.prog.main.file : Str) == fl_TooMany) = true)
    (lk_TooMany : K.lookup cc_TooMany = some ⟨cl_TooMany, cld_TooMany, .cell (some (.ref E_TooMany)), csl_TooMany⟩)
    (hn_TooMany : PySem.W.findIn K (.ref E_TooMany) "most" = some none)
    (su_TooMany : PySem.W.ks_superIn K E_TooMany E_TooMany "__init__" = some (some (.builtin "ValueError.__init__")))
    (op_TooMany : PySem.W.nsIn K cStatics "thirdparty.any" = some none)
    (ve_TooMany : PySem.W.subIn K (.ref E_TooMany) (.type "ValueError") = some true)
    (mr_TooMany : PySem.W.mroIn K E_TooMany (.ref E_TooMany) = some true)
    (to_TooMany : (l.prog.main.scope.names.lookup ("super" : Str)).isSome = false)
    (b_BadWeb : PySem.W.nsIn K mainGlobals "BadWeb" = some (some (.ref E_BadWeb)))
    (x_BadWeb : K.lookup E_BadWeb = some (excClassObj "BadWeb" nq_BadWeb E_BadWeb N_BadWeb bs_BadWeb ((.ref AH) :: veT) true sn_BadWeb sub_BadWeb ab_BadWeb col_BadWeb dd_BadWeb k0_BadWeb k1_BadWeb k2_BadWeb k3_BadWeb k5_BadWeb "ValueError.__new__"))
    (ty_BadWeb : PySem.W.typeIn K (.ref E_BadWeb) = some (.type "type"))
    (ga_BadWeb : PySem.W.findIn K (.ref E_BadWeb) "__getattribute__" = some (some (.builtin "BaseException.__getattribute__")))
    (gg_BadWeb : PySem.W.findIn K (.ref E_BadWeb) "__getattr__" = some none)
    (cz_BadWeb : PySem.W.findIn K (.ref E_BadWeb) "__class__" = some (some (.builtin "object.__class__")))
    (kC_BadWeb : PySem.W.keepIn K (.ref E_BadWeb) = true)
    (ex_BadWeb : PySem.W.subIn K (.ref E_BadWeb) (.type "BaseException") = some true)
    (sa_BadWeb : PySem.W.findIn K (.ref E_BadWeb) "__setattr__" = some (some (.builtin "object.__setattr__")))
    (in_BadWeb : PySem.W.findIn K (.ref E_BadWeb) "__init__" = some (some (.ref fI_BadWeb)))
    (ti_BadWeb : PySem.W.typeIn K (.ref fI_BadWeb) = some (.type "function"))
    (li_BadWeb : K.lookup fI_BadWeb = some ⟨oc_BadWeb, od_BadWeb, .func (PySem.W.ksFn "__init__" "BadWeb.__init__" ⟨[], [⟨"self", none, ⟨36, 17, 36, 21⟩⟩, ⟨"index", none, ⟨36, 23, 36, 28⟩⟩], none, [], [], none, []⟩ (supBody "index" ⟨37, 8, 37, 13⟩ ⟨37, 8, 37, 15⟩ ⟨37, 8, 37, 24⟩ ⟨37, 25, 37, 30⟩ ⟨37, 8, 37, 31⟩ ⟨37, 8, 37, 31⟩ ⟨38, 8, 38, 12⟩ ⟨38, 8, 38, 18⟩ ⟨38, 21, 38, 26⟩ ⟨38, 8, 38, 26⟩) (supScope "index") .none kV_BadWeb dc_BadWeb pm_BadWeb an_BadWeb (.ref cda_BadWeb) ct_BadWeb cc_BadWeb), osl_BadWeb⟩)
    (ci_BadWeb : PySem.W.codeIn K (.ref cda_BadWeb) "BadWeb.__init__" = true)
    (lc_BadWeb : K.lookup cda_BadWeb = some ⟨ccl_BadWeb, cdd_BadWeb, .fields vs_BadWeb, ccs_BadWeb⟩)
    (v2_BadWeb : vs_BadWeb[2]? = some (.str fl_BadWeb tf_BadWeb))
    (fi_BadWeb : ((l.prog.main.file : Str) == fl_BadWeb) = true)
    (lk_BadWeb : K.lookup cc_BadWeb = some ⟨cl_BadWeb, cld_BadWeb, .cell (some (.ref E_BadWeb)), csl_BadWeb⟩)
    (hn_BadWeb : PySem.W.findIn K (.ref E_BadWeb) "index" = some none)
    (su_BadWeb : PySem.W.ks_superIn K E_BadWeb E_BadWeb "__init__" = some (some (.builtin "ValueError.__init__")))
    (op_BadWeb : PySem.W.nsIn K cStatics "thirdparty.any" = some none)
    (ve_BadWeb : PySem.W.subIn K (.ref E_BadWeb) (.type "ValueError") = some true)
    (mr_BadWeb : PySem.W.mroIn K E_BadWeb (.ref E_BadWeb) = some true)
    (to_BadWeb : (l.prog.main.scope.names.lookup ("super" : Str)).isSome = false)
    (b_BadFlows : PySem.W.nsIn K mainGlobals "BadFlows" = some (some (.ref E_BadFlows)))
    (x_BadFlows : K.lookup E_BadFlows = some (excClassObj "BadFlows" nq_BadFlows E_BadFlows N_BadFlows bs_BadFlows ((.ref AH) :: veT) true sn_BadFlows sub_BadFlows ab_BadFlows col_BadFlows dd_BadFlows k0_BadFlows k1_BadFlows k2_BadFlows k3_BadFlows k5_BadFlows "ValueError.__new__"))
    (ty_BadFlows : PySem.W.typeIn K (.ref E_BadFlows) = some (.type "type"))
    (ga_BadFlows : PySem.W.findIn K (.ref E_BadFlows) "__getattribute__" = some (some (.builtin "BaseException.__getattribute__")))
    (gg_BadFlows : PySem.W.findIn K (.ref E_BadFlows) "__getattr__" = some none)
    (cz_BadFlows : PySem.W.findIn K (.ref E_BadFlows) "__class__" = some (some (.builtin "object.__class__")))
    (kC_BadFlows : PySem.W.keepIn K (.ref E_BadFlows) = true)
    (ex_BadFlows : PySem.W.subIn K (.ref E_BadFlows) (.type "BaseException") = some true)
    (sa_BadFlows : PySem.W.findIn K (.ref E_BadFlows) "__setattr__" = some (some (.builtin "object.__setattr__")))
    (in_BadFlows : PySem.W.findIn K (.ref E_BadFlows) "__init__" = some (some (.ref fI_BadFlows)))
    (ti_BadFlows : PySem.W.typeIn K (.ref fI_BadFlows) = some (.type "function"))
    (li_BadFlows : K.lookup fI_BadFlows = some ⟨oc_BadFlows, od_BadFlows, .func (PySem.W.ksFn "__init__" "BadFlows.__init__" ⟨[], [⟨"self", none, ⟨68, 17, 68, 21⟩⟩, ⟨"index", none, ⟨68, 23, 68, 28⟩⟩], none, [], [], none, []⟩ (supBody "index" ⟨69, 8, 69, 13⟩ ⟨69, 8, 69, 15⟩ ⟨69, 8, 69, 24⟩ ⟨69, 25, 69, 30⟩ ⟨69, 8, 69, 31⟩ ⟨69, 8, 69, 31⟩ ⟨70, 8, 70, 12⟩ ⟨70, 8, 70, 18⟩ ⟨70, 21, 70, 26⟩ ⟨70, 8, 70, 26⟩) (supScope "index") .none kV_BadFlows dc_BadFlows pm_BadFlows an_BadFlows (.ref cda_BadFlows) ct_BadFlows cc_BadFlows), osl_BadFlows⟩)
    (ci_BadFlows : PySem.W.codeIn K (.ref cda_BadFlows) "BadFlows.__init__" = true)
    (lc_BadFlows : K.lookup cda_BadFlows = some ⟨ccl_BadFlows, cdd_BadFlows, .fields vs_BadFlows, ccs_BadFlows⟩)
    (v2_BadFlows : vs_BadFlows[2]? = some (.str fl_BadFlows tf_BadFlows))
    (fi_BadFlows : ((l.prog.main.file : Str) == fl_BadFlows) = true)
    (lk_BadFlows : K.lookup cc_BadFlows = some ⟨cl_BadFlows, cld_BadFlows, .cell (some (.ref E_BadFlows)), csl_BadFlows⟩)
    (hn_BadFlows : PySem.W.findIn K (.ref E_BadFlows) "index" = some none)
    (su_BadFlows : PySem.W.ks_superIn K E_BadFlows E_BadFlows "__init__" = some (some (.builtin "ValueError.__init__")))
    (op_BadFlows : PySem.W.nsIn K cStatics "thirdparty.any" = some none)
    (ve_BadFlows : PySem.W.subIn K (.ref E_BadFlows) (.type "ValueError") = some true)
    (mr_BadFlows : PySem.W.mroIn K E_BadFlows (.ref E_BadFlows) = some true)
    (to_BadFlows : (l.prog.main.scope.names.lookup ("super" : Str)).isSome = false)
    (zsup : PySem.W.nsIn K mainGlobals "super" = some none)
    (lcL : K.lookup cL = some ⟨e_L, dd_L, .fields vs_L, sl_L⟩)
    (vL : vs_L[11]? = some (.ref PT))
    (nL : K.lookup PT = none)
    (hL : PySem.W.codeHdIn K cL PT = true) :
    LawAtS l w K C8.CX0 10 63 "_law_script" mg fa h := by
  have e := hfa.symm.trans (PySem.W.mg_of X G a48)
  cases e
  have T : Txt mg := ⟨PySem.W.mg_none_of X G z_int, PySem.W.mg_none_of X G z_len, PySem.W.mg_none_of X G z_isinstance, PySem.W.mg_none_of X G z_bool, PySem.W.mg_none_of X G z_tuple, ⟨_, PySem.W.mg_of X G g_MOST_POINTS⟩, ⟨_, PySem.W.mg_of X G g_MOST_WEIGHT⟩, PySem.W.mg_none_of X G z_sum, ⟨_, PySem.W.mg_of X G g_MOST_LENGTH⟩, PySem.W.mg_none_of X G z_list, PySem.W.mg_none_of X G z_sorted, ⟨_, PySem.W.mg_of X G g_MOST_ROADS⟩, PySem.W.mg_none_of X G z_enumerate, PySem.W.mg_none_of X G z_range, ⟨_, PySem.W.mg_of X G g_MOST_RADIUS⟩, ⟨_, PySem.W.mg_of X G g_MOST_PRICE⟩, PySem.W.mg_none_of X G z_abs, ⟨_, PySem.W.mg_of X G g_MOST_FIRST⟩, PySem.W.mg_none_of X G z_set, ⟨_, PySem.W.mg_of X G g_MOST_LOYALTY⟩, ⟨_, PySem.W.mg_of X G g_MOST_ROOM⟩, ⟨_, PySem.W.mg_of X G g_MOST_GROWN⟩, ⟨_, PySem.W.mg_of X G g_MOST_FLOW⟩, ⟨_, PySem.W.mg_of X G g_MOST_HUBS⟩⟩
  have hh : ErrH K mg AH := ⟨PySem.W.mg_of X G b_HouseError, ⟨_, _, _, _, _, _, _, _, _, _, _, _, _, x_HouseError⟩, ty_HouseError, hsp, htk⟩
  have ec_BadCount : ErrC K mg AH "BadCount" E_BadCount := ⟨PySem.W.mg_of X G b_BadCount, ⟨_, _, _, _, _, _, _, _, _, _, _, _, _, x_BadCount⟩, ty_BadCount, ga_BadCount, gg_BadCount, cz_BadCount, by decide⟩
  have ec_BadHouses : ErrC K mg AH "BadHouses" E_BadHouses := ⟨PySem.W.mg_of X G b_BadHouses, ⟨_, _, _, _, _, _, _, _, _, _, _, _, _, x_BadHouses⟩, ty_BadHouses, ga_BadHouses, gg_BadHouses, cz_BadHouses, by decide⟩
  have ec_BadHighs : ErrC K mg AH "BadHighs" E_BadHighs := ⟨PySem.W.mg_of X G b_BadHighs, ⟨_, _, _, _, _, _, _, _, _, _, _, _, _, x_BadHighs⟩, ty_BadHighs, ga_BadHighs, gg_BadHighs, cz_BadHighs, by decide⟩
  have ec_BadNumber : ErrC K mg AH "BadNumber" E_BadNumber := ⟨PySem.W.mg_of X G b_BadNumber, ⟨_, _, _, _, _, _, _, _, _, _, _, _, _, x_BadNumber⟩, ty_BadNumber, ga_BadNumber, gg_BadNumber, cz_BadNumber, by decide⟩
  have ec_BadPlace : ErrC K mg AH "BadPlace" E_BadPlace := ⟨PySem.W.mg_of X G b_BadPlace, ⟨_, _, _, _, _, _, _, _, _, _, _, _, _, x_BadPlace⟩, ty_BadPlace, ga_BadPlace, gg_BadPlace, cz_BadPlace, by decide⟩
  have ec_BadPoint : ErrC K mg AH "BadPoint" E_BadPoint := ⟨PySem.W.mg_of X G b_BadPoint, ⟨_, _, _, _, _, _, _, _, _, _, _, _, _, x_BadPoint⟩, ty_BadPoint, ga_BadPoint, gg_BadPoint, cz_BadPoint, by decide⟩
  have ec_BadPrices : ErrC K mg AH "BadPrices" E_BadPrices := ⟨PySem.W.mg_of X G b_BadPrices, ⟨_, _, _, _, _, _, _, _, _, _, _, _, _, x_BadPrices⟩, ty_BadPrices, ga_BadPrices, gg_BadPrices, cz_BadPrices, by decide⟩
  have ec_BadReaches : ErrC K mg AH "BadReaches" E_BadReaches := ⟨PySem.W.mg_of X G b_BadReaches, ⟨_, _, _, _, _, _, _, _, _, _, _, _, _, x_BadReaches⟩, ty_BadReaches, ga_BadReaches, gg_BadReaches, cz_BadReaches, by decide⟩
  have ec_BadRooms : ErrC K mg AH "BadRooms" E_BadRooms := ⟨PySem.W.mg_of X G b_BadRooms, ⟨_, _, _, _, _, _, _, _, _, _, _, _, _, x_BadRooms⟩, ty_BadRooms, ga_BadRooms, gg_BadRooms, cz_BadRooms, by decide⟩
  have ec_BadShare : ErrC K mg AH "BadShare" E_BadShare := ⟨PySem.W.mg_of X G b_BadShare, ⟨_, _, _, _, _, _, _, _, _, _, _, _, _, x_BadShare⟩, ty_BadShare, ga_BadShare, gg_BadShare, cz_BadShare, by decide⟩
  have ec_NotTree : ErrC K mg AH "NotTree" E_NotTree := ⟨PySem.W.mg_of X G b_NotTree, ⟨_, _, _, _, _, _, _, _, _, _, _, _, _, x_NotTree⟩, ty_NotTree, ga_NotTree, gg_NotTree, cz_NotTree, by decide⟩
  have ec_TooMany : ErrC K mg AH "TooMany" E_TooMany := ⟨PySem.W.mg_of X G b_TooMany, ⟨_, _, _, _, _, _, _, _, _, _, _, _, _, x_TooMany⟩, ty_TooMany, ga_TooMany, gg_TooMany, cz_TooMany, by decide⟩
  have ec_BadWeb : ErrC K mg AH "BadWeb" E_BadWeb := ⟨PySem.W.mg_of X G b_BadWeb, ⟨_, _, _, _, _, _, _, _, _, _, _, _, _, x_BadWeb⟩, ty_BadWeb, ga_BadWeb, gg_BadWeb, cz_BadWeb, by decide⟩
  have ec_BadFlows : ErrC K mg AH "BadFlows" E_BadFlows := ⟨PySem.W.mg_of X G b_BadFlows, ⟨_, _, _, _, _, _, _, _, _, _, _, _, _, x_BadFlows⟩, ty_BadFlows, ga_BadFlows, gg_BadFlows, cz_BadFlows, by decide⟩
  have es : Errs K mg AH csAll := (errs_cons ec_BadCount (errs_cons ec_BadHouses (errs_cons ec_BadHighs (errs_cons ec_BadNumber (errs_cons ec_BadPlace (errs_cons ec_BadPoint (errs_cons ec_BadPrices (errs_cons ec_BadReaches (errs_cons ec_BadRooms (errs_cons ec_BadShare (errs_cons ec_NotTree (errs_cons ec_TooMany (errs_cons ec_BadWeb (errs_cons ec_BadFlows errs_nil))))))))))))))
  have oe_BadCount : Own0 K mg "BadCount" := ⟨⟨E_BadCount, PySem.W.mg_of X G b_BadCount, q_BadCount, kC_BadCount, ex_BadCount, ty_BadCount⟩⟩
  have oe_BadHouses : Own0 K mg "BadHouses" := ⟨⟨E_BadHouses, PySem.W.mg_of X G b_BadHouses, q_BadHouses, kC_BadHouses, ex_BadHouses, ty_BadHouses⟩⟩
  have oe_BadHighs : Own0 K mg "BadHighs" := ⟨⟨E_BadHighs, PySem.W.mg_of X G b_BadHighs, q_BadHighs, kC_BadHighs, ex_BadHighs, ty_BadHighs⟩⟩
  have oe_BadNumber : Own0 K mg "BadNumber" := ⟨⟨E_BadNumber, PySem.W.mg_of X G b_BadNumber, q_BadNumber, kC_BadNumber, ex_BadNumber, ty_BadNumber⟩⟩
  have oe_BadPlace : Own0 K mg "BadPlace" := ⟨⟨E_BadPlace, PySem.W.mg_of X G b_BadPlace, q_BadPlace, kC_BadPlace, ex_BadPlace, ty_BadPlace⟩⟩
  have oe_BadPoint : Own0 K mg "BadPoint" := ⟨⟨E_BadPoint, PySem.W.mg_of X G b_BadPoint, q_BadPoint, kC_BadPoint, ex_BadPoint, ty_BadPoint⟩⟩
  have oe_BadPrices : Own0 K mg "BadPrices" := ⟨⟨E_BadPrices, PySem.W.mg_of X G b_BadPrices, q_BadPrices, kC_BadPrices, ex_BadPrices, ty_BadPrices⟩⟩
  have oe_BadReaches : Own0 K mg "BadReaches" := ⟨⟨E_BadReaches, PySem.W.mg_of X G b_BadReaches, q_BadReaches, kC_BadReaches, ex_BadReaches, ty_BadReaches⟩⟩
  have oe_BadRooms : Own0 K mg "BadRooms" := ⟨⟨E_BadRooms, PySem.W.mg_of X G b_BadRooms, q_BadRooms, kC_BadRooms, ex_BadRooms, ty_BadRooms⟩⟩
  have oe_BadShare : Own0 K mg "BadShare" := ⟨⟨E_BadShare, PySem.W.mg_of X G b_BadShare, q_BadShare, kC_BadShare, ex_BadShare, ty_BadShare⟩⟩
  have oe_NotTree : Own0 K mg "NotTree" := ⟨⟨E_NotTree, PySem.W.mg_of X G b_NotTree, q_NotTree, kC_NotTree, ex_NotTree, ty_NotTree⟩⟩
  have oe_TooMany : OwnS K l.prog mg "TooMany" "most" := ⟨⟨E_TooMany, fI_TooMany, PySem.W.mg_of X G b_TooMany, ⟨⟨⟨_, _, _, _, _, _, _, _, _, _, _, _, _, _, _, x_TooMany, rfl⟩, sa_TooMany, ex_TooMany, ty_TooMany, kC_TooMany⟩, in_TooMany, ti_TooMany, ⟨_, _, _, _, _, _, _, _, _, _, _, _, _, _, _, _, _, _, _, _, _, _, _, _, _, _, _, _, _, _, _, _, _, li_TooMany, ci_TooMany, lc_TooMany, v2_TooMany, fi_TooMany, lk_TooMany, rfl, rfl, rfl, fun _ _ => rfl, fun L => ⟨_, rfl⟩, rfl, rfl, rfl⟩, ⟨by decide, by decide⟩, hn_TooMany, su_TooMany, op_TooMany, ve_TooMany, mr_TooMany, to_TooMany⟩⟩, PySem.W.mg_none_of X G zsup⟩
  have oe_BadWeb : OwnS K l.prog mg "BadWeb" "index" := ⟨⟨E_BadWeb, fI_BadWeb, PySem.W.mg_of X G b_BadWeb, ⟨⟨⟨_, _, _, _, _, _, _, _, _, _, _, _, _, _, _, x_BadWeb, rfl⟩, sa_BadWeb, ex_BadWeb, ty_BadWeb, kC_BadWeb⟩, in_BadWeb, ti_BadWeb, ⟨_, _, _, _, _, _, _, _, _, _, _, _, _, _, _, _, _, _, _, _, _, _, _, _, _, _, _, _, _, _, _, _, _, li_BadWeb, ci_BadWeb, lc_BadWeb, v2_BadWeb, fi_BadWeb, lk_BadWeb, rfl, rfl, rfl, fun _ _ => rfl, fun L => ⟨_, rfl⟩, rfl, rfl, rfl⟩, ⟨by decide, by decide⟩, hn_BadWeb, su_BadWeb, op_BadWeb, ve_BadWeb, mr_BadWeb, to_BadWeb⟩⟩, PySem.W.mg_none_of X G zsup⟩
  have oe_BadFlows : OwnS K l.prog mg "BadFlows" "index" := ⟨⟨E_BadFlows, fI_BadFlows, PySem.W.mg_of X G b_BadFlows, ⟨⟨⟨_, _, _, _, _, _, _, _, _, _, _, _, _, _, _, x_BadFlows, rfl⟩, sa_BadFlows, ex_BadFlows, ty_BadFlows, kC_BadFlows⟩, in_BadFlows, ti_BadFlows, ⟨_, _, _, _, _, _, _, _, _, _, _, _, _, _, _, _, _, _, _, _, _, _, _, _, _, _, _, _, _, _, _, _, _, li_BadFlows, ci_BadFlows, lc_BadFlows, v2_BadFlows, fi_BadFlows, lk_BadFlows, rfl, rfl, rfl, fun _ _ => rfl, fun L => ⟨_, rfl⟩, rfl, rfl, rfl⟩, ⟨by decide, by decide⟩, hn_BadFlows, su_BadFlows, op_BadFlows, ve_BadFlows, mr_BadFlows, to_BadFlows⟩⟩, PySem.W.mg_none_of X G zsup⟩
  have TE : TxE l.prog K mg AH := ⟨hh, es, oe_BadCount, oe_BadHouses, oe_BadHighs, oe_BadNumber, oe_BadPlace, oe_BadPoint, oe_BadPrices, oe_BadReaches, oe_BadRooms, oe_BadShare, oe_NotTree, oe_TooMany, oe_BadWeb, oe_BadFlows⟩
  refine lawAt X own l48 rfl rfl lcL vL nL hL (fun s v => .of_eq rfl) fun base _ _ TB => ?_
  have F0 := fun_mk (st := st__law_taken) l0 c0 k0
  have B0 := F0.binds (ps := ["_law_row", "_law_many"]) fun _ _ _ _ _ _ us hl => match us, hl with | [_, _], _ => rfl
  have O0 := ok__law_taken (P := l.prog) (w := w) (base := base) F0 T 
  have C0 : Cal l.prog w K mg base 1 "_law_taken" _ := ⟨⟨_, _, _, O0, PySem.W.mg_of X G a0, k0, B0⟩⟩
  have F1 := fun_mk (st := st__law_told) l1 c1 k1
  have B1 := F1.binds (ps := ["_law_work"]) fun _ _ _ _ _ _ us hl => match us, hl with | [_], _ => rfl
  have C1 := ok__law_told (P := l.prog) (w := w) (base := base) F1 T TE  (PySem.W.mg_of X G a1) B1
  have F2 := fun_mk (st := st_is_in) l2 c2 k2
  have B2 := F2.binds (ps := ["value", "least", "most"]) fun _ _ _ _ _ _ us hl => match us, hl with | [_, _, _], _ => rfl
  have O2 := ok_is_in (P := l.prog) (w := w) (base := base) F2 T 
  have C2 : Cal l.prog w K mg base 1 "is_in" _ := ⟨⟨_, _, _, O2, PySem.W.mg_of X G a2, k2, B2⟩⟩
  have F3 := fun_mk (st := st_is_weights) l3 c3 k3
  have B3 := F3.binds (ps := ["value"]) fun _ _ _ _ _ _ us hl => match us, hl with | [_], _ => rfl
  have O3 := ok_is_weights (P := l.prog) (w := w) (base := base) F3 T C2
  have C3 : Cal l.prog w K mg base 2 "is_weights" _ := ⟨⟨_, _, _, O3, PySem.W.mg_of X G a3, k3, B3⟩⟩
  have F4 := fun_mk (st := st_is_road) l4 c4 k4
  have B4 := F4.binds (ps := ["value", "count"]) fun _ _ _ _ _ _ us hl => match us, hl with | [_, _], _ => rfl
  have O4 := ok_is_road (P := l.prog) (w := w) (base := base) F4 T C2
  have C4 : Cal l.prog w K mg base 2 "is_road" _ := ⟨⟨_, _, _, O4, PySem.W.mg_of X G a4, k4, B4⟩⟩
  have F5 := fun_mk (st := st_parts_in) l5 c5 k5
  have B5 := F5.binds (ps := ["points", "roads"]) fun _ _ _ _ _ _ us hl => match us, hl with | [_, _], _ => rfl
  have O5 := ok_parts_in (P := l.prog) (w := w) (base := base) F5 T 
  have C5 : Cal l.prog w K mg base 1 "parts_in" _ := ⟨⟨_, _, _, O5, PySem.W.mg_of X G a5, k5, B5⟩⟩
  have F6 := fun_mk (st := st_need_web) l6 c6 k6
  have B6 := F6.binds (ps := ["web"]) fun _ _ _ _ _ _ us hl => match us, hl with | [_], _ => rfl
  have O6 := ok_need_web (P := l.prog) (w := w) (base := base) F6 T TE C3 C4 C5
  have C6 : CalX l.prog w K mg base 3 "need_web" _ := ⟨⟨_, _, _, O6, PySem.W.mg_of X G a6, k6, B6⟩⟩
  have F7 := fun_mk (st := st_need_tree) l7 c7 k7
  have B7 := F7.binds (ps := ["web"]) fun _ _ _ _ _ _ us hl => match us, hl with | [_], _ => rfl
  have O7 := ok_need_tree (P := l.prog) (w := w) (base := base) F7 T TE C6
  have C7 : CalX l.prog w K mg base 4 "need_tree" _ := ⟨⟨_, _, _, O7, PySem.W.mg_of X G a7, k7, B7⟩⟩
  have F8 := fun_mk (st := st_need_reaches) l8 c8 k8
  have B8 := F8.binds (ps := ["tree", "reaches"]) fun _ _ _ _ _ _ us hl => match us, hl with | [_, _], _ => rfl
  have O8 := ok_need_reaches (P := l.prog) (w := w) (base := base) F8 T TE C7 C2
  have C8 : CalX l.prog w K mg base 5 "need_reaches" _ := ⟨⟨_, _, _, O8, PySem.W.mg_of X G a8, k8, B8⟩⟩
  have F9 := fun_mk (st := st_cover) l9 c9 k9
  have B9 := F9.binds (ps := ["tree", "reaches"]) fun _ _ _ _ _ _ us hl => match us, hl with | [_, _], _ => rfl
  have O9 := ok_cover (P := l.prog) (w := w) (base := base) F9 T TE C8
  have C9 : CalX l.prog w K mg base 6 "cover" _ := ⟨⟨_, _, _, O9, PySem.W.mg_of X G a9, k9, B9⟩⟩
  have F10 := fun_mk (st := st_shows_cover) l10 c10 k10
  have B10 := F10.binds (ps := ["tree", "reaches", "value"]) fun _ _ _ _ _ _ us hl => match us, hl with | [_, _, _], _ => rfl
  have O10 := ok_shows_cover (P := l.prog) (w := w) (base := base) F10 T TE C8
  have C10 : CalX l.prog w K mg base 6 "shows_cover" _ := ⟨⟨_, _, _, O10, PySem.W.mg_of X G a10, k10, B10⟩⟩
  have F11 := fun_mk (st := st_need_point) l11 c11 k11
  have B11 := F11.binds (ps := ["web", "point"]) fun _ _ _ _ _ _ us hl => match us, hl with | [_, _], _ => rfl
  have O11 := ok_need_point (P := l.prog) (w := w) (base := base) F11 T TE C2
  have C11 : CalX l.prog w K mg base 2 "need_point" _ := ⟨⟨_, _, _, O11, PySem.W.mg_of X G a11, k11, B11⟩⟩
  have F12 := fun_mk (st := st_side_weights) l12 c12 k12
  have B12 := F12.binds (ps := ["tree", "point"]) fun _ _ _ _ _ _ us hl => match us, hl with | [_, _], _ => rfl
  have O12 := ok_side_weights (P := l.prog) (w := w) (base := base) F12 T TE C7 C11
  have C12 : CalX l.prog w K mg base 5 "side_weights" _ := ⟨⟨_, _, _, O12, PySem.W.mg_of X G a12, k12, B12⟩⟩
  have F13 := fun_mk (st := st_way) l13 c13 k13
  have B13 := F13.binds (ps := ["web", "a", "b"]) fun _ _ _ _ _ _ us hl => match us, hl with | [_, _, _], _ => rfl
  have O13 := ok_way (P := l.prog) (w := w) (base := base) F13 T TE C6 C11
  have C13 : CalX l.prog w K mg base 4 "way" _ := ⟨⟨_, _, _, O13, PySem.W.mg_of X G a13, k13, B13⟩⟩
  have F14 := fun_mk (st := st_ball) l14 c14 k14
  have B14 := F14.binds (ps := ["web", "point", "radius"]) fun _ _ _ _ _ _ us hl => match us, hl with | [_, _, _], _ => rfl
  have O14 := ok_ball (P := l.prog) (w := w) (base := base) F14 T TE C6 C11 C2
  have C14 : CalX l.prog w K mg base 4 "ball" _ := ⟨⟨_, _, _, O14, PySem.W.mg_of X G a14, k14, B14⟩⟩
  have F15 := fun_mk (st := st_need_ends) l15 c15 k15
  have B15 := F15.binds (ps := ["tree", "a", "b"]) fun _ _ _ _ _ _ us hl => match us, hl with | [_, _, _], _ => rfl
  have O15 := ok_need_ends (P := l.prog) (w := w) (base := base) F15 T TE C7 C11
  have C15 : CalX l.prog w K mg base 5 "need_ends" _ := ⟨⟨_, _, _, O15, PySem.W.mg_of X G a15, k15, B15⟩⟩
  have F16 := fun_mk (st := st_way_sum) l16 c16 k16
  have B16 := F16.binds (ps := ["tree", "a", "b"]) fun _ _ _ _ _ _ us hl => match us, hl with | [_, _, _], _ => rfl
  have O16 := ok_way_sum (P := l.prog) (w := w) (base := base) F16 T TE C15
  have C16 : CalX l.prog w K mg base 6 "way_sum" _ := ⟨⟨_, _, _, O16, PySem.W.mg_of X G a16, k16, B16⟩⟩
  have F17 := fun_mk (st := st_need_prices) l17 c17 k17
  have B17 := F17.binds (ps := ["tree", "reaches", "prices"]) fun _ _ _ _ _ _ us hl => match us, hl with | [_, _, _], _ => rfl
  have O17 := ok_need_prices (P := l.prog) (w := w) (base := base) F17 T TE C8 C2
  have C17 : CalX l.prog w K mg base 6 "need_prices" _ := ⟨⟨_, _, _, O17, PySem.W.mg_of X G a17, k17, B17⟩⟩
  have F18 := fun_mk (st := st_priced_cover) l18 c18 k18
  have B18 := F18.binds (ps := ["tree", "reaches", "prices"]) fun _ _ _ _ _ _ us hl => match us, hl with | [_, _, _], _ => rfl
  have O18 := ok_priced_cover (P := l.prog) (w := w) (base := base) F18 T TE C17
  have C18 : CalX l.prog w K mg base 7 "priced_cover" _ := ⟨⟨_, _, _, O18, PySem.W.mg_of X G a18, k18, B18⟩⟩
  have F19 := fun_mk (st := st_need_count) l19 c19 k19
  have B19 := F19.binds (ps := ["web", "count"]) fun _ _ _ _ _ _ us hl => match us, hl with | [_, _], _ => rfl
  have O19 := ok_need_count (P := l.prog) (w := w) (base := base) F19 T TE C2
  have C19 : CalX l.prog w K mg base 2 "need_count" _ := ⟨⟨_, _, _, O19, PySem.W.mg_of X G a19, k19, B19⟩⟩
  have F20 := fun_mk (st := st_need_both_r) l20 c20 k20
  have B20 := F20.binds (ps := ["tree", "count"]) fun _ _ _ _ _ _ us hl => match us, hl with | [_, _], _ => rfl
  have O20 := ok_need_both_r (P := l.prog) (w := w) (base := base) F20 T TE C7 C19
  have C20 : CalX l.prog w K mg base 5 "need_both_reachings" _ := ⟨⟨_, _, _, O20, PySem.W.mg_of X G a20, k20, B20⟩⟩
  have F21 := fun_mk (st := st_least_reach) l21 c21 k21
  have B21 := F21.binds (ps := ["tree", "count"]) fun _ _ _ _ _ _ us hl => match us, hl with | [_, _], _ => rfl
  have O21 := ok_least_reach (P := l.prog) (w := w) (base := base) F21 T TE C20
  have C21 : CalX l.prog w K mg base 6 "least_reach" _ := ⟨⟨_, _, _, O21, PySem.W.mg_of X G a21, k21, B21⟩⟩
  have F22 := fun_mk (st := st_gcd) l22 c22 k22
  have B22 := F22.binds (ps := ["one", "other"]) fun _ _ _ _ _ _ us hl => match us, hl with | [_, _], _ => rfl
  have O22 := ok_gcd (P := l.prog) (w := w) (base := base) F22 T 
  have C22 : Cal l.prog w K mg base 1 "gcd" _ := ⟨⟨_, _, _, O22, PySem.W.mg_of X G a22, k22, B22⟩⟩
  have F23 := fun_mk (st := st_is_ratio) l23 c23 k23
  have B23 := F23.binds (ps := ["value"]) fun _ _ _ _ _ _ us hl => match us, hl with | [_], _ => rfl
  have O23 := ok_is_ratio (P := l.prog) (w := w) (base := base) F23 T C22
  have C23 : Cal l.prog w K mg base 2 "is_ratio" _ := ⟨⟨_, _, _, O23, PySem.W.mg_of X G a23, k23, B23⟩⟩
  have F24 := fun_mk (st := st_need_share) l24 c24 k24
  have B24 := F24.binds (ps := ["share"]) fun _ _ _ _ _ _ us hl => match us, hl with | [_], _ => rfl
  have O24 := ok_need_share (P := l.prog) (w := w) (base := base) F24 T TE C23
  have C24 : CalX l.prog w K mg base 3 "need_share" _ := ⟨⟨_, _, _, O24, PySem.W.mg_of X G a24, k24, B24⟩⟩
  have F25 := fun_mk (st := st_best_mixed) l25 c25 k25
  have B25 := F25.binds (ps := ["tree", "share"]) fun _ _ _ _ _ _ us hl => match us, hl with | [_, _], _ => rfl
  have O25 := ok_best_mixed (P := l.prog) (w := w) (base := base) F25 T TE C7 C24
  have C25 : CalX l.prog w K mg base 5 "best_mixed" _ := ⟨⟨_, _, _, O25, PySem.W.mg_of X G a25, k25, B25⟩⟩
  have F26 := fun_mk (st := st_is_below) l26 c26 k26
  have B26 := F26.binds (ps := ["one", "other"]) fun _ _ _ _ _ _ us hl => match us, hl with | [_, _], _ => rfl
  have O26 := ok_is_below (P := l.prog) (w := w) (base := base) F26 T 
  have C26 : Cal l.prog w K mg base 1 "is_below" _ := ⟨⟨_, _, _, O26, PySem.W.mg_of X G a26, k26, B26⟩⟩
  have F27 := fun_mk (st := st_is_place) l27 c27 k27
  have B27 := F27.binds (ps := ["web", "value"]) fun _ _ _ _ _ _ us hl => match us, hl with | [_, _], _ => rfl
  have O27 := ok_is_place (P := l.prog) (w := w) (base := base) F27 T C2 C23 C26
  have C27 : Cal l.prog w K mg base 3 "is_place" _ := ⟨⟨_, _, _, O27, PySem.W.mg_of X G a27, k27, B27⟩⟩
  have F28 := fun_mk (st := st_need_place) l28 c28 k28
  have B28 := F28.binds (ps := ["web", "place"]) fun _ _ _ _ _ _ us hl => match us, hl with | [_, _], _ => rfl
  have O28 := ok_need_place (P := l.prog) (w := w) (base := base) F28 T TE C6 C27
  have C28 : CalX l.prog w K mg base 4 "need_place" _ := ⟨⟨_, _, _, O28, PySem.W.mg_of X G a28, k28, B28⟩⟩
  have F29 := fun_mk (st := st_mixed) l29 c29 k29
  have B29 := F29.binds (ps := ["web", "place", "share"]) fun _ _ _ _ _ _ us hl => match us, hl with | [_, _, _], _ => rfl
  have O29 := ok_mixed (P := l.prog) (w := w) (base := base) F29 T TE C28 C24
  have C29 : CalX l.prog w K mg base 5 "mixed" _ := ⟨⟨_, _, _, O29, PySem.W.mg_of X G a29, k29, B29⟩⟩
  have F30 := fun_mk (st := st_need_number) l30 c30 k30
  have B30 := F30.binds (ps := ["web", "count"]) fun _ _ _ _ _ _ us hl => match us, hl with | [_, _], _ => rfl
  have O30 := ok_need_number (P := l.prog) (w := w) (base := base) F30 T TE C6 C19
  have C30 : CalX l.prog w K mg base 4 "need_number" _ := ⟨⟨_, _, _, O30, PySem.W.mg_of X G a30, k30, B30⟩⟩
  have F31 := fun_mk (st := st_first_houses) l31 c31 k31
  have B31 := F31.binds (ps := ["web", "count"]) fun _ _ _ _ _ _ us hl => match us, hl with | [_, _], _ => rfl
  have O31 := ok_first_houses (P := l.prog) (w := w) (base := base) F31 T TE C30
  have C31 : CalX l.prog w K mg base 5 "first_houses" _ := ⟨⟨_, _, _, O31, PySem.W.mg_of X G a31, k31, B31⟩⟩
  have F32 := fun_mk (st := st_need_houses) l32 c32 k32
  have B32 := F32.binds (ps := ["web", "houses"]) fun _ _ _ _ _ _ us hl => match us, hl with | [_, _], _ => rfl
  have O32 := ok_need_houses (P := l.prog) (w := w) (base := base) F32 T TE C2
  have C32 : CalX l.prog w K mg base 2 "need_houses" _ := ⟨⟨_, _, _, O32, PySem.W.mg_of X G a32, k32, B32⟩⟩
  have F33 := fun_mk (st := st_need_both) l33 c33 k33
  have B33 := F33.binds (ps := ["web", "houses"]) fun _ _ _ _ _ _ us hl => match us, hl with | [_, _], _ => rfl
  have O33 := ok_need_both (P := l.prog) (w := w) (base := base) F33 T TE C6 C32
  have C33 : CalX l.prog w K mg base 4 "need_both_houses" _ := ⟨⟨_, _, _, O33, PySem.W.mg_of X G a33, k33, B33⟩⟩
  have F34 := fun_mk (st := st_houses_answer) l34 c34 k34
  have B34 := F34.binds (ps := ["web", "houses", "count"]) fun _ _ _ _ _ _ us hl => match us, hl with | [_, _, _], _ => rfl
  have O34 := ok_houses_answer (P := l.prog) (w := w) (base := base) F34 T TE C33 C19
  have C34 : CalX l.prog w K mg base 5 "houses_answer" _ := ⟨⟨_, _, _, O34, PySem.W.mg_of X G a34, k34, B34⟩⟩
  have F35 := fun_mk (st := st_need_loyalty) l35 c35 k35
  have B35 := F35.binds (ps := ["loyalty"]) fun _ _ _ _ _ _ us hl => match us, hl with | [_], _ => rfl
  have O35 := ok_need_loyalty (P := l.prog) (w := w) (base := base) F35 T TE C2
  have C35 : CalX l.prog w K mg base 2 "need_loyalty" _ := ⟨⟨_, _, _, O35, PySem.W.mg_of X G a35, k35, B35⟩⟩
  have F36 := fun_mk (st := st_loyal_share) l36 c36 k36
  have B36 := F36.binds (ps := ["web", "a", "b", "loyalty"]) fun _ _ _ _ _ _ us hl => match us, hl with | [_, _, _, _], _ => rfl
  have O36 := ok_loyal_share (P := l.prog) (w := w) (base := base) F36 T TE C6 C11 C35
  have C36 : CalX l.prog w K mg base 4 "loyal_share" _ := ⟨⟨_, _, _, O36, PySem.W.mg_of X G a36, k36, B36⟩⟩
  have F37 := fun_mk (st := st_need_rooms) l37 c37 k37
  have B37 := F37.binds (ps := ["web", "houses", "rooms"]) fun _ _ _ _ _ _ us hl => match us, hl with | [_, _, _], _ => rfl
  have O37 := ok_need_rooms (P := l.prog) (w := w) (base := base) F37 T TE C33 C2
  have C37 : CalX l.prog w K mg base 5 "need_rooms" _ := ⟨⟨_, _, _, O37, PySem.W.mg_of X G a37, k37, B37⟩⟩
  have F38 := fun_mk (st := st_serving) l38 c38 k38
  have B38 := F38.binds (ps := ["web", "houses", "rooms"]) fun _ _ _ _ _ _ us hl => match us, hl with | [_, _, _], _ => rfl
  have O38 := ok_serving (P := l.prog) (w := w) (base := base) F38 T TE C37
  have C38 : CalX l.prog w K mg base 6 "serving" _ := ⟨⟨_, _, _, O38, PySem.W.mg_of X G a38, k38, B38⟩⟩
  have F39 := fun_mk (st := st_need_reach) l39 c39 k39
  have B39 := F39.binds (ps := ["web", "houses", "rooms", "reach"]) fun _ _ _ _ _ _ us hl => match us, hl with | [_, _, _, _], _ => rfl
  have O39 := ok_need_reach (P := l.prog) (w := w) (base := base) F39 T TE C37 C2
  have C39 : CalX l.prog w K mg base 6 "need_reach" _ := ⟨⟨_, _, _, O39, PySem.W.mg_of X G a39, k39, B39⟩⟩
  have F40 := fun_mk (st := st_crowd) l40 c40 k40
  have B40 := F40.binds (ps := ["web", "houses", "rooms", "reach"]) fun _ _ _ _ _ _ us hl => match us, hl with | [_, _, _, _], _ => rfl
  have O40 := ok_crowd (P := l.prog) (w := w) (base := base) F40 T TE C39
  have C40 : CalX l.prog w K mg base 7 "crowd" _ := ⟨⟨_, _, _, O40, PySem.W.mg_of X G a40, k40, B40⟩⟩
  have F41 := fun_mk (st := st_need_highs) l41 c41 k41
  have B41 := F41.binds (ps := ["web", "highs"]) fun _ _ _ _ _ _ us hl => match us, hl with | [_, _], _ => rfl
  have O41 := ok_need_highs (P := l.prog) (w := w) (base := base) F41 T TE C6 C2
  have C41 : CalX l.prog w K mg base 4 "need_highs" _ := ⟨⟨_, _, _, O41, PySem.W.mg_of X G a41, k41, B41⟩⟩
  have F42 := fun_mk (st := st_need_all) l42 c42 k42
  have B42 := F42.binds (ps := ["web", "highs", "point"]) fun _ _ _ _ _ _ us hl => match us, hl with | [_, _, _], _ => rfl
  have O42 := ok_need_all (P := l.prog) (w := w) (base := base) F42 T TE C41 C11
  have C42 : CalX l.prog w K mg base 5 "need_all" _ := ⟨⟨_, _, _, O42, PySem.W.mg_of X G a42, k42, B42⟩⟩
  have F43 := fun_mk (st := st_weights_for) l43 c43 k43
  have B43 := F43.binds (ps := ["web", "highs", "point"]) fun _ _ _ _ _ _ us hl => match us, hl with | [_, _, _], _ => rfl
  have O43 := ok_weights_for (P := l.prog) (w := w) (base := base) F43 T TE C42
  have C43 : CalX l.prog w K mg base 6 "weights_for" _ := ⟨⟨_, _, _, O43, PySem.W.mg_of X G a43, k43, B43⟩⟩
  have F44 := fun_mk (st := st_growing_best) l44 c44 k44
  have B44 := F44.binds (ps := ["web", "point", "most"]) fun _ _ _ _ _ _ us hl => match us, hl with | [_, _, _], _ => rfl
  have O44 := ok_growing_best (P := l.prog) (w := w) (base := base) F44 T TE C6 C11 C2
  have C44 : CalX l.prog w K mg base 4 "growing_best" _ := ⟨⟨_, _, _, O44, PySem.W.mg_of X G a44, k44, B44⟩⟩
  have F45 := fun_mk (st := st_need_flows) l45 c45 k45
  have B45 := F45.binds (ps := ["web", "flows"]) fun _ _ _ _ _ _ us hl => match us, hl with | [_, _], _ => rfl
  have O45 := ok_need_flows (P := l.prog) (w := w) (base := base) F45 T TE C6 C2
  have C45 : CalX l.prog w K mg base 4 "need_flows" _ := ⟨⟨_, _, _, O45, PySem.W.mg_of X G a45, k45, B45⟩⟩
  have F46 := fun_mk (st := st_hub_cost) l46 c46 k46
  have B46 := F46.binds (ps := ["web", "flows", "hubs", "share"]) fun _ _ _ _ _ _ us hl => match us, hl with | [_, _, _, _], _ => rfl
  have O46 := ok_hub_cost (P := l.prog) (w := w) (base := base) F46 T TE C45 C32 C24
  have C46 : CalX l.prog w K mg base 5 "hub_cost" _ := ⟨⟨_, _, _, O46, PySem.W.mg_of X G a46, k46, B46⟩⟩
  have F47 := fun_mk (st := st_best_homes) l47 c47 k47
  have B47 := F47.binds (ps := ["web", "flows", "hubs", "share"]) fun _ _ _ _ _ _ us hl => match us, hl with | [_, _, _, _], _ => rfl
  have O47 := ok_best_homes (P := l.prog) (w := w) (base := base) F47 T TE C45 C32 C24
  have C47 : CalX l.prog w K mg base 5 "best_homes" _ := ⟨⟨_, _, _, O47, PySem.W.mg_of X G a47, k47, B47⟩⟩
  have F48 := fun_mk (st := st_law) l48 c48 k48
  exact ok_law l48 c48 TB T TE C0 C1 C9 C10 C12 C13 C14 C16 C18 C21 C25 C29 C31 C34 C36 C38 C40 C43 C44 C46 C47 H
theorem walk {l : PySem.W.OpenLaw} {q : Program} {loose : List Str} {XP : (Str → Option Value) → Heap → Prop} {YP : World → Heap → Prop} {d : DefRec} {K : Params → PySem.W.Frag} (hn : l.most = some 63) (hdf : d.params.defaults = []) (hrec : ((recsOf q).any fun e => e.name == d.name) = true)
    (hY : ∀ (w : World) (h : Heap), YP w h → (K w.params).In h)
    (F : ∀ (w : World) (mg : Str → Option Value) (fa : Addr) (h : Heap), (K w.params).In h → h.Ns mainGlobals mg → mg d.name = some (.ref fa) → OwnTab (K w.params) fa h → LawAtS l w (K w.params) C8.CX0 10 63 "_law_script" mg fa h) :
    PySem.W.WalkO q loose XP YP l.row.toRowW d [] (fun f vs => PySem.call f vs) :=
  LamX.walk_ofOwn (n := 63) (k := 10) (x := "_law_script") (CX := fun _ => C8.CX0) hn (by decide) hdf ⟨rfl, by decide, by decide⟩ hrec hY (fun w mg fa h _ X G hm o => F w mg fa h X G hm o) fun _ _ _ _ _ z => z
end DG
def PySem.W.Fast.tw5826198728146927263 : Nat := 0
def PySem.W.Fast.tw12724440872470830656 : Nat := 0
def PySem.W.Fast.tw13779082958372950722 : Nat := 0
def PySem.W.Fast.tw4495284367269100512 : Nat := 0
def PySem.W.Fast.tw14856526454599144203 : Nat := 0
def PySem.W.Fast.tw8221610678029644357 : Nat := 0
open PySem PySem.W PyProof.Rows in
set_option maxRecDepth 100000 in
set_option maxHeartbeats 0 in
theorem PySem.Challenge.cw_nearhouses_k99_order_of_errors_holds : PySem.Challenge.rw_nearhouses_k99_order_of_errors.Holds := by
  w_on; o_law; k_head; (case hw => w_witness2)
  k_fill
  refine DG.walk (l := PySem.Challenge.rw_nearhouses_k99_order_of_errors) rfl rfl (by decide +kernel) (fun w h Y => by first | exact PySem.W.km_in_of Y | exact PySem.W.kIn_of Y) ?F
  case F =>
    intro w mg fa h KX G hmg own
    refine' DG.all_mk KX G hmg own DG.law_true ?a0 ?l0 ?c0 ?k0 ?a1 ?l1 ?c1 ?k1 ?a2 ?l2 ?c2 ?k2 ?a3 ?l3 ?c3 ?k3 ?a4 ?l4 ?c4 ?k4 ?a5 ?l5 ?c5 ?k5 ?a6 ?l6 ?c6 ?k6 ?a7 ?l7 ?c7 ?k7 ?a8 ?l8 ?c8 ?k8 ?a9 ?l9 ?c9 ?k9 ?a10 ?l10 ?c10 ?k10 ?a11 ?l11 ?c11 ?k11 ?a12 ?l12 ?c12 ?k12 ?a13 ?l13 ?c13 ?k13 ?a14 ?l14 ?c14 ?k14 ?a15 ?l15 ?c15 ?k15 ?a16 ?l16 ?c16 ?k16 ?a17 ?l17 ?c17 ?k17 ?a18 ?l18 ?c18 ?k18 ?a19 ?l19 ?c19 ?k19 ?a20 ?l20 ?c20 ?k20 ?a21 ?l21 ?c21 ?k21 ?a22 ?l22 ?c22 ?k22 ?a23 ?l23 ?c23 ?k23 ?a24 ?l24 ?c24 ?k24 ?a25 ?l25 ?c25 ?k25 ?a26 ?l26 ?c26 ?k26 ?a27 ?l27 ?c27 ?k27 ?a28 ?l28 ?c28 ?k28 ?a29 ?l29 ?c29 ?k29 ?a30 ?l30 ?c30 ?k30 ?a31 ?l31 ?c31 ?k31 ?a32 ?l32 ?c32 ?k32 ?a33 ?l33 ?c33 ?k33 ?a34 ?l34 ?c34 ?k34 ?a35 ?l35 ?c35 ?k35 ?a36 ?l36 ?c36 ?k36 ?a37 ?l37 ?c37 ?k37 ?a38 ?l38 ?c38 ?k38 ?a39 ?l39 ?c39 ?k39 ?a40 ?l40 ?c40 ?k40 ?a41 ?l41 ?c41 ?k41 ?a42 ?l42 ?c42 ?k42 ?a43 ?l43 ?c43 ?k43 ?a44 ?l44 ?c44 ?k44 ?a45 ?l45 ?c45 ?k45 ?a46 ?l46 ?c46 ?k46 ?a47 ?l47 ?c47 ?k47 ?a48 ?l48 ?c48 ?k48 ?z_int ?z_len ?z_isinstance ?z_bool ?z_tuple ?g_MOST_POINTS ?g_MOST_WEIGHT ?z_sum ?g_MOST_LENGTH ?z_list ?z_sorted ?g_MOST_ROADS ?z_enumerate ?z_range ?g_MOST_RADIUS ?g_MOST_PRICE ?z_abs ?g_MOST_FIRST ?z_set ?g_MOST_LOYALTY ?g_MOST_ROOM ?g_MOST_GROWN ?g_MOST_FLOW ?g_MOST_HUBS ?b_HouseError ?x_HouseError ?ty_HouseError ?hsp ?htk ?b_BadCount ?x_BadCount ?ty_BadCount ?ga_BadCount ?gg_BadCount ?cz_BadCount ?kC_BadCount ?ex_BadCount ?q_BadCount ?b_BadHouses ?x_BadHouses ?ty_BadHouses ?ga_BadHouses ?gg_BadHouses ?cz_BadHouses ?kC_BadHouses ?ex_BadHouses ?q_BadHouses ?b_BadHighs ?x_BadHighs ?ty_BadHighs ?ga_BadHighs ?gg_BadHighs ?cz_BadHighs ?kC_BadHighs ?ex_BadHighs ?q_BadHighs ?b_BadNumber ?x_BadNumber ?ty_BadNumber ?ga_BadNumber ?gg_BadNumber ?cz_BadNumber ?kC_BadNumber ?ex_BadNumber ?q_BadNumber ?b_BadPlace ?x_BadPlace ?ty_BadPlace ?ga_BadPlace ?gg_BadPlace ?cz_BadPlace ?kC_BadPlace ?ex_BadPlace ?q_BadPlace ?b_BadPoint ?x_BadPoint ?ty_BadPoint ?ga_BadPoint ?gg_BadPoint ?cz_BadPoint ?kC_BadPoint ?ex_BadPoint ?q_BadPoint ?b_BadPrices ?x_BadPrices ?ty_BadPrices ?ga_BadPrices ?gg_BadPrices ?cz_BadPrices ?kC_BadPrices ?ex_BadPrices ?q_BadPrices ?b_BadReaches ?x_BadReaches ?ty_BadReaches ?ga_BadReaches ?gg_BadReaches ?cz_BadReaches ?kC_BadReaches ?ex_BadReaches ?q_BadReaches ?b_BadRooms ?x_BadRooms ?ty_BadRooms ?ga_BadRooms ?gg_BadRooms ?cz_BadRooms ?kC_BadRooms ?ex_BadRooms ?q_BadRooms ?b_BadShare ?x_BadShare ?ty_BadShare ?ga_BadShare ?gg_BadShare ?cz_BadShare ?kC_BadShare ?ex_BadShare ?q_BadShare ?b_NotTree ?x_NotTree ?ty_NotTree ?ga_NotTree ?gg_NotTree ?cz_NotTree ?kC_NotTree ?ex_NotTree ?q_NotTree ?b_TooMany ?x_TooMany ?ty_TooMany ?ga_TooMany ?gg_TooMany ?cz_TooMany ?kC_TooMany ?ex_TooMany ?sa_TooMany ?in_TooMany ?ti_TooMany ?li_TooMany ?ci_TooMany ?lc_TooMany ?v2_TooMany ?fi_TooMany ?lk_TooMany ?hn_TooMany ?su_TooMany ?op_TooMany ?ve_TooMany ?mr_TooMany ?to_TooMany ?b_BadWeb ?x_BadWeb ?ty_BadWeb ?ga_BadWeb ?gg_BadWeb ?cz_BadWeb ?kC_BadWeb ?ex_BadWeb ?sa_BadWeb ?in_BadWeb ?ti_BadWeb ?li_BadWeb ?ci_BadWeb ?lc_BadWeb ?v2_BadWeb ?fi_BadWeb ?lk_BadWeb ?hn_BadWeb ?su_BadWeb ?op_BadWeb ?ve_BadWeb ?mr_BadWeb ?to_BadWeb ?b_BadFlows ?x_BadFlows ?ty_BadFlows ?ga_BadFlows ?gg_BadFlows ?cz_BadFlows ?kC_BadFlows ?ex_BadFlows ?sa_BadFlows ?in_BadFlows ?ti_BadFlows ?li_BadFlows ?ci_BadFlows ?lc_BadFlows ?v2_BadFlows ?fi_BadFlows ?lk_BadFlows ?hn_BadFlows ?su_BadFlows ?op_BadFlows ?ve_BadFlows ?mr_BadFlows ?to_BadFlows ?zsup ?lcL ?vL ?nL ?hL
    (case a0 => k_is)
    (case l0 => k_is)
    (case c0 => k_is)
    (case k0 => k_is)
    (case a1 => k_is)
    (case l1 => k_is)
    (case c1 => k_is)
    (case k1 => k_is)
    (case a2 => k_is)
    (case l2 => k_is)
    (case c2 => k_is)
    (case k2 => k_is)
    (case a3 => k_is)
    (case l3 => k_is)
    (case c3 => k_is)
    (case k3 => k_is)
    (case a4 => k_is)
    (case l4 => k_is)
    (case c4 => k_is)
    (case k4 => k_is)
    (case a5 => k_is)
    (case l5 => k_is)
    (case c5 => k_is)
    (case k5 => k_is)
    (case a6 => k_is)
    (case l6 => k_is)
    (case c6 => k_is)
    (case k6 => k_is)
    (case a7 => k_is)
    (case l7 => k_is)
    (case c7 => k_is)
    (case k7 => k_is)
    (case a8 => k_is)
    (case l8 => k_is)
    (case c8 => k_is)
    (case k8 => k_is)
    (case a9 => k_is)
    (case l9 => k_is)
    (case c9 => k_is)
    (case k9 => k_is)
    (case a10 => k_is)
    (case l10 => k_is)
    (case c10 => k_is)
    (case k10 => k_is)
    (case a11 => k_is)
    (case l11 => k_is)
    (case c11 => k_is)
    (case k11 => k_is)
    (case a12 => k_is)
    (case l12 => k_is)
    (case c12 => k_is)
    (case k12 => k_is)
    (case a13 => k_is)
    (case l13 => k_is)
    (case c13 => k_is)
    (case k13 => k_is)
    (case a14 => k_is)
    (case l14 => k_is)
    (case c14 => k_is)
    (case k14 => k_is)
    (case a15 => k_is)
    (case l15 => k_is)
    (case c15 => k_is)
    (case k15 => k_is)
    (case a16 => k_is)
    (case l16 => k_is)
    (case c16 => k_is)
    (case k16 => k_is)
    (case a17 => k_is)
    (case l17 => k_is)
    (case c17 => k_is)
    (case k17 => k_is)
    (case a18 => k_is)
    (case l18 => k_is)
    (case c18 => k_is)
    (case k18 => k_is)
    (case a19 => k_is)
    (case l19 => k_is)
    (case c19 => k_is)
    (case k19 => k_is)
    (case a20 => k_is)
    (case l20 => k_is)
    (case c20 => k_is)
    (case k20 => k_is)
    (case a21 => k_is)
    (case l21 => k_is)
    (case c21 => k_is)
    (case k21 => k_is)
    (case a22 => k_is)
    (case l22 => k_is)
    (case c22 => k_is)
    (case k22 => k_is)
    (case a23 => k_is)
    (case l23 => k_is)
    (case c23 => k_is)
    (case k23 => k_is)
    (case a24 => k_is)
    (case l24 => k_is)
    (case c24 => k_is)
    (case k24 => k_is)
    (case a25 => k_is)
    (case l25 => k_is)
    (case c25 => k_is)
    (case k25 => k_is)
    (case a26 => k_is)
    (case l26 => k_is)
    (case c26 => k_is)
    (case k26 => k_is)
    (case a27 => k_is)
    (case l27 => k_is)
    (case c27 => k_is)
    (case k27 => k_is)
    (case a28 => k_is)
    (case l28 => k_is)
    (case c28 => k_is)
    (case k28 => k_is)
    (case a29 => k_is)
    (case l29 => k_is)
    (case c29 => k_is)
    (case k29 => k_is)
    (case a30 => k_is)
    (case l30 => k_is)
    (case c30 => k_is)
    (case k30 => k_is)
    (case a31 => k_is)
    (case l31 => k_is)
    (case c31 => k_is)
    (case k31 => k_is)
    (case a32 => k_is)
    (case l32 => k_is)
    (case c32 => k_is)
    (case k32 => k_is)
    (case a33 => k_is)
    (case l33 => k_is)
    (case c33 => k_is)
    (case k33 => k_is)
    (case a34 => k_is)
    (case l34 => k_is)
    (case c34 => k_is)
    (case k34 => k_is)
    (case a35 => k_is)
    (case l35 => k_is)
    (case c35 => k_is)
    (case k35 => k_is)
    (case a36 => k_is)
    (case l36 => k_is)
    (case c36 => k_is)
    (case k36 => k_is)
    (case a37 => k_is)
    (case l37 => k_is)
    (case c37 => k_is)
    (case k37 => k_is)
    (case a38 => k_is)
    (case l38 => k_is)
    (case c38 => k_is)
    (case k38 => k_is)
    (case a39 => k_is)
    (case l39 => k_is)
    (case c39 => k_is)
    (case k39 => k_is)
    (case a40 => k_is)
    (case l40 => k_is)
    (case c40 => k_is)
    (case k40 => k_is)
    (case a41 => k_is)
    (case l41 => k_is)
    (case c41 => k_is)
    (case k41 => k_is)
    (case a42 => k_is)
    (case l42 => k_is)
    (case c42 => k_is)
    (case k42 => k_is)
    (case a43 => k_is)
    (case l43 => k_is)
    (case c43 => k_is)
    (case k43 => k_is)
    (case a44 => k_is)
    (case l44 => k_is)
    (case c44 => k_is)
    (case k44 => k_is)
    (case a45 => k_is)
    (case l45 => k_is)
    (case c45 => k_is)
    (case k45 => k_is)
    (case a46 => k_is)
    (case l46 => k_is)
    (case c46 => k_is)
    (case k46 => k_is)
    (case a47 => k_is)
    (case l47 => k_is)
    (case c47 => k_is)
    (case k47 => k_is)
    (case a48 => k_is)
    (case l48 => k_is)
    (case c48 => k_is)
    (case k48 => k_is)
    (case z_int => k_is)
    (case z_len => k_is)
    (case z_isinstance => k_is)
    (case z_bool => k_is)
    (case z_tuple => k_is)
    (case g_MOST_POINTS => k_is)
    (case g_MOST_WEIGHT => k_is)
    (case z_sum => k_is)
    (case g_MOST_LENGTH => k_is)
    (case z_list => k_is)
    (case z_sorted => k_is)
    (case g_MOST_ROADS => k_is)
    (case z_enumerate => k_is)
    (case z_range => k_is)
    (case g_MOST_RADIUS => k_is)
    (case g_MOST_PRICE => k_is)
    (case z_abs => k_is)
    (case g_MOST_FIRST => k_is)
    (case z_set => k_is)
    (case g_MOST_LOYALTY => k_is)
    (case g_MOST_ROOM => k_is)
    (case g_MOST_GROWN => k_is)
    (case g_MOST_FLOW => k_is)
    (case g_MOST_HUBS => k_is)
    (case b_HouseError => k_is)
    (case x_HouseError => k_is)
    (case ty_HouseError => k_is)
    (case hsp => k_is)
    (case htk => k_is)
    (case b_BadCount => k_is)
    (case x_BadCount => k_is)
    (case ty_BadCount => k_is)
    (case ga_BadCount => k_is)
    (case gg_BadCount => k_is)
    (case cz_BadCount => k_is)
    (case kC_BadCount => k_is)
    (case ex_BadCount => k_is)
    (case q_BadCount => first | kernel_rfl | rfl)
    (case b_BadHouses => k_is)
    (case x_BadHouses => k_is)
    (case ty_BadHouses => k_is)
    (case ga_BadHouses => k_is)
    (case gg_BadHouses => k_is)
    (case cz_BadHouses => k_is)
    (case kC_BadHouses => k_is)
    (case ex_BadHouses => k_is)
    (case q_BadHouses => first | kernel_rfl | rfl)
    (case b_BadHighs => k_is)
    (case x_BadHighs => k_is)
    (case ty_BadHighs => k_is)
    (case ga_BadHighs => k_is)
    (case gg_BadHighs => k_is)
    (case cz_BadHighs => k_is)
    (case kC_BadHighs => k_is)
    (case ex_BadHighs => k_is)
    (case q_BadHighs => first | kernel_rfl | rfl)
    (case b_BadNumber => k_is)
    (case x_BadNumber => k_is)
    (case ty_BadNumber => k_is)
    (case ga_BadNumber => k_is)
    (case gg_BadNumber => k_is)
    (case cz_BadNumber => k_is)
    (case kC_BadNumber => k_is)
    (case ex_BadNumber => k_is)
    (case q_BadNumber => first | kernel_rfl | rfl)
    (case b_BadPlace => k_is)
    (case x_BadPlace => k_is)
    (case ty_BadPlace => k_is)
    (case ga_BadPlace => k_is)
    (case gg_BadPlace => k_is)
    (case cz_BadPlace => k_is)
    (case kC_BadPlace => k_is)
    (case ex_BadPlace => k_is)
    (case q_BadPlace => first | kernel_rfl | rfl)
    (case b_BadPoint => k_is)
    (case x_BadPoint => k_is)
    (case ty_BadPoint => k_is)
    (case ga_BadPoint => k_is)
    (case gg_BadPoint => k_is)
    (case cz_BadPoint => k_is)
    (case kC_BadPoint => k_is)
    (case ex_BadPoint => k_is)
    (case q_BadPoint => first | kernel_rfl | rfl)
    (case b_BadPrices => k_is)
    (case x_BadPrices => k_is)
    (case ty_BadPrices => k_is)
    (case ga_BadPrices => k_is)
    (case gg_BadPrices => k_is)
    (case cz_BadPrices => k_is)
    (case kC_BadPrices => k_is)
    (case ex_BadPrices => k_is)
    (case q_BadPrices => first | kernel_rfl | rfl)
    (case b_BadReaches => k_is)
    (case x_BadReaches => k_is)
    (case ty_BadReaches => k_is)
    (case ga_BadReaches => k_is)
    (case gg_BadReaches => k_is)
    (case cz_BadReaches => k_is)
    (case kC_BadReaches => k_is)
    (case ex_BadReaches => k_is)
    (case q_BadReaches => first | kernel_rfl | rfl)
    (case b_BadRooms => k_is)
    (case x_BadRooms => k_is)
    (case ty_BadRooms => k_is)
    (case ga_BadRooms => k_is)
    (case gg_BadRooms => k_is)
    (case cz_BadRooms => k_is)
    (case kC_BadRooms => k_is)
    (case ex_BadRooms => k_is)
    (case q_BadRooms => first | kernel_rfl | rfl)
    (case b_BadShare => k_is)
    (case x_BadShare => k_is)
    (case ty_BadShare => k_is)
    (case ga_BadShare => k_is)
    (case gg_BadShare => k_is)
    (case cz_BadShare => k_is)
    (case kC_BadShare => k_is)
    (case ex_BadShare => k_is)
    (case q_BadShare => first | kernel_rfl | rfl)
    (case b_NotTree => k_is)
    (case x_NotTree => k_is)
    (case ty_NotTree => k_is)
    (case ga_NotTree => k_is)
    (case gg_NotTree => k_is)
    (case cz_NotTree => k_is)
    (case kC_NotTree => k_is)
    (case ex_NotTree => k_is)
    (case q_NotTree => first | kernel_rfl | rfl)
    (case b_TooMany => k_is)
    (case x_TooMany => k_is)
    (case ty_TooMany => k_is)
    (case ga_TooMany => k_is)
    (case gg_TooMany => k_is)
    (case cz_TooMany => k_is)
    (case kC_TooMany => k_is)
    (case ex_TooMany => k_is)
    (case sa_TooMany => k_is)
    (case in_TooMany => k_is)
    (case ti_TooMany => k_is)
    (case li_TooMany => k_is)
    (case ci_TooMany => k_is)
    (case lc_TooMany => k_is)
    (case v2_TooMany => first | rfl | kernel_rfl)
    (case fi_TooMany => first | kernel_rfl | rfl)
    (case lk_TooMany => k_is)
    (case hn_TooMany => k_is)
    (case su_TooMany => ks_is)
    (case op_TooMany => k_is)
    (case ve_TooMany => k_is)
    (case mr_TooMany => k_is)
    (case to_TooMany => first | kernel_rfl | rfl)
    (case b_BadWeb => k_is)
    (case x_BadWeb => k_is)
    (case ty_BadWeb => k_is)
    (case ga_BadWeb => k_is)
    (case gg_BadWeb => k_is)
    (case cz_BadWeb => k_is)
    (case kC_BadWeb => k_is)
    (case ex_BadWeb => k_is)
    (case sa_BadWeb => k_is)
    (case in_BadWeb => k_is)
    (case ti_BadWeb => k_is)
    (case li_BadWeb => k_is)
    (case ci_BadWeb => k_is)
    (case lc_BadWeb => k_is)
    (case v2_BadWeb => first | rfl | kernel_rfl)
    (case fi_BadWeb => first | kernel_rfl | rfl)
    (case lk_BadWeb => k_is)
    (case hn_BadWeb => k_is)
    (case su_BadWeb => ks_is)
    (case op_BadWeb => k_is)
    (case ve_BadWeb => k_is)
    (case mr_BadWeb => k_is)
    (case to_BadWeb => first | kernel_rfl | rfl)
    (case b_BadFlows => k_is)
    (case x_BadFlows => k_is)
    (case ty_BadFlows => k_is)
    (case ga_BadFlows => k_is)
    (case gg_BadFlows => k_is)
    (case cz_BadFlows => k_is)
    (case kC_BadFlows => k_is)
    (case ex_BadFlows => k_is)
    (case sa_BadFlows => k_is)
    (case in_BadFlows => k_is)
    (case ti_BadFlows => k_is)
    (case li_BadFlows => k_is)
    (case ci_BadFlows => k_is)
    (case lc_BadFlows => k_is)
    (case v2_BadFlows => first | rfl | kernel_rfl)
    (case fi_BadFlows => first | kernel_rfl | rfl)
    (case lk_BadFlows => k_is)
    (case hn_BadFlows => k_is)
    (case su_BadFlows => ks_is)
    (case op_BadFlows => k_is)
    (case ve_BadFlows => k_is)
    (case mr_BadFlows => k_is)
    (case to_BadFlows => first | kernel_rfl | rfl)
    (case zsup => k_is)
    (case lcL => k_is)
    (case vL => first | rfl | kernel_rfl)
    (case nL => first | kernel_rfl | rfl)
    (case hL => first | kernel_rfl | rfl)
