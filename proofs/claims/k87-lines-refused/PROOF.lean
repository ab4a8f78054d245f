import PyProof.Rows.All
import Wide.All
import OpenK.AllK
import Wide.FinOn
import HandS.ForMost
import HandS.IsInst
import HandS.TupAny
import HandS.TupMul
import HandS.Wide
import HandS.Style
import HandS.Flow
import HandS.Deep
import KE.DataMinMax
import KE.DataCmp
import KE.SortData
import KE.DataFind
import PyProof.Rows.InDataRows
import KE.SortKeyHeap
import KE.GoesEnum
import KE.GoesMore
import HandS.Conv
import HandS.Strs
import HandS.SetFor
import KE.SortCalls
import HandS.TupSets
import KE.KSortKey
import HandS.Small
import HandS.DictTup
import KE.KDictSum
import KE.KDictList
import HandS.CallLocal
import KE.KDictCopyH
import HandS.WordsExc
import HandS.CallSlots
import HandS.ExcInit
import HandS.ExcField
import HandS.ExcIs
import KE.KExcIs
import KE.KExcSuper
import HandS.Lambda
import HandS.Nested
import HandS.EndOwn
import KE.KNestM
import HandS.Text
import HandS.Property
import HandS.More
import KE.DatumOrd
import KE.BitLaws
import HandS.WideBits
import PySem.Challenge.RW_nearhouses_k87_lines_refused
set_option Elab.async false
set_option linter.all false
set_option maxRecDepth 100000
namespace L2
open PySem PySem.Spec PyProof.Rows
theorem sameT {K : PySem.W.Frag} {H H' : Hp} {a : Addr} {xs : List V} (e : Same H H') (h : SqT K H a xs) : SqT K H' a xs := by
  rcases h with (h | ⟨o, h⟩) | h
  · exact .inl (.inl (e _ _ h))
  · exact .inl (.inr ⟨o, e _ _ h⟩)
  · exact .inr h
end L2
namespace DL
open PySem PySem.Spec PyProof.Rows L2
def kD : Key → PyData
  | .inl i => .int i
  | .inr x => .str x
theorem sqT_of {K : PySem.W.Frag} {H : Hp} {a : Addr} {xs : List V} (h : H a = some (.tup xs)) : SqT K H a xs := .inl (.inl h)
mutual
inductive Dp (K : PySem.W.Frag) (H : Hp) : V → PyData → Prop
  | non : Dp K H .non .none
  | bl (b : Bool) : Dp K H (.bl b) (.bool b)
  | int (i : Int) : Dp K H (.int i) (.int i)
  | str (x : Str) : Dp K H (.str x) (.str x)
  | dic {a : Addr} {kvs : List (Key × V)} {ks : List (PyData × PyData)} : Rd H a (.dK kvs) → ks.map (·.1) = kvs.map (fun p => kD p.1) → DpAll K H (kvs.map (·.2)) (ks.map (·.2)) → Dp K H (.ref a) (.dict ks)
  | lst {a : Addr} {xs : List V} {ds : List PyData} : SqL K H a xs → DpAll K H xs ds → Dp K H (.ref a) (.list ds)
  | tup {a : Addr} {xs : List V} {ds : List PyData} : H a = some (.tup xs) → DpAll K H xs ds → Dp K H (.ref a) (.tuple ds)
inductive DpAll (K : PySem.W.Frag) (H : Hp) : List V → List PyData → Prop
  | nil : DpAll K H [] []
  | cons {v : V} {vs : List V} {d : PyData} {ds : List PyData} : Dp K H v d → DpAll K H vs ds → DpAll K H (v :: vs) (d :: ds)
end
section
variable {X : Cx} {pins : List (Addr × Obj)} {σ : L2.St} {H : Hp} {s : Shared}
theorem dic_reads {P : Program} {w : World} {h : Heap} : ∀ {kvs : List (Key × V)} {zs : List (Key × Value)} {es : List DictEntry}, KV kvs zs → Pairs (mixKind P w) es zs → Vals (kvs.map (·.2)) (es.map (·.val)) ∧ ∃ as, ReadsAll h (es.map (·.key)) (kvs.map fun p => kD p.1) as
  | _, _, _, .nil, .nil => ⟨.nil, _, .nil⟩
  | _, _, _, .cons r t, .cons e1 e2 e3 => by
    obtain ⟨v1, as, v2⟩ := dic_reads t e3
    refine ⟨.cons (by have q := r.2; rw [← e2] at q; exact q) v1, ?_⟩
    have e1 : keyIs _ _ = true := e1
    rw [← r.1] at e1
    rcases keyIs_shape e1 with ⟨i, t, e4, e5⟩ | ⟨x, t, e4, e5⟩
    · refine ⟨[] ++ as, ?_⟩
      rw [List.map_cons, List.map_cons, e4, e5]
      exact .cons (.int i t) v2
    · refine ⟨[] ++ as, ?_⟩
      rw [List.map_cons, List.map_cons, e4, e5]
      exact .cons (.str x t) v2
mutual
theorem Dp.reads (I : Inv X pins σ H s) : ∀ (d : PyData) (v : V) (u : Value), Dp X.K H v d → RelV v u → ∃ as, Reads s.heap u d as
  | _, _, _, .non, r => by cases r; exact ⟨[], .none⟩
  | _, _, _, .bl b, r => by cases r; exact ⟨[], .bool b⟩
  | _, _, _, .int i, ⟨t, r⟩ => by subst r; exact ⟨[], .int i t⟩
  | _, _, _, .str x, ⟨t, r⟩ => by subst r; exact ⟨[], .str x t⟩
  | _, _, _, .dic k ek ks, r => by
    cases r
    obtain ⟨_, _, zs, pz, ob, arr, e0, h1, h2, h3, _, h4, _⟩ := k.ok I.hok
    obtain ⟨rv, as, ra⟩ := dic_reads (h := s.heap) pz h4
    obtain ⟨bs, rb⟩ := Dp.readsAll I _ _ _ ks rv
    exact ⟨_, .dict h1 h2.1 h3 (by rw [ek]; exact ra) rb⟩
  | _, _, _, .lst k ks, r => by
    cases r
    obtain ⟨zs, vz, ⟨ob, m, h1, h2, _, h3⟩, _⟩ := I.list k
    obtain ⟨bs, hb⟩ := Dp.readsAll I _ _ zs ks vz
    exact ⟨_, .list h1 h2 h3 hb⟩
  | _, _, _, .tup k ks, r => by
    cases r
    obtain ⟨zs, vz, ⟨ob, h1, h2, m, h3⟩, _⟩ := I.tuple (sqT_of k)
    obtain ⟨bs, hb⟩ := Dp.readsAll I _ _ zs ks vz
    exact ⟨_, .tuple h1 h2 h3 hb⟩
theorem Dp.readsAll (I : Inv X pins σ H s) : ∀ (ds : List PyData) (vs : List V) (us : List Value), DpAll X.K H vs ds → Vals vs us → ∃ as, ReadsAll s.heap us ds as
  | _, _, _, .nil, r => by cases r; exact ⟨[], .nil⟩
  | _, _, _, .cons k ks, r => by
    cases r with
    | cons r1 r2 =>
      obtain ⟨a1, h1⟩ := Dp.reads I _ _ _ k r1
      obtain ⟨a2, h2⟩ := Dp.readsAll I _ _ _ ks r2
      exact ⟨a1 ++ a2, .cons h1 h2⟩
end
end
theorem rdMono {F F' : Hp} {a : Addr} {u : HO} (e : Same F F') (h : Rd F a u) : Rd F' a u := by
  rcases h with h | ⟨o, h⟩
  · exact .inl (e _ _ h)
  · exact .inr ⟨o, e _ _ h⟩
section
variable {K : PySem.W.Frag} {F F' : Hp}
mutual
theorem Dp.mono (e : Same F F') : ∀ {v : V} {d : PyData}, Dp K F v d → Dp K F' v d
  | _, _, .non => .non
  | _, _, .bl b => .bl b
  | _, _, .int i => .int i
  | _, _, .str s => .str s
  | _, _, .dic h ek t => .dic (rdMono e h) ek (DpAll.mono e t)
  | _, _, .tup h t => .tup (e _ _ h) (DpAll.mono e t)
  | _, _, .lst h t => .lst (e.seq h) (DpAll.mono e t)
theorem DpAll.mono (e : Same F F') : ∀ {vs : List V} {ds : List PyData}, DpAll K F vs ds → DpAll K F' vs ds
  | _, _, .nil => .nil
  | _, _, .cons h t => .cons (Dp.mono e h) (DpAll.mono e t)
end
theorem DpAll.length : ∀ {vs : List V} {ds : List PyData}, DpAll K F vs ds → vs.length = ds.length
  | _, _, .nil => rfl
  | _, _, .cons _ t => congrArg (· + 1) t.length
theorem DpAll.get : ∀ {vs : List V} {ds : List PyData} {i : Nat} {d : PyData}, DpAll K F vs ds → ds[i]? = some d → ∃ v, vs[i]? = some v ∧ Dp K F v d
  | _, _, _, _, .nil, e => by simp at e
  | _, _, 0, _, .cons h _, e => by
    simp at e
    subst e
    exact ⟨_, rfl, h⟩
  | _, _, i + 1, _, .cons _ t, e => by
    obtain ⟨v, h1, h2⟩ := DpAll.get (i := i) t (by simpa using e)
    exact ⟨v, by simpa using h1, h2⟩
theorem DpAll.get' : ∀ {vs : List V} {ds : List PyData} {i : Nat} {v : V}, DpAll K F vs ds → vs[i]? = some v → ∃ d, ds[i]? = some d ∧ Dp K F v d
  | _, _, _, _, .nil, e => by simp at e
  | _, _, 0, _, .cons h _, e => by
    simp at e
    subst e
    exact ⟨_, rfl, h⟩
  | _, _, i + 1, _, .cons _ t, e => by
    obtain ⟨v, h1, h2⟩ := DpAll.get' (i := i) t (by simpa using e)
    exact ⟨v, by simpa using h1, h2⟩
theorem DpAll.append : ∀ {vs ws : List V} {ds es : List PyData}, DpAll K F vs ds → DpAll K F ws es → DpAll K F (vs ++ ws) (ds ++ es)
  | _, _, _, _, .nil, s => s
  | _, _, _, _, .cons r t, s => .cons r (DpAll.append t s)
theorem DpAll.take : ∀ {vs : List V} {ds : List PyData} (n : Nat), DpAll K F vs ds → DpAll K F (vs.take n) (ds.take n)
  | _, _, 0, _ => .nil
  | _, _, _ + 1, .nil => .nil
  | _, _, n + 1, .cons r t => .cons r (DpAll.take n t)
theorem DpAll.drop : ∀ {vs : List V} {ds : List PyData} (n : Nat), DpAll K F vs ds → DpAll K F (vs.drop n) (ds.drop n)
  | _, _, 0, r => r
  | _, _, _ + 1, .nil => .nil
  | _, _, n + 1, .cons _ t => DpAll.drop n t
theorem DpAll.set : ∀ {vs : List V} {ds : List PyData} {v : V} {d : PyData} (n : Nat), DpAll K F vs ds → Dp K F v d → DpAll K F (vs.set n v) (ds.set n d)
  | _, _, _, _, _, .nil, _ => .nil
  | _, _, _, _, 0, .cons _ t, r => .cons r t
  | _, _, _, _, n + 1, .cons h t, r => .cons h (DpAll.set n t r)
theorem DpAll.dropLast : ∀ {vs : List V} {ds : List PyData}, DpAll K F vs ds → DpAll K F vs.dropLast ds.dropLast := fun {vs ds} h => by
  rw [List.dropLast_eq_take, List.dropLast_eq_take, h.length]
  exact h.take _
theorem DpAll.rep {vs : List V} {ds : List PyData} (h : DpAll K F vs ds) : ∀ n : Nat, DpAll K F (List.replicate n vs).flatten (List.replicate n ds).flatten
  | 0 => .nil
  | n + 1 => by
    rw [List.replicate_succ, List.replicate_succ, List.flatten_cons, List.flatten_cons]
    exact h.append (DpAll.rep h n)
theorem DpAll.reverse : ∀ {vs : List V} {ds : List PyData}, DpAll K F vs ds → DpAll K F vs.reverse ds.reverse
  | _, _, .nil => .nil
  | _, _, .cons h t => by
    rw [List.reverse_cons, List.reverse_cons]
    exact (DpAll.reverse t).append (.cons h .nil)
theorem DpAll.ints : ∀ {vs : List V} {ns : List Int}, DpAll K F vs (ns.map PyData.int) → vs = ns.map V.int
  | _, [], .nil => rfl
  | _, n :: ns, .cons (.int _) t => congrArg (V.int n :: ·) (DpAll.ints t)
theorem DpAll.of_ints : ∀ (ns : List Int), DpAll K F (ns.map V.int) (ns.map PyData.int)
  | [] => .nil
  | n :: ns => .cons (.int n) (DpAll.of_ints ns)
end
abbrev D := PyData
abbrev Rep (K : PySem.W.Frag) (F : Hp) : V → D → Prop := Dp K F
abbrev RepL (K : PySem.W.Frag) (F : Hp) : List V → List D → Prop := DpAll K F
def ext (F H H' : Hp) : Hp := fun a => if (H a).isSome then F a else H' a
section
variable {F H H' H1 H2 : Hp}
theorem ext_self (s : Same F H) : ext F H H = F := by
  funext a
  unfold ext
  cases h : H a with
  | none => simp [s.free h]
  | some o => simp
theorem ext_ext (s1 : Same H H1) (s2 : Same H1 H2) : ext (ext F H H1) H1 H2 = ext F H H2 := by
  funext a
  unfold ext
  cases h : H a with
  | some o => simp [s1 _ _ h]
  | none =>
    cases h1 : H1 a with
    | none => simp
    | some o => simp [s2 _ _ h1]
theorem same_ext (s : Same F H) : Same F (ext F H H') := fun a o e => by
  unfold ext
  simp [s _ _ e, e]
theorem ext_sub (s : Same F H) (s1 : Same H H') : Same (ext F H H') H' := fun a o e => by
  unfold ext at e
  cases h : H a with
  | none => simpa [h] using e
  | some u =>
    simp [h] at e
    exact s1 _ _ (s _ _ e)
theorem ext_new (s : Same F H) {p : Addr} {o : HO} (h : H p = none) : ext F H (upd H p o) = upd F p o := by
  funext a
  unfold ext
  by_cases e : a = p
  · subst e
    rw [upd_same, upd_same]
    simp [h]
  · rw [upd_ne e, upd_ne e]
    cases q : H a with
    | none => simp [s.free q]
    | some u => simp
theorem same_new {p : Addr} {o : HO} (h : H p = none) : Same H (upd H p o) := fun b x e => by
  rw [upd_ne (ne_of_none e h)]
  exact e
theorem ext_mono {F1 : Hp} (s : Same F F1) : Same (ext F H H') (ext F1 H H') := fun a o e => by
  unfold ext at e ⊢
  cases h : H a with
  | none => simpa [h] using e
  | some u =>
    simp [h] at e
    simp
    exact s _ _ e
theorem Same.upd2 (s : Same F H) {p : Addr} {o : HO} (hn : F p = none) : Same F (upd H p o) := fun a x e => by
  rw [upd_ne (ne_of_none e hn)]
  exact s _ _ e
end
/-- a field of an object of one's own -/
inductive Fd where
  | sh (d : D)
  | own (d : D)
  | own2 (d : D)
/-- an error: its class by its name, its one field -/
structure Er where
  cls : Str
  fld : Option (Str × D)
/-- entries of frames with defs and lambdas as values -/
inductive Odd where
  | exc (e : Er)
  | tab (d : D)
  | at (n : Nat)
  | fns (js : List Nat)
  | lams (js : List Nat)
inductive E where
  | sh (d : D)
  | own (d : D)
  | own2 (d : D)
  | row (d : D)
  | dk (l : Bool) (ks : List (Key × D))
  | dt (l : Bool) (ks : List (List Key × D))
  | fn (j : Nat) (f : Addr)
  | ob (m : Nat) (fs : List (Str × Fd))
  | obs (fs : List (Str × D))
  | odd (o : Odd)
abbrev Env := List (Option E)
/-- what a frame knows of addresses: things at ad n, tables of code objects, lambdas by number -/
structure Zx where
  ad : Nat → Addr
  tab : Hp → Hp → Addr → Prop
  lam : Nat → Hp → Addr → Prop
  exc : Er → Hp → Addr → Prop
  tabS : ∀ {F F' H H' : Hp} {P : Addr}, Same F F' → H' P = H P → tab F H P → tab F' H' P
  lamS : ∀ {j : Nat} {F F' : Hp} {f : Addr}, Same F F' → lam j F f → lam j F' f
  excS : ∀ {e : Er} {F F' : Hp} {a : Addr}, Same F F' → exc e F a → exc e F' a
def Zx.no : Zx := ⟨fun _ => 0, fun _ _ _ => False, fun _ _ _ => False, fun _ _ _ => False, fun _ _ h => h, fun _ h => h, fun _ h => h⟩
structure Z where
  H0 : Hp
  F0 : Hp
  B : Addr → Prop
  cl : Addr
  fp : List Addr
  x : Zx
/-- a mutable object at p, its items shared -/
def Obj1 (K : PySem.W.Frag) (F H : Hp) (p : Addr) : D → Prop
  | .list ds => ∃ vs, H p = some (.lst vs) ∧ RepL K F vs ds
  | _ => False
inductive Objs (K : PySem.W.Frag) (F H : Hp) : List Addr → List D → Prop
  | nil : Objs K F H [] []
  | cons {p : Addr} {ps : List Addr} {d : D} {ds : List D} : Obj1 K F H p d → Objs K F H ps ds → Objs K F H (p :: ps) (d :: ds)
/-- an object of one's own, or one that is locked -/
def LkO (z : Z) (F H : Hp) (p : Addr) (u : HO) (l : Bool) (as : List Addr) : Prop := (l = false ∧ as = [p] ∧ z.H0 p = none ∧ H p = some u) ∨ (l = true ∧ as = [] ∧ ∃ o, F p = some (.frz o u))
theorem LkO.mono {z : Z} {F F' H H' : Hp} {p : Addr} {u : HO} {l : Bool} {as : List Addr} (h : LkO z F H p u l as) (s : Same F F') (k : ∀ a ∈ as, H' a = H a) : LkO z F' H' p u l as := by
  rcases h with ⟨h1, h2, h3, h4⟩ | ⟨h1, h2, o, h3⟩
  · exact .inl ⟨h1, h2, h3, (k p (by rw [h2]; exact List.mem_cons_self)).trans h4⟩
  · exact .inr ⟨h1, h2, o, s _ _ h3⟩
/-- the fields of an object -/
inductive Fds (K : PySem.W.Frag) (F H : Hp) : List (Str × V) → List (Str × Fd) → List Addr → Prop
  | nil : Fds K F H [] [] []
  | sh {n : Str} {v : V} {d : D} {xs : List (Str × V)} {fs : List (Str × Fd)} {as : List Addr} : Rep K F v d → Fds K F H xs fs as → Fds K F H ((n, v) :: xs) ((n, .sh d) :: fs) as
  | own {n : Str} {p : Addr} {d : D} {xs : List (Str × V)} {fs : List (Str × Fd)} {as : List Addr} : Obj1 K F H p d → Fds K F H xs fs as → Fds K F H ((n, .ref p) :: xs) ((n, .own d) :: fs) (p :: as)
  | own2 {n : Str} {p : Addr} {qs : List Addr} {ds : List D} {xs : List (Str × V)} {fs : List (Str × Fd)} {as : List Addr} : H p = some (.lst (qs.map V.ref)) → Objs K F H qs ds → Fds K F H xs fs as → Fds K F H ((n, .ref p) :: xs) ((n, .own2 (.list ds)) :: fs) (p :: (qs ++ as))
/-- a class of one's own with such fields -/
structure OkC (K : PySem.W.Frag) (C : Addr) (ns : List Str) : Prop where
  cls : Cls K C
  no : ∀ n ∈ ns, NoAttr K C n
inductive Lams (L : Nat → Hp → Addr → Prop) (F : Hp) : List Addr → List Nat → Prop
  | nil : Lams L F [] []
  | cons {f : Addr} {fs : List Addr} {j : Nat} {js : List Nat} : L j F f → Lams L F fs js → Lams L F (f :: fs) (j :: js)
theorem Lams.mono {x : Zx} {F F' : Hp} (s : Same F F') : ∀ {fs : List Addr} {js : List Nat}, Lams x.lam F fs js → Lams x.lam F' fs js
  | _, _, .nil => .nil
  | _, _, .cons h t => .cons (x.lamS s h) (t.mono s)
def EntO (K : PySem.W.Frag) (z : Z) (F H : Hp) (v : V) : Odd → List Addr → Prop
  | .exc e, as => as = [] ∧ ∃ a, v = .ref a ∧ z.x.exc e F a
  | .tab d, as => Rep K F v d ∧ ∃ P, as = [P] ∧ z.B P ∧ z.x.tab F H P
  | .at n, as => v = .ref (z.x.ad n) ∧ (n = 0 → as = []) ∧ (n ≠ 0 → ∃ P, as = [P] ∧ z.B P ∧ z.x.tab F H P)
  | .fns js, as => as = [] ∧ ∃ p, v = .ref p ∧ Rd F p (.lst (js.map fun j => V.ref (z.x.ad j)))
  | .lams js, as => ∃ p fs, v = .ref p ∧ as = [p] ∧ z.H0 p = none ∧ H p = some (.lst (fs.map V.ref)) ∧ Lams z.x.lam F fs js
def Ent (K : PySem.W.Frag) (z : Z) (F H : Hp) (v : V) : E → List Addr → Prop
  | .odd o, as => EntO K z F H v o as
  | .sh d, as => as = [] ∧ Rep K F v d
  | .own d, as => ∃ p, v = .ref p ∧ as = [p] ∧ z.H0 p = none ∧ Obj1 K F H p d
  | .row d, as => ∃ p, v = .ref p ∧ as = [p] ∧ z.B p ∧ Obj1 K F H p d
  | .dk l ks, as => ∃ p kvs, v = .ref p ∧ kvs.map (·.1) = ks.map (·.1) ∧ RepL K F (kvs.map (·.2)) (ks.map (·.2)) ∧ LkO z F H p (.dK kvs) l as
  | .dt l ks, as => ∃ p kvs, v = .ref p ∧ kvs.map (·.1) = ks.map (·.1) ∧ RepL K F (kvs.map (·.2)) (ks.map (·.2)) ∧ LkO z F H p (.dT kvs) l as
  | .fn _ f, as => as = [] ∧ v = .ref f
  | .ob m fs, as => ∃ p dx xs as', v = .ref p ∧ as = p :: as' ∧ H p = some (.ins z.cl dx xs) ∧ OkC K z.cl (fs.map (·.1)) ∧ as.Nodup ∧ ((∀ a ∈ as, z.H0 a = none ∨ z.B a) ∧ (m = 1 → as = z.fp) ∧ (m = 2 → z.fp.head? = some p) ∧ (m = 0 → ∀ a ∈ as, z.H0 a = none)) ∧ Fds K F H xs fs as'
  | .obs fs, as => as = [] ∧ ∃ p C dx xs, v = .ref p ∧ F p = some (.ins C dx xs) ∧ OkC K C (fs.map (·.1)) ∧ xs.map (·.1) = fs.map (·.1) ∧ RepL K F (xs.map (·.2)) (fs.map (·.2))
  | .own2 d, as => ∃ p qs ds, v = .ref p ∧ as = p :: qs ∧ d = .list ds ∧ H p = some (.lst (qs.map V.ref)) ∧ (p :: qs).Nodup ∧ (∀ a ∈ p :: qs, z.H0 a = none) ∧ Objs K F H qs ds
theorem Obj1.mono {K : PySem.W.Frag} {F F' H H' : Hp} {p : Addr} {d : D} (h : Obj1 K F H p d) (s : Same F F') (e : H' p = H p) : Obj1 K F' H' p d := by
  cases d with
  | list ds =>
    obtain ⟨vs, h1, h2⟩ := h
    exact ⟨vs, e.trans h1, h2.mono s⟩
  | _ => exact h.elim
theorem Obj1.some {K : PySem.W.Frag} {F H : Hp} {p : Addr} {d : D} (h : Obj1 K F H p d) : ∃ o, H p = some o := by
  cases d with
  | list ds =>
    obtain ⟨vs, h1, _⟩ := h
    exact ⟨_, h1⟩
  | _ => exact h.elim
theorem Objs.mono {K : PySem.W.Frag} {F F' H H' : Hp} (s : Same F F') : ∀ {ps : List Addr} {ds : List D}, Objs K F H ps ds → (∀ p ∈ ps, H' p = H p) → Objs K F' H' ps ds
  | _, _, .nil, _ => .nil
  | _, _, .cons h t, e => .cons (h.mono s (e _ List.mem_cons_self)) (t.mono s fun p hp => e p (List.mem_cons_of_mem _ hp))
theorem Objs.length {K : PySem.W.Frag} {F H : Hp} : ∀ {ps : List Addr} {ds : List D}, Objs K F H ps ds → ps.length = ds.length
  | _, _, .nil => rfl
  | _, _, .cons _ t => congrArg (· + 1) t.length
theorem Objs.get {K : PySem.W.Frag} {F H : Hp} : ∀ {ps : List Addr} {ds : List D} {i : Nat} {d : D}, Objs K F H ps ds → ds[i]? = some d → ∃ p, ps[i]? = some p ∧ Obj1 K F H p d
  | _, _, _, _, .nil, e => by simp at e
  | _, _, 0, _, .cons h _, e => by
    simp at e
    subst e
    exact ⟨_, rfl, h⟩
  | _, _, i + 1, _, .cons _ t, e => by
    obtain ⟨v, h1, h2⟩ := Objs.get (i := i) t (by simpa using e)
    exact ⟨v, by simpa using h1, h2⟩
theorem Objs.some {K : PySem.W.Frag} {F H : Hp} : ∀ {ps : List Addr} {ds : List D}, Objs K F H ps ds → ∀ p ∈ ps, ∃ o, H p = some o
  | _, _, .nil, _, h => by cases h
  | _, _, .cons h t, p, hp => by
    rcases List.mem_cons.mp hp with e | hp
    · subst e
      exact h.some
    · exact t.some p hp
theorem Fds.mono {K : PySem.W.Frag} {F F' H H' : Hp} (s : Same F F') : ∀ {xs : List (Str × V)} {fs : List (Str × Fd)} {as : List Addr}, Fds K F H xs fs as → (∀ a ∈ as, H' a = H a) → Fds K F' H' xs fs as
  | _, _, _, .nil, _ => .nil
  | _, _, _, .sh r t, e => .sh (r.mono s) (t.mono s e)
  | _, _, _, .own o t, e => .own (o.mono s (e _ List.mem_cons_self)) (t.mono s fun a ha => e a (List.mem_cons_of_mem _ ha))
  | _, _, _, .own2 h o t, e => .own2 ((e _ List.mem_cons_self).trans h) (o.mono s fun a ha => e a (List.mem_cons_of_mem _ (List.mem_append_left _ ha))) (t.mono s fun a ha => e a (List.mem_cons_of_mem _ (List.mem_append_right _ ha)))
theorem Ent.mono {K : PySem.W.Frag} {z : Z} {F F' H H' : Hp} {v : V} {e : E} {as : List Addr} (h : Ent K z F H v e as) (s : Same F F') (k : ∀ a ∈ as, H' a = H a) : Ent K z F' H' v e as := by
  cases e with
  | sh d => exact ⟨h.1, h.2.mono s⟩
  | fn j f => exact h
  | ob m fs =>
    obtain ⟨p, dx, xs, as', e1, e2, h1, h2, h3, h4, h5⟩ := h
    subst e2
    exact ⟨p, dx, xs, as', e1, rfl, (k p List.mem_cons_self).trans h1, h2, h3, h4, h5.mono s fun a ha => k a (List.mem_cons_of_mem _ ha)⟩
  | obs fs =>
    obtain ⟨e0, p, C, dx, xs, e1, h1, h2, h3, h4⟩ := h
    exact ⟨e0, p, C, dx, xs, e1, s _ _ h1, h2, h3, h4.mono s⟩
  | odd o =>
    have h : EntO K z F H v o as := h
    show EntO K z F' H' v o as
    cases o with
    | tab d =>
      obtain ⟨h1, P, e1, h2, h3⟩ := h
      subst e1
      exact ⟨h1.mono s, P, rfl, h2, z.x.tabS s (k P List.mem_cons_self) h3⟩
    | «at» n =>
      obtain ⟨h1, h2, h3⟩ := h
      refine ⟨h1, h2, fun hn => ?_⟩
      obtain ⟨P, e1, hb, ht⟩ := h3 hn
      subst e1
      exact ⟨P, rfl, hb, z.x.tabS s (k P List.mem_cons_self) ht⟩
    | exc e =>
      obtain ⟨e0, a, e1, h1⟩ := h
      exact ⟨e0, a, e1, z.x.excS s h1⟩
    | fns js =>
      obtain ⟨e0, p, e1, h1⟩ := h
      exact ⟨e0, p, e1, rdMono s h1⟩
    | lams js =>
      obtain ⟨p, fs, e1, e2, e3, h1, h2⟩ := h
      subst e2
      exact ⟨p, fs, e1, rfl, e3, (k p List.mem_cons_self).trans h1, h2.mono s⟩
  | own d =>
    obtain ⟨p, e1, e2, e3, h⟩ := h
    subst e2
    exact ⟨p, e1, rfl, e3, h.mono s (k p List.mem_cons_self)⟩
  | row d =>
    obtain ⟨p, e1, e2, e3, h⟩ := h
    subst e2
    exact ⟨p, e1, rfl, e3, h.mono s (k p List.mem_cons_self)⟩
  | dk l ks =>
    obtain ⟨p, kvs, e1, e2, e3, h⟩ := h
    exact ⟨p, kvs, e1, e2, e3.mono s, h.mono s k⟩
  | dt l ks =>
    obtain ⟨p, kvs, e1, e2, e3, h⟩ := h
    exact ⟨p, kvs, e1, e2, e3.mono s, h.mono s k⟩
  | own2 d =>
    obtain ⟨p, qs, ds, e1, e2, e3, h1, h2, h3, h4⟩ := h
    subst e2
    exact ⟨p, qs, ds, e1, rfl, e3, (k p List.mem_cons_self).trans h1, h2, h3, h4.mono s fun q hq => k q (List.mem_cons_of_mem _ hq)⟩
/-- all tuples of the heap are shared -/
def AllT (F H : Hp) : Prop := ∀ a vs, H a = some (.tup vs) → F a = some (.tup vs)
theorem AllT.refl (H : Hp) : AllT H H := fun _ _ h => h
theorem AllT.ext {F H H' : Hp} (t : AllT F H) (s : Same H H') : AllT (DL.ext F H H') H' := fun a vs e => by
  unfold DL.ext
  cases q : H a with
  | none => simpa using e
  | some o =>
    have := s _ _ q
    rw [e] at this
    cases this
    simpa using t a vs q
theorem AllT.up {F H : Hp} (t : AllT F H) {p : Addr} {o : HO} (ho : ∀ vs, o ≠ .tup vs) : AllT F (upd H p o) := fun a vs e => by
  by_cases q : a = p
  · rw [q, upd_same] at e
    exact absurd (Option.some.inj e) (ho vs)
  · rw [upd_ne q] at e
    exact t a vs e
structure Rel (K : PySem.W.Frag) (z : Z) (ρ : Env) (σ : L2.St) (F H : Hp) (O : Nat → List Addr) : Prop where
  len : ρ.length = σ.length
  sub : Same F H
  ent : ∀ (i : Nat) (e : E), ρ[i]? = some (some e) → ∃ v, σ[i]? = some (some v) ∧ Ent K z F H v e (O i)
  off : ∀ (i : Nat) (a : Addr), a ∈ O i → F a = none ∧ H a ≠ none
  apt : ∀ (i j : Nat) (a : Addr), a ∈ O i → a ∈ O j → i = j
  old : ∀ a, z.H0 a ≠ none → z.F0 a = none → F a = none
  oldH : ∀ a, z.H0 a ≠ none → H a ≠ none
  keep : ∀ a o, z.H0 a = some o → ¬ z.B a → H a = some o
  f0 : Same z.F0 F
  tup : AllT F H
/-- nothing tracked has changed: the shared part may take in what is new -/
theorem Rel.grow {K : PySem.W.Frag} {z : Z} {ρ : Env} {σ : L2.St} {F H H' : Hp} {O : Nat → List Addr} (R : Rel K z ρ σ F H O) (s : Same H H') : Rel K z ρ σ (ext F H H') H' O where
  len := R.len
  sub := ext_sub R.sub s
  ent := fun i e h => by
    obtain ⟨v, h1, h2⟩ := R.ent i e h
    refine ⟨v, h1, h2.mono (same_ext R.sub) fun a ha => ?_⟩
    obtain ⟨_, n⟩ := R.off i a ha
    cases q : H a with
    | none => exact absurd q n
    | some o => exact s _ _ q
  off := fun i a ha => by
    obtain ⟨f, n⟩ := R.off i a ha
    cases q : H a with
    | none => exact absurd q n
    | some o =>
      refine ⟨?_, by rw [s _ _ q]; exact fun z => nomatch z⟩
      unfold ext
      simp [q, f]
  apt := R.apt
  old := fun a h0 f0 => by
    have f := R.old a h0 f0
    have n := R.oldH a h0
    unfold ext
    cases q : H a with
    | none => exact absurd q n
    | some o => simp [f]
  oldH := fun a h0 => by
    have n := R.oldH a h0
    cases q : H a with
    | none => exact absurd q n
    | some o =>
      rw [s _ _ q]
      exact fun z => nomatch z
  keep := fun a o h b => s _ _ (R.keep a o h b)
  f0 := R.f0.trans (same_ext R.sub)
  tup := R.tup.ext s
def tP (K : PySem.W.Frag) (z : Z) (f : Env → Option D) : TE := fun σ H Q => ∃ ρ F O d, Rel K z ρ σ F H O ∧ f ρ = some d ∧ ∀ v H', Same H H' → Rep K (ext F H H') v d → Q v H'
def tPs (K : PySem.W.Frag) (z : Z) (f : Env → Option (List D)) : TA := fun σ H Q => ∃ ρ F O ds, Rel K z ρ σ F H O ∧ f ρ = some ds ∧ ∀ vs H', Same H H' → RepL K (ext F H H') vs ds → Q vs H'
def tB (K : PySem.W.Frag) (z : Z) (f : Env → Option Bool) : TT := fun σ H Q => ∃ ρ F O b, Rel K z ρ σ F H O ∧ f ρ = some b ∧ ∀ H', Same H H' → Q b H'
section
variable {X : Cx}
theorem _root_.L2.PE.mono {e : Expr} {t t' : TE} (h : PE X e t) (i : ∀ σ H Q, t' σ H Q → t σ H Q) : PE X e t' := ⟨fun pins s σ H Q I q => h.run pins s σ H Q I (i _ _ _ q)⟩
theorem _root_.L2.PT.mono {e : Expr} {t t' : TT} (h : PT X e t) (i : ∀ σ H Q, t' σ H Q → t σ H Q) : PT X e t' := ⟨fun pins s σ H Q I q => h.run pins s σ H Q I (i _ _ _ q)⟩
theorem _root_.L2.PA.mono {es : List Expr} {t t' : TA} (h : PA X es t) (i : ∀ σ H Q, t' σ H Q → t σ H Q) : PA X es t' := ⟨fun pos pins s σ H Q I q => h.run pos pins s σ H Q I (i _ _ _ q)⟩
theorem _root_.L2.PW.mono {e : Expr} {t t' : TT} (h : PW X e t) (i : ∀ σ H Q, t' σ H Q → t σ H Q) : PW X e t' := ⟨fun w pins s σ H Q I q => h.run w pins s σ H Q I (i _ _ _ q)⟩
theorem _root_.L2.PS.mono {st : Stmt} {t t' : TS} (h : PS X st t) (i : ∀ D σ H, t' D σ H → t D σ H) : PS X st t' := ⟨fun pins s σ H D I q => h.run pins s σ H D I (i _ _ _ q)⟩
theorem _root_.L2.PSs.mono {st : List Stmt} {t t' : TS} (h : PSs X st t) (i : ∀ D σ H, t' D σ H → t D σ H) : PSs X st t' := ⟨fun pins s σ H D I q => h.run pins s σ H D I (i _ _ _ q)⟩
theorem _root_.L2.PI.mono {tg e : Expr} {t t' : TI} (h : PI X tg e t) (i : ∀ σ H Q, t' σ H Q → t σ H Q) : PI X tg e t' := ⟨fun pins s σ H Q I q => h.run pins s σ H Q I (i _ _ _ q)⟩
def cVar (i : Nat) : Env → Option D := fun ρ => match ρ[i]? with
  | some (some (.sh d)) => some d
  | _ => none
def cK (d : D) : Env → Option D := fun _ => some d
variable {z : Z}
theorem q_var (i : Nat) {x : Str} {pos : Pos} (hN : X.N[i]? = some x := by rfl) (hv : Vis X.env.scope x := by first | exact Or.inl rfl | exact Or.inr (Or.inl rfl) | exact Or.inr (Or.inr rfl)) (hd : (x == ("__debug__" : Str)) = false := by decide)
    (hcd : (x == ("__classdict__" : Str)) = false := by decide) : PE X (.Name x pos) (tP X.K z (cVar i)) := by
  refine (pe_var hN hv hd hcd).mono fun σ H Q ⟨ρ, F, O, d, R, e, q⟩ => ?_
  unfold cVar at e
  split at e
  · next d' h =>
    cases e
    obtain ⟨v, h1, _, h2⟩ := R.ent i _ h
    refine ⟨v, h1, q v H (Same.refl _) ?_⟩
    rw [ext_self R.sub]
    exact h2
  · cases e
theorem q_const {e : Expr} {v : V} {d : D} (h : PE X e (tC v)) (r : ∀ F, Rep X.K F v d) : PE X e (tP X.K z (cK d)) :=
  h.mono fun σ H Q ⟨ρ, F, O, d', R, e, q⟩ => by
    cases e
    exact q v H (Same.refl _) (r _)
theorem q_int {i : Int} {j pos} : PE X (.Constant (.int i) j pos) (tP X.K z (cK (.int i))) := q_const pe_int fun _ => .int i
theorem q_bl {b j pos} : PE X (.Constant (.bool b) j pos) (tP X.K z (cK (.bool b))) := q_const pe_bl fun _ => .bl b
theorem q_str {s j pos} : PE X (.Constant (.str s) j pos) (tP X.K z (cK (.str s))) := q_const pe_str fun _ => .str s
theorem q_non {j pos} : PE X (.Constant .none j pos) (tP X.K z (cK .none)) := q_const pe_non fun _ => .non
theorem q_globI {x : Str} {i : Int} {u : Value} {pos : Pos} (hg : Gl X x) (hm : X.mg x = some u) (r : RelV (.int i) u) (hd : (x == ("__debug__" : Str)) = false := by decide) : PE X (.Name x pos) (tP X.K z (cK (.int i))) := q_const (pe_glob hg hm r hd) fun _ => .int i
theorem q_globS {x : Str} {i : Str} {u : Value} {pos : Pos} (hg : Gl X x) (hm : X.mg x = some u) (r : RelV (.str i) u) (hd : (x == ("__debug__" : Str)) = false := by decide) : PE X (.Name x pos) (tP X.K z (cK (.str i))) := q_const (pe_glob hg hm r hd) fun _ => .str i
structure Op2 (K : PySem.W.Frag) (r : R2) (o : D → D → Option D) : Prop where
  run : ∀ (F H : Hp) (x y : V) (a b d : D) (Q : VK), Same F H → Rep K F x a → Rep K F y b → o a b = some d → (∀ v H', Same H H' → Rep K (ext F H H') v d → Q v H') → r x y H Q
def c2 (o : D → D → Option D) (f g : Env → Option D) : Env → Option D := fun ρ => (f ρ).bind fun a => (g ρ).bind fun b => o a b
theorem bind_some {α β : Type} {x : Option α} {f : α → Option β} {b : β} (h : x.bind f = some b) : ∃ a, x = some a ∧ f a = some b := by
  cases x with
  | none => cases h
  | some a => exact ⟨a, rfl, h⟩
theorem tP2 {K : PySem.W.Frag} {r : R2} {o : D → D → Option D} (ho : Op2 K r o) {f g : Env → Option D} {σ : L2.St} {H : Hp} {Q : VK} (h : tP K z (c2 o f g) σ H Q) : tOp r (tP K z f) (tP K z g) σ H Q := by
  obtain ⟨ρ, F, O, d, R, e, q⟩ := h
  obtain ⟨a, ea, e⟩ := bind_some e
  obtain ⟨b, eb, e⟩ := bind_some e
  refine ⟨ρ, F, O, a, R, ea, fun v1 H1 s1 r1 => ?_⟩
  refine ⟨ρ, _, O, b, R.grow s1, eb, fun v2 H2 s2 r2 => ?_⟩
  rw [ext_ext s1 s2] at r2
  have R2 := R.grow (s1.trans s2)
  refine ho.run (ext F H H2) H2 v1 v2 a b d Q R2.sub (r1.mono ?_) r2 e fun v H3 s3 r3 => ?_
  · rw [← ext_ext s1 s2]
    exact same_ext (R.grow s1).sub
  · rw [ext_ext (s1.trans s2) s3] at r3
    exact q v H3 ((s1.trans s2).trans s3) r3
theorem q_op {a b : Expr} {pos : Pos} {op : Operator} {r : R2} {o : D → D → Option D} {f g : Env → Option D} (hr : OpR X (binaryOp op) r) (ho : Op2 X.K r o) (ha : PE X a (tP X.K z f)) (hb : PE X b (tP X.K z g)) : PE X (.BinOp a op b pos) (tP X.K z (c2 o f g)) :=
  (pe_op hr ha hb).mono fun _ _ _ h => tP2 ho h
theorem q_cmp {a b : Expr} {pos : Pos} {op : CmpOp} {r : R2} {o : D → D → Option D} {f g : Env → Option D} (hr : OpR X (compareOp op) r) (ho : Op2 X.K r o) (ha : PE X a (tP X.K z f)) (hb : PE X b (tP X.K z g)) (hm : behindInMarks op b = false) : PE X (.Compare a [op] [b] pos) (tP X.K z (c2 o f g)) :=
  (pe_cmpR hr ha hb hm).mono fun _ _ _ h => tP2 ho h
theorem q_ix {a b : Expr} {pos : Pos} {r : R2} {o : D → D → Option D} {f g : Env → Option D} (hr : IxR X r) (ho : Op2 X.K r o) (ha : PE X a (tP X.K z f)) (hb : PE X b (tP X.K z g)) (hs : PlainIx b := by exact fun _ _ => rfl) : PE X (.Subscript a b pos) (tP X.K z (c2 o f g)) :=
  (pe_ix hr ha hb hs).mono fun _ _ _ h => tP2 ho h
structure Op1 (K : PySem.W.Frag) (r : V → Hp → VK → Prop) (o : D → Option D) : Prop where
  run : ∀ (F H : Hp) (x : V) (a d : D) (Q : VK), Same F H → Rep K F x a → o a = some d → (∀ v H', Same H H' → Rep K (ext F H H') v d → Q v H') → r x H Q
structure OpN (K : PySem.W.Frag) (r : List V → Hp → VK → Prop) (o : List D → Option D) : Prop where
  run : ∀ (F H : Hp) (xs : List V) (as : List D) (d : D) (Q : VK), Same F H → RepL K F xs as → o as = some d → (∀ v H', Same H H' → Rep K (ext F H H') v d → Q v H') → r xs H Q
def c1 (o : D → Option D) (f : Env → Option D) : Env → Option D := fun ρ => (f ρ).bind o
def cN (o : List D → Option D) (f : Env → Option (List D)) : Env → Option D := fun ρ => (f ρ).bind o
def cNil : Env → Option (List D) := fun _ => some []
def cCons (f : Env → Option D) (g : Env → Option (List D)) : Env → Option (List D) := fun ρ => (f ρ).bind fun a => (g ρ).bind fun as => some (a :: as)
theorem tP1 {K : PySem.W.Frag} {r : V → Hp → VK → Prop} {o : D → Option D} (ho : Op1 K r o) {f : Env → Option D} {σ : L2.St} {H : Hp} {Q : VK} (h : tP K z (c1 o f) σ H Q) : tP K z f σ H fun x H1 => r x H1 Q := by
  obtain ⟨ρ, F, O, d, R, e, q⟩ := h
  obtain ⟨a, ea, e⟩ := bind_some e
  refine ⟨ρ, F, O, a, R, ea, fun v1 H1 s1 r1 => ho.run _ H1 v1 a d Q (R.grow s1).sub r1 e fun v H3 s3 r3 => ?_⟩
  rw [ext_ext s1 s3] at r3
  exact q v H3 (s1.trans s3) r3
theorem tPN {K : PySem.W.Frag} {r : List V → Hp → VK → Prop} {o : List D → Option D} (ho : OpN K r o) {f : Env → Option (List D)} {σ : L2.St} {H : Hp} {Q : VK} (h : tP K z (cN o f) σ H Q) : tPs K z f σ H fun x H1 => r x H1 Q := by
  obtain ⟨ρ, F, O, d, R, e, q⟩ := h
  obtain ⟨a, ea, e⟩ := bind_some e
  refine ⟨ρ, F, O, a, R, ea, fun v1 H1 s1 r1 => ho.run _ H1 v1 a d Q (R.grow s1).sub r1 e fun v H3 s3 r3 => ?_⟩
  rw [ext_ext s1 s3] at r3
  exact q v H3 (s1.trans s3) r3
theorem q_un {a : Expr} {pos : Pos} {op : UnaryOp} {r : V → Hp → VK → Prop} {o : D → Option D} {f : Env → Option D} (hr : UnR X (unaryOp op) r) (ho : Op1 X.K r o) (ha : PE X a (tP X.K z f)) : PE X (.UnaryOp op a pos) (tP X.K z (c1 o f)) :=
  (pe_un hr ha).mono fun _ _ _ h => tP1 ho h
theorem q_nil : PA X [] (tPs X.K z cNil) := pa_nil.mono fun σ H Q ⟨ρ, F, O, ds, R, e, q⟩ => by
  cases e
  exact q [] H (Same.refl _) .nil
theorem q_cons {e : Expr} {es : List Expr} {f : Env → Option D} {g : Env → Option (List D)} (ha : PE X e (tP X.K z f)) (hr : PA X es (tPs X.K z g)) (hs : starEach (e :: es) X.env = (false, eval e X.env) :: starEach es X.env := by rfl) : PA X (e :: es) (tPs X.K z (cCons f g)) := by
  refine (pa_cons ha hr hs).mono fun σ H Q ⟨ρ, F, O, ds, R, e, q⟩ => ?_
  obtain ⟨a, ea, e⟩ := bind_some e
  obtain ⟨as, eb, e⟩ := bind_some e
  cases e
  refine ⟨ρ, F, O, a, R, ea, fun v1 H1 s1 r1 => ?_⟩
  refine ⟨ρ, _, O, as, R.grow s1, eb, fun v2 H2 s2 r2 => ?_⟩
  rw [ext_ext s1 s2] at r2
  refine q _ _ (s1.trans s2) (.cons (r1.mono ?_) r2)
  rw [← ext_ext s1 s2]
  exact same_ext (R.grow s1).sub
theorem q_callB {x : Str} {p pos : Pos} {e : Expr} {es : List Expr} {id : String} {r : List V → Hp → VK → Prop} {o : List D → Option D} {f : Env → Option (List D)} (hc : CallR X (.builtin id) r) (ho : OpN X.K r o) (hg : Gl X x) (hm : X.mg x = none) (hv : bootBuiltins x = some (.builtin id))
    (ha : PA X (e :: es) (tPs X.K z f)) (hn : x ≠ "__name__" := by decide) (hdb : (x == ("__debug__" : Str)) = false := by decide)
    (he : starEach (e :: es) X.env = (false, eval e X.env) :: starEach es X.env := by rfl) (hpl : (backTo pos (starEach es X.env)).any (·.1) = false := by rfl) : PE X (.Call (.Name x p) (e :: es) [] pos) (tP X.K z (cN o f)) :=
  (pe_callB hc hg hm hv ha hn hdb he hpl).mono fun _ _ _ h => tPN ho h
theorem q_callTy {x : Str} {p pos : Pos} {e : Expr} {es : List Expr} {id : String} {r : List V → Hp → VK → Prop} {o : List D → Option D} {f : Env → Option (List D)} (hc : CallR X (.type id) r) (ho : OpN X.K r o) (hg : Gl X x) (hm : X.mg x = none) (hv : bootBuiltins x = some (.type id))
    (ha : PA X (e :: es) (tPs X.K z f)) (hn : x ≠ "__name__" := by decide) (hdb : (x == ("__debug__" : Str)) = false := by decide)
    (he : starEach (e :: es) X.env = (false, eval e X.env) :: starEach es X.env := by rfl) (hpl : (backTo pos (starEach es X.env)).any (·.1) = false := by rfl) : PE X (.Call (.Name x p) (e :: es) [] pos) (tP X.K z (cN o f)) :=
  (pe_callTy hc hg hm hv ha hn hdb he hpl).mono fun _ _ _ h => tPN ho h
/-- displays -/
def cTup (f : Env → Option (List D)) : Env → Option D := fun ρ => (f ρ).bind fun ds => if ds.length ≤ 1000 then some (.tuple ds) else none
def cLst (f : Env → Option (List D)) : Env → Option D := fun ρ => (f ρ).bind fun ds => if ds.length ≤ 1000 then some (.list ds) else none
theorem le1000 {n : Nat} (h : n ≤ 1000) : n ≤ sizeLine := Nat.le_of_lt (small1000 h)
theorem q_tup {es : List Expr} {x1} {pos : Pos} {f : Env → Option (List D)} (h : PA X es (tPs X.K z f)) : PE X (.Tuple es x1 pos) (tP X.K z (cTup f)) := by
  refine (pe_tup h).mono fun σ H Q ⟨ρ, F, O, d, R, e, q⟩ => ?_
  obtain ⟨ds, ea, e⟩ := bind_some e
  split at e
  · next hl =>
    cases e
    refine ⟨ρ, F, O, ds, R, ea, fun vs H1 s1 r1 => ⟨le1000 (by rw [r1.length]; exact hl), fun p hp => ?_⟩⟩
    have R1 := R.grow s1
    refine q _ _ (s1.trans (same_new hp)) ?_
    rw [← ext_ext s1 (same_new hp), ext_new R1.sub hp]
    exact .tup upd_same (r1.mono (same_new (R1.sub.free hp)))
  · cases e
def cDic : Env → Option D := fun _ => some (.dict [])
theorem q_dic {pos : Pos} : PE X (.Dict [] [] pos) (tP X.K z cDic) := by
  refine pe_dnewK.mono fun σ H Q ⟨ρ, F, O, d, R, e, q⟩ => fun p hp => ?_
  cases e
  refine q _ _ (same_new hp) ?_
  rw [ext_new R.sub hp]
  exact .dic (kvs := []) (.of upd_same) rfl .nil
theorem q_lst {es : List Expr} {pos : Pos} {f : Env → Option (List D)} (h : PA X es (tPs X.K z f)) : PE X (.List es pos) (tP X.K z (cLst f)) := by
  refine (pe_lst h).mono fun σ H Q ⟨ρ, F, O, d, R, e, q⟩ => ?_
  obtain ⟨ds, ea, e⟩ := bind_some e
  split at e
  · next hl =>
    cases e
    refine ⟨ρ, F, O, ds, R, ea, fun vs H1 s1 r1 => ⟨le1000 (by rw [r1.length]; exact hl), fun p hp => ?_⟩⟩
    have R1 := R.grow s1
    refine q _ _ (s1.trans (same_new hp)) ?_
    rw [← ext_ext s1 (same_new hp), ext_new R1.sub hp]
    exact .lst (.of upd_same) (r1.mono (same_new (R1.sub.free hp)))
  · cases e
end
end DL
namespace DL
open PySem PySem.Spec PyProof.Rows L2
theorem OpR.or {X : Cx} {f : Value → Value → Sem Value} {r r' : R2} (h : OpR X f r) (h' : OpR X f r') : OpR X f (fun x y H Q => r x y H Q ∨ r' x y H Q) := by
  intro pins s σ H x y v u Q I rx ry q
  rcases q with q | q
  · exact h pins s σ H x y v u Q I rx ry q
  · exact h' pins s σ H x y v u Q I rx ry q
theorem done {K : PySem.W.Frag} {F H : Hp} {v : V} {d : D} {Q : VK} (s : Same F H) (h : ∀ v H', Same H H' → Rep K (ext F H H') v d → Q v H') (r : Rep K F v d) : Q v H := h v H (Same.refl _) (by rw [ext_self s]; exact r)
theorem doneL {K : PySem.W.Frag} {F H : Hp} {vs : List V} {ds : List D} {Q : VK} (s : Same F H) (h : ∀ v H', Same H H' → Rep K (ext F H H') v (.list ds) → Q v H') (r : RepL K F vs ds) {p : Addr} (hp : H p = none) : Q (.ref p) (upd H p (.lst vs)) :=
  h _ _ (same_new hp) (by rw [ext_new s hp]; exact .lst (.of upd_same) (r.mono (same_new (s.free hp))))
theorem doneT {K : PySem.W.Frag} {F H : Hp} {vs : List V} {ds : List D} {Q : VK} (s : Same F H) (h : ∀ v H', Same H H' → Rep K (ext F H H') v (.tuple ds) → Q v H') (r : RepL K F vs ds) {p : Addr} (hp : H p = none) : Q (.ref p) (upd H p (.tup vs)) :=
  h _ _ (same_new hp) (by rw [ext_new s hp]; exact .tup upd_same (r.mono (same_new (s.free hp))))
def b64 (i : Int) : Bool := decide (-18446744073709551616 < i) && decide (i < 18446744073709551616)
def oAdd : D → D → Option D
  | .int i, .int j => some (.int (i + j))
  | .tuple xs, .tuple ys => if xs.length + ys.length ≤ 1000000 then some (.tuple (xs ++ ys)) else none
  | .list xs, .list ys => if xs.length + ys.length ≤ 1000000 then some (.list (xs ++ ys)) else none
  | .str x, .str y => if x.length + y.length ≤ 1000000 then some (.str (x ++ y)) else none
  | _, _ => none
def oSub : D → D → Option D
  | .int i, .int j => some (.int (i - j))
  | _, _ => none
def oMul : D → D → Option D
  | .int i, .int j => if b64 i || b64 j then some (.int (i * j)) else none
  | .tuple xs, .int k => if xs.length ≤ 1000 then (if xs.isEmpty then none else if 2 ≤ k then (if k ≤ 1000 then some (.tuple (List.replicate k.toNat xs).flatten) else none) else (if k = 1 then some (.tuple xs) else (if k = 0 then some (.tuple []) else none))) else none
  | _, _ => none
def oDiv : D → D → Option D
  | .int i, .int j => if j = 0 then none else if j.natAbs < 2 ^ 200 then some (.int (i.fdiv j)) else none
  | _, _ => none
def oMod : D → D → Option D
  | .int i, .int j => if j = 0 then none else some (.int (i.fmod j))
  | _, _ => none
def oPow : D → D → Option D
  | .int i, .int j => if 0 ≤ j then (if j ≤ 1000 then (if i.natAbs < 1000000 then some (.int (i ^ j.toNat)) else none) else none) else none
  | _, _ => none
def oNeg : D → Option D
  | .int i => some (.int (-i))
  | _ => none
section
variable {K : PySem.W.Frag}
theorem op2I {g : Int → Int → Int} {o : D → D → Option D} (h : ∀ a b d, o a b = some d → ∃ i j, a = .int i ∧ b = .int j ∧ d = .int (g i j)) : Op2 K (rI0 fun i j => .int (g i j)) o := ⟨fun F H x y a b d Q s ra rb e q => by
  obtain ⟨i, j, rfl, rfl, rfl⟩ := h a b d e
  cases ra
  cases rb
  exact ⟨i, j, rfl, rfl, done s q (.int _)⟩⟩
theorem op2C {C : Int → Int → Prop} {g : Int → Int → Int} {o : D → D → Option D} (h : ∀ a b d, o a b = some d → ∃ i j, a = .int i ∧ b = .int j ∧ C i j ∧ d = .int (g i j)) : Op2 K (rI C fun i j => .int (g i j)) o := ⟨fun F H x y a b d Q s ra rb e q => by
  obtain ⟨i, j, rfl, rfl, c, rfl⟩ := h a b d e
  cases ra
  cases rb
  exact ⟨i, j, rfl, rfl, c, done s q (.int _)⟩⟩
theorem w_sub : Op2 K (rI0 fun i j => .int (i - j)) oSub := op2I fun a b d e => by
  unfold oSub at e
  split at e
  · cases e
    exact ⟨_, _, rfl, rfl, rfl⟩
  · cases e
def CDivW (i j : Int) : Prop := j ≠ 0 ∧ j.natAbs < 2 ^ 200
theorem op_fdivW : OpR X (binaryOp .FloorDiv) (rI CDivW fun i j => .int (i.fdiv j)) := opI fun _ j _ _ _ _ _ hc q => floordiv_int hc.1 q (.inl (PyProof.noPylong_of_log2 (by
  have h1 : j ≠ 0 := hc.1
  have h2 : j.natAbs < 2 ^ 200 := hc.2
  have : j.natAbs.log2 < 200 := (Nat.log2_lt (by omega)).mpr h2
  omega)))
theorem w_div : Op2 K (rI CDivW fun i j => .int (i.fdiv j)) oDiv := op2C fun a b d e => by
  unfold oDiv at e
  split at e
  · split at e
    · cases e
    · split at e
      · cases e
        exact ⟨_, _, rfl, rfl, ⟨by assumption, by assumption⟩, rfl⟩
      · cases e
  · cases e
theorem w_mod : Op2 K (rI (fun _ j => j ≠ 0) fun i j => .int (i.fmod j)) oMod := op2C fun a b d e => by
  unfold oMod at e
  split at e
  · split at e
    · cases e
    · cases e
      exact ⟨_, _, rfl, rfl, by assumption, rfl⟩
  · cases e
theorem cpow_of {i j : Int} (h0 : 0 ≤ j) (h1 : j ≤ 1000) (h2 : i.natAbs < 1000000) : CPow i j := ⟨h0, by omega, by omega⟩
theorem w_pow : Op2 K (rI CPow fun i j => .int (i ^ j.toNat)) oPow := op2C fun a b d e => by
  unfold oPow at e
  split at e
  · split at e
    · split at e
      · split at e
        · cases e
          exact ⟨_, _, rfl, rfl, cpow_of (by assumption) (by assumption) (by assumption), rfl⟩
        · cases e
      · cases e
    · cases e
  · cases e
def rNeg : V → Hp → VK → Prop := rU fun i => .int (-i)
theorem w_neg : Op1 K rNeg oNeg := ⟨fun F H x a d Q s ra e q => by
  unfold oNeg at e
  split at e
  · cases e
    cases ra
    exact ⟨_, rfl, done s q (.int _)⟩
  · cases e⟩
/-- list + list, whatever the lists -/
def rCatL (K : PySem.W.Frag) : R2 := fun x y H Q => ∃ l b xs zs, x = .ref l ∧ y = .ref b ∧ SqL K H l xs ∧ SqL K H b zs ∧ xs.length + zs.length ≤ sizeLine ∧ ∀ p, H p = none → Q (.ref p) (upd H p (.lst (xs ++ zs)))
theorem op_catL {X : Cx} : OpR X (binaryOp .Add) (rCatL X.K) := by
  intro pins s σ H x y v u Q I rx ry h
  obtain ⟨l, b, xs, zs, rfl, rfl, hH, hB, hz, q⟩ := h
  cases rx
  cases ry
  obtain ⟨its, r, pl, _⟩ := I.list hH
  obtain ⟨its2, r2, pl2, _⟩ := I.list hB
  obtain ⟨⟨cls, dd, data, sl⟩, ho, hc, n, hd⟩ := pl.isList
  obtain ⟨⟨cls2, dd2, data2, sl2⟩, ho2, hc2, n2, hd2⟩ := pl2.isList
  simp only at hc hd hc2 hd2
  subst hc hd hc2 hd2
  have l1 := r.length
  have l2 := r2.length
  have ea : its.toArray ++ its2.toArray = (its ++ its2).toArray := by simp
  refine PySem.concat_meets ⟨_, ho, rfl⟩ ⟨_, ho2, rfl⟩ PySem.noFill_list_add PySem.seq_list_add PySem.F.slot_list_add PySem.F.entry_list_add (PySem.F.args_list_add_2 _ _) (PyProof.Rows.list_addW l b its.toArray its2.toArray n n2 dd dd2 sl sl2 (by simp only [List.size_toArray]; omega)) ⟨ho, ho2, ?_⟩
  rw [ea]
  exact ⟨.ref _, _, I.lnew (t' := s.toks) (r.append r2) (by rw [List.length_append]; omega), rfl, q _ I.fresh⟩
def rAddA (K : PySem.W.Frag) : R2 := fun x y H Q => (rI0 (fun i j => .int (i + j)) x y H Q ∨ rCatA K x y H Q) ∨ (rCatL K x y H Q ∨ ∃ i j, x = .str i ∧ y = .str j ∧ i.length + j.length ≤ sizeLine ∧ Q (.str (i ++ j)) H)
theorem op_addA {X : Cx} : OpR X (binaryOp .Add) (rAddA X.K) := OpR.or (OpR.or op_add op_catA) (OpR.or op_catL op_add_str)
theorem leM {n : Nat} (h : n ≤ 1000000) : n ≤ sizeLine := by rw [sizeLine_eq]; omega
theorem w_add : Op2 K (rAddA K) oAdd := ⟨fun F H x y a b d Q s ra rb e q => by
  unfold oAdd at e
  split at e
  · cases e
    cases ra
    cases rb
    exact .inl (.inl ⟨_, _, rfl, rfl, done s q (.int _)⟩)
  · next xs ys =>
    split at e
    · next hl =>
      cases e
      cases ra with
      | tup h1 t1 =>
        cases rb with
        | tup h2 t2 =>
          have l1 := t1.length
          have l2 := t2.length
          refine .inl (.inr ⟨_, _, _, _, rfl, rfl, sameT s (sqT_of h1), sameT s (sqT_of h2), leM (by omega), fun z => ?_, fun _ z => ?_, fun _ _ p hp => ?_⟩)
          · subst z
            cases t1
            exact done s q (.tup h2 t2)
          · subst z
            cases t2
            rw [List.append_nil] at q
            exact done s q (.tup h1 t1)
          · exact doneT s q (t1.append t2) hp
    · cases e
  · next xs ys =>
    split at e
    · next hl =>
      cases e
      cases ra with
      | lst h1 t1 =>
        cases rb with
        | lst h2 t2 =>
          have l1 := t1.length
          have l2 := t2.length
          exact .inr (.inl ⟨_, _, _, _, rfl, rfl, s.seq h1, s.seq h2, leM (by omega), fun p hp => doneL s q (t1.append t2) hp⟩)
    · cases e
  · split at e
    · next hl =>
      cases e
      cases ra
      cases rb
      exact .inr (.inr ⟨_, _, rfl, rfl, leM hl, done s q (.str _)⟩)
    · cases e
  · cases e⟩
theorem tuple_mul1 (l : Addr) (items : Array Value) (n : Nat) (dd : Option Addr) (sl : Array (Option Value)) (u : Tok) :
    Meets (Builtin.«tuple.__mul__» ⟨[.ref l, .int 1 u], []⟩) (fun _ R s => s.heap.get? l = some { cls := .type "tuple", dict := dd, data := .seq items n, slots := sl } ∧ R (.ok (.ret (Value.ref l))) s) :=
  .of_wp fun prog w A R s h => by
    obtain ⟨hp, g, d, tk, os⟩ := s
    obtain ⟨hl, h⟩ := h
    have f1 := AutoSeq1.idx_int
    have c1 : (items.isEmpty || (1 : Int) == 1) = true := by simp
    wp_walk using wpAny_loadPart' hl
    repeat (first
      | (refine wpAny_ite_false (decide_eq_false (by decide)) ?_; wp_walk using wpAny_loadPart' hl)
      | (refine wpAny_ite_true (decide_eq_true c1) ?_; wp_walk using wpAny_loadPart' hl))
    exact ⟨_, rfl, h⟩
/-- a tuple taken once is itself -/
def rRep1 (K : PySem.W.Frag) : R2 := fun x y H Q => ∃ l xs, x = .ref l ∧ y = .int 1 ∧ SqT K H l xs ∧ Q (.ref l) H
theorem op_rep1 {X : Cx} : OpR X (binaryOp .Mult) (rRep1 X.K) := by
  intro pins s σ H x y v u Q I rx ry h
  obtain ⟨l, xs, rfl, rfl, hT, q⟩ := h
  cases rx
  obtain ⟨t, rfl⟩ := ry
  obtain ⟨its, r, ⟨⟨cls, dd, data, sl⟩, ho, hc, n, hd⟩, hs⟩ := I.tuple hT
  simp only at hc hd
  subst hc hd
  exact wpAny_binaryOp_repeat_ref (T := "tuple") (U := "int") (by decide) ⟨_, ho, rfl⟩ (fun s' => typeIs_int s' 1 t) noFill_tuple_mul F.fills_int_mul F.slot_int_rmul repeat_tuple F.slot_int_index.lookup
    (call_meets F.slot_int_rmul (typeIs_int s 1 t) F.entry_int_rmul (F.args_int_rmul_2 _ _) (int_rmul_tuple 1 t l its.toArray n dd sl)
      ⟨ho, rfl, ⟨_, ho, rfl⟩, call_meets F.slot_tuple_mul ⟨_, ho, rfl⟩ F.entry_tuple_mul (F.args_tuple_mul_2 _ _) (tuple_mul1 l its.toArray n dd sl t) ⟨ho, ⟨.ref l, H, I, rfl, q⟩⟩⟩)
theorem tuple_mul0 (l : Addr) (items : Array Value) (n : Nat) (dd : Option Addr) (sl : Array (Option Value)) (u : Tok) (c1 : (items.isEmpty || (0 : Int) == 1) = false) :
    Meets (Builtin.«tuple.__mul__» ⟨[.ref l, .int 0 u], []⟩) (fun _ R s => s.heap.get? l = some { cls := .type "tuple", dict := dd, data := .seq items n, slots := sl } ∧
      R (.ok (.ret (Value.ref s.heap.objs.size))) { s with heap := s.heap.push { cls := Value.type "tuple", data := Data.seq #[] }, toks := s.toks }) :=
  .of_wp fun prog w A R s h => by
    obtain ⟨hp, g, d, tk, os⟩ := s
    obtain ⟨hl, h⟩ := h
    have f1 := AutoSeq1.idx_int
    have c2 : (decide ((0 : Int) ≤ 0) || items.isEmpty) = true := by simp
    have hsz : (#[] : Array Value).size ≤ sizeLine := by rw [sizeLine_eq]; decide
    wp_walk using wpAny_loadPart' hl
    repeat (first
      | (refine wpAny_ite_false (decide_eq_false (by decide)) ?_; wp_walk using wpAny_loadPart' hl)
      | (refine wpAny_ite_false (decide_eq_false (by rw [c1]; exact Bool.false_ne_true)) ?_; wp_walk using wpAny_loadPart' hl)
      | (refine wpAny_ite_true (decide_eq_true c2) ?_; wp_walk using wpAny_loadPart' hl)
      | (refine wpAny_ite_false (decide_eq_false (Nat.not_lt.mpr hsz)) ?_; wp_walk using wpAny_loadPart' hl))
    exact ⟨_, rfl, h⟩
/-- a tuple taken no time is a new empty one -/
def rRep0 (K : PySem.W.Frag) : R2 := fun x y H Q => ∃ l xs, x = .ref l ∧ y = .int 0 ∧ SqT K H l xs ∧ xs ≠ [] ∧ ∀ p, H p = none → Q (.ref p) (upd H p (.tup []))
theorem op_rep0 {X : Cx} : OpR X (binaryOp .Mult) (rRep0 X.K) := by
  intro pins s σ H x y v u Q I rx ry h
  obtain ⟨l, xs, rfl, rfl, hT, hne, q⟩ := h
  cases rx
  obtain ⟨t, rfl⟩ := ry
  obtain ⟨its, r, ⟨⟨cls, dd, data, sl⟩, ho, hc, n, hd⟩, hs⟩ := I.tuple hT
  simp only at hc hd
  subst hc hd
  have hle : its.length = xs.length := r.length.symm
  have hn : its ≠ [] := fun e => hne (by
    rw [e] at hle
    exact List.eq_nil_of_length_eq_zero hle.symm)
  have hi : its.toArray.isEmpty = false := by
    cases its with
    | nil => exact absurd rfl hn
    | cons a b => rfl
  have c1 : (its.toArray.isEmpty || (0 : Int) == 1) = false := by
    rw [hi, Bool.false_or]
    rfl
  refine wpAny_binaryOp_repeat_ref (T := "tuple") (U := "int") (by decide) ⟨_, ho, rfl⟩ (fun s' => typeIs_int s' 0 t) noFill_tuple_mul F.fills_int_mul F.slot_int_rmul repeat_tuple F.slot_int_index.lookup
    (call_meets F.slot_int_rmul (typeIs_int s 0 t) F.entry_int_rmul (F.args_int_rmul_2 _ _) (int_rmul_tuple 0 t l its.toArray n dd sl)
      ⟨ho, rfl, ⟨_, ho, rfl⟩, call_meets F.slot_tuple_mul ⟨_, ho, rfl⟩ F.entry_tuple_mul (F.args_tuple_mul_2 _ _) (tuple_mul0 l its.toArray n dd sl t c1) ⟨ho, ?_⟩⟩)
  refine ⟨.ref s.heap.objs.size, _, I.laid (t' := s.toks) (o := .tup []) (fun b ob q => Heap.get?_push_of_some _ q) (Nat.le_refl _) ?_, rfl, q _ (I.hok.fresh (Nat.le_refl _))⟩
  exact ⟨by rw [sizeLine_eq]; decide, _, .nil, IsTup.new _ _⟩
def rMulA (K : PySem.W.Frag) : R2 := fun x y H Q => ((rI CMul (fun i j => .int (i * j)) x y H Q ∨ rRepT K x y H Q) ∨ rRep1 K x y H Q) ∨ rRep0 K x y H Q
theorem op_mulA {X : Cx} : OpR X (binaryOp .Mult) (rMulA X.K) := OpR.or (OpR.or (OpR.or op_mul op_repT) op_rep1) op_rep0
theorem b64_of {i : Int} (h : b64 i = true) : -(2 ^ 64) < i ∧ i < 2 ^ 64 := by
  unfold b64 at h
  rw [Bool.and_eq_true] at h
  have h1 := of_decide_eq_true h.1
  have h2 := of_decide_eq_true h.2
  exact ⟨by omega, by omega⟩
theorem w_mul : Op2 K (rMulA K) oMul := ⟨fun F H x y a b d Q s ra rb e q => by
  unfold oMul at e
  split at e
  · split at e
    · next i j hb =>
      cases e
      cases ra
      cases rb
      refine .inl (.inl (.inl ⟨_, _, rfl, rfl, ?_, done s q (.int _)⟩))
      rcases Bool.or_eq_true_iff.mp hb with h | h
      · exact .inl (b64_of h)
      · exact .inr (b64_of h)
    · cases e
  · next xs k =>
    split at e
    · next hl =>
      split at e
      · cases e
      · next hne =>
        split at e
        · next h2 =>
          split at e
          · next h1k =>
            cases e
            cases rb
            cases ra with
            | tup h1 t1 =>
              have l1 := t1.length
              refine .inl (.inl (.inr ⟨_, _, _, rfl, rfl, sameT s (sqT_of h1), fun z => ?_, h2, h1k, by omega, fun p hp => doneT s q (t1.rep _) hp⟩))
              subst z
              cases t1
              exact hne rfl
          · cases e
        · split at e
          · next h1k =>
            cases e
            cases rb
            cases ra with
            | tup h1 t1 =>
              subst h1k
              exact .inl (.inr ⟨_, _, rfl, rfl, sameT s (sqT_of h1), done s q (.tup h1 t1)⟩)
          · split at e
            · next h0k =>
              cases e
              cases rb
              cases ra with
              | tup h1 t1 =>
                subst h0k
                refine .inr ⟨_, _, rfl, rfl, sameT s (sqT_of h1), fun z => ?_, fun p hp => doneT s q .nil hp⟩
                subst z
                cases t1
                exact hne rfl
            · cases e
    · cases e
  · cases e⟩
def okD (d : D) : Bool := SeqAt.shaped d
def oEq (a b : D) : Option D := if okD a && okD b then some (.bool (PyData.eqv a b)) else none
def oNe (a b : D) : Option D := if okD a && okD b then some (.bool (!PyData.eqv a b)) else none
/-- equality of plain data -/
def rEqQ (K : PySem.W.Frag) : R2 := fun x y H Q => ∃ a b, (Dp K H x a ∧ Dp K H y b) ∧ (okD a = true ∧ okD b = true) ∧ Q (.bl (PyData.eqv a b)) H
def rNeQ (K : PySem.W.Frag) : R2 := fun x y H Q => ∃ a b, (Dp K H x a ∧ Dp K H y b) ∧ (okD a = true ∧ okD b = true) ∧ Q (.bl (!PyData.eqv a b)) H
def rInQ (K : PySem.W.Frag) : R2 := fun x y H Q => ∃ a bs, (Dp K H x a ∧ Dp K H y (.list bs)) ∧ (okD a = true ∧ okD (.list bs) = true) ∧ Q (.bl (bs.any fun z => PyData.eqv z a)) H
def rNotInQ (K : PySem.W.Frag) : R2 := fun x y H Q => ∃ a bs, (Dp K H x a ∧ Dp K H y (.list bs)) ∧ (okD a = true ∧ okD (.list bs) = true) ∧ Q (.bl (!bs.any fun z => PyData.eqv z a)) H
section
variable {X : Cx}
theorem op_eqQ (hu : X.A.units + 64 < cLine) : OpR X (compareOp .Eq) (rEqQ X.K) := fun _ _ _ H _ _ _ _ _ I rx ry ⟨_, _, ⟨ka, kb⟩, ⟨sa, sb⟩, q⟩ =>
  (Dp.reads I _ _ _ ka rx).elim fun _ h1 => (Dp.reads I _ _ _ kb ry).elim fun _ h2 => SeqAt.compareEq_shaped h1 h2 sa sb hu ⟨.bl _, H, I, rfl, q⟩
theorem op_neQ (hu : X.A.units + 64 < cLine) : OpR X (compareOp .NotEq) (rNeQ X.K) := fun _ _ _ H _ _ _ _ _ I rx ry ⟨_, _, ⟨ka, kb⟩, ⟨sa, sb⟩, q⟩ =>
  (Dp.reads I _ _ _ ka rx).elim fun _ h1 => (Dp.reads I _ _ _ kb ry).elim fun _ h2 => SeqAt.compareNe_shaped h1 h2 sa sb hu ⟨.bl _, H, I, rfl, q⟩
theorem op_inQ (hu : X.A.units + 65 < cLine) : OpR X (compareOp .In) (rInQ X.K) := fun _ _ _ H _ _ _ _ _ I rx ry ⟨_, _, ⟨ka, kb⟩, ⟨sa, sb⟩, q⟩ =>
  (Dp.reads I _ _ _ ka rx).elim fun _ h1 => (Dp.reads I _ _ _ kb ry).elim fun _ h2 => SeqAt.in_list_reads h2 h1 (SeqAt.canLay_of_shaped sb) (SeqAt.canLay_of_shaped sa) (room_in_shaped sa hu) ⟨.bl _, H, I, rfl, q⟩
theorem op_notInQ (hu : X.A.units + 65 < cLine) : OpR X (compareOp .NotIn) (rNotInQ X.K) := fun _ _ _ H _ _ _ _ _ I rx ry ⟨_, _, ⟨ka, kb⟩, ⟨sa, sb⟩, q⟩ =>
  (Dp.reads I _ _ _ ka rx).elim fun _ h1 => (Dp.reads I _ _ _ kb ry).elim fun _ h2 => SeqAt.notIn_list_reads h2 h1 (SeqAt.canLay_of_shaped sb) (SeqAt.canLay_of_shaped sa) (room_in_shaped sa hu) ⟨.bl _, H, I, rfl, q⟩
end
theorem w_eq : Op2 K (rEqQ K) oEq := ⟨fun F H x y a b d Q s ra rb e q => by
  unfold oEq at e
  split at e
  · next h =>
    cases e
    rw [Bool.and_eq_true] at h
    exact ⟨a, b, ⟨ra.mono s, rb.mono s⟩, h, done s q (.bl _)⟩
  · cases e⟩
theorem w_ne : Op2 K (rNeQ K) oNe := ⟨fun F H x y a b d Q s ra rb e q => by
  unfold oNe at e
  split at e
  · next h =>
    cases e
    rw [Bool.and_eq_true] at h
    exact ⟨a, b, ⟨ra.mono s, rb.mono s⟩, h, done s q (.bl _)⟩
  · cases e⟩
def isN : D → Bool
  | .none => true
  | _ => false
theorem isN_not {d : D} (h : isN d = false) : d ≠ .none := fun e => by
  subst e
  cases h
def cmpOk (a b : D) : Bool := PySem.W.alike a b && !isN a && decide (a.depth ≤ 60)
def oLt (a b : D) : Option D := if cmpOk a b then some (.bool (PySem.W.dataLt a b)) else none
def oGt (a b : D) : Option D := if cmpOk a b then some (.bool (PySem.W.dataLt b a)) else none
def oLe (a b : D) : Option D := if cmpOk a b then some (.bool (!PySem.W.dataLt b a)) else none
def oGe (a b : D) : Option D := if cmpOk a b then some (.bool (!PySem.W.dataLt a b)) else none
def rCmp (K : PySem.W.Frag) (g : D → D → Bool) : R2 := fun x y H Q => ∃ d e, Dp K H x d ∧ Dp K H y e ∧ cmpOk d e = true ∧ Q (.bl (g d e)) H
theorem cmpOk_of {a b : D} (h : cmpOk a b = true) : PySem.W.alike a b = true ∧ a ≠ .none ∧ a.depth ≤ 60 := by
  unfold cmpOk at h
  rw [Bool.and_eq_true, Bool.and_eq_true] at h
  exact ⟨h.1.1, isN_not (by simpa using h.1.2), of_decide_eq_true h.2⟩
section
variable {X : Cx}
theorem op_cmpD {op : CmpOp} {g : D → D → Bool} (hu : X.A.units + 64 < cLine)
    (rule : ∀ {A : Around} {E : Value → Shared → Prop} {s : Shared} {a b : Value} {da db : PyData} {as bs : List Addr} {Q : Value → Shared → Prop}, Reads s.heap a da as → Reads s.heap b db bs → PySem.W.alike da db = true → da ≠ .none → A.units + min da.depth db.depth < cLine → Q (.bool (g da db)) s → wpAny (model X.prog X.w) A (compareOp op a b) Q E s) : OpR X (compareOp op) (rCmp X.K g) := by
  intro pins s σ H x y v u Q I rx ry h
  obtain ⟨d, e, hd, he, c, q⟩ := h
  obtain ⟨as, r1⟩ := Dp.reads I d x v hd rx
  obtain ⟨bs, r2⟩ := Dp.reads I e y u he ry
  obtain ⟨c1, c2, c3⟩ := cmpOk_of c
  have := Nat.min_le_left d.depth e.depth
  exact rule r1 r2 c1 c2 (by omega) ⟨.bl _, H, I, rfl, q⟩
theorem op_ltD (hu : X.A.units + 64 < cLine) : OpR X (compareOp .Lt) (rCmp X.K fun a b => PySem.W.dataLt a b) := op_cmpD hu PySem.W.lt_data
theorem op_gtD (hu : X.A.units + 64 < cLine) : OpR X (compareOp .Gt) (rCmp X.K fun a b => PySem.W.dataLt b a) := op_cmpD hu PySem.W.gt_data
theorem op_leD (hu : X.A.units + 64 < cLine) : OpR X (compareOp .LtE) (rCmp X.K fun a b => !PySem.W.dataLt b a) := op_cmpD hu PySem.W.le_data
theorem op_geD (hu : X.A.units + 64 < cLine) : OpR X (compareOp .GtE) (rCmp X.K fun a b => !PySem.W.dataLt a b) := op_cmpD hu PySem.W.ge_data
end
theorem w_cmp {g : D → D → Bool} : Op2 K (rCmp K g) (fun a b => if cmpOk a b then some (.bool (g a b)) else none) := ⟨fun F H x y a b d Q s ra rb e q => by
  split at e
  · next h =>
    cases e
    exact ⟨a, b, ra.mono s, rb.mono s, h, done s q (.bl _)⟩
  · cases e⟩
theorem w_lt : Op2 K (rCmp K fun a b => PySem.W.dataLt a b) oLt := w_cmp
theorem w_gt : Op2 K (rCmp K fun a b => PySem.W.dataLt b a) oGt := w_cmp
theorem w_le : Op2 K (rCmp K fun a b => !PySem.W.dataLt b a) oLe := w_cmp
theorem w_ge : Op2 K (rCmp K fun a b => !PySem.W.dataLt a b) oGe := w_cmp
/-- is None, is True -/
def oIs : D → D → Option D
  | a, .none => some (.bool (isN a))
  | .bool j, .bool k => some (.bool (decide (j = k)))
  | _, _ => none
theorem isN_dec {F : Hp} {x : V} {a : D} (r : Rep K F x a) : decide (x = .non) = isN a := by
  cases r <;> rfl
def rIsA : R2 := fun x y H Q => (y = .non ∧ Q (.bl (decide (x = .non))) H) ∨ rIsB x y H Q
theorem op_isA {X : Cx} : OpR X (compareOp .Is) rIsA := OpR.or op_isN op_isBl
theorem w_is : Op2 K rIsA oIs := ⟨fun F H x y a b d Q s ra rb e q => by
  unfold oIs at e
  split at e
  · cases e
    cases rb
    exact .inl ⟨rfl, done s q (by rw [isN_dec ra]; exact .bl _)⟩
  · cases e
    cases ra
    cases rb
    exact .inr ⟨_, _, rfl, rfl, done s q (.bl _)⟩
  · cases e⟩
/-- x in xs -/
def oIn : D → D → Option D
  | d, .list ds => if okD d && okD (.list ds) then some (.bool (ds.any fun z => PyData.eqv z d)) else none
  | d, .tuple ds => if okD d && okD (.tuple ds) then some (.bool (ds.any fun z => PyData.eqv z d)) else none
  | _, _ => none
def oNotIn : D → D → Option D
  | d, .list ds => if okD d && okD (.list ds) then some (.bool (!ds.any fun z => PyData.eqv z d)) else none
  | d, .tuple ds => if okD d && okD (.tuple ds) then some (.bool (!ds.any fun z => PyData.eqv z d)) else none
  | _, _ => none
def rInT (K : PySem.W.Frag) : R2 := fun x y H Q => ∃ d ds, Dp K H x d ∧ Dp K H y (.tuple ds) ∧ SeqAt.shaped d = true ∧ SeqAt.shaped (.tuple ds) = true ∧ Q (.bl (ds.any fun z => PyData.eqv z d)) H
def rNotInT (K : PySem.W.Frag) : R2 := fun x y H Q => ∃ d ds, Dp K H x d ∧ Dp K H y (.tuple ds) ∧ SeqAt.shaped d = true ∧ SeqAt.shaped (.tuple ds) = true ∧ Q (.bl (!ds.any fun z => PyData.eqv z d)) H
section
variable {X : Cx}
theorem op_inT (hu : X.A.units + 65 < cLine) : OpR X (compareOp .In) (rInT X.K) := by
  intro pins s σ H x y v u Q I rx ry h
  obtain ⟨d, ds, hd, he, sd, se, q⟩ := h
  obtain ⟨as, r1⟩ := Dp.reads I d x v hd rx
  obtain ⟨bs, r2⟩ := Dp.reads I (.tuple ds) y u he ry
  exact SeqAt.in_tuple_reads r2 r1 (SeqAt.canLay_of_shaped se) (SeqAt.canLay_of_shaped sd) (room_in_shaped sd hu) ⟨.bl _, H, I, rfl, q⟩
theorem op_notInT (hu : X.A.units + 65 < cLine) : OpR X (compareOp .NotIn) (rNotInT X.K) := by
  intro pins s σ H x y v u Q I rx ry h
  obtain ⟨d, ds, hd, he, sd, se, q⟩ := h
  obtain ⟨as, r1⟩ := Dp.reads I d x v hd rx
  obtain ⟨bs, r2⟩ := Dp.reads I (.tuple ds) y u he ry
  exact SeqAt.notIn_tuple_reads r2 r1 (SeqAt.canLay_of_shaped se) (SeqAt.canLay_of_shaped sd) (room_in_shaped sd hu) ⟨.bl _, H, I, rfl, q⟩
def rInA (K : PySem.W.Frag) : R2 := fun x y H Q => rInQ K x y H Q ∨ rInT K x y H Q
def rNotInA (K : PySem.W.Frag) : R2 := fun x y H Q => rNotInQ K x y H Q ∨ rNotInT K x y H Q
theorem op_inA (hu : X.A.units + 65 < cLine) : OpR X (compareOp .In) (rInA X.K) := OpR.or (op_inQ hu) (op_inT hu)
theorem op_notInA (hu : X.A.units + 65 < cLine) : OpR X (compareOp .NotIn) (rNotInA X.K) := OpR.or (op_notInQ hu) (op_notInT hu)
end
theorem w_in : Op2 K (rInA K) oIn := ⟨fun F H x y a b d Q s ra rb e q => by
  unfold oIn at e
  split at e
  · split at e
    · next h =>
      cases e
      rw [Bool.and_eq_true] at h
      exact .inl ⟨_, _, ⟨ra.mono s, rb.mono s⟩, h, done s q (.bl _)⟩
    · cases e
  · split at e
    · next h =>
      cases e
      rw [Bool.and_eq_true] at h
      exact .inr ⟨_, _, ra.mono s, rb.mono s, h.1, h.2, done s q (.bl _)⟩
    · cases e
  · cases e⟩
theorem w_notIn : Op2 K (rNotInA K) oNotIn := ⟨fun F H x y a b d Q s ra rb e q => by
  unfold oNotIn at e
  split at e
  · split at e
    · next h =>
      cases e
      rw [Bool.and_eq_true] at h
      exact .inl ⟨_, _, ⟨ra.mono s, rb.mono s⟩, h, done s q (.bl _)⟩
    · cases e
  · split at e
    · next h =>
      cases e
      rw [Bool.and_eq_true] at h
      exact .inr ⟨_, _, ra.mono s, rb.mono s, h.1, h.2, done s q (.bl _)⟩
    · cases e
  · cases e⟩
def oIx : D → D → Option D
  | .list ds, .int i => atI ds i
  | .tuple ds, .int i => atI ds i
  | .str z, .int i => if z.length ≤ 1000000 then (atI z.cps.toList i).map fun c => .str ⟨#[c]⟩ else none
  | _, _ => none
theorem atI_rep {F : Hp} {vs : List V} {ds : List D} {i : Int} {d : D} (t : RepL K F vs ds) (e : atI ds i = some d) : ∃ v, atI vs i = some v ∧ Rep K F v d := by
  unfold atI at e ⊢
  obtain ⟨j, ej, e⟩ := bind_some e
  rw [t.length, ej]
  exact t.get e
theorem w_ix : Op2 K (rIx K) oIx := ⟨fun F H x y a b d Q s ra rb e q => by
  unfold oIx at e
  split at e
  · cases rb
    cases ra with
    | lst h1 t1 =>
      obtain ⟨v, h2, r⟩ := atI_rep t1 e
      exact .inl ⟨_, _, _, _, rfl, rfl, s.seq h1, h2, done s q r⟩
  · cases rb
    cases ra with
    | tup h1 t1 =>
      obtain ⟨v, h2, r⟩ := atI_rep t1 e
      exact .inr (.inl ⟨_, _, _, _, rfl, rfl, sameT s (sqT_of h1), h2, done s q r⟩)
  · split at e
    · next hl =>
      cases rb
      cases ra
      rw [Option.map_eq_some_iff] at e
      obtain ⟨c, h1, h2⟩ := e
      subst h2
      exact .inr (.inr ⟨_, _, _, rfl, rfl, leM hl, h1, done s q (.str _)⟩)
    · cases e
  · cases e⟩
def cutD (ds : List D) (lo hi : Option Int) : List D := (ds.drop (HT.sIx ds.length 0 lo)).take (HT.sIx ds.length ds.length hi - HT.sIx ds.length 0 lo)
def cNoPart : Env → Option (Option Int) := fun _ => some none
def cPart (f : Env → Option D) : Env → Option (Option Int) := fun ρ => (f ρ).bind fun d => match d with
  | .int i => some (some i)
  | _ => none
def tO (K : PySem.W.Frag) (z : Z) (f : Env → Option (Option Int)) : TO := fun σ H Q => ∃ ρ F O o, Rel K z ρ σ F H O ∧ f ρ = some o ∧ ∀ H', Same H H' → Q o H'
def oSl : D → Option Int → Option Int → Option D
  | .list ds, lo, hi => some (.list (cutD ds lo hi))
  | .tuple ds, lo, hi => some (.tuple (cutD ds lo hi))
  | .str z, lo, hi => none
  | _, _, _ => none
def cSl (f : Env → Option D) (l h : Env → Option (Option Int)) : Env → Option D := fun ρ => (f ρ).bind fun d => (l ρ).bind fun lo => (h ρ).bind fun hi => oSl d lo hi
section
variable {X : Cx} {z : Z}
theorem _root_.L2.PO.mono {e : Option Expr} {t t' : TO} (h : PO X e t) (i : ∀ σ H Q, t' σ H Q → t σ H Q) : PO X e t' := ⟨fun pins s σ H Q I q => h.run pins s σ H Q I (i _ _ _ q)⟩
theorem q_nopart : PO X none (tO X.K z cNoPart) := po_none.mono fun σ H Q ⟨ρ, F, O, o, R, e, q⟩ => by
  cases e
  exact q H (Same.refl _)
theorem q_part {e : Expr} {f : Env → Option D} (h : PE X e (tP X.K z f)) : PO X (some e) (tO X.K z (cPart f)) := (po_some h).mono fun σ H Q ⟨ρ, F, O, o, R, e, q⟩ => by
  obtain ⟨d, h1, h2⟩ := bind_some e
  split at h2
  · cases h2
    refine ⟨ρ, F, O, _, R, h1, fun v H1 s1 r1 => ?_⟩
    cases r1
    exact ⟨_, rfl, q H1 s1⟩
  · cases h2
theorem cutV_rep {K : PySem.W.Frag} {F : Hp} {vs : List V} {ds : List D} (t : RepL K F vs ds) (lo hi : Option Int) : RepL K F (cutV vs lo hi) (cutD ds lo hi) := by
  unfold cutV cutD
  rw [t.length]
  exact (t.drop _).take _
def rSlAll (K : PySem.W.Frag) : V → Option Int → Option Int → Hp → VK → Prop := fun x lo hi H Q => rSlL K x lo hi H Q ∨ rSlA K x lo hi H Q
theorem q_slice {e : Expr} {lo hi : Option Expr} {pos p2 : Pos} {f : Env → Option D} {l h : Env → Option (Option Int)} (he : PE X e (tP X.K z f)) (hl : PO X lo (tO X.K z l)) (hh : PO X hi (tO X.K z h)) : PE X (.Subscript e (.Slice lo hi none p2) pos) (tP X.K z (cSl f l h)) := by
  refine (pe_slice (r := rSlAll X.K) (SlR.or sl_list sl_tupA) he hl hh).mono fun σ H Q ⟨ρ, F, O, d, R, e, q⟩ => ?_
  obtain ⟨a, ea, e⟩ := bind_some e
  obtain ⟨li, el, e⟩ := bind_some e
  obtain ⟨hi, eh, e⟩ := bind_some e
  refine ⟨ρ, F, O, a, R, ea, fun v1 H1 s1 r1 => ?_⟩
  refine ⟨ρ, _, O, li, R.grow s1, el, fun H2 s2 => ?_⟩
  refine ⟨ρ, _, O, hi, R.grow (s1.trans s2), eh, fun H3 s3 => ?_⟩
  have s13 := (s1.trans s2).trans s3
  have R3 := R.grow s13
  have r3 : Rep X.K (ext F H H3) v1 a := r1.mono (by
    rw [← ext_ext s1 (s2.trans s3)]
    exact same_ext (R.grow s1).sub)
  have q3 : ∀ v H', Same H3 H' → Rep X.K (ext (ext F H H3) H3 H') v d → Q v H' := fun v H' s' r' => q v H' (s13.trans s') (by
    rw [ext_ext s13 s'] at r'
    exact r')
  unfold oSl at e
  split at e
  · cases e
    cases r3 with
    | lst h1 t1 => exact .inl ⟨_, _, rfl, R3.sub.seq h1, fun p hp => doneL R3.sub q3 (cutV_rep t1 li hi) hp⟩
  · next ds lo' hi' =>
    cases e
    cases r3 with
    | tup h1 t1 =>
      refine .inr ⟨_, _, rfl, sameT R3.sub (sqT_of h1), fun ⟨z1, z2⟩ => ?_, fun _ p hp => doneT R3.sub q3 (cutV_rep t1 li hi) hp⟩
      refine done R3.sub q3 ?_
      have e1 : cutD ds li hi = ds := by
        unfold cutD
        rw [← t1.length, z1, z2, t1.length]
        simp
      rw [e1]
      exact .tup h1 t1
  · cases e
  · cases e
end
end
end DL
namespace DL
open PySem PySem.Spec PyProof.Rows L2
def oLen : List D → Option D
  | [.list ds] => some (.int ds.length)
  | [.tuple ds] => some (.int ds.length)
  | [.str z] => if z.length ≤ 1000000 then some (.int z.length) else none
  | _ => none
def oInt : List D → Option D
  | [.int i] => some (.int i)
  | [.bool k] => some (.int (if k then 1 else 0))
  | _ => none
def oList : List D → Option D
  | [.list ds] => some (.list ds)
  | [.tuple ds] => some (.list ds)
  | _ => none
def oTuple : List D → Option D
  | [.list ds] => some (.tuple ds)
  | [.tuple ds] => some (.tuple ds)
  | _ => none
def intsOf : List D → Option (List Int)
  | [] => some []
  | .int i :: r => (intsOf r).map (i :: ·)
  | _ :: _ => none
theorem intsOf_eq : ∀ {ds : List D} {ns : List Int}, intsOf ds = some ns → ds = ns.map PyData.int
  | [], ns, h => by
    cases h
    rfl
  | .int i :: r, ns, h => by
    unfold intsOf at h
    rw [Option.map_eq_some_iff] at h
    obtain ⟨m, h1, h2⟩ := h
    subst h2
    rw [intsOf_eq h1]
    rfl
  | .none :: _, _, h => by cases h
  | .bool _ :: _, _, h => by cases h
  | .str _ :: _, _, h => by cases h
  | .list _ :: _, _, h => by cases h
  | .tuple _ :: _, _, h => by cases h
  | .dict _ :: _, _, h => by cases h
def sumI : List Int → Int
  | [] => 0
  | i :: r => i + sumI r
theorem sumI_eq : ∀ ns : List Int, sumI ns = ns.sum
  | [] => rfl
  | i :: r => by
    rw [List.sum_cons, ← sumI_eq r]
    rfl
def oSum : List D → Option D
  | [.list ds] => (intsOf ds).map fun ns => .int (sumI ns)
  | [.tuple ds] => (intsOf ds).map fun ns => .int (sumI ns)
  | _ => none
def allAlike (xs : List D) : Bool := xs.all fun x => xs.all fun y => PySem.W.alike x y
def minOk (xs : List D) : Bool := allAlike xs && xs.all (fun x => !isN x) && decide (PyData.depthAll xs ≤ 60)
def oMin : List D → Option D
  | [.int i, .int j] => some (.int (if j < i then j else i))
  | [.list (x :: xs)] => if minOk (x :: xs) then some (PySem.W.minD x xs) else none
  | [.tuple (x :: xs)] => if minOk (x :: xs) then some (PySem.W.minD x xs) else none
  | _ => none
def oMax : List D → Option D
  | [.int i, .int j] => some (.int (if j > i then j else i))
  | [.list (x :: xs)] => if minOk (x :: xs) then some (PySem.W.maxD x xs) else none
  | [.tuple (x :: xs)] => if minOk (x :: xs) then some (PySem.W.maxD x xs) else none
  | _ => none
section
variable {X : Cx} {K : PySem.W.Frag}
def rLen (K : PySem.W.Frag) : List V → Hp → VK → Prop := fun xs H Q => ∃ x n, xs = [x] ∧ LenV K x H n ∧ Q (.int n) H
theorem w_len : OpN K (rLen K) oLen := ⟨fun F H xs as d Q s ra e q => by
  unfold oLen at e
  split at e
  · cases e
    cases ra with
    | cons r t =>
      cases t
      cases r with
      | lst h1 t1 => exact ⟨_, _, rfl, .inl ⟨_, s.seq h1, rfl⟩, done s q (by rw [t1.length]; exact .int _)⟩
  · cases e
    cases ra with
    | cons r t =>
      cases t
      cases r with
      | tup h1 t1 => exact ⟨_, _, rfl, .inr ⟨_, sameT s (sqT_of h1), rfl⟩, done s q (by rw [t1.length]; exact .int _)⟩
  · split at e
    · next hl =>
      cases e
      cases ra with
      | cons r t =>
        cases t
        cases r
        exact ⟨_, _, rfl, ⟨leM hl, rfl⟩, done s q (.int _)⟩
    · cases e
  · cases e⟩
def rInt : List V → Hp → VK → Prop := fun xs H Q => (∃ i, xs = [.int i] ∧ Q (.int i) H) ∨ ∃ k, xs = [.bl k] ∧ Q (.int (if k then 1 else 0)) H
theorem w_int : OpN K rInt oInt := ⟨fun F H xs as d Q s ra e q => by
  unfold oInt at e
  split at e
  · cases e
    cases ra with
    | cons r t =>
      cases t
      cases r
      exact .inl ⟨_, rfl, done s q (.int _)⟩
  · cases e
    cases ra with
    | cons r t =>
      cases t
      cases r
      exact .inr ⟨_, rfl, done s q (.int _)⟩
  · cases e⟩
def rListOf (K : PySem.W.Frag) : List V → Hp → VK → Prop := fun xs H Q => ∃ p ys, xs = [.ref p] ∧ (SqL K H p ys ∨ SqT K H p ys) ∧ ∀ l, H l = none → Q (.ref l) (upd H l (.lst ys))
theorem w_list : OpN K (rListOf K) oList := ⟨fun F H xs as d Q s ra e q => by
  unfold oList at e
  split at e
  · cases e
    cases ra with
    | cons r t =>
      cases t
      cases r with
      | lst h1 t1 => exact ⟨_, _, rfl, .inl (s.seq h1), fun p hp => doneL s q t1 hp⟩
  · cases e
    cases ra with
    | cons r t =>
      cases t
      cases r with
      | tup h1 t1 => exact ⟨_, _, rfl, .inr (sameT s (sqT_of h1)), fun p hp => doneL s q t1 hp⟩
  · cases e⟩
def rTupleOf (K : PySem.W.Frag) : List V → Hp → VK → Prop := fun xs H Q => ∃ p ys, xs = [.ref p] ∧ ((SqL K H p ys ∧ ∀ l, H l = none → Q (.ref l) (upd H l (.tup ys))) ∨ (SqT K H p ys ∧ Q (.ref p) H))
theorem w_tuple : OpN K (rTupleOf K) oTuple := ⟨fun F H xs as d Q s ra e q => by
  unfold oTuple at e
  split at e
  · cases e
    cases ra with
    | cons r t =>
      cases t
      cases r with
      | lst h1 t1 => exact ⟨_, _, rfl, .inl ⟨s.seq h1, fun p hp => doneT s q t1 hp⟩⟩
  · cases e
    cases ra with
    | cons r t =>
      cases t
      cases r with
      | tup h1 t1 => exact ⟨_, _, rfl, .inr ⟨sameT s (sqT_of h1), done s q (.tup h1 t1)⟩⟩
  · cases e⟩
section
variable {prog : Program} {w : World} {A : Around} {E : Value → Shared → Prop} {s : Shared}
theorem iter_tupleI {l : Addr} {items : Array Value} {Q : Value → Shared → Prop} (hl : s.heap.IsTuple l items)
    (h : ∀ s₂ : Shared, s₂ = { s with heap := s.heap.push { cls := .type "tuple_iterator", data := .fields #[.ref l, .int 0 0] } } →
      (s₂.heap.IsTupleIter s.heap.objs.size l 0 ∧ s₂.heap.IsTuple l items) → (∀ b ∈ [s.heap.objs.size, l], b < s₂.heap.objs.size) → l ≠ s.heap.objs.size → Q (.ref s.heap.objs.size) s₂) :
    wpAny (model prog w) A (pyIter (.ref l)) Q E s := by
  have hlt : l < s.heap.objs.size := by obtain ⟨_, e, _⟩ := hl; exact Heap.lt_size e
  refine PyProof.Rows.iter_tuple hl (h _ rfl ⟨⟨_, Heap.get?_push_size _ rfl, rfl, rfl⟩, ?_⟩ (fun b hb => ?_) (Nat.ne_of_lt hlt))
  · obtain ⟨o, e, c⟩ := hl
    exact ⟨o, Heap.get?_push_of_some _ e, c⟩
  · show b < (s.heap.push _).objs.size
    rw [Heap.size_push]
    rcases List.mem_cons.mp hb with rfl | hb
    · exact Nat.lt_succ_self _
    · rcases List.mem_cons.mp hb with rfl | hb
      · exact Nat.lt_succ_of_lt hlt
      · cases hb
theorem tuple_kept {l : Addr} {h' : Heap} (hk : ∀ b o, b ∉ [s.heap.objs.size] → (s.heap.push { cls := .type "tuple_iterator", data := .fields #[.ref l, .int 0 0] }).get? b = some o → h'.get? b = some o) :
    ∀ b o, s.heap.get? b = some o → h'.get? b = some o := fun b o e => by
  refine hk b o (fun hm => ?_) (Heap.get?_push_of_some _ e)
  rcases List.mem_cons.mp hm with e1 | hm
  · exact absurd (e1 ▸ Heap.lt_size e) (Nat.lt_irrefl _)
  · cases hm
theorem tuple_sum_raw {l : Addr} {its : List Value} {ns : List Int} {Q : Value → Shared → Prop} (hh : A.handled = none) (hl : s.heap.IsTuple l its.toArray) (hi : IntsAre its ns)
    (h : ∀ h' tk t', (∀ b o, s.heap.get? b = some o → h'.get? b = some o) → Q (.int ns.sum t') { s with heap := h', toks := tk }) : wpAny (model prog w) A (call (.builtin "sum") [.ref l]) Q E s := by
  obtain ⟨xs, e⟩ := hi.allInts.items
  have hn : numsOf (intItems xs).toList = ns := by rw [← e]; exact hi.numsOf
  rw [nums_intItems] at hn
  rw [e] at hl
  refine PySem.call_sum_walkG (iter_tupleI hl fun s₂ e st hfp hlI => ?_)
  subst e
  refine ⟨_, _, _, _, _, _, numAt xs, rfl, Walks.tuple (A := A.in1) hh _ l hlI (intItems xs), st, hfp, (fun _ _ => intItems_at), fun h' tk t' hk => ?_⟩
  have := h h' tk t' (tuple_kept hk)
  rw [← hn] at this
  have e2 : preSum (numAt xs) (intItems xs).size = (List.map (·.1) xs.toList).sum := by
    rw [preSum_eq, List.take_of_length_le (by simp [intItems])]
  rw [e2]
  exact this
end
def rSumA (K : PySem.W.Frag) : List V → Hp → VK → Prop := fun vs H Q => rSum K vs H Q ∨ ∃ (a : Addr) (ns : List Int), vs = [V.ref a] ∧ SqT K H a (ns.map V.int) ∧ Q (.int ns.sum) H
theorem cr_sumA (hc : X.calm = true) : CallR X (.builtin "sum") (rSumA X.K) := CallR.or (cr_sum hc) (by
  intro pins s σ H vs us Q I r h
  obtain ⟨a, ns, rfl, hs, q⟩ := h
  obtain ⟨its, rv, hl, _⟩ := I.tuple hs
  rw [Vals.ref1 r]
  exact tuple_sum_raw (I.ok.hd hc) hl rv.ints fun h' tk t' hk => ⟨.int _, H, I.kept hk, ⟨_, rfl⟩, q⟩)
theorem w_sum : OpN K (rSumA K) oSum := ⟨fun F H xs as d Q s ra e q => by
  unfold oSum at e
  split at e
  · rw [Option.map_eq_some_iff] at e
    obtain ⟨ns, h1, h2⟩ := e
    subst h2
    have e2 := intsOf_eq h1
    subst e2
    cases ra with
    | cons r t =>
      cases t
      cases r with
      | lst h1 t1 =>
        rw [t1.ints] at h1
        exact .inl ⟨_, _, rfl, s.seq h1, done s q (by rw [sumI_eq]; exact .int _)⟩
  · rw [Option.map_eq_some_iff] at e
    obtain ⟨ns, h1, h2⟩ := e
    subst h2
    have e2 := intsOf_eq h1
    subst e2
    cases ra with
    | cons r t =>
      cases t
      cases r with
      | tup h1 t1 =>
        rw [t1.ints] at h1
        exact .inr ⟨_, _, rfl, sameT s (sqT_of h1), done s q (by rw [sumI_eq]; exact .int _)⟩
  · cases e⟩
theorem alike_of {xs : List D} (h : allAlike xs = true) : ∀ x ∈ xs, ∀ y ∈ xs, PySem.W.alike x y = true := fun x hx y hy => by
  unfold allAlike at h
  rw [List.all_eq_true] at h
  have h1 := h x hx
  rw [List.all_eq_true] at h1
  exact h1 y hy
theorem minOk_of {xs : List D} (h : minOk xs = true) : PySem.W.AlikeAll xs ∧ PyData.depthAll xs ≤ 60 := by
  unfold minOk at h
  rw [Bool.and_eq_true, Bool.and_eq_true] at h
  refine ⟨⟨alike_of h.1.1, fun x hx => ?_⟩, of_decide_eq_true h.2⟩
  have h1 := h.1.2
  rw [List.all_eq_true] at h1
  exact isN_not (by simpa using h1 x hx)
theorem min_at {A : Around} {E : Value → Shared → Prop} {s : Shared} {prog : Program} {w : World} {l : Addr} {vs : Array Value} {x : PyData} {xs : List PyData} {as : List Addr} {Q : Value → Shared → Prop} (hh : A.handled = none) (hl : s.heap.IsList l vs ∨ s.heap.IsTuple l vs) (hr : ReadsAll s.heap vs.toList (x :: xs) as) (ha : PySem.W.AlikeAll (x :: xs)) (hu : A.units + 1 + PyData.depthAll (x :: xs) < cLine)
    (h : ∀ (i : Nat) v h' tk, vs[i]? = some v → (x :: xs)[i]? = some (PySem.W.minD x xs) → (∀ b o, s.heap.get? b = some o → h'.get? b = some o) → Q v { s with heap := h', toks := tk }) :
    wpAny (model prog w) A (call (.builtin "min") [.ref l]) Q E s := by
  have hn : vs.size = xs.length + 1 := PySem.W.readsAll_len hr
  have e1 : vs.size - 1 = xs.length := by omega
  have e2 := PySem.W.argBest_fold PySem.W.dataLt PyData.none x xs xs.length (Nat.le_refl _)
  rw [List.take_length] at e2
  have e3 : ∀ {i : Nat}, i ≤ xs.length → (x :: xs).getD i .none = PySem.W.minD x xs → (x :: xs)[i]? = some (PySem.W.minD x xs) := fun {i} hi e => by
    have hlt : i < (x :: xs).length := Nat.lt_succ_of_le hi
    rw [List.getD_eq_getElem?_getD, List.getElem?_eq_getElem hlt] at e
    rw [List.getElem?_eq_getElem hlt]
    exact congrArg some e
  rcases hl with hl | hl
  · refine PySem.call_min_walkH (PySem.W.iter_listW (A := A.in1) hh hl fun s₂ e W st hfp hw hk => ?_)
    refine ⟨_, _, _, _, _, _, _, s.heap, _, rfl, W, st, hfp, by omega, hw, hk, PySem.W.cmpIn_lt (A := A.in1) hr ha (by show A.units + 1 + _ < _; exact hu), fun v s' hP m => ?_⟩
    obtain ⟨h', tk, rfl, hk'⟩ := PySem.W.moved_old e rfl m
    rw [e1] at hP
    exact h _ v h' tk hP (e3 e2.1 e2.2) hk'
  · refine PySem.call_min_walkH (PySem.W.iter_tupleW (A := A.in1) hh hl fun s₂ e W st hfp hw hk => ?_)
    refine ⟨_, _, _, _, _, _, _, s.heap, _, rfl, W, st, hfp, by omega, hw, hk, PySem.W.cmpIn_lt (A := A.in1) hr ha (by show A.units + 1 + _ < _; exact hu), fun v s' hP m => ?_⟩
    obtain ⟨h', tk, rfl, hk'⟩ := PySem.W.moved_old e rfl m
    rw [e1] at hP
    exact h _ v h' tk hP (e3 e2.1 e2.2) hk'
theorem max_at {A : Around} {E : Value → Shared → Prop} {s : Shared} {prog : Program} {w : World} {l : Addr} {vs : Array Value} {x : PyData} {xs : List PyData} {as : List Addr} {Q : Value → Shared → Prop} (hh : A.handled = none) (hl : s.heap.IsList l vs ∨ s.heap.IsTuple l vs) (hr : ReadsAll s.heap vs.toList (x :: xs) as) (ha : PySem.W.AlikeAll (x :: xs)) (hu : A.units + 1 + PyData.depthAll (x :: xs) < cLine)
    (h : ∀ (i : Nat) v h' tk, vs[i]? = some v → (x :: xs)[i]? = some (PySem.W.maxD x xs) → (∀ b o, s.heap.get? b = some o → h'.get? b = some o) → Q v { s with heap := h', toks := tk }) :
    wpAny (model prog w) A (call (.builtin "max") [.ref l]) Q E s := by
  have hn : vs.size = xs.length + 1 := PySem.W.readsAll_len hr
  have e1 : vs.size - 1 = xs.length := by omega
  have e2 := PySem.W.argBest_fold (fun y a => PySem.W.dataLt a y) PyData.none x xs xs.length (Nat.le_refl _)
  rw [List.take_length] at e2
  have e3 : ∀ {i : Nat}, i ≤ xs.length → (x :: xs).getD i .none = PySem.W.maxD x xs → (x :: xs)[i]? = some (PySem.W.maxD x xs) := fun {i} hi e => by
    have hlt : i < (x :: xs).length := Nat.lt_succ_of_le hi
    rw [List.getD_eq_getElem?_getD, List.getElem?_eq_getElem hlt] at e
    rw [List.getElem?_eq_getElem hlt]
    exact congrArg some e
  rcases hl with hl | hl
  · refine PySem.call_max_walkH (PySem.W.iter_listW (A := A.in1) hh hl fun s₂ e W st hfp hw hk => ?_)
    refine ⟨_, _, _, _, _, _, _, s.heap, _, rfl, W, st, hfp, by omega, hw, hk, PySem.W.cmpIn_gt (A := A.in1) hr ha (by show A.units + 1 + _ < _; exact hu), fun v s' hP m => ?_⟩
    obtain ⟨h', tk, rfl, hk'⟩ := PySem.W.moved_old e rfl m
    rw [e1] at hP
    exact h _ v h' tk hP (e3 e2.1 e2.2) hk'
  · refine PySem.call_max_walkH (PySem.W.iter_tupleW (A := A.in1) hh hl fun s₂ e W st hfp hw hk => ?_)
    refine ⟨_, _, _, _, _, _, _, s.heap, _, rfl, W, st, hfp, by omega, hw, hk, PySem.W.cmpIn_gt (A := A.in1) hr ha (by show A.units + 1 + _ < _; exact hu), fun v s' hP m => ?_⟩
    obtain ⟨h', tk, rfl, hk'⟩ := PySem.W.moved_old e rfl m
    rw [e1] at hP
    exact h _ v h' tk hP (e3 e2.1 e2.2) hk'
def rBest (K : PySem.W.Frag) (g : PyData → List PyData → PyData) : List V → Hp → VK → Prop := fun as H Q => ∃ a vs x xs, as = [V.ref a] ∧ (SqL K H a vs ∨ SqT K H a vs) ∧ DpAll K H vs (x :: xs) ∧ minOk (x :: xs) = true ∧ ∀ (i : Nat) v, vs[i]? = some v → (x :: xs)[i]? = some (g x xs) → Q v H
theorem cr_best {id : String} {g : PyData → List PyData → PyData} (hc : X.calm = true) (hu : X.A.units + 64 < cLine)
    (rule : ∀ {A : Around} {E : Value → Shared → Prop} {s : Shared} {l : Addr} {vs : Array Value} {x : PyData} {xs : List PyData} {as : List Addr} {Q : Value → Shared → Prop}, A.handled = none → (s.heap.IsList l vs ∨ s.heap.IsTuple l vs) → ReadsAll s.heap vs.toList (x :: xs) as → PySem.W.AlikeAll (x :: xs) → A.units + 1 + PyData.depthAll (x :: xs) < cLine →
      (∀ (i : Nat) v h' tk, vs[i]? = some v → (x :: xs)[i]? = some (g x xs) → (∀ b o, s.heap.get? b = some o → h'.get? b = some o) → Q v { s with heap := h', toks := tk }) → wpAny (model X.prog X.w) A (call (.builtin id) [.ref l]) Q E s) : CallR X (.builtin id) (rBest X.K g) := by
  intro pins s σ H vs us Q I r h
  obtain ⟨a, ws, x, xs, rfl, hs, hd, ok, q⟩ := h
  rw [Vals.ref1 r]
  obtain ⟨al, dp⟩ := minOk_of ok
  have fin : ∀ {its : List Value}, Vals ws its → (s.heap.IsList a its.toArray ∨ s.heap.IsTuple a its.toArray) → wpAny (model X.prog X.w) X.A (call (.builtin id) [.ref a]) (EP X pins σ Q) X.xe s := fun {its} rv hl => by
    obtain ⟨as, hr⟩ := Dp.readsAll I _ _ its hd rv
    refine rule (I.ok.hd hc) hl (show ReadsAll s.heap its.toArray.toList (x :: xs) as from hr) al (by omega) fun i v h' tk hi hd2 hk => ?_
    obtain ⟨y, hy, _⟩ := hd.get hd2
    obtain ⟨u, hu2, ru⟩ := rv.get hy
    have e : u = v := by
      have hi' : its[i]? = some v := by simpa using hi
      rw [hu2] at hi'
      exact Option.some.inj hi'
    subst e
    exact ⟨y, H, I.kept hk, ru, q i y hy hd2⟩
  rcases hs with hs | hs
  · obtain ⟨its, rv, hl, _⟩ := I.list hs
    exact fin rv (.inl hl.isList)
  · obtain ⟨its, rv, hl, _⟩ := I.tuple hs
    exact fin rv (.inr hl)
def rMin2 : List V → Hp → VK → Prop := fun xs H Q => ∃ i j, xs = [.int i, .int j] ∧ Q (.int (if j < i then j else i)) H
def rMax2 : List V → Hp → VK → Prop := fun xs H Q => ∃ i j, xs = [.int i, .int j] ∧ Q (.int (if j > i then j else i)) H
def rMinA (K : PySem.W.Frag) : List V → Hp → VK → Prop := fun xs H Q => rMin2 xs H Q ∨ rBest K PySem.W.minD xs H Q
def rMaxA (K : PySem.W.Frag) : List V → Hp → VK → Prop := fun xs H Q => rMax2 xs H Q ∨ rBest K PySem.W.maxD xs H Q
theorem cr_minA (hc : X.calm = true) (hu : X.A.units + 64 < cLine) : CallR X (.builtin "min") (rMinA X.K) := CallR.or (call_min2 hc) (cr_best hc hu min_at)
theorem cr_maxA (hc : X.calm = true) (hu : X.A.units + 64 < cLine) : CallR X (.builtin "max") (rMaxA X.K) := CallR.or (call_max2 hc) (cr_best hc hu max_at)
theorem w_best {F H : Hp} {v : V} {x : D} {xs : List D} {Q : VK} {g : D → List D → D} (s : Same F H) (r : Rep K F v (.list (x :: xs)) ∨ Rep K F v (.tuple (x :: xs))) (h : minOk (x :: xs) = true) (q : ∀ v H', Same H H' → Rep K (ext F H H') v (g x xs) → Q v H') : rBest K g [v] H Q := by
  rcases r with r | r
  · cases r with
    | lst h1 t1 =>
      refine ⟨_, _, x, xs, rfl, .inl (s.seq h1), t1.mono s, h, fun i v hv hd => done s q ?_⟩
      obtain ⟨d, hd2, rd⟩ := t1.get' hv
      rw [hd] at hd2
      cases hd2
      exact rd
  · cases r with
    | tup h1 t1 =>
      refine ⟨_, _, x, xs, rfl, .inr (sameT s (sqT_of h1)), t1.mono s, h, fun i v hv hd => done s q ?_⟩
      obtain ⟨d, hd2, rd⟩ := t1.get' hv
      rw [hd] at hd2
      cases hd2
      exact rd
theorem w_min : OpN K (rMinA K) oMin := ⟨fun F H xs as d Q s ra e q => by
  unfold oMin at e
  split at e
  · cases e
    cases ra with
    | cons r1 t =>
      cases t with
      | cons r2 t =>
        cases t
        cases r1
        cases r2
        exact .inl ⟨_, _, rfl, done s q (.int _)⟩
  · split at e
    · next h =>
      cases e
      cases ra with
      | cons r t =>
        cases t
        exact .inr (w_best s (.inl r) h q)
    · cases e
  · split at e
    · next h =>
      cases e
      cases ra with
      | cons r t =>
        cases t
        exact .inr (w_best s (.inr r) h q)
    · cases e
  · cases e⟩
theorem w_max : OpN K (rMaxA K) oMax := ⟨fun F H xs as d Q s ra e q => by
  unfold oMax at e
  split at e
  · cases e
    cases ra with
    | cons r1 t =>
      cases t with
      | cons r2 t =>
        cases t
        cases r1
        cases r2
        exact .inl ⟨_, _, rfl, done s q (.int _)⟩
  · split at e
    · next h =>
      cases e
      cases ra with
      | cons r t =>
        cases t
        exact .inr (w_best s (.inl r) h q)
    · cases e
  · split at e
    · next h =>
      cases e
      cases ra with
      | cons r t =>
        cases t
        exact .inr (w_best s (.inr r) h q)
    · cases e
  · cases e⟩
def ins {α : Type} (le : α → α → Bool) (x : α) : List α → List α
  | [] => [x]
  | y :: r => if le x y then x :: y :: r else y :: ins le x r
def isort {α : Type} (le : α → α → Bool) : List α → List α
  | [] => []
  | x :: r => ins le x (isort le r)
section
variable {α : Type} {le : α → α → Bool}
theorem ins_mem {x z : α} : ∀ {l : List α}, z ∈ ins le x l ↔ z = x ∨ z ∈ l
  | [] => by simp [ins]
  | y :: r => by
    unfold ins
    split
    · simp
    · simp only [List.mem_cons, ins_mem (l := r)]
      constructor
      · rintro (h | h | h)
        · exact .inr (.inl h)
        · exact .inl h
        · exact .inr (.inr h)
      · rintro (h | h | h)
        · exact .inr (.inl h)
        · exact .inl h
        · exact .inr (.inr h)
theorem ins_pw (T : PySem.W.TotalLe le) {x : α} : ∀ {l : List α}, l.Pairwise (fun a b => le a b = true) → (ins le x l).Pairwise (fun a b => le a b = true)
  | [], _ => by simp [ins]
  | y :: r, h => by
    have h1 := List.pairwise_cons.mp h
    unfold ins
    split
    · next e => exact List.pairwise_cons.mpr ⟨fun z hz => by
        rcases List.mem_cons.mp hz with q | q
        · rw [q]
          exact e
        · exact T.trans _ _ _ e (h1.1 z q), h⟩
    · next e =>
      refine List.pairwise_cons.mpr ⟨fun z hz => ?_, ins_pw T h1.2⟩
      rcases ins_mem.mp hz with q | q
      · rw [q]
        exact (T.total x y).resolve_left e
      · exact h1.1 z q
theorem isort_pw (T : PySem.W.TotalLe le) : ∀ l : List α, (isort le l).Pairwise (fun a b => le a b = true)
  | [] => List.Pairwise.nil
  | x :: r => ins_pw T (isort_pw T r)
theorem ins_filter (T : PySem.W.TotalLe le) (c : α) {x : α} : ∀ {l : List α}, (ins le x l).filter (PySem.W.sameRank le c) = (x :: l).filter (PySem.W.sameRank le c)
  | [] => rfl
  | y :: r => by
    unfold ins
    split
    · rfl
    · next e =>
      have ih := ins_filter T c (x := x) (l := r)
      rw [List.filter_cons, ih, List.filter_cons, List.filter_cons, List.filter_cons]
      by_cases hx : PySem.W.sameRank le c x = true
      · have hy : PySem.W.sameRank le c y = false := by
          rw [Bool.eq_false_iff]
          intro hy
          unfold PySem.W.sameRank at hx hy
          rw [Bool.and_eq_true] at hx hy
          exact e (T.trans _ _ _ hx.2 hy.1)
        rw [hx, hy]
        simp
      · rw [if_neg hx, if_neg hx]
theorem isort_filter (T : PySem.W.TotalLe le) (c : α) : ∀ l : List α, (isort le l).filter (PySem.W.sameRank le c) = l.filter (PySem.W.sameRank le c)
  | [] => rfl
  | x :: r => by
    show (ins le x (isort le r)).filter _ = _
    rw [ins_filter T c, List.filter_cons, List.filter_cons, isort_filter T c r]
theorem isort_eq (T : PySem.W.TotalLe le) (l : List α) : isort le l = l.mergeSort le := PySem.W.sort_unique T (isort_pw T l) fun c => isort_filter T c l
end
def leD (a b : D) : Bool := !PySem.W.dataLt b a
theorem leD_total : PySem.W.TotalLe leD := PySem.W.sortLe_total (PyProof.Rows.listOrd PyProof.Rows.itemOrd) false PySem.W.keyToks
def sortOk (ds : List D) : Bool := allAlike ds && (ds.all (fun d => match d with
  | .tuple (_ :: _) => true
  | _ => false) || ds.all (fun d => match d with
  | .none => false
  | .tuple _ => false
  | _ => true)) && decide (PyData.depthAll ds ≤ 60)
theorem depth_mem : ∀ {ds : List PyData} {d : PyData}, d ∈ ds → d.depth ≤ PyData.depthAll ds
  | x :: r, d, h => by
    rw [PyData.depthAll]
    rcases List.mem_cons.mp h with e | e
    · rw [e]
      exact Nat.le_max_left _ _
    · exact Nat.le_trans (depth_mem e) (Nat.le_max_right _ _)
theorem sortOk_of {ds : List D} (h : sortOk ds = true) : PySem.W.AllAlike ds ∧ PySem.W.Sortable ds ∧ PyData.depthAll ds ≤ 60 := by
  unfold sortOk at h
  rw [Bool.and_eq_true, Bool.and_eq_true] at h
  refine ⟨fun x hx y hy => alike_of h.1.1 x hx y hy, ?_, of_decide_eq_true h.2⟩
  rcases Bool.or_eq_true_iff.mp h.1.2 with q | q
  · refine .inl fun d hd => ?_
    rw [List.all_eq_true] at q
    have := q d hd
    split at this
    · exact ⟨_, _, rfl⟩
    · cases this
  · refine .inr fun d hd => ?_
    rw [List.all_eq_true] at q
    have := q d hd
    split at this
    · cases this
    · cases this
    · next h1 h2 => exact ⟨h1, fun xs => h2 xs⟩
theorem each_of {K : PySem.W.Frag} {F : Hp} : ∀ {vs : List V} {ds : List D}, RepL K F vs ds → PySem.W.EachIs (Rep K F) vs ds
  | _, _, .nil => .nil
  | _, _, .cons h t => .cons h (each_of t)
theorem of_each {K : PySem.W.Frag} {F : Hp} : ∀ {vs : List V} {ds : List D}, PySem.W.EachIs (Rep K F) vs ds → RepL K F vs ds
  | _, _, .nil => .nil
  | _, _, .cons h t => .cons h (of_each t)
theorem each_vals {Φ : V → D → Prop} : ∀ {vs : List V} {us : List Value} {ds : List D}, Vals vs us → PySem.W.EachIs Φ vs ds → PySem.W.EachIs (fun u d => ∃ v, RelV v u ∧ Φ v d) us ds
  | _, _, _, .nil, .nil => .nil
  | _, _, _, .cons r t, .cons h k => .cons ⟨_, r, h⟩ (each_vals t k)
theorem vals_each {Φ : V → D → Prop} : ∀ {us : List Value} {ds : List D}, PySem.W.EachIs (fun u d => ∃ v, RelV v u ∧ Φ v d) us ds → ∃ vs, Vals vs us ∧ PySem.W.EachIs Φ vs ds
  | _, _, .nil => ⟨[], .nil, .nil⟩
  | _, _, .cons ⟨v, r, h⟩ t => by
    obtain ⟨vs, h1, h2⟩ := vals_each t
    exact ⟨v :: vs, .cons r h1, .cons h h2⟩
def rSortedD (K : PySem.W.Frag) : List V → Hp → VK → Prop := fun xs H Q => ∃ (a : Addr) (vs : List V) (ds : List D) (Φ : V → D → Prop), xs = [V.ref a] ∧ SqL K H a vs ∧ DpAll K H vs ds ∧ PySem.W.EachIs Φ vs ds ∧ sortOk ds = true ∧
  ∀ vs' p, H p = none → PySem.W.EachIs Φ vs' (isort leD ds) → Q (.ref p) (upd H p (.lst vs'))
section
variable {X : Cx} {K : PySem.W.Frag}
theorem cr_sortedD (hu : X.A.units + 64 < cLine) : CallR X (.builtin "sorted") (rSortedD X.K) := by
  intro pins s σ H xs us Q I r h
  obtain ⟨a, vs, ds, Φ, rfl, hs, hd, hΦ, ok, q⟩ := h
  rw [Vals.ref1 r]
  obtain ⟨al, so, dp⟩ := sortOk_of ok
  obtain ⟨its, rv, hl, hz⟩ := I.list hs
  obtain ⟨as, hr⟩ := Dp.readsAll I _ _ its hd rv
  have l1 := hd.length
  have ms : ds.map (fun d => d) = ds := List.map_id' ds
  refine PySem.W.sorted_data (enc := fun d : PyData => d) (R := fun u d => ∃ v, RelV v u ∧ Φ v d) hl.isList (each_vals rv hΦ) (PySem.W.readsAll_each (fun d => d) (by rw [ms]; exact hr)) (by rw [ms]; exact al) (by rw [ms]; exact so) (by omega) (fun d hd => ?_) fun out hlen he => ?_
  · have := depth_mem hd
    omega
  · obtain ⟨vs', rv', hv'⟩ := vals_each he
    obtain ⟨ep, he'⟩ := PyProof.Rows.sortedAll_at s.heap its out.toArray
    have e : ds.mergeSort (PySem.W.dataLe false fun d => d) = isort leD ds := (isort_eq leD_total ds).symm
    rw [e] at hv'
    refine ⟨.ref _, upd H (s.heap.objs.size + 1) (.lst vs'), I.laid (t' := s.toks) (fun _ _ => PyProof.Rows.sortedAll_old) (Nat.le_succ _) ⟨?_, out, ep, rv', he'⟩, rfl, q _ _ (I.hok.fresh (Nat.le_succ _)) hv'⟩
    rw [rv'.length, hlen]
    omega
def tyName : D → String
  | .none => "NoneType"
  | .bool _ => "bool"
  | .int _ => "int"
  | .str _ => "str"
  | .list _ => "list"
  | .tuple _ => "tuple"
  | .dict _ => "dict"
theorem ty_of {F : Hp} {v : V} {d : D} (r : Rep K F v d) : TyX K F v (.type (tyName d)) := by
  cases r with
  | non => exact .base .non
  | bl b => exact .base (.bl b)
  | int i => exact .base (.int i)
  | str s => exact .base (.str s)
  | dic h _ _ =>
    rcases h with h | ⟨o, h⟩
    · exact .base (.dK h)
    · exact .fDict h
  | lst h t =>
    rcases h with (h | ⟨o, h⟩) | ⟨o, its, n, h, c, _⟩
    · exact .base (.lst h)
    · exact .base (.frz h)
    · exact .kList h c
  | tup h t => exact .base (.tup h)
/-- the built-in types that are asked for -/
inductive Ty where
  | int | bool | str | list | tuple
def Ty.name : Ty → String
  | .int => "int"
  | .bool => "bool"
  | .str => "str"
  | .list => "list"
  | .tuple => "tuple"
def isTyN : Ty → String → Bool
  | .int, n => n == "int" || n == "bool"
  | .bool, n => n == "bool"
  | .str, n => n == "str"
  | .list, n => n == "list"
  | .tuple, n => n == "tuple"
def isTy : Ty → D → Bool
  | .int, .int _ => true
  | .int, .bool _ => true
  | .bool, .bool _ => true
  | .str, .str _ => true
  | .list, .list _ => true
  | .tuple, .tuple _ => true
  | _, _ => false
theorem kit_all (t : Ty) : ["NoneType", "bool", "int", "str", "list", "tuple", "dict"].all (fun n => decide (kitB n t.name = some (isTyN t n))) = true := by
  cases t <;> decide +kernel
theorem isTy_N (t : Ty) (d : D) : isTyN t (tyName d) = isTy t d := by
  cases t <;> cases d <;> simp [isTyN, isTy, tyName]
theorem isTy_kit (t : Ty) (d : D) : kitB (tyName d) t.name = some (isTy t d) := by
  have h := List.all_eq_true.mp (kit_all t) (tyName d) (by cases d <;> simp [tyName])
  rw [of_decide_eq_true h, isTy_N]
def cIsi (T : Ty) (f : Env → Option D) : Env → Option D := fun ρ => (f ρ).bind fun d => some (.bool (isTy T d))
variable {z : Z}
theorem q_isi {e : Expr} {T : Ty} {x : Str} {p q pos : Pos} {f : Env → Option D} (he : PE X e (tP X.K z f)) (hg : Gl X "isinstance") (hm : X.mg "isinstance" = none) (hb : bootBuiltins "isinstance" = some (.builtin "isinstance")) (ht : PE X (.Name x q) (tC (.ty T.name)))
    (hes : starEach [e, .Name x q] X.env = (false, eval e X.env) :: starEach [.Name x q] X.env := by rfl) (hes2 : starEach [.Name x q] X.env = (false, eval (.Name x q) X.env) :: starEach [] X.env := by rfl) (hpl : (backTo pos (starEach [.Name x q] X.env)).any (·.1) = false := by rfl) :
    PE X (.Call (.Name "isinstance" p) [e, .Name x q] [] pos) (tP X.K z (cIsi T f)) := by
  refine (pe_callB call_isi hg hm hb (pa_cons he (pa_cons ht pa_nil hes2) hes) (by decide) (by decide) hes hpl).mono fun σ H Q ⟨ρ, F, O, d, R, e, q⟩ => ?_
  obtain ⟨a, ea, e⟩ := bind_some e
  cases e
  refine ⟨ρ, F, O, a, R, ea, fun v1 H1 s1 r1 => ?_⟩
  have R1 := R.grow s1
  exact ⟨v1, .ty T.name, _, _, _, rfl, .ty T.name, ty_of (r1.mono R1.sub), kit_ty (isTy_kit T a), q _ H1 s1 (.bl _)⟩
def cIsi2 (T U : Ty) (f : Env → Option D) : Env → Option D := fun ρ => (f ρ).bind fun d => some (.bool (isTy T d || isTy U d))
theorem q_isi2 {e : Expr} {T U : Ty} {x y : Str} {p q q2 pos tpos : Pos} {k : Nat} {f : Env → Option D} (he : PE X e (tP X.K z f)) (hg : Gl X "isinstance") (hm : X.mg "isinstance" = none) (hb : bootBuiltins "isinstance" = some (.builtin "isinstance")) (ht : PE X (.Name x q) (tC (.ty T.name))) (hu : PE X (.Name y q2) (tC (.ty U.name)))
    (hes : starEach [e, .Tuple [.Name x q, .Name y q2] k tpos] X.env = (false, eval e X.env) :: starEach [.Tuple [.Name x q, .Name y q2] k tpos] X.env := by rfl)
    (hpl : (backTo pos (starEach [.Tuple [.Name x q, .Name y q2] k tpos] X.env)).any (·.1) = false := by rfl) :
    PE X (.Call (.Name "isinstance" p) [e, .Tuple [.Name x q, .Name y q2] k tpos] [] pos) (tP X.K z (cIsi2 T U f)) := by
  refine (pe_callB call_isiT hg hm hb (pa_cons he (pa_cons (pe_tup (pa_cons ht (pa_cons hu pa_nil))) pa_nil) hes) (by decide) (by decide) hes hpl).mono fun σ H Q ⟨ρ, F, O, d, R, e, q⟩ => ?_
  obtain ⟨a, ea, e⟩ := bind_some e
  cases e
  refine ⟨ρ, F, O, a, R, ea, fun v1 H1 s1 r1 => ⟨by show 2 ≤ sizeLine; decide, fun t ht => ?_⟩⟩
  have R1 := R.grow s1
  have sn := same_new (o := .tup [V.ty T.name, V.ty U.name]) ht
  refine ⟨v1, t, [.ty T.name, .ty U.name], _, [.type T.name, .type U.name], (isTy T a || isTy U a), rfl, upd_same, .cons (.ty _) (.cons (.ty _) .nil), ty_of ((r1.mono R1.sub).mono sn), kitAny_cons (kit_ty (isTy_kit T a)) (fun e1 => ?_) (fun e1 => ?_), q _ _ (s1.trans sn) (.bl _)⟩
  · rw [e1, Bool.false_or]
    refine kitAny_cons (kit_ty (isTy_kit U a)) (fun e2 => ?_) (fun e2 => e2)
    rw [e2]
    exact kitAny_nil
  · rw [e1]
    rfl
end
end
end DL
namespace DL
open PySem PySem.Spec PyProof.Rows L2
structure Kp (F H F' H' : Hp) (O : Nat → List Addr) : Prop where
  same : Same F F'
  keep : ∀ a o, H a = some o → (∀ i, a ∉ O i) → H' a = some o
  out : ∀ a, H a ≠ none → F a = none → F' a = none
  dom : ∀ a, H a ≠ none → H' a ≠ none
theorem Kp.refl {F H : Hp} {O : Nat → List Addr} : Kp F H F H O := ⟨Same.refl _, fun _ _ h _ => h, fun _ _ h => h, fun _ h => h⟩
theorem Kp.trans {F H F1 H1 F2 H2 : Hp} {O : Nat → List Addr} (a : Kp F H F1 H1 O) (b : Kp F1 H1 F2 H2 O) : Kp F H F2 H2 O :=
  ⟨a.same.trans b.same, fun x o h n => b.keep x o (a.keep x o h n) n, fun x h f => b.out x (a.dom x h) (a.out x h f), fun x h => b.dom x (a.dom x h)⟩
theorem ne_none {α : Type} {x : Option α} {a : α} (h : x = some a) : x ≠ none := by
  rw [h]
  exact fun z => nomatch z
theorem some_of {α : Type} {x : Option α} (h : x ≠ none) : ∃ a, x = some a := by
  cases x with
  | none => exact absurd rfl h
  | some a => exact ⟨a, rfl⟩
theorem Kp.of_same {F H H' : Hp} {O : Nat → List Addr} (s0 : Same F H) (s : Same H H') : Kp F H (ext F H H') H' O :=
  ⟨same_ext s0, fun a o h _ => s _ _ h, fun a h f => by
    obtain ⟨o, q⟩ := some_of h
    unfold ext
    simp [q, f], fun a h => by
    obtain ⟨o, q⟩ := some_of h
    exact ne_none (s _ _ q)⟩
section
variable {K : PySem.W.Frag} {z : Z} {ρ : Env} {σ : L2.St} {F H : Hp} {O : Nat → List Addr}
/-- an address that nothing tells of changes -/
theorem Rel.other (R : Rel K z ρ σ F H O) {p : Addr} {o : HO} (hF : F p = none) (hO : ∀ i, p ∉ O i) (h0 : z.H0 p = none) (ho : ∀ vs, o ≠ .tup vs := by intro _ q; cases q) : Rel K z ρ σ F (upd H p o) O where
  len := R.len
  sub := DL.Same.upd2 R.sub hF
  ent := fun i e h => by
    obtain ⟨v, h1, h2⟩ := R.ent i e h
    exact ⟨v, h1, h2.mono (Same.refl _) fun a ha => upd_ne (show a ≠ p from fun q => hO i (q ▸ ha))⟩
  off := fun i a ha => ⟨(R.off i a ha).1, by
    rw [upd_ne (show a ≠ p from fun q => hO i (q ▸ ha))]
    exact (R.off i a ha).2⟩
  apt := R.apt
  old := R.old
  oldH := fun a h => by
    by_cases e : a = p
    · rw [e, upd_same]
      exact fun z => nomatch z
    · rw [upd_ne e]
      exact R.oldH a h
  keep := fun a o' h b => by
    have e : a ≠ p := fun e => by
      rw [e, h0] at h
      cases h
    rw [upd_ne e]
    exact R.keep a o' h b
  f0 := R.f0
  tup := R.tup.up ho
/-- slot i gets a new entry with its own addresses -/
def setO (O : Nat → List Addr) (i : Nat) (as : List Addr) : Nat → List Addr := fun j => if j = i then as else O j
theorem Rel.setE (R : Rel K z ρ σ F H O) {i : Nat} {e : E} {v : V} {as : List Addr} (h : Ent K z F H v e as) (hn : ∀ a ∈ as, F a = none ∧ H a ≠ none ∧ ∀ j, j ≠ i → a ∉ O j) : Rel K z (ρ.set i (some e)) (σ.set i (some v)) F H (setO O i as) where
  len := by rw [List.length_set, List.length_set, R.len]
  sub := R.sub
  ent := fun j e' hj => by
    unfold setO
    by_cases q : j = i
    · subst q
      have hl : j < ρ.length := by
        have := (List.getElem?_eq_some_iff.mp hj).1
        rw [List.length_set] at this
        exact this
      rw [List.getElem?_set_self hl] at hj
      cases hj
      rw [if_pos rfl]
      exact ⟨v, List.getElem?_set_self (by rw [← R.len]; exact hl), h⟩
    · rw [List.getElem?_set_ne (Ne.symm q)] at hj
      rw [if_neg q, List.getElem?_set_ne (Ne.symm q)]
      exact R.ent j e' hj
  off := fun j a ha => by
    unfold setO at ha
    by_cases q : j = i
    · rw [if_pos q] at ha
      exact ⟨(hn a ha).1, (hn a ha).2.1⟩
    · rw [if_neg q] at ha
      exact R.off j a ha
  apt := fun j k a hj hk => by
    unfold setO at hj hk
    by_cases q : j = i
    · by_cases q2 : k = i
      · rw [q, q2]
      · rw [if_pos q] at hj
        rw [if_neg q2] at hk
        exact absurd hk ((hn a hj).2.2 k q2)
    · by_cases q2 : k = i
      · rw [if_neg q] at hj
        rw [if_pos q2] at hk
        exact absurd hj ((hn a hk).2.2 j q)
      · rw [if_neg q] at hj
        rw [if_neg q2] at hk
        exact R.apt j k a hj hk
  old := R.old
  oldH := R.oldH
  keep := R.keep
  f0 := R.f0
  tup := R.tup
theorem Rel.setD (R : Rel K z ρ σ F H O) {i : Nat} {d : D} {v : V} (h : Rep K F v d) : Rel K z (ρ.set i (some (.sh d))) (σ.set i (some v)) F H (setO O i []) :=
  R.setE (e := .sh d) ⟨rfl, h⟩ fun a ha => by cases ha
/-- some slots are forgotten -/
theorem Rel.weak (R : Rel K z ρ σ F H O) {ρ' : Env} {σ' : L2.St} (hl : ρ'.length = σ'.length) (h : ∀ (i : Nat) e, ρ'[i]? = some (some e) → ρ[i]? = some (some e) ∧ σ'[i]? = σ[i]?) : Rel K z ρ' σ' F H O where
  len := hl
  sub := R.sub
  ent := fun i e hi => by
    obtain ⟨h1, h2⟩ := h i e hi
    obtain ⟨v, h3, h4⟩ := R.ent i e h1
    exact ⟨v, h2.trans h3, h4⟩
  off := R.off
  apt := R.apt
  old := R.old
  oldH := R.oldH
  keep := R.keep
  f0 := R.f0
  tup := R.tup
end
def tR (K : PySem.W.Frag) (z : Z) (f : Env → Option (D × Env)) : TE := fun σ H Q => ∃ ρ F O d ρ', Rel K z ρ σ F H O ∧ f ρ = some (d, ρ') ∧ ∀ v F' H', Rel K z ρ' σ F' H' O → Kp F H F' H' O → Rep K F' v d → Q v H'
def tRs (K : PySem.W.Frag) (z : Z) (f : Env → Option (List D × Env)) : TA := fun σ H Q => ∃ ρ F O ds ρ', Rel K z ρ σ F H O ∧ f ρ = some (ds, ρ') ∧ ∀ vs F' H', Rel K z ρ' σ F' H' O → Kp F H F' H' O → RepL K F' vs ds → Q vs H'
def tBR (K : PySem.W.Frag) (z : Z) (f : Env → Option (Bool × Env)) : TT := fun σ H Q => ∃ ρ F O b ρ', Rel K z ρ σ F H O ∧ f ρ = some (b, ρ') ∧ ∀ F' H', Rel K z ρ' σ F' H' O → Kp F H F' H' O → Q b H'
/-- a new value with objects of its own -/
def tW (K : PySem.W.Frag) (z : Z) (f : Env → Option (E × Env)) : TE := fun σ H Q => ∃ ρ F O e ρ', Rel K z ρ σ F H O ∧ f ρ = some (e, ρ') ∧ ∀ v F' H' as, Rel K z ρ' σ F' H' O → Kp F H F' H' O → Ent K z F' H' v e as → (∀ a ∈ as, H a = none ∧ F' a = none ∧ H' a ≠ none) → Q v H'
def lf (f : Env → Option D) : Env → Option (D × Env) := fun ρ => (f ρ).map fun d => (d, ρ)
def lfs (f : Env → Option (List D)) : Env → Option (List D × Env) := fun ρ => (f ρ).map fun d => (d, ρ)
def lfb (f : Env → Option Bool) : Env → Option (Bool × Env) := fun ρ => (f ρ).map fun d => (d, ρ)
def wsh (f : Env → Option (D × Env)) : Env → Option (E × Env) := fun ρ => (f ρ).map fun p => (.sh p.1, p.2)
section
variable {X : Cx} {z : Z}
theorem map_some {α β : Type} {x : Option α} {f : α → β} {b : β} (h : x.map f = some b) : ∃ a, x = some a ∧ f a = b := Option.map_eq_some_iff.mp h
theorem r_lf {e : Expr} {f : Env → Option D} (h : PE X e (tP X.K z f)) : PE X e (tR X.K z (lf f)) := h.mono fun σ H Q ⟨ρ, F, O, d, ρ', R, e, q⟩ => by
  obtain ⟨a, h1, h2⟩ := map_some e
  cases h2
  exact ⟨ρ, F, O, d, R, h1, fun v H' s r => q v _ H' (R.grow s) (.of_same R.sub s) r⟩
theorem r_lfs {es : List Expr} {f : Env → Option (List D)} (h : PA X es (tPs X.K z f)) : PA X es (tRs X.K z (lfs f)) := h.mono fun σ H Q ⟨ρ, F, O, d, ρ', R, e, q⟩ => by
  obtain ⟨a, h1, h2⟩ := map_some e
  cases h2
  exact ⟨ρ, F, O, d, R, h1, fun v H' s r => q v _ H' (R.grow s) (.of_same R.sub s) r⟩
theorem r_lfb {e : Expr} {f : Env → Option Bool} (h : PT X e (tB X.K z f)) : PT X e (tBR X.K z (lfb f)) := h.mono fun σ H Q ⟨ρ, F, O, d, ρ', R, e, q⟩ => by
  obtain ⟨a, h1, h2⟩ := map_some e
  cases h2
  exact ⟨ρ, F, O, d, R, h1, fun H' s => q _ H' (R.grow s) (.of_same R.sub s)⟩
theorem w_sh {e : Expr} {f : Env → Option (D × Env)} (h : PE X e (tR X.K z f)) : PE X e (tW X.K z (wsh f)) := h.mono fun σ H Q ⟨ρ, F, O, en, ρ', R, e, q⟩ => by
  obtain ⟨⟨d, ρ2⟩, h1, h2⟩ := map_some e
  cases h2
  exact ⟨ρ, F, O, d, _, R, h1, fun v F' H' R' k r => q v F' H' [] R' k ⟨rfl, r⟩ fun a ha => by cases ha⟩
/-- own objects are shared -/
def frzE : E → D
  | .sh d => d
  | .own d => d
  | .own2 d => d
  | .row d => d
  | .dk _ ks => .dict (ks.map fun p => (kD p.1, p.2))
  | .dt _ _ => .none
  | .fn _ _ => .none
  | .ob _ _ => .none
  | .obs _ => .none
  | .odd _ => .none
def canFz : E → Bool
  | .row _ => false
  | .dt _ _ => false
  | .fn _ _ => false
  | .ob _ _ => false
  | .obs _ => false
  | .odd _ => false
  | _ => true
theorem objs_rep {K : PySem.W.Frag} {F H : Hp} : ∀ {qs : List Addr} {ds : List D}, Objs K F H qs ds → (∀ q ∈ qs, F q = none) → ∃ F', Same F F' ∧ (∀ a, F' a ≠ F a → a ∈ qs ∧ F' a = H a) ∧ RepL K F' (qs.map V.ref) ds
  | _, _, .nil, _ => ⟨F, Same.refl _, fun a h => absurd rfl h, .nil⟩
  | _, _, .cons (p := p) (ps := ps) (d := d) (ds := ds) h t, hn => by
    obtain ⟨F1, s1, c1, r1⟩ := objs_rep t fun q hq => hn q (List.mem_cons_of_mem _ hq)
    cases d with
    | list es =>
      obtain ⟨vs, h1, h2⟩ := h
      by_cases hp : F1 p = none
      · refine ⟨upd F1 p (.lst vs), s1.trans (same_new hp), fun a ha => ?_, .cons (.lst (.of upd_same) ((h2.mono s1).mono (same_new hp))) (r1.mono (same_new hp))⟩
        by_cases e : a = p
        · rw [e, upd_same]
          exact ⟨List.mem_cons_self, h1.symm⟩
        · rw [upd_ne e] at ha ⊢
          exact ⟨List.mem_cons_of_mem _ (c1 a ha).1, (c1 a ha).2⟩
      · have e1 : F1 p = H p := (c1 p (by
          rw [hn p List.mem_cons_self]
          exact hp)).2
        exact ⟨F1, s1, fun a ha => ⟨List.mem_cons_of_mem _ (c1 a ha).1, (c1 a ha).2⟩, .cons (.lst (.of (e1.trans h1)) (h2.mono s1)) r1⟩
    | _ => exact h.elim
/-- the shared part may take in the addresses of one entry -/
theorem ent_rep {K : PySem.W.Frag} {z : Z} {F H : Hp} {v : V} {e : E} {as : List Addr} (h : Ent K z F H v e as) (hr : canFz e = true) (hn : ∀ a ∈ as, F a = none) : ∃ F', Same F F' ∧ (∀ a, F' a ≠ F a → a ∈ as ∧ F' a = H a) ∧ Rep K F' v (frzE e) := by
  cases e with
  | sh d => exact ⟨F, Same.refl _, fun a q => absurd rfl q, h.2⟩
  | row d => cases hr
  | dt l ks => cases hr
  | fn j f => cases hr
  | ob m fs => cases hr
  | obs fs => cases hr
  | odd o => cases hr
  | dk l ks =>
    obtain ⟨p, kvs, e1, e2, e3, h⟩ := h
    subst e1
    have ek : (ks.map fun p => (kD p.1, p.2)).map (·.1) = kvs.map (fun p => kD p.1) := by
      have := congrArg (List.map kD) e2
      rw [List.map_map, List.map_map] at this
      rw [List.map_map]
      exact this.symm
    have ev : (ks.map fun p => (kD p.1, p.2)).map (·.2) = ks.map (·.2) := by rw [List.map_map]; rfl
    rcases h with ⟨h1, h2, _, h4⟩ | ⟨h1, h2, o, h3⟩
    · subst h2
      have hp := hn p List.mem_cons_self
      refine ⟨upd F p (.dK kvs), same_new hp, fun a ha => ?_, .dic (.of upd_same) ek (by rw [ev]; exact e3.mono (same_new hp))⟩
      by_cases e : a = p
      · rw [e, upd_same]
        exact ⟨List.mem_cons_self, h4.symm⟩
      · rw [upd_ne e] at ha
        exact absurd rfl ha
    · exact ⟨F, Same.refl _, fun a q => absurd rfl q, .dic (.inr ⟨o, h3⟩) ek (by rw [ev]; exact e3)⟩
  | own d =>
    obtain ⟨p, e1, e2, _, h⟩ := h
    subst e1 e2
    cases d with
    | list es =>
      obtain ⟨vs, h1, h2⟩ := h
      have hp := hn p List.mem_cons_self
      refine ⟨upd F p (.lst vs), same_new hp, fun a ha => ?_, .lst (.of upd_same) (h2.mono (same_new hp))⟩
      by_cases e : a = p
      · rw [e, upd_same]
        exact ⟨List.mem_cons_self, h1.symm⟩
      · rw [upd_ne e] at ha
        exact absurd rfl ha
    | _ => exact h.elim
  | own2 d =>
    obtain ⟨p, qs, ds, e1, e2, e3, h1, h2, _, h4⟩ := h
    subst e1 e2 e3
    obtain ⟨F1, s1, c1, r1⟩ := objs_rep h4 fun q hq => hn q (List.mem_cons_of_mem _ hq)
    have hp : F1 p = none := by
      cases q : F1 p with
      | none => rfl
      | some o =>
        have := (c1 p (by rw [q, hn p List.mem_cons_self]; exact fun z => nomatch z)).1
        exact absurd this (List.nodup_cons.mp h2).1
    refine ⟨upd F1 p (.lst (qs.map V.ref)), s1.trans (same_new hp), fun a ha => ?_, .lst (.of upd_same) (r1.mono (same_new hp))⟩
    by_cases e : a = p
    · rw [e, upd_same]
      exact ⟨List.mem_cons_self, h1.symm⟩
    · rw [upd_ne e] at ha ⊢
      exact ⟨List.mem_cons_of_mem _ (c1 a ha).1, (c1 a ha).2⟩
def r2 (o : D → D → Option D) (f g : Env → Option (D × Env)) : Env → Option (D × Env) := fun ρ => (f ρ).bind fun p => (g p.2).bind fun q => (o p.1 q.1).map fun d => (d, q.2)
def r1 (o : D → Option D) (f : Env → Option (D × Env)) : Env → Option (D × Env) := fun ρ => (f ρ).bind fun p => (o p.1).map fun d => (d, p.2)
def rN (o : List D → Option D) (f : Env → Option (List D × Env)) : Env → Option (D × Env) := fun ρ => (f ρ).bind fun p => (o p.1).map fun d => (d, p.2)
def rNil : Env → Option (List D × Env) := fun ρ => some ([], ρ)
def rCons (f : Env → Option (D × Env)) (g : Env → Option (List D × Env)) : Env → Option (List D × Env) := fun ρ => (f ρ).bind fun p => (g p.2).bind fun q => some (p.1 :: q.1, q.2)
theorem tR2 {K : PySem.W.Frag} {r : R2} {o : D → D → Option D} (ho : Op2 K r o) {f g : Env → Option (D × Env)} {σ : L2.St} {H : Hp} {Q : VK} (h : tR K z (r2 o f g) σ H Q) : tOp r (tR K z f) (tR K z g) σ H Q := by
  obtain ⟨ρ, F, O, d, ρ', R, e, q⟩ := h
  obtain ⟨⟨a, ρ1⟩, ea, e⟩ := bind_some e
  obtain ⟨⟨b, ρ2⟩, eb, e⟩ := bind_some e
  obtain ⟨d2, ed, e⟩ := map_some e
  cases e
  refine ⟨ρ, F, O, a, ρ1, R, ea, fun v1 F1 H1 R1 k1 r1 => ?_⟩
  refine ⟨ρ1, F1, O, b, ρ2, R1, eb, fun v2 F2 H2 R2 k2 r2 => ?_⟩
  exact ho.run F2 H2 v1 v2 a b d Q R2.sub (r1.mono k2.same) r2 ed fun v H3 s3 r3 => q v _ H3 (R2.grow s3) ((k1.trans k2).trans (.of_same R2.sub s3)) r3
theorem r_cmp {a b : Expr} {pos : Pos} {op : CmpOp} {r : R2} {o : D → D → Option D} {f g : Env → Option (D × Env)} (hr : OpR X (compareOp op) r) (ho : Op2 X.K r o) (ha : PE X a (tR X.K z f)) (hb : PE X b (tR X.K z g)) (hm : behindInMarks op b = false) : PE X (.Compare a [op] [b] pos) (tR X.K z (r2 o f g)) :=
  (pe_cmpR hr ha hb hm).mono fun _ _ _ h => tR2 ho h
theorem r_ix {a b : Expr} {pos : Pos} {r : R2} {o : D → D → Option D} {f g : Env → Option (D × Env)} (hr : IxR X r) (ho : Op2 X.K r o) (ha : PE X a (tR X.K z f)) (hb : PE X b (tR X.K z g)) (hs : PlainIx b := by exact fun _ _ => rfl) : PE X (.Subscript a b pos) (tR X.K z (r2 o f g)) :=
  (pe_ix hr ha hb hs).mono fun _ _ _ h => tR2 ho h
theorem r_nil : PA X [] (tRs X.K z rNil) := pa_nil.mono fun σ H Q ⟨ρ, F, O, ds, ρ', R, e, q⟩ => by
  cases e
  exact q [] F H R .refl .nil
theorem r_cons {e : Expr} {es : List Expr} {f : Env → Option (D × Env)} {g : Env → Option (List D × Env)} (ha : PE X e (tR X.K z f)) (hr : PA X es (tRs X.K z g)) (hs : starEach (e :: es) X.env = (false, eval e X.env) :: starEach es X.env := by rfl) : PA X (e :: es) (tRs X.K z (rCons f g)) := by
  refine (pa_cons ha hr hs).mono fun σ H Q ⟨ρ, F, O, ds, ρ', R, e, q⟩ => ?_
  obtain ⟨⟨a, ρ1⟩, ea, e⟩ := bind_some e
  obtain ⟨⟨as, ρ2⟩, eb, e⟩ := bind_some e
  cases e
  refine ⟨ρ, F, O, a, ρ1, R, ea, fun v1 F1 H1 R1 k1 r1 => ?_⟩
  refine ⟨ρ1, F1, O, as, ρ2, R1, eb, fun v2 F2 H2 R2 k2 r2 => ?_⟩
  exact q _ F2 H2 R2 (k1.trans k2) (.cons (r1.mono k2.same) r2)
def dLst (ds : List D) : Option D := if ds.length ≤ 1000 then some (.list ds) else none
theorem new_kp {F H : Hp} {O : Nat → List Addr} {p : Addr} {o : HO} (s0 : Same F H) (hp : H p = none) : Kp F H (upd F p o) (upd H p o) O := by
  have := Kp.of_same (O := O) s0 (same_new (o := o) hp)
  rwa [ext_new s0 hp] at this
theorem Rel.newS {K : PySem.W.Frag} {ρ : Env} {σ : L2.St} {F H : Hp} {O : Nat → List Addr} {p : Addr} {o : HO} (R : Rel K z ρ σ F H O) (hp : H p = none) : Rel K z ρ σ (upd F p o) (upd H p o) O := by
  have := R.grow (same_new (o := o) hp)
  rwa [ext_new R.sub hp] at this
theorem r_lst {es : List Expr} {pos : Pos} {f : Env → Option (List D × Env)} (h : PA X es (tRs X.K z f)) : PE X (.List es pos) (tR X.K z (rN dLst f)) := by
  refine (pe_lst h).mono fun σ H Q ⟨ρ, F, O, d, ρ', R, e, q⟩ => ?_
  obtain ⟨⟨ds, ρ1⟩, ea, e⟩ := bind_some e
  obtain ⟨d2, ed, e⟩ := map_some e
  cases e
  have ed : dLst ds = some _ := ed
  unfold dLst at ed
  split at ed
  · next hl =>
    cases ed
    refine ⟨ρ, F, O, ds, ρ1, R, ea, fun vs F1 H1 R1 k1 r1 => ⟨le1000 (by rw [r1.length]; exact hl), fun p hp => ?_⟩⟩
    exact q _ _ _ (R1.newS hp) (k1.trans (new_kp R1.sub hp)) (.lst (.of upd_same) (r1.mono (same_new (R1.sub.free hp))))
  · cases ed
/-- a fresh list that is nobody's yet -/
theorem Rel.newW {K : PySem.W.Frag} {ρ : Env} {σ : L2.St} {F H : Hp} {O : Nat → List Addr} {p : Addr} {o : HO} (R : Rel K z ρ σ F H O) (hp : H p = none) (ho : ∀ vs, o ≠ .tup vs := by intro _ q; cases q) : Rel K z ρ σ F (upd H p o) O :=
  R.other (R.sub.free hp) (fun i hi => (R.off i p hi).2 hp) (by
    cases q : z.H0 p with
    | none => rfl
    | some u => exact absurd hp (R.oldH p (ne_none q))) ho
theorem newW_kp {F H : Hp} {O : Nat → List Addr} {p : Addr} {o : HO} (s0 : Same F H) (hp : H p = none) : Kp F H F (upd H p o) O :=
  ⟨Same.refl _, fun a x h _ => by rw [upd_ne (ne_of_none h hp)]; exact h, fun a _ f => f, fun a h => by
    obtain ⟨x, q⟩ := some_of h
    rw [upd_ne (ne_of_none q hp)]
    exact h⟩
theorem H0_of {K : PySem.W.Frag} {ρ : Env} {σ : L2.St} {F H : Hp} {O : Nat → List Addr} {p : Addr} (R : Rel K z ρ σ F H O) (hp : H p = none) : z.H0 p = none := by
  cases q : z.H0 p with
  | none => rfl
  | some u => exact absurd hp (R.oldH p (ne_none q))
theorem Kp.none_back {F H F' H' : Hp} {O : Nat → List Addr} (k : Kp F H F' H' O) {p : Addr} (h : H' p = none) : H p = none := by
  cases q : H p with
  | none => rfl
  | some o => exact absurd h (k.dom p (ne_none q))
/-- Q of a fresh list p of vs: as an own object -/
theorem fin_own {K : PySem.W.Frag} {ρ' : Env} {σ : L2.St} {F H F1 H1 : Hp} {O : Nat → List Addr} {Q : VK} {vs : List V} {ds : List D} {p : Addr} (R1 : Rel K z ρ' σ F1 H1 O) (k1 : Kp F H F1 H1 O)
    (q : ∀ v F' H' as, Rel K z ρ' σ F' H' O → Kp F H F' H' O → Ent K z F' H' v (.own (.list ds)) as → (∀ a ∈ as, H a = none ∧ F' a = none ∧ H' a ≠ none) → Q v H') (r : RepL K F1 vs ds) (hp : H1 p = none) : Q (.ref p) (upd H1 p (.lst vs)) :=
  q _ F1 _ [p] (R1.newW hp) (k1.trans (newW_kp R1.sub hp)) ⟨p, rfl, rfl, H0_of R1 hp, vs, upd_same, r⟩ fun a ha => by
    rcases List.mem_cons.mp ha with e | e
    · subst e
      exact ⟨k1.none_back hp, R1.sub.free hp, by rw [upd_same]; exact fun z => nomatch z⟩
    · cases e
def wN (o : List D → Option (List D)) (f : Env → Option (List D × Env)) : Env → Option (E × Env) := fun ρ => (f ρ).bind fun p => (o p.1).map fun ds => (.own (.list ds), p.2)
def few (ds : List D) : Option (List D) := if ds.length ≤ 1000 then some ds else none
theorem w_lst {es : List Expr} {pos : Pos} {f : Env → Option (List D × Env)} (h : PA X es (tRs X.K z f)) : PE X (.List es pos) (tW X.K z (wN few f)) := by
  refine (pe_lst h).mono fun σ H Q ⟨ρ, F, O, en, ρ', R, e, q⟩ => ?_
  obtain ⟨⟨ds, ρ1⟩, ea, e⟩ := bind_some e
  obtain ⟨d2, ed, e⟩ := map_some e
  cases e
  have ed : few ds = some d2 := ed
  unfold few at ed
  split at ed
  · next hl =>
    cases ed
    exact ⟨ρ, F, O, ds, _, R, ea, fun vs F1 H1 R1 k1 r1 => ⟨le1000 (by rw [r1.length]; exact hl), fun p hp => fin_own R1 k1 q r1 hp⟩⟩
  · cases ed
end
end DL
namespace DL
open PySem PySem.Spec PyProof.Rows L2
section
open Sem (wp)
open AutoSeq1 (wpAny_loadPart')
set_option maxHeartbeats 1000000 in
theorem meets_enum1 {v : Value} {o : Obj} {H : Heap → Prop} (B : PySem.Begins v o H) :
    Meets (Builtin.«enumerate.__new__» ⟨[.type "enumerate", v], []⟩) (fun _ R s => H s.heap ∧
      R (.ok (.ret (.ref (s.heap.push o).objs.size))) { s with heap := (s.heap.push o).push { cls := .type "enumerate", data := .fields #[.none, .bool false, .ref s.heap.objs.size, rawInt 0, .none, .none] } }) :=
  .of_wp fun prog w A R s h => by
    obtain ⟨hp, g, d, tk, os⟩ := s; obtain ⟨h1, h⟩ := h
    have hsub := sub_enumerate
    have q1 : ∀ {A' : Around} {E : Value → Shared → Prop} {Q : Value → Shared → Prop}, Q (.ref hp.objs.size) ⟨hp.push o, g, d, tk, os⟩ → wpAny (model prog w) A' (pyIter v) Q E ⟨hp, g, d, tk, os⟩ :=
      fun q => B.iter prog w _ _ ⟨hp, g, d, tk, os⟩ _ h1 q
    wp_walk using q1
    refine wpAny_stack_any fun st => wpAny_pure ?_
    split
    · rename_i c _ _ _ _ _
      cases (c == Value.type "enumerate")
      · wp_walk using q1
        exact ⟨_, rfl, h⟩
      · wp_walk using q1
        exact ⟨_, rfl, h⟩
    · wp_walk using q1
      exact ⟨_, rfl, h⟩
end
section
variable {prog : Program} {w : World} {A : Around} {E : Value → Shared → Prop} {s : Shared}
theorem enum_begins1 {v : Value} {o : Obj} {H : Heap → Prop} {Q : Value → Shared → Prop} (B : PySem.Begins v o H) (h1 : H s.heap)
    (h : ∀ h', IsEnum h' (s.heap.objs.size + 1) s.heap.objs.size 0 .none → h'.get? s.heap.objs.size = some o → h'.objs.size = s.heap.objs.size + 2 →
      (∀ b o, s.heap.get? b = some o → h'.get? b = some o) → Q (.ref (s.heap.objs.size + 1)) { s with heap := h' }) :
    wpAny (model prog w) A (call (.type "enumerate") [v]) Q E s := by
  refine callType_new F.called_enumerate (by decide) (F.typeCall_enumerate_1 _) (F.newCall_enumerate_1 _) (fun obj => F.args_object_init_2 obj _) F.entry_enumerate_new
    (meets_enum1 B) ⟨h1, ?_⟩
  have hz : (s.heap.push o).objs.size = s.heap.objs.size + 1 := Heap.size_push ..
  show _ ∧ _
  rw [hz]
  have he : IsEnum ((s.heap.push o).push { cls := .type "enumerate", data := .fields #[.none, .bool false, .ref s.heap.objs.size, rawInt 0, .none, .none] }) (s.heap.objs.size + 1) s.heap.objs.size 0 .none := by
    have := Heap.get?_push_size (s.heap.push o) (o := { cls := .type "enumerate", data := .fields #[.none, .bool false, .ref s.heap.objs.size, rawInt 0, .none, .none] }) rfl
    rw [hz] at this; exact this
  refine ⟨⟨_, he, rfl⟩, h _ he (Heap.get?_push_of_some _ (Heap.get?_push_size _ B.free)) (by rw [Heap.size_push, hz]) fun b o x => Heap.get?_push_of_some _ (Heap.get?_push_of_some _ x)⟩
end
/-- a list (true) or a tuple (false) of xs stands at a -/
def Sq (K : PySem.W.Frag) (H : Hp) (k : Bool) (a : Addr) (xs : List V) : Prop := match k with
  | true => SqL K H a xs
  | false => SqT K H a xs
theorem Sq.mono {K : PySem.W.Frag} {H H' : Hp} {k : Bool} {a : Addr} {xs : List V} (h : Sq K H k a xs) (s : Same H H') : Sq K H' k a xs := by
  cases k with
  | true => exact s.seq h
  | false => exact sameT s h
def ItAt (k : Bool) (h : Heap) (it a : Addr) (i : Nat) : Prop := match k with
  | true => h.IsListIter it a i
  | false => h.IsTupleIter it a i
def HSeq (k : Bool) (h : Heap) (a : Addr) (its : Array Value) : Prop := match k with
  | true => h.IsList a its
  | false => h.IsTuple a its
theorem ItAt.at {k : Bool} {h h' : Heap} {it a : Addr} {i : Nat} (x : ItAt k h it a i) (e : ∀ o, h.get? it = some o → h'.get? it = some o) : ItAt k h' it a i := by
  cases k with
  | true => exact Heap.IsListIter.at x e
  | false => exact Heap.IsTupleIter.at x e
theorem ItAt.ob {k : Bool} {h : Heap} {it a : Addr} {i : Nat} (x : ItAt k h it a i) : ∃ o, h.get? it = some o ∧ ∀ v, o.data ≠ .cell v := by
  cases k with
  | true =>
    obtain ⟨o, ho, _, hd⟩ := x
    exact ⟨o, ho, fun v q => by rw [hd] at q; cases q⟩
  | false =>
    obtain ⟨o, ho, _, hd⟩ := x
    exact ⟨o, ho, fun v q => by rw [hd] at q; cases q⟩
theorem draws (k : Bool) {prog : Program} {w : World} {A : Around} (hh : A.handled = none) (it a : Addr) (hne : a ≠ it) (items : Array Value) :
    Draws prog w A it [it, a] items.size (fun i v => items[i]? = some v) (fun i h => ItAt k h it a i ∧ HSeq k h a items) := by
  cases k with
  | true => exact Draws.list hh it a hne items
  | false => exact Draws.tuple hh it a hne items
def itObj (k : Bool) (a : Addr) : Obj := match k with
  | true => { cls := .type "list_iterator", data := .fields #[.ref a, .int 0 0] }
  | false => { cls := .type "tuple_iterator", data := .fields #[.ref a, .int 0 0] }
theorem begins (k : Bool) (a : Addr) (items : Array Value) : PySem.Begins (.ref a) (itObj k a) fun h => HSeq k h a items := by
  cases k with
  | true => exact begins_list a items
  | false => exact begins_tuple a items
theorem itObj_at {k : Bool} {h : Heap} {it a : Addr} (e : h.get? it = some (itObj k a)) : ItAt k h it a 0 := by
  cases k with
  | true => exact ⟨_, e, rfl, rfl⟩
  | false => exact ⟨_, e, rfl, rfl⟩
section
variable {X : Cx} {pins : List (Addr × Obj)} {σ : L2.St} {H : Hp} {s : Shared}
theorem invSq (I : Inv X pins σ H s) {k : Bool} {a : Addr} {xs : List V} (h : Sq X.K H k a xs) : ∃ its : List Value, Vals xs its ∧ HSeq k s.heap a its.toArray := by
  cases k with
  | true =>
    obtain ⟨its, r, pl, _⟩ := I.list h
    exact ⟨its, r, pl.isList⟩
  | false =>
    obtain ⟨its, r, pl, _⟩ := I.tuple h
    exact ⟨its, r, pl⟩
theorem invSq_inj (I : Inv X pins σ H s) {k : Bool} {a : Addr} {xs ys : List V} (h : Sq X.K H k a xs) (h' : Sq X.K H k a ys) : xs = ys := by
  cases k with
  | true => exact I.list_inj h h'
  | false => exact I.tuple_inj h h'
end
theorem HSeq.lt {k : Bool} {h : Heap} {a : Addr} {its : Array Value} (x : HSeq k h a its) : a < h.objs.size := by
  cases k with
  | true =>
    obtain ⟨o, e, _⟩ := x
    exact Heap.lt_size e
  | false =>
    obtain ⟨o, e, _⟩ := x
    exact Heap.lt_size e
/-- enumerate: each item in a new pair -/
def ItE (K : PySem.W.Frag) (k : Bool) (a : Addr) : It :=
  ⟨fun i H => ∃ (xs : List V) (x : V), Sq K H k a xs ∧ xs[i]? = some x, fun i H v H' => ∃ T x, v = .ref T ∧ H T = none ∧ H' = upd H T (.tup [.int (i : Nat), x]) ∧ ∀ xs, Sq K H k a xs → xs[i]? = some x, fun i H => ∃ xs : List V, Sq K H k a xs ∧ xs.length = i⟩
theorem turn_enumK {P : Program} {w : World} {K : PySem.W.Frag} {elts : List Expr} {kk : Nat} {tpos : Pos} {k : Bool} (a e it : Addr) :
    Turn P w K (.Tuple elts kk tpos) (ItE K k a) [e, it] e (fun i h => (∃ old, IsEnum h e it ((i : Nat) : Int) old) ∧ ItAt k h it a i ∧ e ≠ it ∧ a ≠ it ∧ a ≠ e) where
  mem := by simp
  obj := fun i h st b hb => by
    obtain ⟨⟨old, he⟩, hi, _⟩ := st
    have e' : b = e ∨ b = it := by simpa using hb
    rcases e' with z | z
    · rw [z]; exact ⟨_, he, fun v q => nomatch q⟩
    · rw [z]; exact hi.ob
  keep := fun i h h' st k => let ⟨⟨old, he⟩, hi, hne⟩ := st; ⟨⟨old, k e (by simp) _ he⟩, hi.at fun o q => k it (by simp) o q, hne⟩
  item := by
    intro X hP hw hK hc i pins s σ H E I hf st hg
    subst hP hw hK
    obtain ⟨⟨old, he⟩, hit, hne, hai, hae⟩ := st
    obtain ⟨xs, x, hq, hx⟩ := hg
    obtain ⟨its, rv, p⟩ := invSq I hq
    obtain ⟨u, hu, ru⟩ := rv.get hx
    have hlt : i < its.toArray.size := by
      have := (List.getElem?_eq_some_iff.mp hu).1
      simpa using this
    have hel : e < s.heap.objs.size := Heap.lt_size he
    have hil : it < s.heap.objs.size := by obtain ⟨_, q, _⟩ := hit.ob; exact Heap.lt_size q
    have D := draws k (prog := X.prog) (w := X.w) (A := X.A.in1) (I.ok.hd hc) it a hai its.toArray
    refine wpAny_pyNext_enum_itemD D he ⟨hit, p⟩ hlt hne (by simp [hne, hae.symm]) fun x' h' tk hP ho hit' hT hsz hk => ?_
    have ex : x' = u := by
      have hP' : its[i]? = some x' := by simpa using hP
      rw [hu] at hP'
      exact (Option.some.inj hP').symm
    subst ex
    refine ⟨_, rfl, wpAny_letOwnedTupleGo_enum (s := { s with heap := h', toks := tk + 1 }) ho fun h'' he' sb => ?_⟩
    have hT2 : h''.get? s.heap.objs.size = some { cls := .type "tuple", data := .seq #[.int i tk, x'] } := (sb.2 _ (Nat.ne_of_gt hel)).trans hT
    have new : ObjOk X.prog X.w (upd H s.heap.objs.size (.tup [.int (i : Nat), x])) h'' s.heap.objs.size (.tup [.int (i : Nat), x]) :=
      ⟨by show 2 ≤ sizeLine; decide, [.int i tk, x'], .cons ⟨_, rfl⟩ (.cons ru .nil), ⟨_, hT2, rfl, _, rfl⟩⟩
    have I1 : Inv X pins σ (upd H s.heap.objs.size (.tup [.int (i : Nat), x])) { s with heap := h'', toks := tk + 1 } :=
      I.turnedNew (ch := [e, it]) (fun b ob hb q => (sb.2 b (fun z => hb (by simp [z]))).trans (hk b ob (fun z => hb (by simp [z])) (fun z => hb (by simp [z])) q)) hf (Nat.le_refl _) new
    refine ⟨.ref s.heap.objs.size, _, I1, rfl, ⟨_, x, rfl, I.hok.fresh (Nat.le_refl _), rfl, fun ys hy => by rw [invSq_inj I hy hq]; exact hx⟩, ⟨⟨x', ?_⟩, hit'.1.at fun o q => (sb.2 it (Ne.symm hne)).trans q, hne, hai, hae⟩, fun b hb => ?_⟩
    · have e1 : ((i + 1 : Nat) : Int) = (i : Int) + 1 := by omega
      rw [e1]; exact he'
    · have hb' : b < s.heap.objs.size := by
        have e' : b = e ∨ b = it := by simpa using hb
        rcases e' with z | z
        · rw [z]; exact hel
        · rw [z]; exact hil
      rw [upd_ne (Nat.ne_of_lt hb')]
      exact (hf b hb).1
  done := by
    intro X hP hw hK hc i pins s σ H E I hf st hg
    subst hP hw hK
    obtain ⟨⟨old, he⟩, hit, hne, hai, hae⟩ := st
    obtain ⟨xs, hq, hx⟩ := hg
    obtain ⟨its, rv, p⟩ := invSq I hq
    obtain ⟨f0, f1, f2, f3, f4, f5⟩ := hf it (by simp)
    have hl := rv.length
    have D := draws k (prog := X.prog) (w := X.w) (A := X.A.in1) (I.ok.hd hc) it a hai its.toArray
    have hi : i = its.toArray.size := by
      rw [List.size_toArray]
      omega
    exact wpAny_pyNext_enum_endD D he (by rw [← hi]; exact ⟨hit, p⟩) fun h' eb => ⟨rfl, I.turned (t' := s.toks) (fun b o hb q => eb b o hb q) f0 f1 f3 f4 f5⟩
  self := fun A i s Q E st h => let ⟨⟨_, he⟩, _⟩ := st; wpAny_pyIter_enum he h
def iEnumK (K : PySem.W.Frag) (k : Bool) (ta : TA) : TI := fun σ H R => ta σ H fun vs H1 => ∃ a xs, vs = [.ref a] ∧ Sq K H1 k a xs ∧ R (ItE K k a) H1
theorem pi_enumK {X : Cx} {e : Expr} {ta : TA} {p pos tpos : Pos} {elts : List Expr} {kk : Nat} {k : Bool} (hg : Gl X "enumerate") (hm : X.mg "enumerate" = none) (ha : PA X [e] ta) (hs : starEach [e] X.env = [(false, eval e X.env)] := by rfl) :
    PI X (.Tuple elts kk tpos) (.Call (.Name "enumerate" p) [e] [] pos) (iEnumK X.K k ta) := by
  refine ⟨fun pins s σ H R I h => ?_⟩
  refine Call_ (ld_blt I hg hm boot_enumerate (PyProof.Rows.callWith_type1 (thn (ha.run pos pins s σ H _ I h) fun us s1 ⟨vs, H1, I1, r1, q1⟩ => ?_) hs rfl))
  obtain ⟨a, xs, ex, hq, q⟩ := q1
  subst ex
  cases r1 with
  | cons r rr =>
    cases rr
    cases r
    obtain ⟨its, rv, p'⟩ := invSq I1 hq
    have la := p'.lt
    refine enum_begins1 (begins k a its.toArray) p' fun h' he hit hsz hk => wpAny_pyIter_enum he ?_
    have I2 : Inv X pins σ H1 { s1 with heap := h' } := I1.kept (t' := s1.toks) hk
    refine ⟨s1.heap.objs.size + 1, [s1.heap.objs.size + 1, s1.heap.objs.size], _, _, H1, rfl, I2, turn_enumK a (s1.heap.objs.size + 1) s1.heap.objs.size, ⟨⟨.none, he⟩, itObj_at hit, Nat.succ_ne_self _, Nat.ne_of_lt la, Nat.ne_of_lt (Nat.lt_succ_of_lt la)⟩, fun b hb => ?_, q⟩
    have e' : b = s1.heap.objs.size + 1 ∨ b = s1.heap.objs.size := by simpa using hb
    have hle : s1.heap.objs.size ≤ b := by
      rcases e' with z | z
      · rw [z]; exact Nat.le_add_right _ _
      · rw [z]; exact Nat.le_refl _
    exact I1.fpOk hle (I1.hok.fresh hle)
/-- zip: both items in a new pair -/
def ItZ (K : PySem.W.Frag) (k l : Bool) (a b : Addr) : It :=
  ⟨fun i H => ∃ (xs ys : List V) (x y : V), Sq K H k a xs ∧ Sq K H l b ys ∧ xs[i]? = some x ∧ ys[i]? = some y,
    fun i H v H' => ∃ T x y, v = .ref T ∧ H T = none ∧ H' = upd H T (.tup [x, y]) ∧ (∀ xs, Sq K H k a xs → xs[i]? = some x) ∧ ∀ ys, Sq K H l b ys → ys[i]? = some y,
    fun i H => ∃ xs ys : List V, Sq K H k a xs ∧ Sq K H l b ys ∧ i ≤ xs.length ∧ i ≤ ys.length ∧ (i = xs.length ∨ i = ys.length)⟩
/-- the cells of a zip over a and b -/
structure ZApart (z TI TO i1 i2 a b : Addr) : Prop where
  S : ZipSep2 z TI TO i1 i2 [i1, a] [i2, b]
  a1 : a ≠ i1
  b2 : b ≠ i2
theorem turn_zipK {P : Program} {w : World} {K : PySem.W.Frag} {elts : List Expr} {kk : Nat} {tpos : Pos} {k l : Bool} {a b z TI TO i1 i2 : Addr} (D : ZApart z TI TO i1 i2 a b) :
    Turn P w K (.Tuple elts kk tpos) (ItZ K k l a b) [z, TI, TO, i1, i2] z (fun i h => IsZip h z TI TO .none ∧ IsTupOf2 h TI (.ref i1) (.ref i2) ∧ (∃ x y, IsTupOf2 h TO x y) ∧ ItAt k h i1 a i ∧ ItAt l h i2 b i) where
  mem := by simp
  obj := fun i h st c hc => by
    obtain ⟨hz, hTI, ⟨x, y, hTO⟩, h1, h2⟩ := st
    have e' : c = z ∨ c = TI ∨ c = TO ∨ c = i1 ∨ c = i2 := by simpa using hc
    rcases e' with q | q | q | q | q
    · rw [q]; exact ⟨_, hz, fun v q => nomatch q⟩
    · rw [q]; exact ⟨_, hTI, fun v q => nomatch q⟩
    · rw [q]; exact ⟨_, hTO, fun v q => nomatch q⟩
    · rw [q]; exact h1.ob
    · rw [q]; exact h2.ob
  keep := fun i h h' st k => by
    obtain ⟨hz, hTI, ⟨x, y, hTO⟩, h1, h2⟩ := st
    exact ⟨k z (by simp) _ hz, k TI (by simp) _ hTI, ⟨x, y, k TO (by simp) _ hTO⟩, h1.at fun o q => k i1 (by simp) o q, h2.at fun o q => k i2 (by simp) o q⟩
  item := by
    intro X hP hw hK hc i pins s σ H E I hf st hg
    subst hP hw hK
    obtain ⟨hz, hTI, ⟨x0, y0, hTO⟩, h1, h2⟩ := st
    obtain ⟨xs, ys, x, y, hqx, hqy, hx, hy⟩ := hg
    obtain ⟨its, rv, p⟩ := invSq I hqx
    obtain ⟨its2, rv2, p2⟩ := invSq I hqy
    obtain ⟨u, hu, ru⟩ := rv.get hx
    obtain ⟨u2, hu2, ru2⟩ := rv2.get hy
    have hlt : i < its.toArray.size := by
      have := (List.getElem?_eq_some_iff.mp hu).1
      simpa using this
    have hlt2 : i < its2.toArray.size := by
      have := (List.getElem?_eq_some_iff.mp hu2).1
      simpa using this
    have hzl : z < s.heap.objs.size := Heap.lt_size hz
    have D1 := draws k (prog := X.prog) (w := X.w) (A := X.A.in1) (I.ok.hd hc) i1 a D.a1 its.toArray
    have D2 := draws l (prog := X.prog) (w := X.w) (A := X.A.in1) (I.ok.hd hc) i2 b D.b2 its2.toArray
    refine wpAny_pyNext_zipD2_item D.S D1 D2 hz hTI hTO ⟨h1, p⟩ ⟨h2, p2⟩ hlt hlt2 fun x1 x2 h' tk hP1 hP2 z' TO' h1' h2' hT hsz hk => ?_
    have e1 : x1 = u := by
      have hP' : its[i]? = some x1 := by simpa using hP1
      rw [hu] at hP'
      exact (Option.some.inj hP').symm
    have e2 : x2 = u2 := by
      have hP' : its2[i]? = some x2 := by simpa using hP2
      rw [hu2] at hP'
      exact (Option.some.inj hP').symm
    subst e1 e2
    refine ⟨_, rfl, wpAny_letOwnedTupleGo_zip (s := { s with heap := h', toks := tk }) z' fun h'' z'' sb => ?_⟩
    have hT2 : h''.get? s.heap.objs.size = some { cls := .type "tuple", data := .seq #[x1, x2] } := (sb.2 _ (Nat.ne_of_gt hzl)).trans hT
    have new : ObjOk X.prog X.w (upd H s.heap.objs.size (.tup [x, y])) h'' s.heap.objs.size (.tup [x, y]) :=
      ⟨by show 2 ≤ sizeLine; decide, [x1, x2], .cons ru (.cons ru2 .nil), ⟨_, hT2, rfl, _, rfl⟩⟩
    have I1 : Inv X pins σ (upd H s.heap.objs.size (.tup [x, y])) { s with heap := h'', toks := tk } :=
      I.turnedNew (t' := tk) (ch := [z, TI, TO, i1, i2]) (fun c o hb q => (sb.2 c (fun q' => hb (by simp [q']))).trans (hk c o (fun q' => hb (by simp [q'])) (fun q' => hb (by simp [q'])) (fun q' => hb (by simp [q'])) (fun q' => hb (by simp [q'])) q)) hf (Nat.le_refl _) new
    refine ⟨.ref s.heap.objs.size, _, I1, rfl, ⟨_, x, y, rfl, I.hok.fresh (Nat.le_refl _), rfl, fun l hl => by rw [invSq_inj I hl hqx]; exact hx, fun l hl => by rw [invSq_inj I hl hqy]; exact hy⟩, ⟨z'', ?_, ⟨x1, x2, ?_⟩, ?_, ?_⟩, fun c hcm => ?_⟩
    · exact (sb.2 _ D.S.TIz).trans (hk _ _ D.S.TIz D.S.TITO D.S.TIi1 D.S.TIi2 hTI)
    · exact (sb.2 _ D.S.TOz).trans TO'
    · exact h1'.1.at fun o q => (sb.2 _ D.S.zi1.symm).trans q
    · exact h2'.1.at fun o q => (sb.2 _ D.S.zi2.symm).trans q
    · have hlt : c < s.heap.objs.size := by
        have e' : c = z ∨ c = TI ∨ c = TO ∨ c = i1 ∨ c = i2 := by simpa using hcm
        rcases e' with q | q | q | q | q
        · rw [q]; exact hzl
        · rw [q]; exact Heap.lt_size hTI
        · rw [q]; exact Heap.lt_size hTO
        · rw [q]; obtain ⟨_, e1, _⟩ := h1.ob; exact Heap.lt_size e1
        · rw [q]; obtain ⟨_, e2, _⟩ := h2.ob; exact Heap.lt_size e2
      rw [upd_ne (Nat.ne_of_lt hlt)]
      exact (hf c hcm).1
  done := by
    intro X hP hw hK hc i pins s σ H E I hf st hg
    subst hP hw hK
    obtain ⟨hz, hTI, ⟨x0, y0, hTO⟩, h1, h2⟩ := st
    obtain ⟨xs, ys, hqx, hqy, hl1, hl2, hend⟩ := hg
    obtain ⟨its, rv, p⟩ := invSq I hqx
    obtain ⟨its2, rv2, p2⟩ := invSq I hqy
    have l1 := rv.length
    have l2 := rv2.length
    have D1 := draws k (prog := X.prog) (w := X.w) (A := X.A.in1) (I.ok.hd hc) i1 a D.a1 its.toArray
    have D2 := draws l (prog := X.prog) (w := X.w) (A := X.A.in1) (I.ok.hd hc) i2 b D.b2 its2.toArray
    exact wpAny_pyNext_zipD2_end D.S D1 D2 hz hTI hTO ⟨h1, p⟩ ⟨h2, p2⟩ (by rw [List.size_toArray]; omega) (by rw [List.size_toArray]; omega) (by rw [List.size_toArray, List.size_toArray]; omega) fun h' tk hk => ⟨rfl, I.turnedL (t' := tk) (ch := [z, TI, TO, i1, i2]) (fun c o hb q =>
      hk c o (fun q' => hb (by simp [q'])) (fun q' => hb (by simp [q'])) (fun q' => hb (by simp [q'])) (fun q' => hb (by simp [q'])) q) hf⟩
  self := fun A i s Q E st h => wpAny_pyIter_zip st.1 h
def iZipK (K : PySem.W.Frag) (k l : Bool) (ta : TA) : TI := fun σ H R => ta σ H fun vs H1 => ∃ a b xs ys, vs = [.ref a, .ref b] ∧ Sq K H1 k a xs ∧ Sq K H1 l b ys ∧ R (ItZ K k l a b) H1
theorem pi_zipK {X : Cx} {e e2 : Expr} {ta : TA} {p pos tpos : Pos} {elts : List Expr} {kk : Nat} {k l : Bool} (hg : Gl X "zip") (hm : X.mg "zip" = none) (ha : PA X [e, e2] ta)
    (hs : starEach [e, e2] X.env = (false, eval e X.env) :: starEach [e2] X.env := by rfl) (hpl : (backTo pos (starEach [e2] X.env)).any (·.1) = false := by rfl) :
    PI X (.Tuple elts kk tpos) (.Call (.Name "zip" p) [e, e2] [] pos) (iZipK X.K k l ta) := by
  refine ⟨fun pins s σ H R I h => ?_⟩
  refine Call_ (ld_blt I hg hm PyProof.Rows.boot_zip (PyProof.Rows.callWith_type1 (thn (ha.run pos pins s σ H _ I h) fun us s1 ⟨vs, H1, I1, r1, q1⟩ => ?_) hs hpl))
  obtain ⟨a, b, xs, ys, ex, hqx, hqy, q⟩ := q1
  subst ex
  cases r1 with
  | cons r rr =>
    cases rr with
    | cons r' rr =>
      cases rr
      cases r
      cases r'
      obtain ⟨its, rv, p1⟩ := invSq I1 hqx
      obtain ⟨its2, rv2, p2⟩ := invSq I1 hqy
      have la : a < s1.heap.objs.size := p1.lt
      have lb : b < s1.heap.objs.size := p2.lt
      refine zip_begins2 (begins k a its.toArray) (begins l b its2.toArray) p1 p2 fun h' hz hTI hTO h1 h2 hsz hk => wpAny_pyIter_zip hz ?_
      have I2 : Inv X pins σ H1 { s1 with heap := h' } := I1.kept (t' := s1.toks) hk
      have S := zip_sep2 (N := s1.heap.objs.size) (fp1 := [a]) (fp2 := [b]) (fun c hc => by rw [List.mem_singleton.mp hc]; exact la) (fun c hc => by rw [List.mem_singleton.mp hc]; exact lb)
      refine ⟨s1.heap.objs.size + 4, [s1.heap.objs.size + 4, s1.heap.objs.size + 2, s1.heap.objs.size + 3, s1.heap.objs.size, s1.heap.objs.size + 1], _, _, H1, rfl, I2, turn_zipK ⟨S, Nat.ne_of_lt la, Nat.ne_of_lt (Nat.lt_succ_of_lt lb)⟩, ⟨hz, hTI, ⟨_, _, hTO⟩, itObj_at h1, itObj_at h2⟩, fun c hcm => ?_, q⟩
      have e' : c = s1.heap.objs.size + 4 ∨ c = s1.heap.objs.size + 2 ∨ c = s1.heap.objs.size + 3 ∨ c = s1.heap.objs.size ∨ c = s1.heap.objs.size + 1 := by simpa using hcm
      have hle : s1.heap.objs.size ≤ c := by
        rcases e' with z | z | z | z | z
        · rw [z]; exact Nat.le_add_right _ _
        · rw [z]; exact Nat.le_add_right _ _
        · rw [z]; exact Nat.le_add_right _ _
        · rw [z]; exact Nat.le_refl _
        · rw [z]; exact Nat.le_add_right _ _
      exact I1.fpOk hle (I1.hok.fresh hle)
end DL
namespace DL
open PySem PySem.Spec PyProof.Rows L2
def truth : D → Option Bool
  | .none => some false
  | .bool b => some b
  | .int i => some (i != 0)
  | .str s => if s.length ≤ 1000000 then some ((s.length : Int) != 0) else none
  | .list ds => some (!ds.isEmpty)
  | .tuple ds => some (!ds.isEmpty)
  | .dict _ => none
def isB : D → Option Bool
  | .bool b => some b
  | _ => none
def bT (f : Env → Option D) : Env → Option Bool := fun ρ => (f ρ).bind truth
def bV (f : Env → Option D) : Env → Option Bool := fun ρ => (f ρ).bind isB
def bAnd (f g : Env → Option Bool) : Env → Option Bool := fun ρ => (f ρ).bind fun a => if a = true then g ρ else some false
def bOr (f g : Env → Option Bool) : Env → Option Bool := fun ρ => (f ρ).bind fun a => if a = true then some true else g ρ
def bNot (f : Env → Option Bool) : Env → Option Bool := fun ρ => (f ρ).bind fun a => some (!a)
section
variable {X : Cx} {z : Z}
theorem rep_len {K : PySem.W.Frag} {F : Hp} {vs : List V} {ds : List D} (t : RepL K F vs ds) : vs.isEmpty = ds.isEmpty := by
  cases t <;> rfl
theorem truth_ok {K : PySem.W.Frag} {F H : Hp} {v : V} {d : D} {b : Bool} (s : Same F H) (r : Rep K F v d) (e : truth d = some b) : TruV K v H b := by
  cases r with
  | non =>
    cases e
    exact rfl
  | bl b =>
    cases e
    exact rfl
  | int i =>
    cases e
    exact rfl
  | str x =>
    have e : (if x.length ≤ 1000000 then some ((x.length : Int) != 0) else none) = some b := e
    split at e
    · cases e
      exact ⟨leM (by assumption), rfl⟩
    · cases e
  | dic h _ _ => cases e
  | lst h t =>
    cases e
    exact .inl ⟨_, s.seq h, by rw [rep_len t]⟩
  | tup h t =>
    cases e
    exact .inr (.inl ⟨_, sameT s (sqT_of h), by rw [rep_len t]⟩)
abbrev PlainT (X : Cx) (e : Expr) : Prop := ∀ whole, isTrue e X.env whole = (do let v ← whole; standAt e.pos; holding [v] (truthy v))
theorem b_val {e : Expr} {f : Env → Option D} (h : PE X e (tP X.K z f)) (he : PlainT X e := by intro _; rfl) : PT X e (tB X.K z (bT f)) :=
  (pt_truth h he).mono fun σ H Q ⟨ρ, F, O, b, R, e, q⟩ => by
    obtain ⟨d, h1, h2⟩ := bind_some e
    exact ⟨ρ, F, O, d, R, h1, fun v H' s r => ⟨b, truth_ok (R.grow s).sub r h2, q H' s⟩⟩
theorem isB_of {d : D} {b : Bool} (h : isB d = some b) : d = .bool b := by
  unfold isB at h
  split at h
  · cases h
    rfl
  · cases h
theorem b_cmp {a b : Expr} {pos : Pos} {op : CmpOp} {r : R2} {o : D → D → Option D} {f g : Env → Option D} (hr : OpR X (compareOp op) r) (ho : Op2 X.K r o) (ha : PE X a (tP X.K z f)) (hb : PE X b (tP X.K z g)) (hm : behindInMarks op b = false) : PT X (.Compare a [op] [b] pos) (tB X.K z (bV (c2 o f g))) :=
  (pt_cmpR hr ha hb hm).mono fun σ H Q ⟨ρ, F, O, b, R, e, q⟩ => by
    obtain ⟨d, h1, h2⟩ := bind_some e
    refine tP2 (z := z) ho ⟨ρ, F, O, d, R, h1, fun v H' s r => ⟨b, ?_, q H' s⟩⟩
    rw [isB_of h2] at r
    cases r
    rfl
theorem b_not {a : Expr} {pos : Pos} {f : Env → Option Bool} (h : PT X a (tB X.K z f)) : PT X (.UnaryOp .Not a pos) (tB X.K z (bNot f)) :=
  (pt_not h).mono fun σ H Q ⟨ρ, F, O, b, R, e, q⟩ => by
    obtain ⟨d, h1, h2⟩ := bind_some e
    cases h2
    exact ⟨ρ, F, O, d, R, h1, fun H' s => q H' s⟩
theorem b_and1 {a : Expr} {pos : Pos} {f : Env → Option Bool} (h : PT X a (tB X.K z f)) : PW X (.BoolOp .And [a] pos) (tB X.K z f) := pw_and1 h
theorem b_or1 {a : Expr} {pos : Pos} {f : Env → Option Bool} (h : PT X a (tB X.K z f)) : PW X (.BoolOp .Or [a] pos) (tB X.K z f) := pw_or1 h
theorem b_and {a b : Expr} {rest : List Expr} {pos : Pos} {f g : Env → Option Bool} (h : PT X a (tB X.K z f)) (k : PW X (.BoolOp .And (b :: rest) pos) (tB X.K z g)) : PW X (.BoolOp .And (a :: b :: rest) pos) (tB X.K z (bAnd f g)) :=
  (pw_and h k).mono fun σ H Q ⟨ρ, F, O, c, R, e, q⟩ => by
    obtain ⟨d, h1, h2⟩ := bind_some e
    refine ⟨ρ, F, O, d, R, h1, fun H' s => ?_⟩
    split at h2
    · next hd =>
      rw [if_pos hd]
      exact ⟨ρ, _, O, c, R.grow s, h2, fun H2 s2 => q H2 (s.trans s2)⟩
    · next hd =>
      rw [if_neg hd]
      cases h2
      exact q H' s
theorem b_or {a b : Expr} {rest : List Expr} {pos : Pos} {f g : Env → Option Bool} (h : PT X a (tB X.K z f)) (k : PW X (.BoolOp .Or (b :: rest) pos) (tB X.K z g)) : PW X (.BoolOp .Or (a :: b :: rest) pos) (tB X.K z (bOr f g)) :=
  (pw_or h k).mono fun σ H Q ⟨ρ, F, O, c, R, e, q⟩ => by
    obtain ⟨d, h1, h2⟩ := bind_some e
    refine ⟨ρ, F, O, d, R, h1, fun H' s => ?_⟩
    split at h2
    · next hd =>
      rw [if_pos hd]
      cases h2
      exact q H' s
    · next hd =>
      rw [if_neg hd]
      exact ⟨ρ, _, O, c, R.grow s, h2, fun H2 s2 => q H2 (s.trans s2)⟩
def cAnd (f g : Env → Option D) : Env → Option D := fun ρ => (f ρ).bind fun d => (isB d).bind fun a => if a = true then g ρ else some (.bool false)
def cNot (f : Env → Option D) : Env → Option D := fun ρ => (f ρ).bind fun d => (isB d).bind fun a => some (.bool (!a))
def cIf (c : Env → Option Bool) (f g : Env → Option D) : Env → Option D := fun ρ => (c ρ).bind fun b => if b = true then f ρ else g ρ
def rIf (c : Env → Option (Bool × Env)) (f g : Env → Option (D × Env)) : Env → Option (D × Env) := fun ρ => (c ρ).bind fun p => if p.1 = true then f p.2 else g p.2
theorem q_one {op} {a : Expr} {pos : Pos} {t : TE} (h : PE X a t) : PE X (.BoolOp op [a] pos) t := pe_one h
theorem q_and {a b : Expr} {rest : List Expr} {pos : Pos} {f g : Env → Option D} (h : PE X a (tP X.K z f)) (k : PE X (.BoolOp .And (b :: rest) pos) (tP X.K z g)) : PE X (.BoolOp .And (a :: b :: rest) pos) (tP X.K z (cAnd f g)) :=
  (pe_and h k).mono fun σ H Q ⟨ρ, F, O, c, R, e, q⟩ => by
    obtain ⟨d, h1, h2⟩ := bind_some e
    obtain ⟨a, ha, h2⟩ := bind_some h2
    rw [isB_of ha] at h1
    refine ⟨ρ, F, O, _, R, h1, fun v H' s r => ?_⟩
    cases r
    refine ⟨a, rfl, ?_⟩
    split at h2
    · next hd =>
      rw [if_pos hd]
      refine ⟨ρ, _, O, c, R.grow s, h2, fun v2 H2 s2 r2 => q v2 H2 (s.trans s2) ?_⟩
      rw [ext_ext s s2] at r2
      exact r2
    · next hd =>
      rw [if_neg hd]
      cases h2
      exact q _ H' s (.bl _)
theorem q_not {a : Expr} {pos : Pos} {f : Env → Option D} (h : PE X a (tP X.K z f)) : PE X (.UnaryOp .Not a pos) (tP X.K z (cNot f)) :=
  (pe_not h).mono fun σ H Q ⟨ρ, F, O, c, R, e, q⟩ => by
    obtain ⟨d, h1, h2⟩ := bind_some e
    obtain ⟨a, ha, h2⟩ := bind_some h2
    rw [isB_of ha] at h1
    cases h2
    refine ⟨ρ, F, O, _, R, h1, fun v H' s r => ?_⟩
    cases r
    exact ⟨a, rfl, q _ H' s (.bl _)⟩
theorem q_if {c a b : Expr} {pos : Pos} {t : Env → Option Bool} {f g : Env → Option D} (hc : PT X c (tB X.K z t)) (ha : PE X a (tP X.K z f)) (hb : PE X b (tP X.K z g)) : PE X (.IfExp c a b pos) (tP X.K z (cIf t f g)) :=
  (pe_ifExp hc ha hb).mono fun σ H Q ⟨ρ, F, O, d, R, e, q⟩ => by
    obtain ⟨k, h1, h2⟩ := bind_some e
    refine ⟨ρ, F, O, k, R, h1, fun H' s => ?_⟩
    split at h2
    · next hd =>
      rw [if_pos hd]
      refine ⟨ρ, _, O, d, R.grow s, h2, fun v2 H2 s2 r2 => q v2 H2 (s.trans s2) ?_⟩
      rw [ext_ext s s2] at r2
      exact r2
    · next hd =>
      rw [if_neg hd]
      refine ⟨ρ, _, O, d, R.grow s, h2, fun v2 H2 s2 r2 => q v2 H2 (s.trans s2) ?_⟩
      rw [ext_ext s s2] at r2
      exact r2
theorem r_if {c a b : Expr} {pos : Pos} {t : Env → Option (Bool × Env)} {f g : Env → Option (D × Env)} (hc : PT X c (tBR X.K z t)) (ha : PE X a (tR X.K z f)) (hb : PE X b (tR X.K z g)) : PE X (.IfExp c a b pos) (tR X.K z (rIf t f g)) :=
  (pe_ifExp hc ha hb).mono fun σ H Q ⟨ρ, F, O, d, ρ', R, e, q⟩ => by
    obtain ⟨⟨k, ρ1⟩, h1, h2⟩ := bind_some e
    refine ⟨ρ, F, O, k, ρ1, R, h1, fun F' H' R' kp => ?_⟩
    dsimp only at h2
    split at h2
    · next hd =>
      rw [if_pos hd]
      exact ⟨ρ1, F', O, d, ρ', R', h2, fun v2 F2 H2 R2 k2 r2 => q v2 F2 H2 R2 (kp.trans k2) r2⟩
    · next hd =>
      rw [if_neg hd]
      exact ⟨ρ1, F', O, d, ρ', R', h2, fun v2 F2 H2 R2 k2 r2 => q v2 F2 H2 R2 (kp.trans k2) r2⟩
/-- a op1 b op2 c -/
def cChain (o o' : D → D → Option D) (f g h : Env → Option D) : Env → Option D := fun ρ => (f ρ).bind fun a => (g ρ).bind fun b => (o a b).bind fun d => (isB d).bind fun k => if k = true then (h ρ).bind fun c => o' b c else some (.bool false)
theorem chain_ok {r r' : R2} {o o' : D → D → Option D} {f g h : Env → Option D} (h1 : Op2 X.K r o) (h2 : Op2 X.K r' o') {σ : L2.St} {H : Hp} {Q : VK} (hq : tP X.K z (cChain o o' f g h) σ H Q) : tChain r r' (tP X.K z f) (tP X.K z g) (tP X.K z h) σ H Q := by
  obtain ⟨ρ, F, O, d, R, e, q⟩ := hq
  obtain ⟨a, ea, e⟩ := bind_some e
  obtain ⟨b, eb, e⟩ := bind_some e
  obtain ⟨d1, ed, e⟩ := bind_some e
  obtain ⟨k, ek, e⟩ := bind_some e
  rw [isB_of ek] at ed
  refine ⟨ρ, F, O, a, R, ea, fun v1 H1 s1 r1 => ?_⟩
  refine ⟨ρ, _, O, b, R.grow s1, eb, fun v2 H2 s2 r2 => ?_⟩
  rw [ext_ext s1 s2] at r2
  have R2 := R.grow (s1.trans s2)
  have r1' : Rep X.K (ext F H H2) v1 a := r1.mono (by
    rw [← ext_ext s1 s2]
    exact same_ext (R.grow s1).sub)
  refine h1.run (ext F H H2) H2 v1 v2 a b (.bool k) _ R2.sub r1' r2 ed fun v H3 s3 r3 => ?_
  cases r3
  refine ⟨k, rfl, ?_⟩
  split at e
  · next hk =>
    rw [if_pos hk]
    obtain ⟨c, ec, e⟩ := bind_some e
    have s13 := (s1.trans s2).trans s3
    refine ⟨ρ, _, O, c, R.grow s13, ec, fun v4 H4 s4 r4 => ?_⟩
    rw [ext_ext s13 s4] at r4
    have s14 := s13.trans s4
    have R4 := R.grow s14
    have r24 : Rep X.K (ext F H H4) v2 b := r2.mono (by
      rw [← ext_ext (s1.trans s2) (s3.trans s4)]
      exact same_ext R2.sub)
    refine h2.run (ext F H H4) H4 v2 v4 b c d Q R4.sub r24 r4 e fun v H5 s5 r5 => q v H5 (s14.trans s5) ?_
    rw [ext_ext s14 s5] at r5
    exact r5
  · next hk =>
    rw [if_neg hk]
    cases e
    exact q _ H3 ((s1.trans s2).trans s3) (.bl _)
theorem q_chain {a b c : Expr} {pos : Pos} {op op' : CmpOp} {r r' : R2} {o o' : D → D → Option D} {f g h : Env → Option D} (hr : OpR X (compareOp op) r) (ho : Op2 X.K r o) (hr' : OpR X (compareOp op') r') (ho' : Op2 X.K r' o') (ha : PE X a (tP X.K z f)) (hb : PE X b (tP X.K z g)) (hc : PE X c (tP X.K z h))
    (hm : lastMarks [op, op'] [b, c] = false := by with_unfolding_all rfl) : PE X (.Compare a [op, op'] [b, c] pos) (tP X.K z (cChain o o' f g h)) := (pe_chain hr hr' ha hb hc hm).mono fun _ _ _ hq => chain_ok ho ho' hq
theorem b_chain {a b c : Expr} {pos : Pos} {op op' : CmpOp} {r r' : R2} {o o' : D → D → Option D} {f g h : Env → Option D} (hr : OpR X (compareOp op) r) (ho : Op2 X.K r o) (hr' : OpR X (compareOp op') r') (ho' : Op2 X.K r' o') (ha : PE X a (tP X.K z f)) (hb : PE X b (tP X.K z g)) (hc : PE X c (tP X.K z h))
    (hm : lastMarks [op, op'] [b, c] = false := by with_unfolding_all rfl) : PT X (.Compare a [op, op'] [b, c] pos) (tB X.K z (bV (cChain o o' f g h))) := (pt_chain hr hr' ha hb hc hm).mono fun σ H Q ⟨ρ, F, O, b, R, e, q⟩ => by
    obtain ⟨d, h1, h2⟩ := bind_some e
    refine chain_ok ho ho' ⟨ρ, F, O, d, R, h1, fun v H' s r => ⟨b, ?_, q H' s⟩⟩
    rw [isB_of h2] at r
    cases r
    rfl
end
structure Yld0 (K : PySem.W.Frag) (J : It) (F : Hp) (ds : List D) : Prop where
  go : ∀ i H, Same F H → i < ds.length → J.go i H
  yld : ∀ (i : Nat) H x H' d, Same F H → J.yld i H x H' → ds[i]? = some d → Same H H' ∧ Rep K (ext F H H') x d
  stop : ∀ i H, Same F H → i = ds.length → J.stop i H
structure Yld (K : PySem.W.Frag) (J : It) (F : Hp) (ds : List D) : Prop where
  go : ∀ i H, Same F H → i < ds.length → J.go i H
  yld : ∀ (i : Nat) F' H x H' d, Same F F' → Same F' H → AllT F' H → J.yld i H x H' → ds[i]? = some d → Same H H' ∧ Rep K (ext F' H H') x d
  stop : ∀ i H, Same F H → i = ds.length → J.stop i H
theorem Yld0.of {K : PySem.W.Frag} {J : It} {F : Hp} {ds : List D} (y : Yld0 K J F ds) : Yld K J F ds :=
  ⟨y.go, fun i F' H x H' d s h _ hy hd => by
    obtain ⟨h1, h2⟩ := y.yld i H x H' d (s.trans h) hy hd
    exact ⟨h1, h2.mono (ext_mono s)⟩, y.stop⟩
theorem Yld.mono {K : PySem.W.Frag} {J : It} {F F' : Hp} {ds : List D} (y : Yld K J F ds) (s : Same F F') : Yld K J F' ds :=
  ⟨fun i H h hi => y.go i H (s.trans h) hi, fun i F2 H x H' d s2 h t hy hd => y.yld i F2 H x H' d (s.trans s2) h t hy hd, fun i H h hi => y.stop i H (s.trans h) hi⟩
theorem yld_list0 {K : PySem.W.Frag} {F : Hp} {a : Addr} {vs : List V} {ds : List D} (h : SqL K F a vs) (t : RepL K F vs ds) : Yld0 K (Itl K a) F ds where
  go := fun i H s hi => by
    have hl := t.length
    exact ⟨vs, vs[i]'(by omega), s.seq h, List.getElem?_eq_getElem _⟩
  yld := fun i H x H' d s ⟨e, hx⟩ hd => by
    subst e
    refine ⟨Same.refl _, ?_⟩
    rw [ext_self s]
    obtain ⟨v, h1, h2⟩ := t.get hd
    rw [hx _ (s.seq h)] at h1
    cases h1
    exact h2
  stop := fun i H s hi => ⟨vs, s.seq h, by rw [t.length]; omega⟩
theorem yld_list {K : PySem.W.Frag} {F : Hp} {a : Addr} {vs : List V} {ds : List D} (h : SqL K F a vs) (t : RepL K F vs ds) : Yld K (Itl K a) F ds := (yld_list0 h t).of
theorem yld_tup0 {K : PySem.W.Frag} {F : Hp} {a : Addr} {vs : List V} {ds : List D} (h : SqT K F a vs) (t : RepL K F vs ds) : Yld0 K (Itt K a) F ds where
  go := fun i H s hi => by
    have hl := t.length
    exact ⟨vs, vs[i]'(by omega), sameT s h, List.getElem?_eq_getElem _⟩
  yld := fun i H x H' d s ⟨e, hx⟩ hd => by
    subst e
    refine ⟨Same.refl _, ?_⟩
    rw [ext_self s]
    obtain ⟨v, h1, h2⟩ := t.get hd
    rw [hx _ (sameT s h)] at h1
    cases h1
    exact h2
  stop := fun i H s hi => ⟨vs, sameT s h, by rw [t.length]; omega⟩
theorem yld_tup {K : PySem.W.Frag} {F : Hp} {a : Addr} {vs : List V} {ds : List D} (h : SqT K F a vs) (t : RepL K F vs ds) : Yld K (Itt K a) F ds := (yld_tup0 h t).of
def rangeD (lo : Int) (n : Nat) : List D := (List.range n).map fun i => .int (lo + (i : Nat))
theorem rangeD_len {lo : Int} {n : Nat} : (rangeD lo n).length = n := by
  unfold rangeD
  rw [List.length_map, List.length_range]
theorem yld_range0 {K : PySem.W.Frag} {F : Hp} {lo : Int} {n : Nat} : Yld0 K (Itr lo n) F (rangeD lo n) where
  go := fun i H s hi => by
    rw [rangeD_len] at hi
    exact hi
  yld := fun i H x H' d s ⟨e, hx⟩ hd => by
    subst e hx
    refine ⟨Same.refl _, ?_⟩
    unfold rangeD at hd
    rw [List.getElem?_map] at hd
    obtain ⟨j, h1, h2⟩ := map_some hd
    have h3 := (List.getElem?_eq_some_iff.mp h1).2
    rw [List.getElem_range] at h3
    subst h3 h2
    exact .int _
  stop := fun i H s hi => by
    rw [rangeD_len] at hi
    exact Nat.le_of_eq hi.symm
theorem yld_range {K : PySem.W.Frag} {F : Hp} {lo : Int} {n : Nat} : Yld K (Itr lo n) F (rangeD lo n) := (yld_range0).of
def enumD : Nat → List D → List D
  | _, [] => []
  | k, d :: r => .tuple [.int k, d] :: enumD (k + 1) r
theorem enumD_len : ∀ (k : Nat) (ds : List D), (enumD k ds).length = ds.length
  | _, [] => rfl
  | k, d :: r => congrArg (· + 1) (enumD_len (k + 1) r)
theorem enumD_get : ∀ (k : Nat) (ds : List D) (i : Nat) (x : D), (enumD k ds)[i]? = some x → ∃ d, ds[i]? = some d ∧ x = .tuple [.int ((k + i : Nat) : Int), d]
  | _, [], i, x, h => by simp [enumD] at h
  | k, d :: r, 0, x, h => by
    cases h
    exact ⟨d, rfl, rfl⟩
  | k, d :: r, i + 1, x, h => by
    obtain ⟨d', h1, h2⟩ := enumD_get (k + 1) r i x h
    refine ⟨d', h1, ?_⟩
    rw [h2, show k + 1 + i = k + (i + 1) by omega]
theorem Sq.of_rep {K : PySem.W.Frag} {F : Hp} {v : V} {ds : List D} {k : Bool} (r : Rep K F v (if k then .list ds else .tuple ds)) : ∃ a vs, v = .ref a ∧ Sq K F k a vs ∧ RepL K F vs ds := by
  cases k with
  | true =>
    cases r with
    | lst h t => exact ⟨_, _, rfl, h, t⟩
  | false =>
    cases r with
    | tup h t => exact ⟨_, _, rfl, sqT_of h, t⟩
theorem yld_enum0 {K : PySem.W.Frag} {F : Hp} {k : Bool} {a : Addr} {vs : List V} {ds : List D} (h : Sq K F k a vs) (t : RepL K F vs ds) : Yld0 K (ItE K k a) F (enumD 0 ds) where
  go := fun i H s hi => by
    have hl := t.length
    rw [enumD_len] at hi
    exact ⟨vs, vs[i]'(by omega), h.mono s, List.getElem?_eq_getElem _⟩
  yld := fun i H x H' d s ⟨T, y, e1, hT, e2, hy⟩ hd => by
    subst e1 e2
    obtain ⟨d', h1, h2⟩ := enumD_get 0 ds i d hd
    obtain ⟨v, h3, h4⟩ := t.get h1
    rw [hy _ (h.mono s)] at h3
    cases h3
    refine ⟨same_new hT, ?_⟩
    rw [ext_new s hT, h2, Nat.zero_add]
    exact .tup upd_same (.cons (.int _) (.cons (h4.mono (same_new (s.free hT))) .nil))
  stop := fun i H s hi => ⟨vs, h.mono s, by rw [t.length]; rw [enumD_len] at hi; omega⟩
theorem yld_enum {K : PySem.W.Frag} {F : Hp} {k : Bool} {a : Addr} {vs : List V} {ds : List D} (h : Sq K F k a vs) (t : RepL K F vs ds) : Yld K (ItE K k a) F (enumD 0 ds) := (yld_enum0 h t).of
def zipD : List D → List D → List D
  | a :: r, b :: q => .tuple [a, b] :: zipD r q
  | _, _ => []
theorem zipD_len : ∀ (xs ys : List D), (zipD xs ys).length = min xs.length ys.length
  | [], _ => by simp [zipD]
  | _ :: _, [] => by simp [zipD]
  | a :: r, b :: q => by
    show (zipD r q).length + 1 = _
    rw [zipD_len r q, List.length_cons, List.length_cons]
    omega
theorem zipD_get : ∀ (xs ys : List D) (i : Nat) (x : D), (zipD xs ys)[i]? = some x → ∃ a b, xs[i]? = some a ∧ ys[i]? = some b ∧ x = .tuple [a, b]
  | [], _, i, x, h => by simp [zipD] at h
  | _ :: _, [], i, x, h => by simp [zipD] at h
  | a :: r, b :: q, 0, x, h => by
    cases h
    exact ⟨a, b, rfl, rfl, rfl⟩
  | a :: r, b :: q, i + 1, x, h => zipD_get r q i x h
theorem yld_zip0 {K : PySem.W.Frag} {F : Hp} {k l : Bool} {a b : Addr} {vs ws : List V} {ds es : List D} (h : Sq K F k a vs) (t : RepL K F vs ds) (h' : Sq K F l b ws) (t' : RepL K F ws es) : Yld0 K (ItZ K k l a b) F (zipD ds es) where
  go := fun i H s hi => by
    have hl := t.length
    have hl' := t'.length
    rw [zipD_len] at hi
    exact ⟨vs, ws, vs[i]'(by omega), ws[i]'(by omega), h.mono s, h'.mono s, List.getElem?_eq_getElem _, List.getElem?_eq_getElem _⟩
  yld := fun i H x H' d s ⟨T, y, y', e1, hT, e2, hy, hy'⟩ hd => by
    subst e1 e2
    obtain ⟨d1, d2, h1, h2, h3⟩ := zipD_get ds es i d hd
    obtain ⟨v, h4, h5⟩ := t.get h1
    obtain ⟨v', h6, h7⟩ := t'.get h2
    rw [hy _ (h.mono s)] at h4
    rw [hy' _ (h'.mono s)] at h6
    cases h4
    cases h6
    refine ⟨same_new hT, ?_⟩
    rw [ext_new s hT, h3]
    exact .tup upd_same (.cons (h5.mono (same_new (s.free hT))) (.cons (h7.mono (same_new (s.free hT))) .nil))
  stop := fun i H s hi => by
    have hl := t.length
    have hl' := t'.length
    rw [zipD_len] at hi
    exact ⟨vs, ws, h.mono s, h'.mono s, by omega, by omega, by omega⟩
theorem yld_zip {K : PySem.W.Frag} {F : Hp} {k l : Bool} {a b : Addr} {vs ws : List V} {ds es : List D} (h : Sq K F k a vs) (t : RepL K F vs ds) (h' : Sq K F l b ws) (t' : RepL K F ws es) : Yld K (ItZ K k l a b) F (zipD ds es) := (yld_zip0 h t h' t').of
def tIP (K : PySem.W.Frag) (z : Z) (it : Env → Option (List D)) : TI := fun σ H R => ∃ ρ F O ds, Rel K z ρ σ F H O ∧ it ρ = some ds ∧ ∀ J H', Same H H' → Yld K J (ext F H H') ds → R J H'
def tIR (K : PySem.W.Frag) (z : Z) (it : Env → Option (List D × Env)) : TI := fun σ H R => ∃ ρ F O ds ρ', Rel K z ρ σ F H O ∧ it ρ = some (ds, ρ') ∧ ∀ J F' H', Rel K z ρ' σ F' H' O → Kp F H F' H' O → Yld K J F' ds → R J H'
def seqOf : D → Option (List D)
  | .list ds => some ds
  | .tuple ds => some ds
  | _ => none
def ok62 (i : Int) : Bool := decide (-4611686018427387904 ≤ i) && decide (i < 4611686018427387904)
theorem ok62_of {i : Int} (h : ok62 i = true) : -(2 ^ 62) ≤ i ∧ i < 2 ^ 62 := by
  unfold ok62 at h
  rw [Bool.and_eq_true] at h
  have h1 := of_decide_eq_true h.1
  have h2 := of_decide_eq_true h.2
  exact ⟨by omega, by omega⟩
def rg1 : List D → Option (List D)
  | [.int j] => if ok62 j then some (rangeD 0 j.toNat) else none
  | _ => none
def en1 : List D → Option (List D)
  | [.list ds] => some (enumD 0 ds)
  | [.tuple ds] => some (enumD 0 ds)
  | _ => none
def zp2 : List D → Option (List D)
  | [a, b] => (seqOf a).bind fun xs => (seqOf b).bind fun ys => some (zipD xs ys)
  | _ => none
def iS (f : Env → Option D) : Env → Option (List D) := fun ρ => (f ρ).bind seqOf
def iN (o : List D → Option (List D)) (f : Env → Option (List D)) : Env → Option (List D) := fun ρ => (f ρ).bind o
section
variable {X : Cx} {z : Z} {tg : Expr}
theorem i_lf {e : Expr} {it : Env → Option (List D)} (h : PI X tg e (tIP X.K z it)) : PI X tg e (tIR X.K z (lfs it)) := h.mono fun σ H Q ⟨ρ, F, O, ds, ρ', R, e, q⟩ => by
  obtain ⟨a, h1, h2⟩ := map_some e
  cases h2
  exact ⟨ρ, F, O, _, R, h1, fun J H' s y => q J _ H' (R.grow s) (.of_same R.sub s) y⟩
theorem seqOf_of {d : D} {ds : List D} (h : seqOf d = some ds) : d = .list ds ∨ d = .tuple ds := by
  unfold seqOf at h
  split at h
  · cases h
    exact .inl rfl
  · cases h
    exact .inr rfl
  · cases h
theorem i_seq {e : Expr} {f : Env → Option D} (h : PE X e (tP X.K z f)) : PI X tg e (tIP X.K z (iS f)) := by
  refine ⟨fun pins s σ H Rr I ⟨ρ, F, O, ds, R, e, q⟩ => ?_⟩
  obtain ⟨d, h1, h2⟩ := bind_some e
  rcases seqOf_of h2 with k | k
  · subst k
    refine (pi_list h).run pins s σ H Rr I ⟨ρ, F, O, _, R, h1, fun v H' s r => ?_⟩
    cases r with
    | lst hs t => exact ⟨_, rfl, ⟨_, (R.grow s).sub.seq hs⟩, q _ H' s (yld_list hs t)⟩
  · subst k
    refine (pi_tup h).run pins s σ H Rr I ⟨ρ, F, O, _, R, h1, fun v H' s r => ?_⟩
    cases r with
    | tup hs t => exact ⟨_, rfl, ⟨_, sameT (R.grow s).sub (sqT_of hs)⟩, q _ H' s (yld_tup (sqT_of hs) t)⟩
theorem rg1_of {as ds : List D} (h : rg1 as = some ds) : ∃ j, as = [.int j] ∧ (-(2 ^ 62) ≤ j ∧ j < 2 ^ 62) ∧ ds = rangeD 0 j.toNat := by
  unfold rg1 at h
  split at h
  · split at h
    · cases h
      exact ⟨_, rfl, ok62_of (by assumption), rfl⟩
    · cases h
  · cases h
theorem reps1 {K : PySem.W.Frag} {F : Hp} {vs : List V} {j : Int} (r : RepL K F vs [.int j]) : vs = [.int j] := by
  cases r with
  | cons r t =>
    cases r
    cases t
    rfl
theorem i_range1 {a : Expr} {f : Env → Option (List D)} {p pos : Pos} (hg : Gl X "range") (hm : X.mg "range" = none) (ha : PA X [a] (tPs X.K z f)) (hs : starEach [a] X.env = [(false, eval a X.env)] := by rfl) : PI X tg (.Call (.Name "range" p) [a] [] pos) (tIP X.K z (iN rg1 f)) :=
  (pi_range1 hg hm ha hs).mono fun σ H Q ⟨ρ, F, O, ds, R, e, q⟩ => by
    obtain ⟨as, h1, h2⟩ := bind_some e
    obtain ⟨j, e1, b1, e2⟩ := rg1_of h2
    subst e1 e2
    exact ⟨ρ, F, O, _, R, h1, fun vs H' s r => ⟨j, reps1 r, b1.1, b1.2, q _ H' s yld_range⟩⟩
theorem en1_of {as ds : List D} (h : en1 as = some ds) : ∃ (k : Bool) (es : List D), as = [if k then .list es else .tuple es] ∧ ds = enumD 0 es := by
  unfold en1 at h
  split at h
  · cases h
    exact ⟨true, _, rfl, rfl⟩
  · cases h
    exact ⟨false, _, rfl, rfl⟩
  · cases h
theorem i_enum {e : Expr} {f : Env → Option (List D)} {p pos tpos : Pos} {elts : List Expr} {kk : Nat} (hg : Gl X "enumerate") (hm : X.mg "enumerate" = none) (ha : PA X [e] (tPs X.K z f)) (hs : starEach [e] X.env = [(false, eval e X.env)] := by rfl) :
    PI X (.Tuple elts kk tpos) (.Call (.Name "enumerate" p) [e] [] pos) (tIP X.K z (iN en1 f)) := by
  refine ⟨fun pins s σ H Rr I ⟨ρ, F, O, ds, R, e, q⟩ => ?_⟩
  obtain ⟨as, h1, h2⟩ := bind_some e
  obtain ⟨k, es, e1, e2⟩ := en1_of h2
  subst e1 e2
  refine (pi_enumK (k := k) hg hm ha hs).run pins s σ H Rr I ⟨ρ, F, O, _, R, h1, fun vs H' s r => ?_⟩
  cases r with
  | cons r t =>
    cases t
    obtain ⟨a, ws, e3, h3, h4⟩ := Sq.of_rep r
    subst e3
    exact ⟨a, ws, rfl, h3.mono (R.grow s).sub, q _ H' s (yld_enum h3 h4)⟩
theorem zp2_of {as ds : List D} (h : zp2 as = some ds) : ∃ (k l : Bool) (xs ys : List D), as = [if k then .list xs else .tuple xs, if l then .list ys else .tuple ys] ∧ ds = zipD xs ys := by
  unfold zp2 at h
  split at h
  · obtain ⟨xs, h1, h⟩ := bind_some h
    obtain ⟨ys, h2, h⟩ := bind_some h
    cases h
    rcases seqOf_of h1 with k | k <;> rcases seqOf_of h2 with l | l <;> subst k l
    · exact ⟨true, true, _, _, rfl, rfl⟩
    · exact ⟨true, false, _, _, rfl, rfl⟩
    · exact ⟨false, true, _, _, rfl, rfl⟩
    · exact ⟨false, false, _, _, rfl, rfl⟩
  · cases h
theorem i_zip {e e2 : Expr} {f : Env → Option (List D)} {p pos tpos : Pos} {elts : List Expr} {kk : Nat} (hg : Gl X "zip") (hm : X.mg "zip" = none) (ha : PA X [e, e2] (tPs X.K z f))
    (hs : starEach [e, e2] X.env = (false, eval e X.env) :: starEach [e2] X.env := by rfl) (hpl : (backTo pos (starEach [e2] X.env)).any (·.1) = false := by rfl) :
    PI X (.Tuple elts kk tpos) (.Call (.Name "zip" p) [e, e2] [] pos) (tIP X.K z (iN zp2 f)) := by
  refine ⟨fun pins s σ H Rr I ⟨ρ, F, O, ds, R, e, q⟩ => ?_⟩
  obtain ⟨as, h1, h2⟩ := bind_some e
  obtain ⟨k, l, xs, ys, e1, e2⟩ := zp2_of h2
  subst e1 e2
  refine (pi_zipK (k := k) (l := l) hg hm ha hs hpl).run pins s σ H Rr I ⟨ρ, F, O, _, R, h1, fun vs H' s r => ?_⟩
  cases r with
  | cons r t =>
    cases t with
    | cons r' t =>
      cases t
      obtain ⟨a, ws, e3, h3, h4⟩ := Sq.of_rep r
      obtain ⟨b, ws', e5, h5, h6⟩ := Sq.of_rep r'
      subst e3 e5
      exact ⟨a, b, ws, ws', rfl, h3.mono (R.grow s).sub, h5.mono (R.grow s).sub, q _ H' s (yld_zip h3 h4 h5 h6)⟩
end
end DL
namespace DL
open PySem PySem.Spec PyProof.Rows L2
/-- what a target may have stored to: the slots js -/
structure Stp (js : Nat → Bool) (σ σ' : L2.St) (O O' : Nat → List Addr) : Prop where
  wp : ∀ vs : List Nat, (∀ j, js j = true → j ∈ vs) → wipe σ' vs = wipe σ vs
  oo : ∀ i, js i = false → O' i = O i
  sub : ∀ i a, a ∈ O' i → a ∈ O i
theorem Stp.refl {js : Nat → Bool} {σ : L2.St} {O : Nat → List Addr} : Stp js σ σ O O := ⟨fun _ _ => rfl, fun _ _ => rfl, fun _ _ h => h⟩
theorem Stp.trans {js : Nat → Bool} {σ σ1 σ2 : L2.St} {O O1 O2 : Nat → List Addr} (a : Stp js σ σ1 O O1) (b : Stp js σ1 σ2 O1 O2) : Stp js σ σ2 O O2 :=
  ⟨fun vs h => (b.wp vs h).trans (a.wp vs h), fun i h => (b.oo i h).trans (a.oo i h), fun i x h => a.sub i x (b.sub i x h)⟩
theorem wipe_set {σ : L2.St} {i : Nat} {v : Option V} : ∀ {vs : List Nat}, i ∈ vs → wipe (σ.set i v) vs = wipe σ vs
  | w :: vs, h => by
    show (wipe (σ.set i v) vs).set w none = (wipe σ vs).set w none
    by_cases hi : i ∈ vs
    · rw [wipe_set hi]
    · have e : i = w := by
        rcases List.mem_cons.mp h with h | h
        · exact h
        · exact absurd h hi
      subst e
      have aux : ∀ {us : List Nat}, i ∉ us → wipe (σ.set i v) us = (wipe σ us).set i v := fun {us} => by
        induction us with
        | nil => exact fun _ => rfl
        | cons u us ih =>
          intro hu
          show (wipe (σ.set i v) us).set u none = ((wipe σ us).set u none).set i v
          rw [ih fun m => hu (List.mem_cons_of_mem _ m), List.set_comm _ _ (fun e => hu (by rw [e]; exact List.mem_cons_self))]
      rw [aux hi, List.set_set]
theorem Stp.set {js : Nat → Bool} {σ : L2.St} {O : Nat → List Addr} {i : Nat} {v : Option V} (h : js i = true) : Stp js σ (σ.set i v) O (setO O i []) :=
  ⟨fun vs hv => wipe_set (hv i h), fun j hj => by
    unfold setO
    rw [if_neg (fun e => by rw [e, h] at hj; cases hj)], fun j a ha => by
    unfold setO at ha
    split at ha
    · cases ha
    · exact ha⟩
abbrev allJ : Nat → Bool := fun _ => true
abbrev ofJ (vs : List Nat) : Nat → Bool := fun i => vs.contains i
def tG (K : PySem.W.Frag) (z : Z) (js : Nat → Bool) (b : D → Env → Option Env) : TG := fun v σ H Q => ∃ ρ F O d ρ', Rel K z ρ σ F H O ∧ Rep K F v d ∧ b d ρ = some ρ' ∧ ∀ σ' O', Rel K z ρ' σ' F H O' → Stp js σ σ' O O' → Q σ' H
def tGs (K : PySem.W.Frag) (z : Z) (js : Nat → Bool) (b : List D → Env → Option Env) : TGs := fun vs σ H Q => ∃ ρ F O ds ρ', Rel K z ρ σ F H O ∧ RepL K F vs ds ∧ b ds ρ = some ρ' ∧ ∀ σ' O', Rel K z ρ' σ' F H O' → Stp js σ σ' O O' → Q σ' H
def bNm (i : Nat) : D → Env → Option Env := fun d ρ => some (ρ.set i (some (.sh d)))
def bNil : List D → Env → Option Env := fun ds ρ => match ds with
  | [] => some ρ
  | _ => none
def bCons (b : D → Env → Option Env) (g : List D → Env → Option Env) : List D → Env → Option Env := fun ds ρ => match ds with
  | d :: r => (b d ρ).bind (g r)
  | [] => none
def bTp (n : Nat) (g : List D → Env → Option Env) : D → Env → Option Env := fun d ρ => match d with
  | .tuple ds => if ds.length = n then g ds ρ else none
  | _ => none
section
variable {X : Cx} {z : Z} {js : Nat → Bool}
theorem _root_.L2.PG.mono {e : Expr} {t t' : TG} (h : PG X e t) (i : ∀ v σ H Q, t' v σ H Q → t v σ H Q) : PG X e t' := ⟨fun pins s σ H v u Q I r q => h.run pins s σ H v u Q I r (i _ _ _ _ q)⟩
theorem _root_.L2.PGs.mono {e : List Expr} {t t' : TGs} (h : PGs X e t) (i : ∀ v σ H Q, t' v σ H Q → t v σ H Q) : PGs X e t' := ⟨fun pins s σ H v u Q I r q => h.run pins s σ H v u Q I r (i _ _ _ _ q)⟩
theorem g_nm (i : Nat) {x : Str} {pos : Pos} (hN : X.N.Nodup) (hi : X.N[i]? = some x := by rfl) (hx : Loc X.env.scope x := by first | exact Or.inl rfl | exact Or.inr rfl) (hf : X.fn x = true ∨ X.env.scope.names.lookup x = some .local := by first | exact .inl rfl | exact .inr rfl) (hj : js i = true := by rfl) : PG X (.Name x pos) (tG X.K z js (bNm i)) :=
  (pg_name hN hi hx hf).mono fun v σ H Q ⟨ρ, F, O, d, ρ', R, r, e, q⟩ => by
    cases e
    exact q _ _ (R.setD r) (.set hj)
theorem g_nil : PGs X [] (tGs X.K z js bNil) := pgs_nil.mono fun vs σ H Q ⟨ρ, F, O, ds, ρ', R, r, e, q⟩ => by
  unfold bNil at e
  split at e
  · cases e
    cases r
    exact ⟨rfl, q _ _ R .refl⟩
  · cases e
theorem g_cons {e : Expr} {es : List Expr} {b : D → Env → Option Env} {g : List D → Env → Option Env} (h1 : PG X e (tG X.K z js b)) (h2 : PGs X es (tGs X.K z js g))
    (hs : (assignEach (e :: es) X.env).map (·.2) = assign e X.env :: (assignEach es X.env).map (·.2) := by rfl) : PGs X (e :: es) (tGs X.K z js (bCons b g)) :=
  (pgs_cons h1 h2 hs).mono fun vs σ H Q ⟨ρ, F, O, ds, ρ', R, r, e, q⟩ => by
    unfold bCons at e
    split at e
    · obtain ⟨ρ1, h1, h2⟩ := bind_some e
      cases r with
      | cons r t => exact ⟨_, _, rfl, ρ, F, O, _, ρ1, R, r, h1, fun σ' O' R' s => ⟨ρ1, F, O', _, ρ', R', t, h2, fun σ2 O2 R2 s2 => q σ2 O2 R2 (s.trans s2)⟩⟩
    · cases e
theorem g_tup {es : List Expr} {k n : Nat} {pos : Pos} {g : List D → Env → Option Env} (hc : X.calm = true) (h : PGs X es (tGs X.K z js g))
    (hn : (assignEach es X.env).length = n := by rfl) (hst : (assignEach es X.env).findIdx? (·.1) = none := by rfl) : PG X (.Tuple es k pos) (tG X.K z js (bTp n g)) :=
  (pg_tup hc h hn hst).mono fun v σ H Q ⟨ρ, F, O, d, ρ', R, r, e, q⟩ => by
    unfold bTp at e
    split at e
    · split at e
      · cases r with
        | tup hs t => exact ⟨_, _, rfl, sameT R.sub (sqT_of hs), by rw [t.length]; assumption, ρ, F, O, _, ρ', R, t, e, q⟩
      · cases e
    · cases e
end
inductive Fl where
  | nx
  | bk
  | ct
  | ret (d : D)
abbrev Gs := Env → Option (Fl × Env)
def FinS (K : PySem.W.Frag) (z : Z) (F : Hp) (D : Ends) (ρ : Env) : Fl → Prop
  | .nx => ∀ σ F' H O, Rel K z ρ σ F' H O → Same F F' → D.nx σ H
  | .bk => ∀ σ F' H O, Rel K z ρ σ F' H O → Same F F' → D.bk σ H
  | .ct => ∀ σ F' H O, Rel K z ρ σ F' H O → Same F F' → D.ct σ H
  | .ret d => ∀ v σ F' H O, Rel K z ρ σ F' H O → Same F F' → Rep K F' v d → D.rt v H
theorem FinS.from {K : PySem.W.Frag} {z : Z} {F F1 : Hp} {D : Ends} {ρ : Env} {fl : Fl} (h : FinS K z F D ρ fl) (s : Same F F1) : FinS K z F1 D ρ fl := by
  cases fl with
  | nx => exact fun σ F' H O R s' => h σ F' H O R (s.trans s')
  | bk => exact fun σ F' H O R s' => h σ F' H O R (s.trans s')
  | ct => exact fun σ F' H O R s' => h σ F' H O R (s.trans s')
  | ret d => exact fun v σ F' H O R s' => h v σ F' H O R (s.trans s')
def tS (K : PySem.W.Frag) (z : Z) (g : Gs) : TS := fun D σ H => ∃ ρ F O fl ρ', Rel K z ρ σ F H O ∧ g ρ = some (fl, ρ') ∧ FinS K z F D ρ' fl
def gNx : Gs := fun ρ => some (.nx, ρ)
def gBk : Gs := fun ρ => some (.bk, ρ)
def gCt : Gs := fun ρ => some (.ct, ρ)
def gNever : Gs := fun _ => none
def gSeq (g h : Gs) : Gs := fun ρ => (g ρ).bind fun p => match p.1 with
  | .nx => h p.2
  | _ => some p
def gAsg (f : Env → Option (D × Env)) (b : D → Env → Option Env) : Gs := fun ρ => (f ρ).bind fun p => (b p.1 p.2).map fun ρ' => (.nx, ρ')
def gSetW (i : Nat) (f : Env → Option (E × Env)) : Gs := fun ρ => (f ρ).map fun p => (.nx, p.2.set i (some p.1))
def gRet (f : Env → Option (D × Env)) : Gs := fun ρ => (f ρ).map fun p => (.ret p.1, p.2)
def gExpr (f : Env → Option (D × Env)) : Gs := fun ρ => (f ρ).map fun p => (.nx, p.2)
def gIf (c : Env → Option (Bool × Env)) (g h : Gs) : Gs := fun ρ => (c ρ).bind fun p => if p.1 = true then g p.2 else h p.2
def gLoop (b : D → Env → Option Env) (g : Gs) : List D → Gs
  | [], ρ => some (.nx, ρ)
  | d :: r, ρ => (b d ρ).bind fun ρ1 => (g ρ1).bind fun p => match p.1 with
    | .nx => gLoop b g r p.2
    | .ct => gLoop b g r p.2
    | .bk => some (.nx, p.2)
    | .ret d => some (.ret d, p.2)
def gFor (it : Env → Option (List D × Env)) (b : D → Env → Option Env) (g : Gs) : Gs := fun ρ => (it ρ).bind fun p => gLoop b g p.1 p.2
def gWhile (c : Env → Option (Bool × Env)) (g : Gs) : Nat → Gs
  | 0, _ => none
  | n + 1, ρ => (c ρ).bind fun p => if p.1 = true then (g p.2).bind fun q => match q.1 with
      | .nx => gWhile c g n q.2
      | .ct => gWhile c g n q.2
      | .bk => some (.nx, q.2)
      | .ret d => some (.ret d, q.2)
    else some (.nx, p.2)
section
variable {X : Cx} {z : Z}
theorem s_nil : PSs X [] (tS X.K z gNx) := pss_nil.mono fun D σ H ⟨ρ, F, O, fl, ρ', R, e, q⟩ => by
  cases e
  exact q σ F H O R (Same.refl _)
theorem s_cons {st : Stmt} {rest : List Stmt} {g h : Gs} (h1 : PS X st (tS X.K z g)) (h2 : PSs X rest (tS X.K z h)) : PSs X (st :: rest) (tS X.K z (gSeq g h)) :=
  (pss_cons h1 h2).mono fun D σ H ⟨ρ, F, O, fl, ρ', R, e, q⟩ => by
    obtain ⟨⟨fl1, ρ1⟩, h1, h2⟩ := bind_some e
    refine ⟨ρ, F, O, fl1, ρ1, R, h1, ?_⟩
    cases fl1 with
    | nx => exact fun σ' F' H' O' R' s => ⟨ρ1, F', O', fl, ρ', R', h2, q.from s⟩
    | bk =>
      cases h2
      exact q
    | ct =>
      cases h2
      exact q
    | ret d =>
      cases h2
      exact q
theorem s_one {st : Stmt} {g : Gs} (h : PS X st (tS X.K z g)) : PSs X [st] (tS X.K z g) := pss_one h
theorem s_never {st : Stmt} : PS X st (tS X.K z gNever) := ps_never.mono fun D σ H ⟨ρ, F, O, fl, ρ', R, e, q⟩ => by cases e
theorem asg_in {te : TE} {tg : TG} {f : Env → Option (D × Env)} {b : D → Env → Option Env} {D : Ends} {σ : L2.St} {H : Hp} (h : tS X.K z (gAsg f b) D σ H) : tAsg (tR X.K z f) (tG X.K z allJ b) D σ H := by
  obtain ⟨ρ, F, O, fl, ρ', R, e, q⟩ := h
  obtain ⟨⟨d, ρ1⟩, h1, h2⟩ := bind_some e
  obtain ⟨ρ2, h3, h4⟩ := map_some h2
  cases h4
  exact ⟨ρ, F, O, d, ρ1, R, h1, fun v F' H' R' k r => ⟨ρ1, F', O, d, _, R', r, h3, fun σ' O' R2 _ => q σ' F' H' O' R2 k.same⟩⟩
theorem s_asg {tg e : Expr} {pos : Pos} {f : Env → Option (D × Env)} {b : D → Env → Option Env} (he : PE X e (tR X.K z f)) (hg : PG X tg (tG X.K z allJ b)) (hs : swapsWithSole [tg] e pos.line X.env = pure false := by rfl) (hw : swappedStores [tg] e X.env = pure none := by rfl)
    (h1 : (assignEach [tg] X.env).map (·.2) = [assign tg X.env] := by rfl) : PS X (.Assign [tg] e pos) (tS X.K z (gAsg f b)) :=
  (ps_asg he hg hs hw h1).mono fun D σ H h => asg_in (te := tR X.K z f) (tg := tG X.K z allJ b) h
theorem s_set (i : Nat) {x : Str} {e : Expr} {pos pos' : Pos} {f : Env → Option (D × Env)} (hN : X.N.Nodup) (he : PE X e (tR X.K z f)) (hi : X.N[i]? = some x := by rfl) (hx : Loc X.env.scope x := by first | exact Or.inl rfl | exact Or.inr rfl)
    (hs : swapsWith e (some (.Name x pos')) pos.line X.env = pure false := by rfl) (hf : X.fn x = true ∨ X.env.scope.names.lookup x = some .local := by first | exact .inl rfl | exact .inr rfl) : PS X (.Assign [.Name x pos'] e pos) (tS X.K z (gAsg f (bNm i))) :=
  (ps_set hN hi hx he hs hf).mono fun D σ H ⟨ρ, F, O, fl, ρ', R, e, q⟩ => by
    obtain ⟨⟨d, ρ1⟩, h1, h2⟩ := bind_some e
    cases h2
    exact ⟨ρ, F, O, d, ρ1, R, h1, fun v F' H' R' k r => q _ _ _ _ (R'.setD r) k.same⟩
theorem setE_new {K : PySem.W.Frag} {ρ : Env} {σ : L2.St} {H F' H' : Hp} {O : Nat → List Addr} {e : E} {v : V} {as : List Addr} {i : Nat} (R0 : ∀ i a, a ∈ O i → H a ≠ none) (R : Rel K z ρ σ F' H' O) (h : Ent K z F' H' v e as) (hf : ∀ a ∈ as, H a = none ∧ F' a = none ∧ H' a ≠ none) :
    Rel K z (ρ.set i (some e)) (σ.set i (some v)) F' H' (setO O i as) :=
  R.setE h fun a ha => ⟨(hf a ha).2.1, (hf a ha).2.2, fun j _ hj => R0 j a hj (hf a ha).1⟩
theorem s_setW (i : Nat) {x : Str} {e : Expr} {pos pos' : Pos} {f : Env → Option (E × Env)} (hN : X.N.Nodup) (he : PE X e (tW X.K z f)) (hi : X.N[i]? = some x := by rfl) (hx : Loc X.env.scope x := by first | exact Or.inl rfl | exact Or.inr rfl)
    (hs : swapsWith e (some (.Name x pos')) pos.line X.env = pure false := by rfl) (hf : X.fn x = true ∨ X.env.scope.names.lookup x = some .local := by first | exact .inl rfl | exact .inr rfl) : PS X (.Assign [.Name x pos'] e pos) (tS X.K z (gSetW i f)) :=
  (ps_set hN hi hx he hs hf).mono fun D σ H ⟨ρ, F, O, fl, ρ', R, e, q⟩ => by
    obtain ⟨⟨d, ρ1⟩, h1, h2⟩ := map_some e
    cases h2
    exact ⟨ρ, F, O, d, ρ1, R, h1, fun v F' H' as R' k r hf => q _ _ _ _ (setE_new (fun i a ha => (R.off i a ha).2) R' r hf) k.same⟩
theorem s_ret {e : Expr} {pos : Pos} {f : Env → Option (D × Env)} (he : PE X e (tR X.K z f)) : PS X (.Return (some e) pos) (tS X.K z (gRet f)) :=
  (ps_ret he).mono fun D σ H ⟨ρ, F, O, fl, ρ', R, e, q⟩ => by
    obtain ⟨⟨d, ρ1⟩, h1, h2⟩ := map_some e
    cases h2
    exact ⟨ρ, F, O, d, ρ1, R, h1, fun v F' H' R' k r => q v σ F' H' O R' k.same r⟩
theorem s_expr {e : Expr} {pos : Pos} {f : Env → Option (D × Env)} (he : PE X e (tR X.K z f)) (hs : swapsWith e none pos.line X.env = pure false := by rfl) : PS X (.Expr e pos) (tS X.K z (gExpr f)) :=
  (ps_expr he hs).mono fun D σ H ⟨ρ, F, O, fl, ρ', R, e, q⟩ => by
    obtain ⟨⟨d, ρ1⟩, h1, h2⟩ := map_some e
    cases h2
    exact ⟨ρ, F, O, d, ρ1, R, h1, fun v F' H' R' k r => q σ F' H' O R' k.same⟩
theorem s_if {c : Expr} {a b : List Stmt} {pos : Pos} {tc : Env → Option (Bool × Env)} {g h : Gs} (hc : PT X c (tBR X.K z tc)) (ha : PSs X a (tS X.K z g)) (hb : PSs X b (tS X.K z h)) : PS X (.If c a b pos) (tS X.K z (gIf tc g h)) :=
  (ps_if hc ha hb).mono fun D σ H ⟨ρ, F, O, fl, ρ', R, e, q⟩ => by
    obtain ⟨⟨b, ρ1⟩, h1, h2⟩ := bind_some e
    refine ⟨ρ, F, O, b, ρ1, R, h1, fun F' H' R' k => ?_⟩
    cases b with
    | true => exact ⟨ρ1, F', O, fl, ρ', R', h2, q.from k.same⟩
    | false => exact ⟨ρ1, F', O, fl, ρ', R', h2, q.from k.same⟩
theorem s_for {tg iter : Expr} {body : List Stmt} {pos : Pos} {it : Env → Option (List D × Env)} {b : D → Env → Option Env} {g : Gs} (hc : X.calm = true) (hi : PI X tg iter (tIR X.K z it)) (hg : PG X tg (tG X.K z allJ b)) (hb : PSs X body (tS X.K z g))
    (hp : PassesOwn (model X.prog X.w) X.A X.env X.xe) (hs : ∀ x, foldedSetIterable iter X.env x = pure x := by intro _; rfl) : PS X (.For tg iter body [] pos) (tS X.K z (gFor it b g)) :=
  (ps_for hp hc hi hg hb hs).mono fun D σ H ⟨ρ, F, O, fl, ρ', R, e, q⟩ => by
    obtain ⟨⟨ds, ρ1⟩, h1, h2⟩ := bind_some e
    refine ⟨ρ, F, O, ds, ρ1, R, h1, fun J F1 H1 R1 k1 y => ?_⟩
    refine ⟨fun i m σ H => m = ds.length - i ∧ i ≤ ds.length ∧ ∃ ρ2 F2 O2, Rel X.K z ρ2 σ F2 H O2 ∧ Same F1 F2 ∧ gLoop b g (ds.drop i) ρ2 = some (fl, ρ'), ⟨ds.length, by simp, Nat.zero_le _, ρ1, F1, O, R1, Same.refl _, h2⟩, ?_⟩
    rintro i m σ2 H2 ⟨rfl, hi, ρ2, F2, O2, R2, s2, e2⟩
    by_cases hlt : i < ds.length
    · have ed : ds.drop i = ds[i] :: ds.drop (i + 1) := by rw [List.drop_eq_getElem_cons hlt]
      rw [ed] at e2
      obtain ⟨ρ3, e3, e4⟩ := bind_some e2
      obtain ⟨⟨fl4, ρ4⟩, e5, e6⟩ := bind_some e4
      have sH : Same F1 H2 := s2.trans R2.sub
      refine .inr ⟨y.go i H2 sH hlt, fun σ' H' => ∃ ρ2 F2 O2, Rel X.K z ρ2 σ' F2 H' O2 ∧ Same F1 F2 ∧ gLoop b g (ds.drop (i + 1)) ρ2 = some (fl, ρ'), fun σ' H' n => ⟨ds.length - (i + 1), by omega, rfl, by omega, n⟩, fun x H' yx => ?_⟩
      obtain ⟨sx, rx⟩ := y.yld i F2 H2 x H' _ s2 R2.sub R2.tup yx (List.getElem?_eq_getElem hlt)
      have R3 := R2.grow sx
      refine ⟨ρ2, _, O2, _, ρ3, R3, rx, e3, fun σ5 O5 R5 _ => ⟨ρ3, _, O5, fl4, ρ4, R5, e5, ?_⟩⟩
      have s5 : Same F1 (ext F2 H2 H') := s2.trans (same_ext R2.sub)
      cases fl4 with
      | nx => exact fun σ6 F6 H6 O6 R6 s6 => ⟨ρ4, F6, O6, R6, s5.trans s6, e6⟩
      | ct => exact fun σ6 F6 H6 O6 R6 s6 => ⟨ρ4, F6, O6, R6, s5.trans s6, e6⟩
      | bk =>
        cases e6
        exact fun σ6 F6 H6 O6 R6 s6 => q σ6 F6 H6 O6 R6 ((k1.same.trans s5).trans s6)
      | ret d =>
        cases e6
        exact fun v σ6 F6 H6 O6 R6 s6 r => q v σ6 F6 H6 O6 R6 ((k1.same.trans s5).trans s6) r
    · have ei : i = ds.length := by omega
      subst ei
      rw [List.drop_length] at e2
      cases e2
      exact .inl ⟨y.stop _ H2 (s2.trans R2.sub) rfl, q σ2 F2 H2 O2 R2 (k1.same.trans s2)⟩
theorem s_while {c : Expr} {body : List Stmt} {pos : Pos} {tc : Env → Option (Bool × Env)} {g : Gs} (n : Nat) (hc : PT X c (tBR X.K z tc)) (hb : PSs X body (tS X.K z g)) (hp : PassesOwn (model X.prog X.w) X.A X.env X.xe) : PS X (.While c body [] pos) (tS X.K z (gWhile tc g n)) :=
  (ps_while hp hc hb).mono fun D σ H ⟨ρ, F, O, fl, ρ', R, e, q⟩ => by
    refine ⟨fun m σ H => ∃ ρ2 F2 O2, Rel X.K z ρ2 σ F2 H O2 ∧ Same F F2 ∧ gWhile tc g m ρ2 = some (fl, ρ'), ⟨n, ρ, F, O, R, Same.refl _, e⟩, ?_⟩
    rintro m σ2 H2 ⟨ρ2, F2, O2, R2, s2, e2⟩
    cases m with
    | zero => cases e2
    | succ m =>
      obtain ⟨⟨b, ρ3⟩, e3, e4⟩ := bind_some e2
      refine ⟨ρ2, F2, O2, b, ρ3, R2, e3, fun F' H' R' k => ?_⟩
      have sF := s2.trans k.same
      cases b with
      | false =>
        show D.nx σ2 H'
        rw [if_neg Bool.false_ne_true] at e4
        cases e4
        exact q σ2 F' H' O2 R' sF
      | true =>
        rw [if_pos rfl] at e4
        obtain ⟨⟨fl4, ρ4⟩, e5, e6⟩ := bind_some e4
        refine ⟨fun σ' H' => ∃ ρ2 F2 O2, Rel X.K z ρ2 σ' F2 H' O2 ∧ Same F F2 ∧ gWhile tc g m ρ2 = some (fl, ρ'), fun σ' H' h => ⟨m, Nat.lt_succ_self _, h⟩, ρ3, F', O2, fl4, ρ4, R', e5, ?_⟩
        cases fl4 with
        | nx => exact fun σ6 F6 H6 O6 R6 s6 => ⟨ρ4, F6, O6, R6, sF.trans s6, e6⟩
        | ct => exact fun σ6 F6 H6 O6 R6 s6 => ⟨ρ4, F6, O6, R6, sF.trans s6, e6⟩
        | bk =>
          cases e6
          exact fun σ6 F6 H6 O6 R6 s6 => q σ6 F6 H6 O6 R6 (sF.trans s6)
        | ret d =>
          cases e6
          exact fun v σ6 F6 H6 O6 R6 s6 r => q v σ6 F6 H6 O6 R6 (sF.trans s6) r
end
end DL
namespace DL
open PySem PySem.Spec PyProof.Rows L2
def isAt : D → Bool
  | .none => true
  | .bool _ => true
  | .int _ => true
  | .str _ => true
  | _ => false
def thF : Fd → D
  | .sh d => d
  | .own d => d
  | .own2 d => d
def thE : Option E → Option E
  | some (.own d) => some (.sh d)
  | some (.own2 d) => some (.sh d)
  | some (.row d) => some (.sh d)
  | some (.dk l ks) => some (.sh (frzE (.dk l ks)))
  | some (.dt _ _) => none
  | some (.fn _ _) => none
  | some (.odd _) => none
  | some (.ob _ fs) => some (.obs (fs.map fun p => (p.1, thF p.2)))
  | e => e
def cBor (f : Env → Option D) : Env → Option D := fun ρ => (f (ρ.map thE)).bind fun d => if isAt d then some d else none
def bBor (f : Env → Option Bool) : Env → Option Bool := fun ρ => f (ρ.map thE)
section
variable {X : Cx} {z : Z}
theorem Obj1.rep {K : PySem.W.Frag} {F H : Hp} {p : Addr} {d : D} (s : Same F H) (h : Obj1 K F H p d) : Rep K H (.ref p) d := by
  cases d with
  | list ds =>
    obtain ⟨vs, h1, h2⟩ := h
    exact .lst (.of h1) (h2.mono s)
  | _ => exact h.elim
theorem Objs.rep {K : PySem.W.Frag} {F H : Hp} (s : Same F H) : ∀ {ps : List Addr} {ds : List D}, Objs K F H ps ds → RepL K H (ps.map V.ref) ds
  | _, _, .nil => .nil
  | _, _, .cons h t => .cons (h.rep s) (Objs.rep s t)
theorem Ent.rep {K : PySem.W.Frag} {z : Z} {F H : Hp} {v : V} {e : E} {as : List Addr} (s : Same F H) (h : Ent K z F H v e as) (hd : ((∀ l ks, e ≠ .dt l ks) ∧ (∀ j f, e ≠ .fn j f) ∧ ∀ o, e ≠ .odd o) ∧ (∀ m fs, e ≠ .ob m fs) ∧ ∀ fs, e ≠ .obs fs) : Rep K H v (frzE e) := by
  cases e with
  | ob m fs => exact absurd rfl (hd.2.1 m fs)
  | obs fs => exact absurd rfl (hd.2.2 fs)
  | dt l ks => exact absurd rfl (hd.1.1 l ks)
  | fn j f => exact absurd rfl (hd.1.2.1 j f)
  | odd o => exact absurd rfl (hd.1.2.2 o)
  | dk l ks =>
    obtain ⟨p, kvs, e1, e2, e3, h⟩ := h
    subst e1
    have ek : (ks.map fun p => (kD p.1, p.2)).map (·.1) = kvs.map (fun p => kD p.1) := by
      have := congrArg (List.map kD) e2
      rw [List.map_map, List.map_map] at this
      rw [List.map_map]
      exact this.symm
    have ev : (ks.map fun p => (kD p.1, p.2)).map (·.2) = ks.map (·.2) := by rw [List.map_map]; rfl
    refine .dic ?_ ek (by rw [ev]; exact e3.mono s)
    rcases h with ⟨_, _, _, h4⟩ | ⟨_, _, o, h3⟩
    · exact .of h4
    · exact .inr ⟨o, s _ _ h3⟩
  | sh d => exact h.2.mono s
  | own d =>
    obtain ⟨p, e1, _, _, h⟩ := h
    subst e1
    exact h.rep s
  | row d =>
    obtain ⟨p, e1, _, _, h⟩ := h
    subst e1
    exact h.rep s
  | own2 d =>
    obtain ⟨p, qs, ds, e1, e2, e3, h1, h2, _, h4⟩ := h
    subst e1 e3
    exact .lst (.of h1) (h4.rep s)
theorem thE_some {e : Option E} {e' : E} (h : thE e = some e') : ∃ e0, e = some e0 ∧ ((e' = .sh (frzE e0) ∧ ((∀ l ks, e0 ≠ .dt l ks) ∧ (∀ j f, e0 ≠ .fn j f) ∧ ∀ o, e0 ≠ .odd o) ∧ (∀ m fs, e0 ≠ .ob m fs) ∧ ∀ fs, e0 ≠ .obs fs) ∨ (∃ m fs, e0 = .ob m fs ∧ e' = .obs (fs.map fun p => (p.1, thF p.2))) ∨ ∃ fs, e0 = .obs fs ∧ e' = .obs fs) := by
  cases e with
  | none => cases h
  | some e =>
    refine ⟨e, rfl, ?_⟩
    cases e <;> first | (cases h; exact .inl ⟨rfl, ⟨(fun _ _ q => nomatch q), (fun _ _ q => nomatch q), fun _ q => nomatch q⟩, (fun _ _ q => nomatch q), fun _ q => nomatch q⟩) | (cases h; exact .inr (.inl ⟨_, _, rfl, rfl⟩)) | (cases h; exact .inr (.inr ⟨_, rfl, rfl⟩)) | cases h
theorem Fds.rep {K : PySem.W.Frag} {F H : Hp} (s : Same F H) : ∀ {xs : List (Str × V)} {fs : List (Str × Fd)} {as : List Addr}, Fds K F H xs fs as → xs.map (·.1) = (fs.map fun p => (p.1, thF p.2)).map (·.1) ∧ RepL K H (xs.map (·.2)) ((fs.map fun p => (p.1, thF p.2)).map (·.2))
  | _, _, _, .nil => ⟨rfl, .nil⟩
  | _, _, _, .sh r t => ⟨congrArg (_ :: ·) (Fds.rep s t).1, .cons (r.mono s) (Fds.rep s t).2⟩
  | _, _, _, .own o t => ⟨congrArg (_ :: ·) (Fds.rep s t).1, .cons (o.rep s) (Fds.rep s t).2⟩
  | _, _, _, .own2 h o t => ⟨congrArg (_ :: ·) (Fds.rep s t).1, .cons (.lst (.of h) (o.rep s)) (Fds.rep s t).2⟩
theorem Rel.thaw {K : PySem.W.Frag} {z : Z} {ρ : Env} {σ : L2.St} {F H : Hp} {O : Nat → List Addr} (R : Rel K z ρ σ F H O) : Rel K ⟨H, H, fun _ => False, z.cl, [], z.x⟩ (ρ.map thE) σ H H (fun _ => []) where
  len := by rw [List.length_map, R.len]
  sub := Same.refl _
  ent := fun i e h => by
    rw [List.getElem?_map] at h
    obtain ⟨e1, h1, h2⟩ := map_some h
    obtain ⟨e0, h3, h4⟩ := thE_some h2
    subst h3
    obtain ⟨v, hv, hE⟩ := R.ent i e0 h1
    rcases h4 with ⟨h4, h5⟩ | ⟨m, fs, h4, h5⟩ | ⟨fs, h4, h5⟩
    · subst h4
      exact ⟨v, hv, rfl, hE.rep R.sub h5⟩
    · subst h4 h5
      obtain ⟨p, dx, xs, as', e1, e2, h1, h2, h3, h4, h5⟩ := hE
      obtain ⟨n1, n2⟩ := h5.rep R.sub
      exact ⟨v, hv, rfl, p, _, dx, xs, e1, h1, by rw [List.map_map]; exact h2, n1, n2⟩
    · subst h4 h5
      obtain ⟨_, p, C, dx, xs, e1, h1, h2, h3, h4⟩ := hE
      exact ⟨v, hv, rfl, p, C, dx, xs, e1, R.sub _ _ h1, h2, h3, h4.mono R.sub⟩
  off := fun i a ha => by cases ha
  apt := fun i j a ha => by cases ha
  old := fun a h f => absurd f h
  oldH := fun a h => h
  keep := fun a o h _ => h
  f0 := Same.refl _
  tup := AllT.refl _
theorem rep_at {K : PySem.W.Frag} {F F' : Hp} {v : V} {d : D} (h : isAt d = true) (r : Rep K F v d) : Rep K F' v d := by
  cases r with
  | non => exact .non
  | bl b => exact .bl b
  | int i => exact .int i
  | str s => exact .str s
  | _ => cases h
theorem q_bor {e : Expr} {f : Env → Option D} (h : ∀ z : Z, PE X e (tP X.K z f)) : PE X e (tP X.K z (cBor f)) :=
  ⟨fun pins s σ H Q I ⟨ρ, F, O, d, R, e, q⟩ => by
    obtain ⟨d', h1, h2⟩ := bind_some e
    split at h2
    · next ha =>
      cases h2
      exact (h ⟨H, H, fun _ => False, z.cl, [], z.x⟩).run pins s σ H Q I ⟨_, H, _, _, R.thaw, h1, fun v H' sm r => q v H' sm (rep_at ha r)⟩
    · cases h2⟩
theorem b_bor {e : Expr} {f : Env → Option Bool} (h : ∀ z : Z, PT X e (tB X.K z f)) : PT X e (tB X.K z (bBor f)) :=
  ⟨fun pins s σ H Q I ⟨ρ, F, O, b, R, e, q⟩ =>
    (h ⟨H, H, fun _ => False, z.cl, [], z.x⟩).run pins s σ H Q I ⟨_, H, _, _, R.thaw, e, q⟩⟩
def ownL (e : Option (Option E)) : Option (List D) := match e with
  | some (some (.own (.list ds))) => some ds
  | some (some (.row (.list ds))) => some ds
  | _ => none
theorem ownL_of {K : PySem.W.Frag} {z : Z} {ρ : Env} {σ : L2.St} {F H : Hp} {O : Nat → List Addr} {i : Nat} {ds : List D} (R : Rel K z ρ σ F H O) (h : ownL ρ[i]? = some ds) : ∃ p vs, σ[i]? = some (some (.ref p)) ∧ O i = [p] ∧ H p = some (.lst vs) ∧ RepL K F vs ds ∧ (z.H0 p = none ∨ z.B p) ∧ ((ρ[i]? = some (some (.own (.list ds))) ∧ z.H0 p = none) ∨ (ρ[i]? = some (some (.row (.list ds))) ∧ z.B p)) := by
  unfold ownL at h
  split at h
  · next hi =>
    cases h
    obtain ⟨v, h1, p, e1, e2, e3, vs, h2, h3⟩ := R.ent i _ hi
    subst e1
    exact ⟨p, vs, h1, e2, h2, h3, .inl e3, .inl ⟨hi, e3⟩⟩
  · next hi =>
    cases h
    obtain ⟨v, h1, p, e1, e2, e3, vs, h2, h3⟩ := R.ent i _ hi
    subst e1
    exact ⟨p, vs, h1, e2, h2, h3, .inr e3, .inr ⟨hi, e3⟩⟩
  · cases h
def cIxO (i : Nat) (f : Env → Option D) : Env → Option D := fun ρ => (ownL ρ[i]?).bind fun ds => (f ρ).bind fun k => match k with
  | .int k => atI ds k
  | _ => none
theorem q_ixO (i : Nat) {x : Str} {e : Expr} {pos p2 : Pos} {f : Env → Option D} (he : PE X e (tP X.K z f)) (hN : X.N[i]? = some x := by rfl) (hv : Vis X.env.scope x := by first | exact Or.inl rfl | exact Or.inr (Or.inl rfl) | exact Or.inr (Or.inr rfl)) (hd : (x == ("__debug__" : Str)) = false := by decide)
    (hcd : (x == ("__classdict__" : Str)) = false := by decide) (hs : PlainIx e := by exact fun _ _ => rfl) : PE X (.Subscript (.Name x pos) e p2) (tP X.K z (cIxO i f)) :=
  (pe_ix ix_seq (pe_var hN hv hd hcd) he hs).mono fun σ H Q ⟨ρ, F, O, d, R, e, q⟩ => by
    obtain ⟨ds, h1, e⟩ := bind_some e
    obtain ⟨k, h2, e⟩ := bind_some e
    obtain ⟨p, vs, s1, s2, s3, s4, _⟩ := ownL_of R h1
    refine ⟨_, s1, ρ, F, O, k, R, h2, fun v H1 sm r => ?_⟩
    split at e
    · cases r
      obtain ⟨w, w1, w2⟩ := atI_rep s4 e
      exact .inl ⟨p, vs, _, w, rfl, rfl, .of (sm _ _ s3), w1, q w H1 sm (w2.mono (same_ext R.sub))⟩
    · cases e
theorem Rel.freeze {K : PySem.W.Frag} {ρ : Env} {σ : L2.St} {F H : Hp} {O : Nat → List Addr} {i : Nat} {e : E} (R : Rel K z ρ σ F H O) (h : ρ[i]? = some (some e)) (hr : canFz e = true) : ∃ F', Same F F' ∧ Rel K z (ρ.set i (some (.sh (frzE e)))) σ F' H (setO O i []) := by
  obtain ⟨v, hv, hE⟩ := R.ent i e h
  obtain ⟨F', s, c, r⟩ := ent_rep hE hr fun a ha => (R.off i a ha).1
  have h0 : ∀ a ∈ O i, z.H0 a = none := fun a ha => by
    cases e with
    | sh d =>
      rw [hE.1] at ha
      cases ha
    | row d => cases hr
    | dt l ks => cases hr
    | fn j f => cases hr
    | ob m fs => cases hr
    | obs fs => cases hr
    | odd o => cases hr
    | dk l ks =>
      obtain ⟨p, kvs, _, _, _, q⟩ := hE
      rcases q with ⟨_, e2, e3, _⟩ | ⟨_, e2, _⟩
      · rw [e2] at ha
        rcases List.mem_cons.mp ha with q | q
        · rw [q]
          exact e3
        · cases q
      · rw [e2] at ha
        cases ha
    | own d =>
      obtain ⟨p, _, e2, e3, _⟩ := hE
      rw [e2] at ha
      rcases List.mem_cons.mp ha with q | q
      · rw [q]
        exact e3
      · cases q
    | own2 d =>
      obtain ⟨p, qs, ds, _, e2, _, _, _, e3, _⟩ := hE
      rw [e2] at ha
      exact e3 a ha
  refine ⟨F', s, ⟨?_, ?_, ?_, ?_, ?_, ?_, R.oldH, R.keep, R.f0.trans s, fun a vs e => by
    by_cases q : F' a = F a
    · rw [q]
      exact R.tup a vs e
    · rw [(c a q).2]
      exact e⟩⟩
  · rw [List.length_set, R.len]
  · intro a o ea
    by_cases q : F' a = F a
    · exact R.sub a o (q ▸ ea)
    · rw [← (c a q).2]
      exact ea
  · intro j e' hj
    unfold setO
    by_cases q : j = i
    · subst q
      have hl : j < ρ.length := (List.getElem?_eq_some_iff.mp h).1
      rw [List.getElem?_set_self hl] at hj
      cases hj
      rw [if_pos rfl]
      exact ⟨v, hv, rfl, r⟩
    · rw [List.getElem?_set_ne (Ne.symm q)] at hj
      rw [if_neg q]
      obtain ⟨w, h1, h2⟩ := R.ent j e' hj
      exact ⟨w, h1, h2.mono s fun _ _ => rfl⟩
  · intro j a ha
    unfold setO at ha
    split at ha
    · cases ha
    · next q =>
      refine ⟨?_, (R.off j a ha).2⟩
      by_cases q2 : F' a = F a
      · rw [q2]
        exact (R.off j a ha).1
      · exact absurd (R.apt j i a ha (c a q2).1) q
  · intro j k a hj hk
    unfold setO at hj hk
    split at hj
    · cases hj
    · split at hk
      · cases hk
      · exact R.apt j k a hj hk
  · intro a h1 h2
    by_cases q2 : F' a = F a
    · rw [q2]
      exact R.old a h1 h2
    · exact absurd (h0 a (c a q2).1) h1
def fz (i : Nat) (ρ : Env) : Env := match ρ[i]? with
  | some (some (.own d)) => ρ.set i (some (.sh d))
  | some (some (.own2 d)) => ρ.set i (some (.sh d))
  | some (some (.dk l ks)) => ρ.set i (some (.sh (frzE (.dk l ks))))
  | _ => ρ
def gFz (i : Nat) (g : Gs) : Gs := fun ρ => g (fz i ρ)
theorem Rel.fz {K : PySem.W.Frag} {ρ : Env} {σ : L2.St} {F H : Hp} {O : Nat → List Addr} (i : Nat) (R : Rel K z ρ σ F H O) : ∃ F' O', Same F F' ∧ Rel K z (DL.fz i ρ) σ F' H O' := by
  unfold DL.fz
  split
  · next h =>
    obtain ⟨F', s, R'⟩ := R.freeze h rfl
    exact ⟨F', _, s, R'⟩
  · next h =>
    obtain ⟨F', s, R'⟩ := R.freeze h rfl
    exact ⟨F', _, s, R'⟩
  · next h =>
    obtain ⟨F', s, R'⟩ := R.freeze h rfl
    exact ⟨F', _, s, R'⟩
  · exact ⟨F, O, Same.refl _, R⟩
theorem fz_in {t : TS} {g : Gs} (i : Nat) {D : Ends} {σ : L2.St} {H : Hp} {K : PySem.W.Frag} (h : tS K z (gFz i g) D σ H) : tS K z g D σ H := by
  obtain ⟨ρ, F, O, fl, ρ', R, e, q⟩ := h
  obtain ⟨F', O', s, R'⟩ := R.fz i
  exact ⟨_, F', O', fl, ρ', R', e, q.from s⟩
theorem s_fz (i : Nat) {st : Stmt} {g : Gs} (h : PS X st (tS X.K z g)) : PS X st (tS X.K z (gFz i g)) := h.mono fun D σ H q => fz_in (t := tNext) i q
theorem Rel.mut {K : PySem.W.Frag} {ρ : Env} {σ : L2.St} {F H : Hp} {O : Nat → List Addr} {i : Nat} {a : Addr} {o : HO} {e : E} {v : V} (R : Rel K z ρ σ F H O) (ha : a ∈ O i) (hz : z.H0 a = none ∨ z.B a) (hv : σ[i]? = some (some v)) (he : Ent K z F (upd H a o) v e (O i)) (ho : ∀ vs, o ≠ .tup vs := by intro _ q; cases q) : Rel K z (ρ.set i (some e)) σ F (upd H a o) O where
  len := by rw [List.length_set, R.len]
  sub := DL.Same.upd2 R.sub (R.off i a ha).1
  ent := fun j e' hj => by
    by_cases q : j = i
    · subst q
      have hl : j < ρ.length := by
        have := (List.getElem?_eq_some_iff.mp hj).1
        rw [List.length_set] at this
        exact this
      rw [List.getElem?_set_self hl] at hj
      cases hj
      exact ⟨v, hv, he⟩
    · rw [List.getElem?_set_ne (Ne.symm q)] at hj
      obtain ⟨w, h1, h2⟩ := R.ent j e' hj
      exact ⟨w, h1, h2.mono (Same.refl _) fun b hb => upd_ne (show b ≠ a from fun x => q (R.apt j i a (x ▸ hb) ha))⟩
  off := fun j b hb => ⟨(R.off j b hb).1, by
    by_cases q : b = a
    · rw [q, upd_same]
      exact fun z => nomatch z
    · rw [upd_ne q]
      exact (R.off j b hb).2⟩
  apt := R.apt
  old := R.old
  oldH := fun b h => by
    by_cases e : b = a
    · rw [e, upd_same]
      exact fun z => nomatch z
    · rw [upd_ne e]
      exact R.oldH b h
  keep := fun b o' h nb => by
    have e : b ≠ a := fun e => by
      subst e
      rcases hz with hz | hz
      · rw [hz] at h
        cases h
      · exact nb hz
    rw [upd_ne e]
    exact R.keep b o' h nb
  f0 := R.f0
  tup := R.tup.up ho
/-- the slot's own list gets new items -/
def putL (i : Nat) (es : List D) (ρ : Env) : Env := match ρ[i]? with
  | some (some (.row _)) => ρ.set i (some (.row (.list es)))
  | _ => ρ.set i (some (.own (.list es)))
theorem Rel.putL {K : PySem.W.Frag} {ρ : Env} {σ : L2.St} {F H : Hp} {O : Nat → List Addr} {i : Nat} {ds es : List D} {p : Addr} {ws : List V} (R : Rel K z ρ σ F H O) (h : ownL ρ[i]? = some ds) (hp : σ[i]? = some (some (.ref p))) (r : RepL K F ws es) : Rel K z (DL.putL i es ρ) σ F (upd H p (.lst ws)) O := by
  obtain ⟨p', vs, s1, s2, s3, s4, s5, s6⟩ := ownL_of R h
  rw [s1] at hp
  cases hp
  have hm : p ∈ O i := by rw [s2]; exact List.mem_cons_self
  unfold DL.putL
  rcases s6 with ⟨q, q2⟩ | ⟨q, q2⟩
  · rw [q]
    exact R.mut hm s5 s1 ⟨p, rfl, s2, q2, ws, upd_same, r⟩
  · rw [q]
    exact R.mut hm s5 s1 ⟨p, rfl, s2, q2, ws, upd_same, r⟩
/-- x.append(e) -/
def gApp (i : Nat) (f : Env → Option (D × Env)) : Gs := fun ρ => (ownL ρ[i]?).bind fun _ => (f ρ).bind fun p => (ownL p.2[i]?).bind fun ds => if ds.length ≤ 1000 then some (.nx, putL i (ds ++ [p.1]) p.2) else none
theorem s_app (i : Nat) {x : Str} {e : Expr} {f : Env → Option (D × Env)} {p1 p2 p3 pos : Pos} (he : PE X e (tR X.K z f)) (hN : X.N[i]? = some x := by rfl) (hv : Vis X.env.scope x := by first | exact Or.inl rfl | exact Or.inr (Or.inl rfl) | exact Or.inr (Or.inr rfl)) (hd : (x == ("__debug__" : Str)) = false := by decide)
    (hcd : (x == ("__classdict__" : Str)) = false := by decide)
    (hbase : attributeBase (.Name x p1) "append" X.env (eval (.Name x p1) X.env) = eval (.Name x p1) X.env := by rfl)
    (hfew : ((backTo p3 (starEach [e] X.env)).all (fun x => !x.1) && (backToKw p3 (keywordEach [] X.env)).all (fun x => x.1.isSome)
      && decide ([e].length + ([] : List Keyword).length + (if ([] : List Keyword).isEmpty then 0 else 1) < 30)) = true := by rfl)
    (hline : (p2.endLine == p3.line) = true := by rfl) (hs : starEach [e] X.env = (false, eval e X.env) :: starEach [] X.env := by rfl) (hpl : (backTo p3 (starEach [] X.env)).any (·.1) = false := by rfl)
    (hsw : swapsWith (.Call (.Attribute (.Name x p1) "append" p2) [e] [] p3) none pos.line X.env = pure false := by rfl) :
    PS X (.Expr (.Call (.Attribute (.Name x p1) "append" p2) [e] [] p3) pos) (tS X.K z (gApp i f)) :=
  (ps_expr (pe_bm PySem.F.plainAttrs_list PySem.F.slot_list_append PySem.F.type_list_append mt_append (pe_var hN hv hd hcd) (pa_cons he pa_nil hs) hbase hfew hline hs hpl) hsw).mono fun D σ H ⟨ρ, F, O, fl, ρ', R, e, q⟩ => by
    obtain ⟨d0, h0, e⟩ := bind_some e
    obtain ⟨⟨d, ρ1⟩, h1, e⟩ := bind_some e
    obtain ⟨ds, h2, e⟩ := bind_some e
    split at e
    · next hl =>
      cases e
      obtain ⟨p, vs, s1, s2, s3, s4, _⟩ := ownL_of R h0
      refine ⟨_, s1, .inl ⟨rfl, _, SqL.of s3⟩, ρ, F, O, d, ρ1, R, h1, fun v F' H' R' k r => ?_⟩
      obtain ⟨p', vs', t1, t2, t3, t4, _⟩ := ownL_of R' h2
      have e1 := s1.symm.trans t1
      cases e1
      refine ⟨p, vs', v, rfl, rfl, t3, by have := t4.length; have := small1000 hl; omega, ?_⟩
      exact q σ F' _ O (R'.putL h2 s1 (t4.append (.cons r .nil))) k.same
    · cases e
/-- x[k] = e -/
def gSetI (i : Nat) (f g : Env → Option (D × Env)) : Gs := fun ρ => (f ρ).bind fun p => (ownL p.2[i]?).bind fun _ => (g p.2).bind fun q => match q.1 with
  | .int k => (ownL q.2[i]?).bind fun ds => (ixN ds.length k).map fun j => (.nx, putL i (ds.set j p.1) q.2)
  | _ => none
theorem s_setI (i : Nat) {x : Str} {e b : Expr} {f g : Env → Option (D × Env)} {p1 p2 pos : Pos} (he : PE X e (tR X.K z f)) (hb : PE X b (tR X.K z g)) (hN : X.N[i]? = some x := by rfl) (hv : Vis X.env.scope x := by first | exact Or.inl rfl | exact Or.inr (Or.inl rfl) | exact Or.inr (Or.inr rfl)) (hd : (x == ("__debug__" : Str)) = false := by decide)
    (hcd : (x == ("__classdict__" : Str)) = false := by decide)
    (ha : ∀ v, assign (.Subscript (.Name x p1) b p2) X.env v = (do
      let ov ← holding [v] (eval (.Name x p1) X.env)
      let iv ← holding [v, ov] (eval b X.env)
      standAt p2
      holding [v, ov, iv] (setItem ov iv v)
      release [v, ov, iv] []) := by intro _; rfl)
    (hs : swapsWithSole [.Subscript (.Name x p1) b p2] e pos.line X.env = pure false := by rfl) (hw : swappedStores [.Subscript (.Name x p1) b p2] e X.env = pure none := by rfl)
    (h1 : (assignEach [.Subscript (.Name x p1) b p2] X.env).map (·.2) = [assign (.Subscript (.Name x p1) b p2) X.env] := by rfl) :
    PS X (.Assign [.Subscript (.Name x p1) b p2] e pos) (tS X.K z (gSetI i f g)) :=
  (ps_asg he (pg_sub (pe_var hN hv hd hcd) hb set_list ha) hs hw h1).mono fun D σ H ⟨ρ, F, O, fl, ρ', R, e, q⟩ => by
    obtain ⟨⟨d, ρ1⟩, h1, e⟩ := bind_some e
    obtain ⟨d0, h0, e⟩ := bind_some e
    obtain ⟨⟨k, ρ2⟩, h2, e⟩ := bind_some e
    dsimp only at e
    split at e
    · obtain ⟨ds, h3, e⟩ := bind_some e
      obtain ⟨j, h4, e⟩ := map_some e
      cases e
      refine ⟨ρ, F, O, d, ρ1, R, h1, fun v F1 H1 R1 k1 r1 => ?_⟩
      obtain ⟨p, vs, s1, _⟩ := ownL_of R1 h0
      refine ⟨_, s1, ρ1, F1, O, _, ρ2, R1, h2, fun w F2 H2 R2 k2 r2 => ?_⟩
      cases r2
      obtain ⟨p', vs', t1, t2, t3, t4, _⟩ := ownL_of R2 h3
      have e1 := s1.symm.trans t1
      cases e1
      exact ⟨p, vs', _, j, rfl, rfl, t3, by rw [t4.length]; exact h4, q σ F2 _ O (R2.putL h3 s1 (t4.set j (r1.mono k2.same))) (k1.same.trans k2.same)⟩
    · cases e
/-- x op= e -/
def gAug (i : Nat) (o : D → D → Option D) (f : Env → Option (D × Env)) : Gs := fun ρ => (cVar i ρ).bind fun d => (f ρ).bind fun p => (o d p.1).map fun y => (.nx, p.2.set i (some (.sh y)))
theorem s_aug (i : Nat) {x : Str} {e : Expr} {op : Operator} {r : R2} {o : D → D → Option D} {f : Env → Option (D × Env)} {p1 pos : Pos} (hr : OpR X (inplaceOp op) r) (ho : Op2 X.K r o) (hN : X.N.Nodup) (he : PE X e (tR X.K z f)) (hi : X.N[i]? = some x := by rfl) (hx : Loc X.env.scope x := by first | exact Or.inl rfl | exact Or.inr rfl)
    (hf : X.fn x = true ∨ X.env.scope.names.lookup x = some .local := by first | exact .inl rfl | exact .inr rfl) : PS X (.AugAssign (.Name x p1) op e pos) (tS X.K z (gAug i o f)) :=
  (ps_aug hN hi hx he hr hf).mono fun D σ H ⟨ρ, F, O, fl, ρ', R, e, q⟩ => by
    obtain ⟨d, h1, e⟩ := bind_some e
    obtain ⟨⟨d2, ρ1⟩, h2, e⟩ := bind_some e
    obtain ⟨y, h3, e⟩ := map_some e
    cases e
    unfold cVar at h1
    split at h1
    · next hi =>
      cases h1
      obtain ⟨v, v1, _, v2⟩ := R.ent i _ hi
      refine ⟨v, v1, ρ, F, O, d2, ρ1, R, h2, fun w F1 H1 R1 k1 r1 => ?_⟩
      exact ho.run F1 H1 v w d d2 y _ R1.sub (v2.mono k1.same) r1 h3 fun u H2 s2 r2 => q _ _ _ _ ((R1.grow s2).setD r2) (k1.same.trans (same_ext R1.sub))
    · cases h1
def oAddI : D → D → Option D
  | .int i, .int j => some (.int (i + j))
  | _, _ => none
theorem w_addI {K : PySem.W.Frag} : Op2 K (rI0 fun i j => .int (i + j)) oAddI := op2I fun a b d e => by
  unfold oAddI at e
  split at e
  · cases e
    exact ⟨_, _, rfl, rfl, rfl⟩
  · cases e
def own2L (e : Option (Option E)) : Option (List D) := match e with
  | some (some (.own2 (.list ds))) => some ds
  | _ => none
def listOf : D → Option (List D)
  | .list ds => some ds
  | _ => none
theorem own2L_of {K : PySem.W.Frag} {ρ : Env} {σ : L2.St} {F H : Hp} {O : Nat → List Addr} {i : Nat} {ds : List D} (R : Rel K z ρ σ F H O) (h : own2L ρ[i]? = some ds) : ρ[i]? = some (some (.own2 (.list ds))) ∧ ∃ p qs, σ[i]? = some (some (.ref p)) ∧ O i = p :: qs ∧ H p = some (.lst (qs.map V.ref)) ∧ (p :: qs).Nodup ∧ (∀ a ∈ p :: qs, z.H0 a = none) ∧ Objs K F H qs ds := by
  unfold own2L at h
  split at h
  · next hi =>
    cases h
    obtain ⟨v, h1, p, qs, ds', e1, e2, e3, h2, h3, h4, h5⟩ := R.ent i _ hi
    cases e3
    subst e1
    exact ⟨hi, p, qs, h1, e2, h2, h3, h4, h5⟩
  · cases h
theorem Objs.set {K : PySem.W.Frag} {F H : Hp} {o : HO} {d : D} : ∀ {qs : List Addr} {ds : List D} {j : Nat} {q : Addr}, Objs K F H qs ds → qs.Nodup → qs[j]? = Option.some q → Obj1 K F (upd H q o) q d → Objs K F (upd H q o) qs (ds.set j d)
  | _, _, _, _, .nil, _, h, _ => by simp at h
  | _, _, 0, q, .cons (p := p) h t, n, hj, ho => by
    simp at hj
    subst hj
    exact .cons ho (t.mono (Same.refl _) fun b hb => upd_ne (fun e => (List.nodup_cons.mp n).1 (e ▸ hb)))
  | _, _, j + 1, q, .cons (p := p) h t, n, hj, ho => by
    have hj' := hj
    rw [List.getElem?_cons_succ] at hj'
    have hm := List.mem_of_getElem? hj'
    refine .cons (h.mono (Same.refl _) (upd_ne fun e => (List.nodup_cons.mp n).1 (by rw [e]; exact hm))) (Objs.set t (List.nodup_cons.mp n).2 hj' ho)
theorem Rel.put2 {K : PySem.W.Frag} {ρ : Env} {σ : L2.St} {F H : Hp} {O : Nat → List Addr} {i j : Nat} {rows es : List D} {p q : Addr} {qs : List Addr} {ws : List V} (R : Rel K z ρ σ F H O) (h : own2L ρ[i]? = some rows) (hp : σ[i]? = some (some (.ref p))) (ho : O i = p :: qs) (hq : qs[j]? = some q) (r : RepL K F ws es) : Rel K z (ρ.set i (some (.own2 (.list (rows.set j (.list es)))))) σ F (upd H q (.lst ws)) O := by
  obtain ⟨_, p', qs', s1, s2, s3, s4, s5, s6⟩ := own2L_of R h
  rw [hp] at s1
  cases s1
  rw [ho] at s2
  cases s2
  have hm := List.mem_of_getElem? hq
  have np : p ≠ q := fun e => (List.nodup_cons.mp s4).1 (by rw [e]; exact hm)
  refine R.mut (by rw [ho]; exact List.mem_cons_of_mem _ hm) (.inl (s5 q (List.mem_cons_of_mem _ hm))) hp ⟨p, qs, _, rfl, ho, rfl, (upd_ne np).trans s3, s4, s5, ?_⟩
  exact s6.set (List.nodup_cons.mp s4).2 hq ⟨ws, upd_same, r⟩
/-- x[a][b] = e -/
def gSetI2 (i : Nat) (f : Env → Option (D × Env)) (g h : Env → Option D) : Gs := fun ρ => (f ρ).bind fun p => (own2L p.2[i]?).bind fun rows => (g p.2).bind fun a => (h p.2).bind fun b => match a with
  | .int a => match b with
    | .int b => (ixN rows.length a).bind fun ja => (rows[ja]?).bind fun r => (listOf r).bind fun ds => (ixN ds.length b).map fun jb => (.nx, p.2.set i (some (.own2 (.list (rows.set ja (.list (ds.set jb p.1)))))))
    | _ => none
  | _ => none
theorem s_setI2 (i : Nat) {x : Str} {e a b : Expr} {f : Env → Option (D × Env)} {g h : Env → Option D} {p1 p2 p3 pos : Pos} (he : PE X e (tR X.K z f)) (haa : PE X a (tP X.K z g)) (hb : PE X b (tP X.K z h)) (hN : X.N[i]? = some x := by rfl) (hv : Vis X.env.scope x := by first | exact Or.inl rfl | exact Or.inr (Or.inl rfl) | exact Or.inr (Or.inr rfl)) (hd : (x == ("__debug__" : Str)) = false := by decide)
    (hcd : (x == ("__classdict__" : Str)) = false := by decide) (hpi : PlainIx a := by exact fun _ _ => rfl)
    (ha : ∀ v, assign (.Subscript (.Subscript (.Name x p1) a p2) b p3) X.env v = (do
      let ov ← holding [v] (eval (.Subscript (.Name x p1) a p2) X.env)
      let iv ← holding [v, ov] (eval b X.env)
      standAt p3
      holding [v, ov, iv] (setItem ov iv v)
      release [v, ov, iv] []) := by intro _; rfl)
    (hs : swapsWithSole [.Subscript (.Subscript (.Name x p1) a p2) b p3] e pos.line X.env = pure false := by rfl) (hw : swappedStores [.Subscript (.Subscript (.Name x p1) a p2) b p3] e X.env = pure none := by rfl)
    (h1 : (assignEach [.Subscript (.Subscript (.Name x p1) a p2) b p3] X.env).map (·.2) = [assign (.Subscript (.Subscript (.Name x p1) a p2) b p3) X.env] := by rfl) :
    PS X (.Assign [.Subscript (.Subscript (.Name x p1) a p2) b p3] e pos) (tS X.K z (gSetI2 i f g h)) :=
  (ps_asg he (pg_sub (pe_ix ix_seq (pe_var hN hv hd hcd) haa hpi) hb set_list ha) hs hw h1).mono fun D σ H ⟨ρ, F, O, fl, ρ', R, e, q⟩ => by
    obtain ⟨⟨d, ρ1⟩, h1, e⟩ := bind_some e
    obtain ⟨rows, h2, e⟩ := bind_some e
    obtain ⟨ad, h3, e⟩ := bind_some e
    obtain ⟨bd, h4, e⟩ := bind_some e
    dsimp only at e h2 h3 h4
    split at e
    · split at e
      · obtain ⟨ja, h5, e⟩ := bind_some e
        obtain ⟨rd, h6, e⟩ := bind_some e
        obtain ⟨ds, h7, e⟩ := bind_some e
        obtain ⟨jb, h8, e⟩ := map_some e
        cases e
        have er : rd = .list ds := by
          cases rd <;> cases h7
          rfl
        subst er
        refine ⟨ρ, F, O, d, ρ1, R, h1, fun v F1 H1 R1 k1 r1 => ?_⟩
        obtain ⟨_, p, qs, s1, s2, s3, s4, s5, s6⟩ := own2L_of R1 h2
        obtain ⟨qa, hq1, ws, hq2, hq3⟩ := s6.get h6
        refine ⟨_, s1, ρ1, F1, O, _, R1, h3, fun va H2 m2 r2 => ?_⟩
        cases r2
        refine .inl ⟨p, _, _, .ref qa, rfl, rfl, .of (m2 _ _ s3), ?_, ?_⟩
        · unfold atI
          rw [List.length_map, s6.length, h5]
          show (qs.map V.ref)[ja]? = _
          rw [List.getElem?_map, hq1]
          rfl
        · refine ⟨ρ1, _, O, _, R1.grow m2, h4, fun vb H3 m3 r3 => ?_⟩
          cases r3
          have m23 := m2.trans m3
          have R3 := R1.grow m23
          refine ⟨qa, ws, _, jb, rfl, rfl, m23 _ _ hq2, by rw [hq3.length]; exact h8, q σ _ _ O (R3.put2 h2 s1 s2 hq1 ((hq3.mono (same_ext R1.sub)).set jb (r1.mono (same_ext R1.sub)))) (k1.same.trans (same_ext R1.sub))⟩
      · cases e
    · cases e
end
end DL
namespace DL
open PySem PySem.Spec PyProof.Rows L2
def tRgP (K : PySem.W.Frag) (z : Z) (f : Env → Option (Int × Int)) : L2.St → Hp → (Int → Int → Hp → Prop) → Prop := fun σ H Q => ∃ ρ F O p, Rel K z ρ σ F H O ∧ f ρ = some p ∧ ∀ H', Same H H' → Q p.1 p.2 H'
def rgFit (a b : Int) : Option (Int × Int) := if -1000 ≤ a then (if a ≤ 1000 then (if -1000 ≤ b then (if b ≤ 1000 then some (a, b) else none) else none) else none) else none
def cRg1 (f : Env → Option D) : Env → Option (Int × Int) := fun ρ => (f ρ).bind fun d => match d with
  | .int n => rgFit 0 n
  | _ => none
def cListRg (f : Env → Option (Int × Int)) : Env → Option D := fun ρ => (f ρ).map fun p => .list (rangeD p.1 (p.2 - p.1).toNat)
section
variable {X : Cx} {z : Z}
theorem rgFit_of {a b : Int} {p : Int × Int} (h : rgFit a b = some p) : p = (a, b) ∧ -1000 ≤ a ∧ a ≤ 1000 ∧ -1000 ≤ b ∧ b ≤ 1000 := by
  unfold rgFit at h
  split at h
  · split at h
    · split at h
      · split at h
        · cases h
          exact ⟨rfl, by assumption, by assumption, by assumption, by assumption⟩
        · cases h
      · cases h
    · cases h
  · cases h
theorem cRg1_fit {f : Env → Option D} {ρ : Env} {p : Int × Int} (h : cRg1 f ρ = some p) : ∃ n, f ρ = some (.int n) ∧ p = (0, n) ∧ RgOk p.1 p.2 := by
  obtain ⟨d, h1, h2⟩ := bind_some h
  split at h2
  · obtain ⟨e, h3, h4, h5, h6⟩ := rgFit_of h2
    subst e
    exact ⟨_, h1, rfl, by show RgOk 0 _; exact ⟨by omega, by omega, by omega, by omega, by omega⟩⟩
  · cases h2
structure RgP (X : Cx) (z : Z) (e : Expr) (f : Env → Option (Int × Int)) : Prop where
  run : PRg X e (tRgP X.K z f)
  fit : ∀ ρ p, f ρ = some p → RgOk p.1 p.2
theorem q_rg1 {a : Expr} {f : Env → Option D} {p pos : Pos} (hg : Gl X "range") (hm : X.mg "range" = none) (ha : PE X a (tP X.K z f)) (na : starEach [a] X.env = (false, eval a X.env) :: starEach [] X.env := by rfl) : RgP X z (.Call (.Name "range" p) [a] [] pos) (cRg1 f) :=
  ⟨fun pins s σ H Q I ⟨ρ, F, O, d, R, e, q⟩ => by
    obtain ⟨n, h1, h2, _⟩ := cRg1_fit e
    subst h2
    refine prg_1 hg hm ha na pins s σ H Q I ⟨ρ, F, O, _, R, h1, fun v H' sm r => ?_⟩
    cases r
    exact ⟨n, rfl, q H' sm⟩, fun ρ p h => by
    obtain ⟨_, _, _, h⟩ := cRg1_fit h
    exact h⟩
theorem rgV_rep {K : PySem.W.Frag} {F : Hp} {a b : Int} : RepL K F (rgV a b) (rangeD a (b - a).toNat) := by
  unfold rgV rangeD
  generalize List.range (b - a).toNat = l
  induction l with
  | nil => exact .nil
  | cons i l ih => exact .cons (.int _) ih
theorem q_listRg {e : Expr} {f : Env → Option (Int × Int)} {p pos : Pos} (hc : X.calm = true) (hg : Gl X "list") (hm : X.mg "list" = none) (he : RgP X z e f) (na : starEach [e] X.env = (false, eval e X.env) :: starEach [] X.env := by rfl) : PE X (.Call (.Name "list" p) [e] [] pos) (tP X.K z (cListRg f)) :=
  (pe_listRg hc hg hm he.run na).mono fun σ H Q ⟨ρ, F, O, d, R, e, q⟩ => by
    obtain ⟨r, h1, h2⟩ := map_some e
    subst h2
    refine ⟨ρ, F, O, r, R, h1, fun H' sm => ⟨he.fit _ _ h1, fun p hp => ?_⟩⟩
    have R1 := R.grow sm
    refine q _ _ (sm.trans (same_new hp)) ?_
    rw [← ext_ext sm (same_new hp), ext_new R1.sub hp]
    exact .lst (.of upd_same) rgV_rep
def gPar2 (i j : Nat) (f g : Env → Option (E × Env)) : Gs := fun ρ => (f ρ).bind fun p => (g p.2).map fun q => (.nx, (q.2.set i (some p.1)).set j (some q.1))
theorem keepW {K : PySem.W.Frag} {F H F1 H1 F2 H2 : Hp} {O : Nat → List Addr} {ρ : Env} {σ : L2.St} {v : V} {e : E} {as : List Addr} (R : Rel K z ρ σ F H O) (k2 : Kp F1 H1 F2 H2 O) (h : Ent K z F1 H1 v e as) (hf : ∀ a ∈ as, H a = none ∧ F1 a = none ∧ H1 a ≠ none) : Ent K z F2 H2 v e as ∧ ∀ a ∈ as, H a = none ∧ F2 a = none ∧ H2 a ≠ none :=
  ⟨h.mono k2.same fun a ha => by
    obtain ⟨h0, _, h1⟩ := hf a ha
    obtain ⟨o, h2⟩ := some_of h1
    rw [h2]
    exact k2.keep a o h2 fun i hi => (R.off i a hi).2 h0, fun a ha => by
    obtain ⟨h0, h1, h2⟩ := hf a ha
    exact ⟨h0, k2.out a h2 h1, k2.dom a h2⟩⟩
theorem s_par2 (i j : Nat) {x y : Str} {a b : Expr} {px py pt pos : Pos} {kt k2 pt2} {f g : Env → Option (E × Env)} (hc : X.calm = true) (hN : X.N.Nodup) (ha : PE X a (tW X.K z f)) (hb : PE X b (tW X.K z g)) (hi : X.N[i]? = some x := by rfl) (hj : X.N[j]? = some y := by rfl) (hij : i ≠ j := by decide)
    (hx : X.env.scope.names.lookup x = some .local := by rfl) (hy : X.env.scope.names.lookup y = some .local := by rfl) (ha1 : starEach [a, b] X.env = (false, eval a X.env) :: starEach [b] X.env := by rfl) (hb1 : starEach [b] X.env = (false, eval b X.env) :: starEach [] X.env := by rfl)
    (hw : swappedStores [.Tuple [.Name x px, .Name y py] kt pt] (.Tuple [a, b] k2 pt2) X.env = pure (some [x, y]) := by rfl)
    (hs : swapsWithSole [.Tuple [.Name x px, .Name y py] kt pt] (.Tuple [a, b] k2 pt2) pos.line X.env = pure false := by rfl) :
    PS X (.Assign [.Tuple [.Name x px, .Name y py] kt pt] (.Tuple [a, b] k2 pt2) pos) (tS X.K z (gPar2 i j f g)) :=
  (ps_par hc hN hi hj hij hx hy (pa_cons ha (pa_cons hb pa_nil hb1) ha1) hw hs).mono fun D σ H ⟨ρ, F, O, fl, ρ', R, e, q⟩ => by
    obtain ⟨⟨e1, ρ1⟩, h1, e⟩ := bind_some e
    obtain ⟨⟨e2, ρ2⟩, h2, e⟩ := map_some e
    cases e
    refine ⟨ρ, F, O, e1, ρ1, R, h1, fun v1 F1 H1 as1 R1 k1 n1 f1 => ⟨ρ1, F1, O, e2, ρ2, R1, h2, fun v2 F2 H2 as2 R2 k2 n2 f2 => ⟨v1, v2, rfl, ?_⟩⟩⟩
    obtain ⟨n1', f1'⟩ := keepW R k2 n1 f1
    have R3 := setE_new (i := i) (fun i a ha => (R.off i a ha).2) R2 n1' f1'
    refine q _ F2 H2 _ (R3.setE (i := j) n2 fun a ha => ⟨(f2 a ha).2.1, (f2 a ha).2.2, fun l _ hl => ?_⟩) (k1.same.trans k2.same)
    unfold setO at hl
    split at hl
    · exact (f1 a hl).2.2 (f2 a ha).1
    · exact (R1.off l a hl).2 (f2 a ha).1
end
end DL
namespace DL
open PySem PySem.Spec PyProof.Rows L2
def wipeE (ρ : Env) : List Nat → Env
  | [] => ρ
  | v :: vs => (wipeE ρ vs).set v none
theorem wipeE_length (ρ : Env) : ∀ vs : List Nat, (wipeE ρ vs).length = ρ.length
  | [] => rfl
  | v :: vs => by
    unfold wipeE
    rw [List.length_set, wipeE_length ρ vs]
theorem wipeE_some {ρ : Env} {i : Nat} {e : E} : ∀ {vs : List Nat}, (wipeE ρ vs)[i]? = some (some e) → ρ[i]? = some (some e) ∧ i ∉ vs
  | [], h => ⟨h, by simp⟩
  | v :: vs, h => by
    unfold wipeE at h
    by_cases q : v = i
    · subst q
      by_cases hl : v < (wipeE ρ vs).length
      · rw [List.getElem?_set_self hl] at h
        cases h
      · rw [List.getElem?_eq_none (by rw [List.length_set]; omega)] at h
        cases h
    · rw [List.getElem?_set_ne q] at h
      obtain ⟨h1, h2⟩ := wipeE_some h
      exact ⟨h1, fun m => (List.mem_cons.mp m).elim (fun e => q e.symm) h2⟩
theorem wipe_idem (σ : L2.St) (vs : List Nat) : wipe (wipe σ vs) vs = wipe σ vs := by
  have aux : ∀ us : List Nat, (∀ u ∈ us, u ∈ vs) → wipe (wipe σ vs) us = wipe σ vs := by
    intro us
    induction us with
    | nil => exact fun _ => rfl
    | cons u us ih =>
      intro h
      show (wipe (wipe σ vs) us).set u none = wipe σ vs
      rw [ih fun x hx => h x (List.mem_cons_of_mem _ hx)]
      have hu := h u List.mem_cons_self
      apply List.ext_getElem?
      intro j
      by_cases q : u = j
      · subst q
        by_cases hl : u < (wipe σ vs).length
        · rw [List.getElem?_set_self hl]
          cases e : (wipe σ vs)[u]? with
          | none =>
            rw [List.getElem?_eq_none_iff] at e
            omega
          | some w =>
            cases w with
            | none => rfl
            | some w => exact absurd hu (wipe_some e).2
        · rw [List.getElem?_eq_none (by rw [List.length_set]; omega), List.getElem?_eq_none (by omega)]
      · rw [List.getElem?_set_ne q]
  exact aux vs fun _ h => h
theorem ofJ_mem {vs : List Nat} {j : Nat} (h : ofJ vs j = true) : j ∈ vs := List.contains_iff_mem.mp h
theorem ofJ_not {vs : List Nat} {j : Nat} (h : j ∉ vs) : ofJ vs j = false := by
  cases q : ofJ vs j with
  | false => rfl
  | true => exact absurd (ofJ_mem q) h
section
variable {K : PySem.W.Frag} {z : Z} {ρ : Env} {σ : L2.St} {F H : Hp} {O O' : Nat → List Addr}
theorem Rel.wipe (R : Rel K z ρ σ F H O) (vs : List Nat) : Rel K z (wipeE ρ vs) (L2.wipe σ vs) F H O :=
  R.weak (by rw [wipeE_length, wipe_length, R.len]) fun i e h => by
    obtain ⟨h1, h2⟩ := wipeE_some h
    exact ⟨h1, wipe_out h2⟩
theorem Rel.unwipe {vs : List Nat} (R : Rel K z (wipeE ρ vs) (L2.wipe σ vs) F H O) : Rel K z (wipeE ρ vs) σ F H O :=
  R.weak (by
    have := R.len
    rw [wipe_length] at this
    exact this) fun i e h => ⟨h, (wipe_out (wipeE_some h).2).symm⟩
/-- the target's slots forgotten, the addresses as before -/
theorem Rel.back {vs : List Nat} (R : Rel K z ρ σ F H O') (ho : ∀ i, i ∉ vs → O' i = O i) (hf : ∀ i a, a ∈ O i → F a = none ∧ H a ≠ none) (ha : ∀ i j a, a ∈ O i → a ∈ O j → i = j) : Rel K z (wipeE ρ vs) (L2.wipe σ vs) F H O where
  len := by rw [wipeE_length, wipe_length, R.len]
  sub := R.sub
  ent := fun i e h => by
    obtain ⟨h1, h2⟩ := wipeE_some h
    obtain ⟨v, h3, h4⟩ := R.ent i e h1
    rw [ho i h2] at h4
    exact ⟨v, (wipe_out h2).trans h3, h4⟩
  off := hf
  apt := ha
  old := R.old
  oldH := R.oldH
  keep := R.keep
  f0 := R.f0
  tup := R.tup
theorem Kp.wide {F H F' H' : Hp} {O O' : Nat → List Addr} (k : Kp F H F' H' O') (h : ∀ i a, a ∈ O' i → a ∈ O i) : Kp F H F' H' O :=
  ⟨k.same, fun a o e n => k.keep a o e fun i hi => n i (h i a hi), k.out, k.dom⟩
end
def bYes : Env → Option Bool := fun _ => some true
def bYesR : Env → Option (Bool × Env) := fun ρ => some (true, ρ)
section
variable {X : Cx} {z : Z}
theorem _root_.L2.PTs.mono {es : List Expr} {t t' : TT} (h : PTs X es t) (i : ∀ σ H Q, t' σ H Q → t σ H Q) : PTs X es t' := ⟨fun pins s σ H Q I q => h.run pins s σ H Q I (i _ _ _ q)⟩
theorem t_nil : PTs X [] (tB X.K z bYes) := pts_nil.mono fun σ H Q ⟨ρ, F, O, b, R, e, q⟩ => by
  cases e
  exact q H (Same.refl _)
theorem t_one {c : Expr} {t : Env → Option Bool} (h : PT X c (tB X.K z t)) : PTs X [c] (tB X.K z t) := pts_one h
theorem t_nilR : PTs X [] (tBR X.K z bYesR) := pts_nil.mono fun σ H Q ⟨ρ, F, O, b, ρ', R, e, q⟩ => by
  cases e
  exact q F H R .refl
end
def lcD (ρ0 : Env) (b : D → Env → Option Env) (t : Env → Option Bool) (f : Env → Option D) : List D → Option (List D)
  | [] => some []
  | d :: r => (b d ρ0).bind fun ρ1 => (t ρ1).bind fun k => if k = true then (f ρ1).bind fun e => (lcD ρ0 b t f r).bind fun es => some (e :: es) else lcD ρ0 b t f r
def cLc (vs : List Nat) (it : Env → Option (List D)) (b : D → Env → Option Env) (t : Env → Option Bool) (f : Env → Option D) : Env → Option D := fun ρ => (it ρ).bind fun ds => (lcD (wipeE ρ vs) b t f ds).bind fun es => if es.length ≤ 1000 then some (.list es) else none
theorem ext_step {F F2 H Hc H' : Hp} (i : Same F2 (ext F H Hc)) (s : Same H Hc) (s2 : Same Hc H') : Same (ext F2 Hc H') (ext F H H') := fun a o e => by
  unfold ext at e ⊢
  cases q : Hc a with
  | some u =>
    simp [q] at e
    have e2 := i a o e
    unfold ext at e2
    cases q2 : H a with
    | some w => simpa [q2] using e2
    | none =>
      simp [q2] at e2
      simpa using s2 a o e2
  | none =>
    simp [q] at e
    cases q2 : H a with
    | some w =>
      have := s a w q2
      rw [q] at this
      cases this
    | none => simpa using e
theorem ext_put {F F2 H Hc : Hp} {D : Addr} {o : HO} (i : Same F2 (ext F H Hc)) (hD : F2 D = none) : Same F2 (ext F H (upd Hc D o)) := fun a u e => by
  have n : a ≠ D := fun q => by
    rw [q, hD] at e
    cases e
  have := i a u e
  unfold ext at this ⊢
  rw [upd_ne n]
  exact this
theorem ext_none {F2 Hc H' : Hp} {D : Addr} {o : HO} (h : F2 D = none) (hc : Hc D = some o) : ext F2 Hc H' D = none := by
  unfold ext
  simp [hc, h]
theorem lc_in {K : PySem.W.Frag} {z : Z} {vs : List Nat} {it : Env → Option (List D)} {b : D → Env → Option Env} {t : Env → Option Bool} {f : Env → Option D} {σ : L2.St} {H : Hp} {Q : VK} (h : tP K z (cLc vs it b t f) σ H Q) :
    tLc (tIP K z it) (tG K z (ofJ vs) b) (tB K z t) (tP K z f) vs σ H Q := by
  obtain ⟨ρ, F, O, d, R, e, q⟩ := h
  obtain ⟨ds, h1, e⟩ := bind_some e
  obtain ⟨es, h2, e⟩ := bind_some e
  split at e
  · next hl =>
    cases e
    refine ⟨ρ, F, O, ds, R, h1, fun J H1 s1 y D hD => ?_⟩
    have R1 := (R.grow s1).wipe vs
    have hD0 : H D = none := by
      cases q2 : H D with
      | none => rfl
      | some o =>
        rw [s1 _ _ q2] at hD
        cases hD
    have hDO : ∀ i, D ∉ O i := fun i hi => (R.off i D hi).2 hD0
    have hDz := H0_of R hD0
    have hDF : ext F H H1 D = none := (R.grow s1).sub.free hD
    refine ⟨fun i m Hc => m = ds.length - i ∧ i ≤ ds.length ∧ ∃ F2 acc vacc rest, Rel K z (wipeE ρ vs) (wipe σ vs) F2 Hc O ∧ Same (ext F H H1) F2 ∧ Same F2 (ext F H Hc) ∧ Same H1 Hc ∧ F2 D = none ∧ Hc D = some (.lst vacc) ∧ RepL K F2 vacc acc ∧ lcD (wipeE ρ vs) b t f (ds.drop i) = some rest ∧ acc ++ rest = es,
      ⟨ds.length, by simp, Nat.zero_le _, _, [], [], es, R1.other hDF hDO hDz, Same.refl _, ext_put (Same.refl _) hDF, same_new hD, hDF, upd_same, .nil, h2, rfl⟩, ?_⟩
    rintro i m Hc ⟨rfl, hi, F2, acc, vacc, rest, R2, sF, sE, sH, hF2, hDc, ra, hr, hes⟩
    by_cases hlt : i < ds.length
    · have ed : ds.drop i = ds[i] :: ds.drop (i + 1) := by rw [List.drop_eq_getElem_cons hlt]
      rw [ed] at hr
      obtain ⟨ρ3, e3, hr⟩ := bind_some hr
      obtain ⟨k, e4, hr⟩ := bind_some hr
      have sY : Same (ext F H H1) Hc := sF.trans R2.sub
      refine .inr ⟨y.go i Hc sY hlt, fun Hc => ∃ F2 acc vacc rest, Rel K z (wipeE ρ vs) (wipe σ vs) F2 Hc O ∧ Same (ext F H H1) F2 ∧ Same F2 (ext F H Hc) ∧ Same H1 Hc ∧ F2 D = none ∧ Hc D = some (.lst vacc) ∧ RepL K F2 vacc acc ∧ lcD (wipeE ρ vs) b t f (ds.drop (i + 1)) = some rest ∧ acc ++ rest = es, fun H' n => ⟨ds.length - (i + 1), by omega, rfl, by omega, n⟩, fun x H' yx => ?_⟩
      obtain ⟨sx, rx⟩ := y.yld i F2 Hc x H' _ sF R2.sub R2.tup yx (List.getElem?_eq_getElem hlt)
      have R3 := R2.grow sx
      refine ⟨_, _, O, _, ρ3, R3, rx, e3, fun σ5 O5 R5 st => ⟨?_, ?_⟩⟩
      · rw [st.wp vs fun j hj => ofJ_mem hj, wipe_idem]
      refine ⟨ρ3, _, O5, k, R5, e4, fun H6 s6 => ?_⟩
      have sH0 : Same H Hc := s1.trans sH
      cases k with
      | true =>
        rw [if_pos rfl] at hr
        obtain ⟨ev, e5, hr⟩ := bind_some hr
        obtain ⟨rest', e6, hr⟩ := bind_some hr
        cases hr
        refine ⟨ρ3, _, O5, ev, R5.grow s6, e5, fun yv H7 s7 r7 => ?_⟩
        have s67 := s6.trans s7
        have sx7 := sx.trans s67
        rw [ext_ext s6 s7, ext_ext sx s67] at r7
        have R7 := R2.grow sx7
        have hF7 : ext F2 Hc H7 D = none := ext_none hF2 hDc
        have e7 : H7 D = some (.lst vacc) := sx7 _ _ hDc
        have ra' : RepL K (ext F2 Hc H7) vacc acc := ra.mono (same_ext R2.sub)
        refine ⟨vacc, e7, ?_, ext F2 Hc H7, acc ++ [ev], vacc ++ [yv], rest', R7.other hF7 hDO hDz, sF.trans (same_ext R2.sub), ext_put (ext_step sE sH0 sx7) hF7, ?_, hF7, upd_same, ra'.append (.cons r7 .nil), e6, by rw [List.append_assoc]; exact hes⟩
        · have l1 := ra.length
          have l2 : acc.length ≤ es.length := by rw [← hes, List.length_append]; omega
          have := small1000 hl
          omega
        · intro a o ea
          have n : a ≠ D := fun q => by
            rw [q, hD] at ea
            cases ea
          rw [upd_ne n]
          exact sx7 _ _ (sH _ _ ea)
      | false =>
        rw [if_neg Bool.false_ne_true] at hr
        have sx6 := sx.trans s6
        exact ⟨ext F2 Hc H6, acc, vacc, rest, R2.grow sx6, sF.trans (same_ext R2.sub), ext_step sE sH0 sx6, sH.trans sx6, ext_none hF2 hDc, sx6 _ _ hDc, ra.mono (same_ext R2.sub), hr, hes⟩
    · have ei : i = ds.length := by omega
      subst ei
      rw [List.drop_length] at hr
      cases hr
      rw [List.append_nil] at hes
      subst hes
      refine .inl ⟨y.stop _ Hc (sF.trans R2.sub) rfl, q _ Hc (s1.trans sH) (.lst (.of ?_) (ra.mono sE))⟩
      unfold ext
      simp [hD0, hDc]
  · cases e
def lcR (vs : List Nat) (b : D → Env → Option Env) (t : Env → Option (Bool × Env)) (f : Env → Option (D × Env)) : List D → Env → Option (List D × Env)
  | [], ρ => some ([], wipeE ρ vs)
  | d :: r, ρ => (b d (wipeE ρ vs)).bind fun ρ1 => (t ρ1).bind fun p => if p.1 = true then (f p.2).bind fun q => (lcR vs b t f r q.2).bind fun w => some (q.1 :: w.1, w.2) else lcR vs b t f r p.2
def few2 (p : List D × Env) : Option (List D × Env) := if p.1.length ≤ 1000 then some p else none
def rLc (vs : List Nat) (it : Env → Option (List D × Env)) (b : D → Env → Option Env) (t : Env → Option (Bool × Env)) (f : Env → Option (D × Env)) : Env → Option (List D × Env) := fun ρ => (it ρ).bind fun p => (lcR vs b t f p.1 p.2).bind few2
def wLc (vs : List Nat) (it : Env → Option (List D × Env)) (b : D → Env → Option Env) (t : Env → Option (Bool × Env)) (f : Env → Option (D × Env)) : Env → Option (E × Env) := fun ρ => (rLc vs it b t f ρ).map fun p => (.own (.list p.1), p.2)
theorem lcR_in {K : PySem.W.Frag} {z : Z} {vs : List Nat} {it : Env → Option (List D × Env)} {b : D → Env → Option Env} {t : Env → Option (Bool × Env)} {f : Env → Option (D × Env)} {σ : L2.St} {H : Hp} {Q : VK} {ρ : Env} {F : Hp} {O : Nat → List Addr} {es : List D} {ρe : Env}
    (R : Rel K z ρ σ F H O) (e : rLc vs it b t f ρ = some (es, ρe)) (q : ∀ D F' H' vacc, Rel K z ρe σ F' H' O → Kp F H F' H' O → H D = none → F' D = none → H' D = some (.lst vacc) → RepL K F' vacc es → Q (.ref D) H') :
    tLc (tIR K z it) (tG K z (ofJ vs) b) (tBR K z t) (tR K z f) vs σ H Q := by
  obtain ⟨⟨ds, ρ1⟩, h1, e⟩ := bind_some e
  obtain ⟨⟨es', ρe'⟩, h2, e⟩ := bind_some e
  unfold few2 at e
  split at e
  · next hl =>
    cases e
    dsimp only at h2 hl
    refine ⟨ρ, F, O, ds, ρ1, R, h1, fun J F1 H1 R1 k1 y D hD => ?_⟩
    have hD0 : H D = none := k1.none_back hD
    have hDO : ∀ i, D ∉ O i := fun i hi => (R.off i D hi).2 hD0
    have hDz := H0_of R hD0
    have hDF : F1 D = none := R1.sub.free hD
    have kD : Kp F1 H1 F1 (upd H1 D (.lst [])) O := newW_kp R1.sub hD
    have off : ∀ {F2 H2 : Hp}, Kp F1 H1 F2 H2 O → ∀ i a, a ∈ O i → F2 a = none ∧ H2 a ≠ none := fun k i a ha => ⟨k.out a (R1.off i a ha).2 (R1.off i a ha).1, k.dom a (R1.off i a ha).2⟩
    have kput : ∀ {F2 Hc : Hp} {o : HO}, Kp F1 H1 F2 Hc O → Kp F1 H1 F2 (upd Hc D o) O := fun {F2 Hc o} k => ⟨k.same, fun a o' ea n => by
      have nD : a ≠ D := fun q => by
        rw [q, hD] at ea
        cases ea
      rw [upd_ne nD]
      exact k.keep a o' ea n, k.out, fun a ea => by
      have nD : a ≠ D := fun q => ea (by rw [q]; exact hD)
      rw [upd_ne nD]
      exact k.dom a ea⟩
    refine ⟨fun i m Hc => m = ds.length - i ∧ i ≤ ds.length ∧ ∃ ρc F2 acc vacc rest, Rel K z (wipeE ρc vs) (wipe σ vs) F2 Hc O ∧ Kp F1 H1 F2 Hc O ∧ F2 D = none ∧ Hc D = some (.lst vacc) ∧ RepL K F2 vacc acc ∧ lcR vs b t f (ds.drop i) ρc = some (rest, ρe) ∧ acc ++ rest = es,
      ⟨ds.length, by simp, Nat.zero_le _, ρ1, F1, [], [], es, (R1.wipe vs).other hDF hDO hDz, kD, hDF, upd_same, .nil, h2, rfl⟩, ?_⟩
    rintro i m Hc ⟨rfl, hi, ρc, F2, acc, vacc, rest, R2, k2, hF2, hDc, ra, hr, hes⟩
    by_cases hlt : i < ds.length
    · have ed : ds.drop i = ds[i] :: ds.drop (i + 1) := by rw [List.drop_eq_getElem_cons hlt]
      rw [ed] at hr
      obtain ⟨ρ3, e3, hr⟩ := bind_some hr
      obtain ⟨⟨k, ρ4⟩, e4, hr⟩ := bind_some hr
      have sY : Same F1 Hc := k2.same.trans R2.sub
      refine .inr ⟨y.go i Hc sY hlt, fun Hc => ∃ ρc F2 acc vacc rest, Rel K z (wipeE ρc vs) (wipe σ vs) F2 Hc O ∧ Kp F1 H1 F2 Hc O ∧ F2 D = none ∧ Hc D = some (.lst vacc) ∧ RepL K F2 vacc acc ∧ lcR vs b t f (ds.drop (i + 1)) ρc = some (rest, ρe) ∧ acc ++ rest = es, fun H' n => ⟨ds.length - (i + 1), by omega, rfl, by omega, n⟩, fun x H' yx => ?_⟩
      obtain ⟨sx, rx⟩ := y.yld i F2 Hc x H' _ k2.same R2.sub R2.tup yx (List.getElem?_eq_getElem hlt)
      have R3 := R2.grow sx
      have k3 : Kp F1 H1 (ext F2 Hc H') H' O := k2.trans (.of_same R2.sub sx)
      have hF3 : ext F2 Hc H' D = none := ext_none hF2 hDc
      have ra3 : RepL K (ext F2 Hc H') vacc acc := ra.mono (same_ext R2.sub)
      have hD3 : H' D = some (.lst vacc) := sx _ _ hDc
      refine ⟨_, _, O, _, ρ3, R3, rx, e3, fun σ5 O5 R5 st => ?_⟩
      have ew : wipe σ5 vs = wipe σ vs := by rw [st.wp vs fun j hj => ofJ_mem hj, wipe_idem]
      refine ⟨ew, ρ3, _, O5, k, ρ4, R5, e4, fun F6 H6 R6 k6 => ?_⟩
      have k6' := k6.wide st.sub
      have hD6 : H6 D = some (.lst vacc) := k6'.keep _ _ hD3 hDO
      have hF6 : F6 D = none := k6.out D (ne_none hD3) hF3
      have k36 := k3.trans k6'
      cases k with
      | true =>
        rw [if_pos rfl] at hr
        obtain ⟨⟨ev, ρ7⟩, e5, hr⟩ := bind_some hr
        obtain ⟨⟨rest', ρ8⟩, e6, hr⟩ := bind_some hr
        cases hr
        refine ⟨ρ4, _, O5, ev, ρ7, R6, e5, fun yv F7 H7 R7 k7 r7 => ?_⟩
        have k7' := k7.wide st.sub
        have hD7 : H7 D = some (.lst vacc) := k7'.keep _ _ hD6 hDO
        have hF7 : F7 D = none := k7.out D (ne_none hD6) hF6
        have kk := k36.trans k7'
        have R7' := R7.back (vs := vs) (O := O) (fun i hi => st.oo i (ofJ_not hi)) (off kk) R1.apt
        rw [ew] at R7'
        refine ⟨vacc, hD7, ?_, ρ7, F7, acc ++ [ev], vacc ++ [yv], rest', R7'.other hF7 hDO hDz, kput kk, hF7, upd_same, ((ra3.mono k6.same).mono k7.same).append (.cons r7 .nil), e6, by rw [List.append_assoc]; exact hes⟩
        have l1 := ra.length
        have l2 : acc.length ≤ es.length := by rw [← hes, List.length_append]; omega
        have := small1000 hl
        omega
      | false =>
        rw [if_neg Bool.false_ne_true] at hr
        have R6' := R6.back (vs := vs) (O := O) (fun i hi => st.oo i (ofJ_not hi)) (off k36) R1.apt
        rw [ew] at R6'
        exact ⟨ρ4, F6, acc, vacc, rest, R6', k36, hF6, hD6, ra3.mono k6.same, hr, hes⟩
    · have ei : i = ds.length := by omega
      subst ei
      rw [List.drop_length] at hr
      cases hr
      rw [List.append_nil] at hes
      subst hes
      exact .inl ⟨y.stop _ Hc (k2.same.trans R2.sub) rfl, q D F2 Hc vacc R2.unwipe (k1.trans k2) hD0 hF2 hDc ra⟩
  · cases e
theorem lcR_own {K : PySem.W.Frag} {z : Z} {vs : List Nat} {it : Env → Option (List D × Env)} {b : D → Env → Option Env} {t : Env → Option (Bool × Env)} {f : Env → Option (D × Env)} {σ : L2.St} {H : Hp} {Q : VK} (h : tW K z (wLc vs it b t f) σ H Q) : tLc (tIR K z it) (tG K z (ofJ vs) b) (tBR K z t) (tR K z f) vs σ H Q := by
  obtain ⟨ρ, F, O, en, ρ', R, e, q⟩ := h
  obtain ⟨⟨es, ρe⟩, h1, h2⟩ := map_some e
  cases h2
  refine lcR_in R h1 fun D F' H' vacc R' k hD hF hD' r => ?_
  refine q _ F' H' [D] R' k ⟨D, rfl, rfl, H0_of R hD, vacc, hD', r⟩ fun a ha => ?_
  rcases List.mem_cons.mp ha with e | e
  · subst e
    exact ⟨hD, hF, ne_none hD'⟩
  · cases e
end DL
namespace DL
open PySem PySem.Spec PyProof.Rows L2
section
variable {X : Cx} {z : Z} {elt tg iter : Expr} {ifs : List Expr} {scope : Scope} {own : List (Str × Nat)} {pos : Pos} {b : D → Env → Option Env}
abbrev blkE (X : Cx) (scope : Scope) (s : Shared) (H : Hp) (C : Addr) (cl : List (Str × Addr)) (fp : List Addr) : Cx := X.blk s H scope (compEnvC scope cl C X.env) fp
theorem tP_of_lf {K : PySem.W.Frag} {f : Env → Option D} {σ : L2.St} {H : Hp} {Q : VK} (h : tR K z (lf f) σ H Q) : tP K z f σ H Q := by
  obtain ⟨ρ, F, O, d, ρ', R, e, q⟩ := h
  obtain ⟨a, h1, h2⟩ := map_some e
  cases h2
  exact ⟨ρ, F, O, _, R, h1, fun v H' s r => q v _ H' (R.grow s) (.of_same R.sub s) r⟩
theorem asg_val {K : PySem.W.Frag} {i : Nat} {f : Env → Option (D × Env)} {D : Ends} {σ : L2.St} {H : Hp} (h : tS K z (gAsg f (bNm i)) D σ H) : tR K z f σ H fun x H1 => D.nx (σ.set i (some x)) H1 := by
  obtain ⟨ρ, F, O, fl, ρ', R, e, q⟩ := h
  obtain ⟨⟨d, ρ1⟩, h1, h2⟩ := bind_some e
  cases h2
  exact ⟨ρ, F, O, d, ρ1, R, h1, fun v F' H' R' k r => q _ _ _ _ (R'.setD r) k.same⟩
theorem setW_val {K : PySem.W.Frag} {i : Nat} {f : Env → Option (E × Env)} {D : Ends} {σ : L2.St} {H : Hp} (h : tS K z (gSetW i f) D σ H) : tW K z f σ H fun x H1 => D.nx (σ.set i (some x)) H1 := by
  obtain ⟨ρ, F, O, fl, ρ', R, e, q⟩ := h
  obtain ⟨⟨d, ρ1⟩, h1, h2⟩ := map_some e
  cases h2
  exact ⟨ρ, F, O, d, ρ1, R, h1, fun v F' H' as R' k r hf => q _ _ _ _ (setE_new (fun i a ha => (R.off i a ha).2) R' r hf) k.same⟩
theorem q_lc {it : Env → Option (List D)} {t : Env → Option Bool} {f : Env → Option D} (hc : X.calm = true) (hN : X.N.Nodup) (ok : BlkOk X.N X.env.scope scope own) (hi : PI X tg iter (tIP X.K z it))
    (hg : ∀ s H C cl fp, PG (blkE X scope s H C cl fp) tg (tG X.K z (ofJ (own.map (·.2))) b)) (ht : ∀ s H C cl fp, PTs (blkE X scope s H C cl fp) ifs (tB X.K z t))
    (he : ∀ s H C cl fp, PE (blkE X scope s H C cl fp) elt (tP X.K z f)) (hs : ∀ x, foldedSetIterable iter X.env x = pure x := by intro _; rfl) :
    PE X (.ListComp elt [⟨tg, iter, ifs, 0⟩] scope pos) (tP X.K z (cLc (own.map (·.2)) it b t f)) := (pe_lc hc hN hi ok hg ht he hs).mono fun _ _ _ h => lc_in h
theorem w_lc {it : Env → Option (List D × Env)} {t : Env → Option (Bool × Env)} {f : Env → Option (D × Env)} (hc : X.calm = true) (hN : X.N.Nodup) (ok : BlkOk X.N X.env.scope scope own) (hi : PI X tg iter (tIR X.K z it))
    (hg : ∀ s H C cl fp, PG (blkE X scope s H C cl fp) tg (tG X.K z (ofJ (own.map (·.2))) b)) (ht : ∀ s H C cl fp, PTs (blkE X scope s H C cl fp) ifs (tBR X.K z t))
    (he : ∀ s H C cl fp, PE (blkE X scope s H C cl fp) elt (tR X.K z f)) (hs : ∀ x, foldedSetIterable iter X.env x = pure x := by intro _; rfl) :
    PE X (.ListComp elt [⟨tg, iter, ifs, 0⟩] scope pos) (tW X.K z (wLc (own.map (·.2)) it b t f)) := (pe_lc hc hN hi ok hg ht he hs).mono fun _ _ _ h => lcR_own h
theorem s_lc (i : Nat) {y : Str} {py spos : Pos} {it : Env → Option (List D)} {t : Env → Option Bool} {f : Env → Option D} (hc : X.calm = true) (hN : X.N.Nodup) (ok : BlkOk X.N X.env.scope scope own)
    (hsw : swapsWith (.ListComp elt [⟨tg, iter, ifs, 0⟩] scope pos) (some (.Name y py)) spos.line X.env = pure true) (hi : PI X tg iter (tIP X.K z it))
    (hg : ∀ s H C cl fp, PG (blkE X scope s H C cl fp) tg (tG X.K z (ofJ (own.map (·.2))) b)) (ht : ∀ s H C cl fp, PTs (blkE X scope s H C cl fp) ifs (tB X.K z t))
    (he : ∀ s H C cl fp, PE (blkE X scope s H C cl fp) elt (tP X.K z f)) (hy : X.N[i]? = some y := by rfl) (hyl : X.env.scope.names.lookup y = some .local := by rfl) (hs : ∀ x, foldedSetIterable iter X.env x = pure x := by intro _; rfl) :
    PS X (.Assign [.Name y py] (.ListComp elt [⟨tg, iter, ifs, 0⟩] scope pos) spos) (tS X.K z (gAsg (lf (cLc (own.map (·.2)) it b t f)) (bNm i))) := (ps_setLc hc hN hy hyl hsw hi ok hg ht he hs).mono fun _ _ _ h => lc_in (tP_of_lf (asg_val h))
end
def lcW2 (vs : List Nat) (b : D → Env → Option Env) (f : Env → Option (E × Env)) : List D → Env → Option (List D × Env)
  | [], ρ => some ([], wipeE ρ vs)
  | d :: r, ρ => (b d (wipeE ρ vs)).bind fun ρ1 => (f ρ1).bind fun p => match p.1 with
    | .own e => (lcW2 vs b f r p.2).bind fun w => some (e :: w.1, w.2)
    | _ => none
def wLc2 (vs : List Nat) (it : Env → Option (List D × Env)) (b : D → Env → Option Env) (f : Env → Option (E × Env)) : Env → Option (E × Env) := fun ρ => (it ρ).bind fun p => (lcW2 vs b f p.1 p.2).bind fun q => if q.1.length ≤ 1000 then some (.own2 (.list q.1), q.2) else none
theorem Objs.append {K : PySem.W.Frag} {F H : Hp} {p : Addr} {d : D} (h : Obj1 K F H p d) : ∀ {ps : List Addr} {ds : List D}, Objs K F H ps ds → Objs K F H (ps ++ [p]) (ds ++ [d])
  | _, _, .nil => .cons h .nil
  | _, _, .cons h' t => .cons h' (Objs.append h t)
theorem lcW2_in {K : PySem.W.Frag} {z : Z} {vs : List Nat} {it : Env → Option (List D × Env)} {b : D → Env → Option Env} {f : Env → Option (E × Env)} {σ : L2.St} {H : Hp} {Q : VK} (h : tW K z (wLc2 vs it b f) σ H Q) :
    tLc (tIR K z it) (tG K z (ofJ vs) b) (tBR K z bYesR) (tW K z f) vs σ H Q := by
  obtain ⟨ρ, F, O, en, ρz, R, e, q⟩ := h
  obtain ⟨⟨ds, ρ1⟩, h1, e⟩ := bind_some e
  obtain ⟨⟨es, ρe⟩, h2, e⟩ := bind_some e
  split at e
  · next hl =>
    cases e
    dsimp only at h2 hl
    refine ⟨ρ, F, O, ds, ρ1, R, h1, fun J F1 H1 R1 k1 y D hD => ?_⟩
    have hD0 : H D = none := k1.none_back hD
    have hDO : ∀ i, D ∉ O i := fun i hi => (R.off i D hi).2 hD0
    have hDz := H0_of R hD0
    have hDF : F1 D = none := R1.sub.free hD
    have kD : Kp F1 H1 F1 (upd H1 D (.lst [])) O := newW_kp R1.sub hD
    have off : ∀ {F2 H2 : Hp}, Kp F1 H1 F2 H2 O → ∀ i a, a ∈ O i → F2 a = none ∧ H2 a ≠ none := fun k i a ha => ⟨k.out a (R1.off i a ha).2 (R1.off i a ha).1, k.dom a (R1.off i a ha).2⟩
    have kput : ∀ {F2 Hc : Hp} {o : HO}, Kp F1 H1 F2 Hc O → Kp F1 H1 F2 (upd Hc D o) O := fun {F2 Hc o} k => ⟨k.same, fun a o' ea n => by
      have nD : a ≠ D := fun q => by
        rw [q, hD] at ea
        cases ea
      rw [upd_ne nD]
      exact k.keep a o' ea n, k.out, fun a ea => by
      have nD : a ≠ D := fun q => ea (by rw [q]; exact hD)
      rw [upd_ne nD]
      exact k.dom a ea⟩
    refine ⟨fun i m Hc => m = ds.length - i ∧ i ≤ ds.length ∧ ∃ ρc F2 acc qs rest, Rel K z (wipeE ρc vs) (wipe σ vs) F2 Hc O ∧ Kp F1 H1 F2 Hc O ∧ F2 D = none ∧ Hc D = some (.lst (qs.map V.ref)) ∧ Objs K F2 Hc qs acc ∧ (D :: qs).Nodup ∧ (∀ a ∈ qs, H1 a = none ∧ F2 a = none) ∧ lcW2 vs b f (ds.drop i) ρc = some (rest, ρe) ∧ acc ++ rest = es,
      ⟨ds.length, by simp, Nat.zero_le _, ρ1, F1, [], [], es, (R1.wipe vs).other hDF hDO hDz, kD, hDF, upd_same, .nil, by simp, (fun a ha => by cases ha), h2, rfl⟩, ?_⟩
    rintro i m Hc ⟨rfl, hi, ρc, F2, acc, qs, rest, R2, k2, hF2, hDc, ra, hn, hq, hr, hes⟩
    have notO : ∀ a ∈ qs, ∀ i, a ∉ O i := fun a ha i hi => (R1.off i a hi).2 (hq a ha).1
    by_cases hlt : i < ds.length
    · have ed : ds.drop i = ds[i] :: ds.drop (i + 1) := by rw [List.drop_eq_getElem_cons hlt]
      rw [ed] at hr
      obtain ⟨ρ3, e3, hr⟩ := bind_some hr
      obtain ⟨⟨ev, ρ7⟩, e4, hr⟩ := bind_some hr
      have sY : Same F1 Hc := k2.same.trans R2.sub
      refine .inr ⟨y.go i Hc sY hlt, fun Hc => ∃ ρc F2 acc qs rest, Rel K z (wipeE ρc vs) (wipe σ vs) F2 Hc O ∧ Kp F1 H1 F2 Hc O ∧ F2 D = none ∧ Hc D = some (.lst (qs.map V.ref)) ∧ Objs K F2 Hc qs acc ∧ (D :: qs).Nodup ∧ (∀ a ∈ qs, H1 a = none ∧ F2 a = none) ∧ lcW2 vs b f (ds.drop (i + 1)) ρc = some (rest, ρe) ∧ acc ++ rest = es, fun H' n => ⟨ds.length - (i + 1), by omega, rfl, by omega, n⟩, fun x H' yx => ?_⟩
      obtain ⟨sx, rx⟩ := y.yld i F2 Hc x H' _ k2.same R2.sub R2.tup yx (List.getElem?_eq_getElem hlt)
      have R3 := R2.grow sx
      have k3 : Kp F1 H1 (ext F2 Hc H') H' O := k2.trans (.of_same R2.sub sx)
      have hF3 : ext F2 Hc H' D = none := ext_none hF2 hDc
      have hD3 : H' D = some (.lst (qs.map V.ref)) := sx _ _ hDc
      refine ⟨_, _, O, _, ρ3, R3, rx, e3, fun σ5 O5 R5 st => ?_⟩
      have ew : wipe σ5 vs = wipe σ vs := by rw [st.wp vs fun j hj => ofJ_mem hj, wipe_idem]
      refine ⟨ew, ρ3, _, O5, true, ρ3, R5, rfl, fun F6 H6 R6 k6 => ?_⟩
      have k6' := k6.wide st.sub
      refine ⟨ρ3, F6, O5, ev, ρ7, R6, e4, fun yv F7 H7 as R7 k7 ent fr => ?_⟩
      dsimp only at hr
      split at hr
      · next e7 =>
        obtain ⟨⟨rest', ρ8⟩, e6, hr⟩ := bind_some hr
        cases hr
        obtain ⟨p, ev1, ev2, ev3, ob⟩ := ent
        subst ev1 ev2
        have k7' := k7.wide st.sub
        have k37 := k6'.trans k7'
        have kk := k3.trans k37
        have hD7 : H7 D = some (.lst (qs.map V.ref)) := k37.keep _ _ hD3 hDO
        have hF7 : F7 D = none := k37.out D (ne_none hD3) hF3
        have R7' := R7.back (vs := vs) (O := O) (fun i hi => st.oo i (ofJ_not hi)) (off kk) R1.apt
        rw [ew] at R7'
        obtain ⟨fp1, fp2, fp3⟩ := fr p List.mem_cons_self
        have fp1' : H' p = none := k6.none_back fp1
        have fpc : Hc p = none := by
          cases q2 : Hc p with
          | none => rfl
          | some o =>
            rw [sx _ _ q2] at fp1'
            cases fp1'
        have fpH : H1 p = none := k2.none_back fpc
        have npD : p ≠ D := fun e => by
          rw [e, hDc] at fpc
          cases fpc
        have npq : p ∉ qs := fun hm => by
          obtain ⟨o, eo⟩ := ra.some p hm
          rw [eo] at fpc
          cases fpc
        have nDq : D ∉ qs := (List.nodup_cons.mp hn).1
        have keepq : ∀ a ∈ qs, upd H7 D (.lst ((qs ++ [p]).map V.ref)) a = Hc a := fun a ha => by
          rw [upd_ne (show a ≠ D from fun e => nDq (e ▸ ha))]
          obtain ⟨o, eo⟩ := ra.some a ha
          rw [eo]
          exact k37.keep a o (sx _ _ eo) (notO a ha)
        have emap : (qs.map V.ref ++ [V.ref p]) = (qs ++ [p]).map V.ref := by rw [List.map_append]; rfl
        refine ⟨_, hD7, ?_, ρ7, F7, acc ++ [e7], qs ++ [p], rest', ?_, kput kk, hF7, ?_, ?_, ?_, ?_, e6, by rw [List.append_assoc]; exact hes⟩
        · have l1 := ra.length
          have l2 : acc.length ≤ es.length := by rw [← hes, List.length_append]; omega
          have := small1000 hl
          rw [List.length_map]
          omega
        · exact R7'.other hF7 hDO hDz
        · rw [upd_same, emap]
        · rw [emap]
          exact Objs.append (ob.mono (Same.refl _) (upd_ne npD)) (ra.mono ((same_ext R2.sub).trans k37.same) keepq)
        · rw [← List.cons_append, List.nodup_append]
          refine ⟨hn, by simp, fun a ha b hb => ?_⟩
          rw [List.mem_singleton] at hb
          subst hb
          rcases List.mem_cons.mp ha with e | e
          · subst e
            exact npD.symm
          · exact fun q => npq (q ▸ e)
        · intro a ha
          rcases List.mem_append.mp ha with ha | ha
          · obtain ⟨u1, u2⟩ := hq a ha
            refine ⟨u1, ?_⟩
            obtain ⟨o, eo⟩ := ra.some a ha
            exact k37.out a (ne_none (sx _ _ eo)) (ext_none u2 eo)
          · rw [List.mem_singleton] at ha
            subst ha
            exact ⟨fpH, fp2⟩
      · cases hr
    · have ei : i = ds.length := by omega
      subst ei
      rw [List.drop_length] at hr
      cases hr
      rw [List.append_nil] at hes
      subst hes
      have h1H : ∀ a, H1 a = none → H a = none := fun a ha => k1.none_back ha
      refine .inl ⟨y.stop _ Hc (k2.same.trans R2.sub) rfl, q _ F2 Hc (D :: qs) R2.unwipe (k1.trans k2) ⟨D, qs, _, rfl, rfl, rfl, hDc, hn, fun a ha => ?_, ra⟩ fun a ha => ?_⟩
      · rcases List.mem_cons.mp ha with e | e
        · subst e
          exact hDz
        · exact H0_of R (h1H a (hq a e).1)
      · rcases List.mem_cons.mp ha with e | e
        · subst e
          exact ⟨hD0, hF2, ne_none hDc⟩
        · obtain ⟨o, eo⟩ := ra.some a e
          exact ⟨h1H a (hq a e).1, (hq a e).2, ne_none eo⟩
  · cases e
section
variable {X : Cx} {z : Z} {elt tg iter : Expr} {scope : Scope} {own : List (Str × Nat)} {pos : Pos} {b : D → Env → Option Env}
theorem s_lcW2 (i : Nat) {y : Str} {py spos : Pos} {it : Env → Option (List D × Env)} {f : Env → Option (E × Env)} (hc : X.calm = true) (hN : X.N.Nodup) (ok : BlkOk X.N X.env.scope scope own)
    (hsw : swapsWith (.ListComp elt [⟨tg, iter, [], 0⟩] scope pos) (some (.Name y py)) spos.line X.env = pure true) (hi : PI X tg iter (tIR X.K z it))
    (hg : ∀ s H C cl fp, PG (blkE X scope s H C cl fp) tg (tG X.K z (ofJ (own.map (·.2))) b))
    (he : ∀ s H C cl fp, PE (blkE X scope s H C cl fp) elt (tW X.K z f)) (hy : X.N[i]? = some y := by rfl) (hyl : X.env.scope.names.lookup y = some .local := by rfl) (hs : ∀ x, foldedSetIterable iter X.env x = pure x := by intro _; rfl) :
    PS X (.Assign [.Name y py] (.ListComp elt [⟨tg, iter, [], 0⟩] scope pos) spos) (tS X.K z (gSetW i (wLc2 (own.map (·.2)) it b f))) := (ps_setLc hc hN hy hyl hsw hi ok hg (fun _ _ _ _ _ => t_nilR) he hs).mono fun _ _ _ h => lcW2_in (setW_val h)
end
end DL
namespace DL
open PySem PySem.Spec PyProof.Rows L2
def spP (K : PySem.W.Frag) (m : List D → Option D) : Sp := fun vs H Q _ => ∃ F ds d, (Same F H ∧ AllT F H) ∧ RepL K F vs ds ∧ m ds = some d ∧ ∀ v H', Same H H' → Rep K (ext F H H') v d → Q v H'
/-- the first parameter a list that the def writes to -/
def spR (K : PySem.W.Frag) (m : List D → List D → Option (D × List D)) : Sp := fun vs H Q _ => ∃ F p ws ds vs' as d ds', vs = .ref p :: vs' ∧ (Same F H ∧ AllT F H) ∧ F p = none ∧ H p = some (.lst ws) ∧ RepL K F ws ds ∧ RepL K F vs' as ∧ m ds as = some (d, ds') ∧
  ∀ v H' ws', (∀ a o, a ≠ p → H a = some o → H' a = some o) → H' p = some (.lst ws') → RepL K (ext F H H') ws' ds' → Rep K (ext F H H') v d → Q v H'
def fin : Fl × Env → Option D
  | (.ret d, _) => some d
  | (.nx, _) => some .none
  | _ => none
def ini (N : Nat) (ds : List D) : Env := ds.map (fun d => some (.sh d)) ++ List.replicate (N - ds.length) none
def run (N n : Nat) (g : Gs) : List D → Option D := fun ds => if ds.length = n then (g (ini N ds)).bind fin else none
def rowL (e : Option (Option E)) : Option (List D) := match e with
  | some (some (.row (.list ds))) => some ds
  | _ => none
def runR (N n : Nat) (g : Gs) : List D → List D → Option (D × List D) := fun ds as => if as.length + 1 = n then (g (some (.row (.list ds)) :: ini (N - 1) as)).bind fun p => (fin p).bind fun d => (rowL p.2[0]?).bind fun ds' => some (d, ds') else none
section
variable {P : Program} {w : World} {K : PySem.W.Frag} {mg : Str → Option Value} {base : Heap}
theorem ini_get {N : Nat} {ds : List D} {i : Nat} {e : E} (h : (ini N ds)[i]? = some (some e)) : ∃ d, ds[i]? = some d ∧ e = .sh d := by
  unfold ini at h
  by_cases q : i < ds.length
  · rw [List.getElem?_append_left (by rw [List.length_map]; exact q), List.getElem?_map] at h
    obtain ⟨d, h1, h2⟩ := map_some h
    cases h2
    exact ⟨d, h1, rfl⟩
  · rw [List.getElem?_append_right (by rw [List.length_map]; omega), List.getElem?_replicate] at h
    split at h <;> cases h
theorem start_get {N : List Str} {vs : List V} {i : Nat} {v : V} (h : vs[i]? = some v) : (L2.start N vs)[i]? = some (some v) := by
  unfold L2.start
  have hl := (List.getElem?_eq_some_iff.mp h).1
  rw [List.getElem?_append_left (by rw [List.length_map]; exact hl), List.getElem?_map, h]
  rfl
theorem rel_start {c : Addr} {l : List Addr} {xx : Zx} {N : List Str} {F H : Hp} {vs : List V} {ds : List D} (s : Same F H) (t : AllT F H) (r : RepL K F vs ds) : Rel K ⟨H, F, fun _ => False, c, l, xx⟩ (ini N.length ds) (L2.start N vs) F H (fun _ => []) where
  len := by
    unfold ini L2.start
    rw [List.length_append, List.length_append, List.length_map, List.length_map, r.length, List.length_replicate, List.length_replicate]
  sub := s
  ent := fun i e h => by
    obtain ⟨d, h1, h2⟩ := ini_get h
    subst h2
    obtain ⟨v, h3, h4⟩ := r.get h1
    exact ⟨v, start_get h3, rfl, h4⟩
  off := fun i a ha => by cases ha
  apt := fun i j a ha => by cases ha
  old := fun a _ f => f
  oldH := fun a h => h
  keep := fun a o h _ => h
  f0 := Same.refl _
  tup := t
theorem end_sub {c : Addr} {l : List Addr} {xx : Zx} {F H F' H' : Hp} {B : Addr → Prop} {ρ : Env} {σ : L2.St} {O : Nat → List Addr} (s : Same F H) (R : Rel K ⟨H, F, B, c, l, xx⟩ ρ σ F' H' O) : Same F' (ext F H H') := fun a o e => by
  unfold ext
  cases q : H a with
  | none => simpa using R.sub a o e
  | some u =>
    cases q2 : F a with
    | none =>
      rw [R.old a (ne_none q) q2] at e
      cases e
    | some o2 =>
      have := R.f0 a o2 q2
      rw [e] at this
      cases this
      simp
theorem run_len {N n : Nat} {g : Gs} {ds : List D} {d : D} (h : run N n g ds = some d) : ds.length = n := by
  unfold run at h
  split at h
  · assumption
  · cases h
theorem ok_P {x qual : Str} {st : Stmt} {f : Addr} {fd : FuncData} {N ps : List Str} {k : Nat} {g : Gs} (F : Fun K x qual st f fd) (S : FnScope N ps (defScope st))
    (h : ∀ (cdv : Value) (A : Around) (outer : List PySem.Env) (s : Shared) (H : Hp) (E : XK) (z : Z), Room k (A.deeper (envOfC qual (defScope st) s.heap.objs.size f cdv)) → PSs (cxOf CX0 P w K mg base N qual (defScope st) f cdv A outer s H E).nox (defBody st) (tS K z g)) :
    FnOk P w K mg base CX0 (k + 1) f fd ps (spP K (run N.length ps.length g)) := by
  refine F.ok S (fun vs H Q E h => ?_) (fun cdv A outer s H vs Q E hr q => ?_)
  · obtain ⟨F, ds, d, _, r, e, _⟩ := h
    rw [r.length]
    exact run_len e
  · obtain ⟨F, ds, d, ⟨s0, t0⟩, r, e, q⟩ := q
    refine ⟨_, h cdv A outer s H E ⟨H, F, fun _ => False, 0, [], Zx.no⟩ hr, ?_⟩
    unfold run at e
    split at e
    · obtain ⟨⟨fl, ρ'⟩, h1, h2⟩ := bind_some e
      refine ⟨_, F, _, fl, ρ', rel_start s0 t0 r, h1, ?_⟩
      cases fl with
      | nx =>
        cases h2
        exact fun σ F' H' O R s => q .non H' (fun a o h => R.keep a o h id) .non
      | bk => cases h2
      | ct => cases h2
      | ret d2 =>
        cases h2
        exact fun v σ F' H' O R s r => q v H' (fun a o h => R.keep a o h id) (r.mono (end_sub s0 R))
    · cases e
theorem rel_startR {N : List Str} {F H : Hp} {p : Addr} {ws vs : List V} {ds as : List D} (hN : 0 < N.length) (s : Same F H) (t : AllT F H) (hF : F p = none) (hp : H p = some (.lst ws)) (rw' : RepL K F ws ds) (r : RepL K F vs as) : Rel K ⟨H, F, fun a => a = p, 0, [], Zx.no⟩ (some (.row (.list ds)) :: ini (N.length - 1) as) (L2.start N (.ref p :: vs)) F H (fun i => if i = 0 then [p] else []) where
  len := by
    unfold ini L2.start
    simp only [List.length_append, List.length_map, List.length_replicate, List.length_cons, r.length]
    omega
  sub := s
  ent := fun i e h => by
    cases i with
    | zero =>
      cases h
      exact ⟨.ref p, rfl, p, rfl, rfl, rfl, ws, hp, rw'⟩
    | succ i =>
      have h : (ini (N.length - 1) as)[i]? = some (some e) := h
      obtain ⟨d, h1, h2⟩ := ini_get h
      subst h2
      obtain ⟨v, h3, h4⟩ := r.get h1
      exact ⟨v, start_get (by simpa using h3), rfl, h4⟩
  off := fun i a ha => by
    split at ha
    · rcases List.mem_cons.mp ha with e | e
      · subst e
        exact ⟨hF, ne_none hp⟩
      · cases e
    · cases ha
  apt := fun i j a hi hj => by
    split at hi
    · split at hj
      · omega
      · cases hj
    · cases hi
  old := fun a _ f => f
  oldH := fun a h => h
  keep := fun a o h _ => h
  f0 := Same.refl _
  tup := t
theorem runR_len {N n : Nat} {g : Gs} {ds as : List D} {r : D × List D} (h : runR N n g ds as = some r) : as.length + 1 = n := by
  unfold runR at h
  split at h
  · assumption
  · cases h
theorem ok_R {x qual : Str} {st : Stmt} {f : Addr} {fd : FuncData} {N ps : List Str} {k : Nat} {g : Gs} (F : Fun K x qual st f fd) (S : FnScope N ps (defScope st)) (hN : 0 < N.length)
    (h : ∀ (cdv : Value) (A : Around) (outer : List PySem.Env) (s : Shared) (H : Hp) (E : XK) (z : Z), Room k (A.deeper (envOfC qual (defScope st) s.heap.objs.size f cdv)) → PSs (cxOf CX0 P w K mg base N qual (defScope st) f cdv A outer s H E).nox (defBody st) (tS K z g)) :
    FnOk P w K mg base CX0 (k + 1) f fd ps (spR K (runR N.length ps.length g)) := by
  refine F.ok S (fun vs H Q E h => ?_) (fun cdv A outer s H vs Q E hr q => ?_)
  · obtain ⟨F, p, ws, ds, vs', as, d, ds', e1, _, _, _, _, r, e, _⟩ := h
    rw [e1, List.length_cons, r.length]
    exact runR_len e
  · obtain ⟨F, p, ws, ds, vs', as, d, ds', e1, ⟨s0, t0⟩, hF, hp, rw', r, e, q⟩ := q
    subst e1
    refine ⟨_, h cdv A outer s H E ⟨H, F, fun a => a = p, 0, [], Zx.no⟩ hr, ?_⟩
    unfold runR at e
    split at e
    · obtain ⟨⟨fl, ρ'⟩, h1, e⟩ := bind_some e
      obtain ⟨d', h2, e⟩ := bind_some e
      obtain ⟨ds2, h3, e⟩ := bind_some e
      cases e
      refine ⟨_, F, _, fl, ρ', rel_startR hN s0 t0 hF hp rw' r, h1, ?_⟩
      have go : ∀ {v : V} {σ : L2.St} {F' H' : Hp} {O : Nat → List Addr}, Rel K ⟨H, F, fun a => a = p, 0, [], Zx.no⟩ ρ' σ F' H' O → Rep K F' v d → Q v H' := fun {v σ F' H' O} R rv => by
        dsimp only at h3
        unfold rowL at h3
        split at h3
        · next hi =>
          cases h3
          obtain ⟨v2, _, p2, _, _, e3, ws', h4, h5⟩ := R.ent 0 _ hi
          have e3 : p2 = p := e3
          subst e3
          exact q v H' ws' (fun a o n ha => R.keep a o ha n) h4 (h5.mono (end_sub s0 R)) (rv.mono (end_sub s0 R))
        · cases h3
      cases fl with
      | nx =>
        cases h2
        exact fun σ F' H' O R s => go R .non
      | bk => cases h2
      | ct => cases h2
      | ret d2 =>
        cases h2
        exact fun v σ F' H' O R s r => go R r
    · cases e
/-- a def that may be called by its name -/
structure Cal (P : Program) (w : World) (K : PySem.W.Frag) (mg : Str → Option Value) (base : Heap) (k : Nat) (x : Str) (sp : Sp) : Prop where
  ex : ∃ (f : Addr) (fd : FuncData) (ps : List Str), FnOk P w K mg base CX0 k f fd ps sp ∧ mg x = some (.ref f) ∧ PySem.W.keepIn K (.ref f) = true ∧ Binds K fd ps []
theorem Cal.mono {j k : Nat} {x : Str} {sp : Sp} (c : Cal P w K mg base j x sp) (h : j ≤ k) : Cal P w K mg base k x sp := by
  obtain ⟨f, fd, ps, F, h1, h2, h3⟩ := c.ex
  exact ⟨f, fd, ps, F.mono h, h1, h2, h3⟩
end
section
variable {X : Cx} {z : Z} {x : Str} {k j : Nat} {p pos : Pos} {e : Expr} {es : List Expr}
theorem q_call {m : List D → Option D} {f : Env → Option (List D)} (c : Cal X.prog X.w X.K X.mg X.base k x (spP X.K m)) (hr : Room j X.A) (hk : k ≤ j) (hg : Gl X x) (ha : PA X (e :: es) (tPs X.K z f))
    (hdb : (x == ("__debug__" : Str)) = false := by decide) (he : starEach (e :: es) X.env = (false, eval e X.env) :: starEach es X.env := by rfl) (hpl : (backTo pos (starEach es X.env)).any (·.1) = false := by rfl) : PE X (.Call (.Name x p) (e :: es) [] pos) (tP X.K z (cN m f)) := by
  obtain ⟨g, fd, ps, F, h1, h2, h3⟩ := c.ex
  refine (pe_call (dvs := []) F (hr.mono hk) hg h1 h2 h3 .nil pass0 ha hdb he hpl).mono fun σ H Q ⟨ρ, F, O, d, R, e, q⟩ => ?_
  obtain ⟨ds, h4, h5⟩ := bind_some e
  refine ⟨ρ, F, O, ds, R, h4, fun vs H1 s1 r => ?_⟩
  show spP X.K m (vs ++ []) H1 Q E0
  rw [List.append_nil]
  refine ⟨_, ds, d, ⟨(R.grow s1).sub, (R.grow s1).tup⟩, r, h5, fun v H2 s2 r2 => ?_⟩
  rw [ext_ext s1 s2] at r2
  exact q v H2 (s1.trans s2) r2
def rRow (i : Nat) (m : List D → List D → Option (D × List D)) (f : Env → Option (List D × Env)) : Env → Option (D × Env) := fun ρ => (ownL ρ[i]?).bind fun _ => (f ρ).bind fun p => (ownL p.2[i]?).bind fun ds => (m ds p.1).bind fun q => some (q.1, putL i q.2 p.2)
theorem Rel.rowed {K : PySem.W.Frag} {ρ : Env} {σ : L2.St} {F H H' : Hp} {O : Nat → List Addr} {i : Nat} {ds ds' : List D} {p : Addr} {ws' : List V} (R : Rel K z ρ σ F H O) (h : ownL ρ[i]? = some ds) (hp : σ[i]? = some (some (.ref p))) (hk : ∀ a o, a ≠ p → H a = some o → H' a = some o) (hp' : H' p = some (.lst ws')) (r : RepL K (ext F H H') ws' ds') :
    Rel K z (DL.putL i ds' ρ) σ (ext F H H') H' O ∧ Kp F H (ext F H H') H' O := by
  obtain ⟨p', vs, s1, s2, s3, s4, s5, s6⟩ := ownL_of R h
  rw [s1] at hp
  cases hp
  have hm : p ∈ O i := by rw [s2]; exact List.mem_cons_self
  have eH : ∃ H1 : Hp, H1 = fun a => if a = p then H p else H' a := ⟨_, rfl⟩
  obtain ⟨H1, e1⟩ := eH
  have s01 : Same H H1 := fun a o ha => by
    rw [e1]
    dsimp only
    split
    · next q => rw [← q]; exact ha
    · next q => exact hk a o q ha
  have eF : ext F H H1 = ext F H H' := by
    funext a
    unfold ext
    cases q : H a with
    | some o => simp
    | none =>
      have n : a ≠ p := fun e => by
        rw [e, s3] at q
        cases q
      simp [e1, n]
  have R1 := R.grow s01
  rw [eF] at R1
  have R2 := R1.putL h s1 r
  have e2 : upd H1 p (.lst ws') = H' := by
    funext a
    by_cases q : a = p
    · rw [q, upd_same, hp']
    · rw [upd_ne q, e1]
      dsimp only
      rw [if_neg q]
  rw [e2] at R2
  refine ⟨R2, ⟨same_ext R.sub, fun a o ha n => hk a o (fun q => n i (by rw [q]; exact hm)) ha, fun a ha hF => ?_, fun a ha => ?_⟩⟩
  · obtain ⟨o, q⟩ := some_of ha
    unfold ext
    simp [q, hF]
  · obtain ⟨o, q⟩ := some_of ha
    by_cases n : a = p
    · rw [n]
      exact ne_none hp'
    · exact ne_none (hk a o n q)
theorem r_row (i : Nat) {y : Str} {py : Pos} {m : List D → List D → Option (D × List D)} {f : Env → Option (List D × Env)} (c : Cal X.prog X.w X.K X.mg X.base k x (spR X.K m)) (hr : Room j X.A) (hk : k ≤ j) (hg : Gl X x) (ha : PA X es (tRs X.K z f)) (hN : X.N[i]? = some y := by rfl)
    (hv : Vis X.env.scope y := by first | exact Or.inl rfl | exact Or.inr (Or.inl rfl) | exact Or.inr (Or.inr rfl)) (hd : (y == ("__debug__" : Str)) = false := by decide) (hcd : (y == ("__classdict__" : Str)) = false := by decide)
    (hdb : (x == ("__debug__" : Str)) = false := by decide) (he : starEach (.Name y py :: es) X.env = (false, eval (.Name y py) X.env) :: starEach es X.env := by rfl) (hpl : (backTo pos (starEach es X.env)).any (·.1) = false := by rfl) : PE X (.Call (.Name x p) (.Name y py :: es) [] pos) (tR X.K z (rRow i m f)) := by
  obtain ⟨g, fd, ps, F, h1, h2, h3⟩ := c.ex
  refine (pe_call (dvs := []) F (hr.mono hk) hg h1 h2 h3 .nil pass0 (pa_cons (pe_var hN hv hd hcd) ha he) hdb he hpl).mono fun σ H Q ⟨ρ, F, O, d, ρ', R, e, q⟩ => ?_
  obtain ⟨d0, h0, e⟩ := bind_some e
  obtain ⟨⟨as, ρ1⟩, h4, e⟩ := bind_some e
  obtain ⟨ds, h5, e⟩ := bind_some e
  obtain ⟨⟨d2, ds'⟩, h6, e⟩ := bind_some e
  cases e
  obtain ⟨p, vs0, s1, _⟩ := ownL_of R h0
  refine ⟨_, s1, ρ, F, O, as, ρ1, R, h4, fun vs F1 H1 R1 k1 r => ?_⟩
  obtain ⟨p', ws, t1, t2, t3, t4, t5, _⟩ := ownL_of R1 h5
  have e1 := s1.symm.trans t1
  cases e1
  show spR X.K m ((.ref p :: vs) ++ []) H1 Q E0
  rw [List.append_nil]
  have hm : p ∈ O i := by rw [t2]; exact List.mem_cons_self
  refine ⟨F1, p, ws, ds, vs, as, _, ds', rfl, ⟨R1.sub, R1.tup⟩, (R1.off i p hm).1, t3, t4, r, h6, fun v H2 ws' kp hp' r' rv => ?_⟩
  obtain ⟨R2, k2⟩ := R1.rowed h5 s1 kp hp' r'
  exact q v _ H2 R2 (k1.trans k2) rv
end
end DL
namespace DL
open PySem PySem.Spec PyProof.Rows L2
def insS (x : Int) : List Int → List Int
  | [] => [x]
  | y :: r => if x < y then x :: y :: r else if x = y then y :: r else y :: insS x r
def sset : List Int → List Int
  | [] => []
  | x :: r => insS x (sset r)
theorem insS_mem {x k : Int} : ∀ {l : List Int}, k ∈ insS x l ↔ k = x ∨ k ∈ l
  | [] => by simp [insS]
  | y :: r => by
    unfold insS
    split
    · simp
    · split
      · next h =>
        subst h
        simp
      · rw [List.mem_cons, insS_mem, List.mem_cons]
        constructor
        · rintro (h | h | h)
          · exact .inr (.inl h)
          · exact .inl h
          · exact .inr (.inr h)
        · rintro (h | h | h)
          · exact .inr (.inl h)
          · exact .inl h
          · exact .inr (.inr h)
theorem bt_len : bootBuiltins "len" = some (.builtin "len") := by decide +kernel
theorem bt_sum : bootBuiltins "sum" = some (.builtin "sum") := by decide +kernel
theorem bt_min : bootBuiltins "min" = some (.builtin "min") := by decide +kernel
theorem bt_max : bootBuiltins "max" = some (.builtin "max") := by decide +kernel
theorem bt_sorted : bootBuiltins "sorted" = some (.builtin "sorted") := by decide +kernel
theorem bt_isinstance : bootBuiltins "isinstance" = some (.builtin "isinstance") := by decide +kernel
theorem bt_int : bootBuiltins "int" = some (.type "int") := by decide +kernel
theorem bt_list : bootBuiltins "list" = some (.type "list") := by decide +kernel
theorem bt_tuple : bootBuiltins "tuple" = some (.type "tuple") := by decide +kernel
theorem bt_bool : bootBuiltins "bool" = some (.type "bool") := by decide +kernel
theorem bt_str : bootBuiltins "str" = some (.type "str") := by decide +kernel
end DL
namespace DL
open PySem PySem.Spec PyProof.Rows L2
theorem hu64 {A : Around} {k : Nat} (hr : Room k A) : A.units + 64 < cLine := hr.units
theorem hu65 {A : Around} {k : Nat} (hr : Room k A) : A.units + 65 < cLine := by
  have := hr.un
  omega
section
variable {X : Cx} {z : Z}
theorem q_ty (T : Ty) {x : Str} {pos : Pos} (hg : Gl X x) (hm : X.mg x = none) (hb : bootBuiltins x = some (.type T.name)) (hn : x ≠ "__name__" := by decide) (hd : (x == ("__debug__" : Str)) = false := by decide) : PE X (.Name x pos) (tC (.ty T.name)) := pe_bltn hg hm hb rfl hn hd
theorem q_glob {x : Str} {i : Int} {pos : Pos} (hg : Gl X x) (h : ∃ t, X.mg x = some (.int i t)) (hd : (x == ("__debug__" : Str)) = false := by decide) : PE X (.Name x pos) (tP X.K z (cK (.int i))) := by
  obtain ⟨t, h⟩ := h
  exact q_globI hg h ⟨t, rfl⟩ hd
theorem q_globStr {x : Str} {i : Str} {pos : Pos} (hg : Gl X x) (h : ∃ t, X.mg x = some (.str i t)) (hd : (x == ("__debug__" : Str)) = false := by decide) : PE X (.Name x pos) (tP X.K z (cK (.str i))) := by
  obtain ⟨t, h⟩ := h
  exact q_globS hg h ⟨t, rfl⟩ hd
/-- a, b = x, y through a tuple (a name of them a cell) -/
theorem s_tup2 (i j : Nat) {x y : Str} {a b : Expr} {px py pt pos : Pos} {kt k2 pt2} {f g : Env → Option (E × Env)} (hc : X.calm = true) (hN : X.N.Nodup) (ha : PE X a (tW X.K z f)) (hb : PE X b (tW X.K z g)) (hi : X.N[i]? = some x := by rfl) (hj : X.N[j]? = some y := by rfl)
    (hx : Loc X.env.scope x := by first | exact Or.inl rfl | exact Or.inr rfl) (hy : Loc X.env.scope y := by first | exact Or.inl rfl | exact Or.inr rfl) (hfx : X.fn x = true ∨ X.env.scope.names.lookup x = some .local := by first | exact .inl rfl | exact .inr rfl) (hfy : X.fn y = true ∨ X.env.scope.names.lookup y = some .local := by first | exact .inl rfl | exact .inr rfl)
    (ha1 : starEach [a, b] X.env = (false, eval a X.env) :: starEach [b] X.env := by rfl) (hb1 : starEach [b] X.env = (false, eval b X.env) :: starEach [] X.env := by rfl)
    (hn : (assignEach [.Name x px, .Name y py] X.env).length = 2 := by rfl) (hst : (assignEach [.Name x px, .Name y py] X.env).findIdx? (·.1) = none := by rfl)
    (hm1 : (assignEach [.Name x px, .Name y py] X.env).map (·.2) = assign (.Name x px) X.env :: (assignEach [.Name y py] X.env).map (·.2) := by rfl) (hm2 : (assignEach [.Name y py] X.env).map (·.2) = assign (.Name y py) X.env :: (assignEach [] X.env).map (·.2) := by rfl)
    (hw : swappedStores [.Tuple [.Name x px, .Name y py] kt pt] (.Tuple [a, b] k2 pt2) X.env = pure none := by rfl)
    (hs : swapsWithSole [.Tuple [.Name x px, .Name y py] kt pt] (.Tuple [a, b] k2 pt2) pos.line X.env = pure false := by rfl)
    (h1 : (assignEach [.Tuple [.Name x px, .Name y py] kt pt] X.env).map (·.2) = [assign (.Tuple [.Name x px, .Name y py] kt pt) X.env] := by rfl) :
    PS X (.Assign [.Tuple [.Name x px, .Name y py] kt pt] (.Tuple [a, b] k2 pt2) pos) (tS X.K z (gPar2 i j f g)) :=
  (ps_asg (pe_tup (pa_cons ha (pa_cons hb pa_nil hb1) ha1)) (pg_tup hc (pgs_cons (pg_name hN hi hx hfx) (pgs_cons (pg_name hN hj hy hfy) pgs_nil hm2) hm1) hn hst) hs hw h1).mono fun D σ H ⟨ρ, F, O, fl, ρ', R, e, q⟩ => by
    obtain ⟨⟨e1, ρ1⟩, h1, e⟩ := bind_some e
    obtain ⟨⟨e2, ρ2⟩, h2, e⟩ := map_some e
    cases e
    refine ⟨ρ, F, O, e1, ρ1, R, h1, fun v1 F1 H1 as1 R1 k1 n1 f1 => ⟨ρ1, F1, O, e2, ρ2, R1, h2, fun v2 F2 H2 as2 R2 k2 n2 f2 => ⟨le1000 (by show 2 ≤ 1000; decide), fun p hp => ?_⟩⟩⟩
    refine ⟨p, [v1, v2], rfl, .of upd_same, rfl, v1, [v2], rfl, v2, [], rfl, rfl, ?_⟩
    obtain ⟨n1', f1'⟩ := keepW R k2 n1 f1
    have R3 := setE_new (i := i) (fun i a ha => (R.off i a ha).2) R2 n1' f1'
    have R4 := R3.setE (i := j) n2 fun a ha => ⟨(f2 a ha).2.1, (f2 a ha).2.2, fun l _ hl => by
      unfold setO at hl
      split at hl
      · exact (f1 a hl).2.2 (f2 a ha).1
      · exact (R1.off l a hl).2 (f2 a ha).1⟩
    exact q _ _ _ _ (R4.newS hp) ((k1.same.trans k2.same).trans (same_new (R4.sub.free hp)))
end
section
variable {P : Program} {w : World} {K : PySem.W.Frag} {mg : Str → Option Value} {base : Heap}
theorem okP {x qual : Str} {st : Stmt} {f : Addr} {fd : FuncData} {N ps : List Str} {k : Nat} {g : Gs} (a b : Nat) (F : Fun K x qual st f fd) (S : FnScope N ps (defScope st)) (ha : N.length = a) (hb : ps.length = b)
    (h : ∀ (cdv : Value) (A : Around) (outer : List PySem.Env) (s : Shared) (H : Hp) (E : XK) (z : Z), Room k (A.deeper (envOfC qual (defScope st) s.heap.objs.size f cdv)) → PSs (cxOf CX0 P w K mg base N qual (defScope st) f cdv A outer s H E).nox (defBody st) (tS K z g)) :
    FnOk P w K mg base CX0 (k + 1) f fd ps (spP K (run a b g)) := by
  subst ha hb
  exact ok_P F S h
theorem okR {x qual : Str} {st : Stmt} {f : Addr} {fd : FuncData} {N ps : List Str} {k : Nat} {g : Gs} (a b : Nat) (F : Fun K x qual st f fd) (S : FnScope N ps (defScope st)) (ha : N.length = a) (hb : ps.length = b) (hN : 0 < a)
    (h : ∀ (cdv : Value) (A : Around) (outer : List PySem.Env) (s : Shared) (H : Hp) (E : XK) (z : Z), Room k (A.deeper (envOfC qual (defScope st) s.heap.objs.size f cdv)) → PSs (cxOf CX0 P w K mg base N qual (defScope st) f cdv A outer s H E).nox (defBody st) (tS K z g)) :
    FnOk P w K mg base CX0 (k + 1) f fd ps (spR K (runR a b g)) := by
  subst ha hb
  exact ok_R F S hN h
/-- a promise that asks what never is -/
theorem ok_none {k : Nat} {f : Addr} {fd : FuncData} {ps : List Str} : FnOk P w K mg base CX0 k f fd ps (spP K fun _ => none) :=
  ⟨fun vs H Q E ⟨_, _, _, _, _, e, _⟩ => (by cases e), fun A outer s H args us vs Q E _ _ _ _ ⟨_, _, _, _, _, e, _⟩ => (by cases e)⟩
/-- the law's own promise -/
def spLaw (K : PySem.W.Frag) (n : Nat) : Sp := fun vs H Q _ => ∃ (a : Addr) (ns : List Int), vs = [.ref a] ∧ SqL K H a (ns.map V.int) ∧ ns.length ≤ n ∧ ∀ H', Q (.bl true) H'
theorem ok_law {k n : Nat} {f : Addr} {fd : FuncData} {ps : List Str} {m : List D → Option D} (F : FnOk P w K mg base CX0 k f fd ps (spP K m)) (h : ∀ ns : List Int, ns.length ≤ n → m [.list (ns.map .int)] = some (.bool true)) : FnOk P w K mg base CX0 k f fd ps (spLaw K n) :=
  F.imp fun vs H Q E ⟨a, ns, e, hS, hl, q⟩ => by
    subst e
    refine ⟨H, _, _, ⟨Same.refl _, AllT.refl _⟩, .cons (.lst hS (DpAll.of_ints ns)) .nil, h ns hl, fun v H' s r => ?_⟩
    cases r
    exact q H'
end
end DL
namespace DL
open PySem PySem.Spec PyProof.Rows L2
section
variable {prog : Program} {w : World} {A : Around} {E : Value → Shared → Prop} {s : Shared}
theorem gatherT {l : Addr} {vs : List Value} {Q : List Value → Shared → Prop} (hl : s.heap.IsTuple l vs.toArray) (hz : vs.length ≤ sizeLine)
    (q : Q vs { s with heap := (s.heap.push (seqObj "list" #[] 0)).update s.heap.objs.size (Obj.mapSeq (· ++ vs.toArray)) }) : wpAny (model prog w) A (collect (.ref l)) Q E s := by
  obtain ⟨o, ho, hc, n, hd⟩ := hl
  have new : (s.heap.push (seqObj "list" #[] 0)).get? s.heap.objs.size = some (seqObj "list" #[] 0) := Heap.get?_push_size _ rfl
  have old : (s.heap.push (seqObj "list" #[] 0)).get? l = some o := Heap.get?_push_of_some _ ho
  unfold collect
  refine wpAny_bind (wpAny_runValue (codeAny_builtin entry_proto_collect' (wpAny_bind (wpAny_newList (wpAny_pure ⟨Code.quiet_builtin _ (by decide +kernel), codeAny_builtin entry_list_iadd' ?_⟩)))))
  change wpAny _ _ (Builtin.List.listExtendWith (.ref s.heap.objs.size) (.ref l) (.ref s.heap.objs.size)) _ _ { s with heap := s.heap.push (seqObj "list" #[] 0) }
  unfold Builtin.List.listExtendWith
  refine wpAny_bind (wpAny_typeOf (T := "tuple") ⟨o, old, hc⟩ ?_)
  have tt : (Value.type "tuple" == Value.type "tuple") = true := rfl
  rw [if_pos (by rw [tt, Bool.or_true])]
  refine wpAny_bind (listItems_at old hd (wpAny_bind (listItems_at (xs := #[]) (n := 0) new rfl ?_)))
  rw [if_neg (by simp)]
  refine wpAny_bind (listUpdate_at (xs := #[]) (n := 0) new rfl (wpAny_pure ?_) (Nat.zero_le _) (by show (#[] ++ vs.toArray).size ≤ sizeLine + 1; simp only [Array.size_append, List.size_toArray, List.length_nil]; omega))
  change wpAny (model prog w) A (do let o ← load s.heap.objs.size; match o.data with | .seq xs _ => pure xs.toList | _ => unsupported "internal:collect") Q E { s with heap := (s.heap.push (seqObj "list" #[] 0)).update s.heap.objs.size (Obj.mapSeq (· ++ vs.toArray)) }
  refine wpAny_bind (wpAny_load (get?_update_seq new _) ?_)
  have e : ((#[] : Array Value) ++ vs.toArray).toList = vs := by simp
  change wpAny _ _ (pure ((#[] : Array Value) ++ vs.toArray).toList) Q E _
  rw [e]
  exact wpAny_pure q
theorem sortT {β : Type} {R : Value → β → Prop} {enc : β → PyData} {vs : List Value} {bs : List β} {l : Addr} {Q : Value → Shared → Prop} (hl : s.heap.IsTuple l vs.toArray) (e : PySem.W.EachIs R vs bs) (er : PySem.W.EachIs (fun v b => ∃ as, PySem.Reads s.heap v (enc b) as) vs bs)
    (hal : PySem.W.AllAlike (bs.map enc)) (hk : PySem.W.Sortable (bs.map enc)) (hL : bs.length ≤ sizeLine) (hu : ∀ b, b ∈ bs → A.units + 2 + (enc b).depth < cLine)
    (q : ∀ out, out.length = bs.length → PySem.W.EachIs R out (bs.mergeSort (PySem.W.dataLe false enc)) → Q (.ref (s.heap.objs.size + 1)) { s with heap := sortedAll s.heap vs (List.toArray out) }) : wpAny (model prog w) A (call (.builtin "sorted") [.ref l]) Q E s := by
  have hz : vs.length ≤ sizeLine := by rw [e.length]; exact hL
  refine PySem.Calls.call_function_entry kind_sorted plain_sorted entry_sorted (args_sorted1 _) ?_
  unfold Builtin.«sorted»
  refine wpAny_bind (m := checkCount "sorted" 1 1 _) (wpAny_pure (wpAny_bind (gatherT hl hz (wpAny_bind (wpAny_newList ?_ hz)))))
  have sz : ((s.heap.push (seqObj "list" #[] 0)).update s.heap.objs.size (Obj.mapSeq (· ++ vs.toArray))).objs.size = s.heap.objs.size + 1 := by rw [Heap.size_update, size_push']
  change wpAny _ _ _ _ _ { s with heap := PySem.W.copyHeap s.heap vs }
  rw [sz]
  have er' : PySem.W.EachIs (fun v b => ∃ as, PySem.Reads (PySem.W.sortingHeap (PySem.W.copyHeap s.heap vs) (s.heap.objs.size + 1) vs) v (enc b) as) vs bs := er.mono fun _ _ ⟨as, r⟩ => ⟨as, PyProof.Rows.Reads.keeps (fun _ _ => PySem.W.sorting_copy_old) r⟩
  have S := PySem.W.SortsAt.data (prog := prog) (w := w) (A := A.in1.in1) (s := { s with heap := PySem.W.sortingHeap (PySem.W.copyHeap s.heap vs) (s.heap.objs.size + 1) vs }) (PySem.W.each_map (R := fun v d => ∃ as, PySem.Reads (PySem.W.sortingHeap (PySem.W.copyHeap s.heap vs) (s.heap.objs.size + 1) vs) v d as) enc er') hal hk (PySem.W.bound_map hu)
  refine wpAny_bind (wpAny_holding (wpAny_call_entry_kw slot_list_sort ⟨_, PySem.W.copyHeap_at s.heap vs, rfl⟩ entry_list_sort ?_ (args_list_sort _)))
  change wpAny (model prog w) A.in1.in1 (Builtin.«list.sort» ⟨[.ref (s.heap.objs.size + 1)], []⟩) _ _ _
  refine wpAny_mono (PySem.W.list_sort_vals (P := fun f s' => f = .done (.ret .none) ∧ Q (.ref (s.heap.objs.size + 1)) s') (s := { s with heap := PySem.W.copyHeap s.heap vs }) (PySem.W.copyHeap_at s.heap vs) S hz ⟨rfl, ?_⟩) (fun f s' hf => ?_) fun _ _ z => z
  · exact q _ (by rw [PySem.W.sortVals_length false rfl]; exact e.length) (PySem.W.sortVals_data false e er' hal)
  · obtain ⟨rfl, hq⟩ := hf
    exact ⟨_, rfl, wpAny_pure ⟨_, rfl, hq⟩⟩
end
def rSortedT2 (K : PySem.W.Frag) : List V → Hp → VK → Prop := fun xs H Q => ∃ (a : Addr) (vs : List V) (ds : List D) (Φ : V → D → Prop), xs = [V.ref a] ∧ SqT K H a vs ∧ DpAll K H vs ds ∧ PySem.W.EachIs Φ vs ds ∧ sortOk ds = true ∧
  ∀ vs' p, H p = none → PySem.W.EachIs Φ vs' (isort leD ds) → Q (.ref p) (upd H p (.lst vs'))
def rSortedA (K : PySem.W.Frag) : List V → Hp → VK → Prop := fun xs H Q => rSortedD K xs H Q ∨ rSortedT2 K xs H Q
def oSortedA : List D → Option D
  | [.list ds] => if sortOk ds then some (.list (isort leD ds)) else none
  | [.tuple ds] => if sortOk ds then some (.list (isort leD ds)) else none
  | _ => none
section
variable {X : Cx} {K : PySem.W.Frag}
theorem cr_sortedT2 (hu : X.A.units + 64 < cLine) : CallR X (.builtin "sorted") (rSortedT2 X.K) := by
  intro pins s σ H xs us Q I r h
  obtain ⟨a, vs, ds, Φ, rfl, hs, hd, hΦ, ok, q⟩ := h
  rw [Vals.ref1 r]
  obtain ⟨al, so, dp⟩ := sortOk_of ok
  obtain ⟨its, rv, hl, hz⟩ := I.tuple hs
  obtain ⟨as, hr⟩ := Dp.readsAll I _ _ its hd rv
  have l1 := hd.length
  have ms : ds.map (fun d => d) = ds := List.map_id' ds
  refine sortT (enc := fun d : PyData => d) (R := fun u d => ∃ v, RelV v u ∧ Φ v d) hl (each_vals rv hΦ) (PySem.W.readsAll_each (fun d => d) (by rw [ms]; exact hr)) (by rw [ms]; exact al) (by rw [ms]; exact so) (by omega) (fun d hd => ?_) fun out hlen he => ?_
  · have := depth_mem hd
    omega
  · obtain ⟨vs', rv', hv'⟩ := vals_each he
    obtain ⟨ep, he'⟩ := PyProof.Rows.sortedAll_at s.heap its out.toArray
    have e : ds.mergeSort (PySem.W.dataLe false fun d => d) = isort leD ds := (isort_eq leD_total ds).symm
    rw [e] at hv'
    have hlen' : vs'.length ≤ sizeLine := by
      rw [rv'.length, hlen]
      omega
    exact ⟨.ref _, upd H (s.heap.objs.size + 1) (.lst vs'), I.laid (t' := s.toks) (fun _ _ => PyProof.Rows.sortedAll_old) (Nat.le_succ _) ⟨hlen', out, ep, rv', he'⟩, rfl, q _ _ (I.hok.fresh (Nat.le_succ _)) hv'⟩
theorem cr_sortedA (hu : X.A.units + 64 < cLine) : CallR X (.builtin "sorted") (rSortedA X.K) := CallR.or (cr_sortedD hu) (cr_sortedT2 hu)
theorem w_sortedA : OpN K (rSortedA K) oSortedA := ⟨fun F H xs as d Q s ra e q => by
  unfold oSortedA at e
  split at e
  · split at e
    · next h =>
      cases e
      cases ra with
      | cons r t =>
        cases t
        cases r with
        | lst h1 t1 => exact .inl ⟨_, _, _, Rep K F, rfl, s.seq h1, t1.mono s, each_of t1, h, fun vs' p hp he => doneL s q (of_each he) hp⟩
    · cases e
  · split at e
    · next h =>
      cases e
      cases ra with
      | cons r t =>
        cases t
        cases r with
        | tup h1 t1 => exact .inr ⟨_, _, _, Rep K F, rfl, sameT s (sqT_of h1), t1.mono s, each_of t1, h, fun vs' p hp he => doneL s q (of_each he) hp⟩
    · cases e
  · cases e⟩
end
end DL
namespace DL
open PySem PySem.Spec PyProof.Rows L2
mutual
/-- no dict in it -/
def noDic : D → Bool
  | .list ds => noDics ds
  | .tuple ds => noDics ds
  | .dict _ => false
  | .none => true
  | .bool _ => true
  | .int _ => true
  | .str _ => true
def noDics : List D → Bool
  | [] => true
  | d :: r => noDic d && noDics r
end
mutual
theorem Dp.kit {K : PySem.W.Frag} {H : Hp} : ∀ {v : V} {d : D}, noDic d = true → Dp K H v d → L2.Dp K H v d
  | _, _, _, .non => .non
  | _, _, _, .bl b => .bl b
  | _, _, _, .int i => .int i
  | _, _, _, .str s => .str s
  | _, _, e, .dic _ _ _ => by unfold noDic at e; cases e
  | _, _, e, .lst h t => .lst h (DpAll.kit (by unfold noDic at e; exact e) t)
  | _, _, e, .tup h t => .tup (sqT_of h) (DpAll.kit (by unfold noDic at e; exact e) t)
theorem DpAll.kit {K : PySem.W.Frag} {H : Hp} : ∀ {vs : List V} {ds : List D}, noDics ds = true → DpAll K H vs ds → L2.DpAll K H vs ds
  | _, _, _, .nil => .nil
  | _, _, e, .cons h t => by
    unfold noDics at e
    rw [Bool.and_eq_true] at e
    exact .cons (Dp.kit e.1 h) (DpAll.kit e.2 t)
end
def cM (o : D → List D → Option D) (f : Env → Option D) (g : Env → Option (List D)) : Env → Option D := fun ρ => (f ρ).bind fun a => (g ρ).bind fun as => o a as
end DL
namespace DL
open PySem PySem.Spec PyProof.Rows L2
end DL
namespace DL
open PySem PySem.Spec PyProof.Rows L2
end DL
namespace DL
open PySem PySem.Spec PyProof.Rows L2
end DL
namespace DL
open PySem PySem.Spec PyProof.Rows L2
end DL
namespace DL
open PySem PySem.Spec PyProof.Rows L2
end DL
namespace L2
open PySem PySem.Spec PyProof.Rows
end L2
namespace DL
open PySem PySem.Spec PyProof.Rows L2
end DL
namespace DL
open PySem PySem.Spec PyProof.Rows L2
def cRep (f : Env → Option (List D)) (g : Env → Option D) : Env → Option D := fun ρ => (f ρ).bind fun ds => (g ρ).bind fun b => match b with
  | .int k => if ds.length ≤ 1000 then (if k ≤ 1000 then (if -1000 ≤ k then some (.list (List.replicate k.toNat ds).flatten) else none) else none) else none
  | _ => none
section
variable {X : Cx} {z : Z}
theorem q_rep {es : List Expr} {b : Expr} {lpos pos : Pos} {f : Env → Option (List D)} {g : Env → Option D} (h : PA X es (tPs X.K z f)) (hb : PE X b (tP X.K z g)) : PE X (.BinOp (.List es lpos) .Mult b pos) (tP X.K z (cRep f g)) := by
  refine (pe_op op_rep (pe_lst h) hb).mono fun σ H Q ⟨ρ, F, O, d, R, e, q⟩ => ?_
  obtain ⟨ds, ea, e⟩ := bind_some e
  obtain ⟨n, eb, e⟩ := bind_some e
  split at e
  · next k =>
    split at e
    · next hl =>
      split at e
      · next h1k =>
        split at e
        · next h2k =>
          cases e
          refine ⟨ρ, F, O, ds, R, ea, fun vs H1 s1 r1 => ⟨le1000 (by rw [r1.length]; exact hl), fun l hl' => ?_⟩⟩
          have sn := s1.trans (same_new (o := .lst vs) hl')
          refine ⟨ρ, _, O, _, R.grow sn, eb, fun v2 H2 s2 r2 => ?_⟩
          cases r2
          have hl2 : H2 l = some (.lst vs) := s2 _ _ upd_same
          have s12 := sn.trans s2
          have a1 : vs.length ≤ 1000 := by rw [r1.length]; exact hl
          have a2 : k.toNat ≤ 1000 := by omega
          have a3 : vs.length * k.toNat ≤ 1000 * 1000 := Nat.mul_le_mul a1 a2
          refine ⟨l, _, vs, rfl, rfl, hl2, by omega, by omega, leM (by omega), fun p hp => ?_⟩
          refine q _ _ (s12.trans (same_new hp)) ?_
          rw [← ext_ext s12 (same_new hp), ext_new (ext_sub R.sub s12) hp]
          refine .lst (.of upd_same) (DpAll.mono (same_new ((ext_sub R.sub s12).free hp)) ((DpAll.mono ?_ r1).rep _))
          have s01 := (same_new (o := .lst vs) hl').trans s2
          have := same_ext (H' := H2) (ext_sub R.sub s1)
          rw [ext_ext s1 s01] at this
          exact this
        · cases e
      · cases e
    · cases e
  · cases e
end
end DL
namespace DL
open PySem PySem.Spec PyProof.Rows L2
end DL
namespace DL
open PySem PySem.Spec PyProof.Rows L2
end DL
namespace DL
open PySem PySem.Spec PyProof.Rows L2
end DL
namespace DL
open PySem PySem.Spec PyProof.Rows L2
end DL
namespace DL
open PySem PySem.Spec PyProof.Rows L2
def DicU (u : HO) : Prop := (∃ kvs, u = .dK kvs) ∨ ∃ kvs, u = .dT kvs
section
variable {K : PySem.W.Frag} {G G' : Hp} {p : Addr} {o : Obj} {u : HO}
theorem sqL_out (hu : DicU u) (hp : G p = some (.frz o u)) (he : ∀ a, a ≠ p → G' a = G a) {a : Addr} {xs : List V} (h : SqL K G a xs) : SqL K G' a xs := by
  rcases h with (h | ⟨o', h⟩) | h
  · have ne : a ≠ p := fun e => by
      rw [e, hp] at h
      cases h
    exact .inl (.inl ((he a ne).trans h))
  · have ne : a ≠ p := fun e => by
      rw [e, hp] at h
      cases h
      rcases hu with ⟨_, q⟩ | ⟨_, q⟩ <;> cases q
    exact .inl (.inr ⟨o', (he a ne).trans h⟩)
  · exact .inr h
mutual
theorem Dp.out (hu : DicU u) (hp : G p = some (.frz o u)) (he : ∀ a, a ≠ p → G' a = G a) : ∀ {v : V} {d : D}, noDic d = true → Dp K G v d → Dp K G' v d
  | _, _, _, .non => .non
  | _, _, _, .bl b => .bl b
  | _, _, _, .int i => .int i
  | _, _, _, .str s => .str s
  | _, _, e, .dic _ _ _ => by unfold noDic at e; cases e
  | _, _, e, .lst h t => .lst (sqL_out hu hp he h) (DpAll.out hu hp he (by unfold noDic at e; exact e) t)
  | _, _, e, .tup h t => .tup ((he _ fun q => by rw [q, hp] at h; cases h).trans h) (DpAll.out hu hp he (by unfold noDic at e; exact e) t)
theorem DpAll.out (hu : DicU u) (hp : G p = some (.frz o u)) (he : ∀ a, a ≠ p → G' a = G a) : ∀ {vs : List V} {ds : List D}, noDics ds = true → DpAll K G vs ds → DpAll K G' vs ds
  | _, _, _, .nil => .nil
  | _, _, e, .cons h t => by
    unfold noDics at e
    rw [Bool.and_eq_true] at e
    exact .cons (Dp.out hu hp he e.1 h) (DpAll.out hu hp he e.2 t)
end
end
section
variable {X : Cx} {z : Z}
theorem DicU.mut {u : HO} (h : DicU u) : Mut (some u) := by
  rcases h with ⟨_, h⟩ | ⟨_, h⟩ <;> (subst h; exact True.intro)
end
end DL
namespace DL
open PySem PySem.Spec PyProof.Rows L2
end DL
namespace DL
open PySem PySem.Spec PyProof.Rows L2
end DL
namespace DL
open PySem PySem.Spec PyProof.Rows L2
end DL
namespace DL
open PySem PySem.Spec PyProof.Rows L2
end DL
namespace DL
open PySem PySem.Spec PyProof.Rows L2
end DL
namespace DL
open PySem PySem.Spec PyProof.Rows L2
end DL
namespace DL
open PySem PySem.Spec PyProof.Rows L2
end DL
namespace DL
open PySem PySem.Spec PyProof.Rows L2
def oStr : List D → Option D
  | [.int i] => if i.natAbs.log2 < 1920 then some (.str (Str.ofString (toString i))) else none
  | _ => none
def rStrI : List V → Hp → VK → Prop := fun xs H Q => ∃ i, xs = [.int i] ∧ i.natAbs.log2 < 1920 ∧ Q (.str (Str.ofString (toString i))) H
theorem w_str {K : PySem.W.Frag} : OpN K rStrI oStr := ⟨fun F H xs as d Q s ra e q => by
  unfold oStr at e
  split at e
  · split at e
    · next hl =>
      cases e
      cases ra with
      | cons r t =>
        cases t
        cases r
        exact ⟨_, rfl, hl, done s q (.str _)⟩
    · cases e
  · cases e⟩
theorem call_strI {X : Cx} : CallR X (.type "str") rStrI := call_str_int
end DL
namespace DL
open PySem PySem.Spec PyProof.Rows L2
inductive FnAll (K : PySem.W.Frag) (F : Hp) : List V → List Addr → List D → Prop
  | nil : FnAll K F [] [] []
  | cons {p a : Addr} {w : V} {vs : List V} {as : List Addr} {d : D} {ds : List D} : F p = some (.tup [.ref a, w]) → Rep K F w d → FnAll K F vs as ds → FnAll K F (.ref p :: vs) (a :: as) (d :: ds)
theorem FnAll.mono {K : PySem.W.Frag} {F F' : Hp} (s : Same F F') : ∀ {vs : List V} {as : List Addr} {ds : List D}, FnAll K F vs as ds → FnAll K F' vs as ds
  | _, _, _, .nil => .nil
  | _, _, _, .cons h r t => .cons (s _ _ h) (r.mono s) (t.mono s)
theorem FnAll.len {K : PySem.W.Frag} {F : Hp} : ∀ {vs : List V} {as : List Addr} {ds : List D}, FnAll K F vs as ds → vs.length = ds.length ∧ as.length = ds.length
  | _, _, _, .nil => ⟨rfl, rfl⟩
  | _, _, _, .cons _ _ t => ⟨congrArg (· + 1) t.len.1, congrArg (· + 1) t.len.2⟩
theorem FnAll.get {K : PySem.W.Frag} {F : Hp} : ∀ {vs : List V} {as : List Addr} {ds : List D} {i : Nat} {v : V}, FnAll K F vs as ds → vs[i]? = some v → ∃ p a w d, v = .ref p ∧ as[i]? = some a ∧ ds[i]? = some d ∧ F p = some (.tup [.ref a, w]) ∧ Rep K F w d
  | _, _, _, _, _, .nil, e => by simp at e
  | _, _, _, 0, _, .cons h r t, e => by
    simp at e
    subst e
    exact ⟨_, _, _, _, rfl, rfl, rfl, h, r⟩
  | _, _, _, i + 1, _, .cons _ _ t, e => by
    obtain ⟨p, a, w, d, h1, h2, h3, h4⟩ := FnAll.get (i := i) t (by simpa using e)
    exact ⟨p, a, w, d, h1, by simpa using h2, by simpa using h3, h4⟩
section
variable {X : Cx} {z : Z}
/-- a def at an address -/
def HeldP (P : Program) (w : World) (K : PySem.W.Frag) (mg : Str → Option Value) (base : Heap) (k : Nat) (x : Str) (p : Addr × (List D → Option D)) : Prop := ∃ (fd : FuncData) (ps : List Str), FnOk P w K mg base CX0 k p.1 fd ps (spP K p.2) ∧ mg x = some (.ref p.1) ∧ PySem.W.keepIn K (.ref p.1) = true ∧ Binds K fd ps []
theorem HeldP.mg {P : Program} {w : World} {K : PySem.W.Frag} {mg : Str → Option Value} {base : Heap} {k : Nat} {x : Str} {p : Addr × (List D → Option D)} (c : HeldP P w K mg base k x p) : mg x = some (.ref p.1) := by
  obtain ⟨_, _, _, h, _⟩ := c
  exact h
theorem HeldP.le {P : Program} {w : World} {K : PySem.W.Frag} {mg : Str → Option Value} {base : Heap} {j k : Nat} {x : Str} {p : Addr × (List D → Option D)} (c : HeldP P w K mg base j x p) (h : j ≤ k) : HeldP P w K mg base k x p := by
  obtain ⟨fd, ps, F, r⟩ := c
  exact ⟨fd, ps, F.mono h, r⟩
end
end DL
namespace DL
open PySem PySem.Spec PyProof.Rows L2
end DL
namespace DL
open PySem PySem.Spec PyProof.Rows L2
def iv : D → Option Int
  | .int i => some i
  | _ => none
end DL
namespace DL
open PySem PySem.Spec PyProof.Rows L2
end DL
namespace DL
open PySem PySem.Spec PyProof.Rows L2
end DL
namespace DL
open PySem PySem.Spec PyProof.Rows L2
end DL
namespace DL
open PySem PySem.Spec PyProof.Rows L2
def obL (e : Option (Option E)) : Option (Nat × List (Str × Fd)) := match e with
  | some (some (.ob m fs)) => some (m, fs)
  | _ => none
/-- an object at p -/
def Ob (K : PySem.W.Frag) (F H : Hp) (c p : Addr) (fs : List (Str × Fd)) (as : List Addr) : Prop :=
  ∃ dx xs as', as = p :: as' ∧ H p = some (.ins c dx xs) ∧ OkC K c (fs.map (·.1)) ∧ as.Nodup ∧ Fds K F H xs fs as'
section
variable {K : PySem.W.Frag} {z : Z} {ρ : Env} {σ : L2.St} {F H : Hp} {O : Nat → List Addr}
theorem obL_eq {e : Option (Option E)} {m : Nat} {fs : List (Str × Fd)} (h : obL e = some (m, fs)) : e = some (some (.ob m fs)) := by
  unfold obL at h
  split at h
  · cases h
    rfl
  · cases h
/-- who may write to an object -/
def May (z : Z) (m : Nat) (p : Addr) (as : List Addr) : Prop := (∀ a ∈ as, z.H0 a = none ∨ z.B a) ∧ (m = 1 → as = z.fp) ∧ (m = 2 → z.fp.head? = some p) ∧ (m = 0 → ∀ a ∈ as, z.H0 a = none)
theorem obL_of {i m : Nat} {fs : List (Str × Fd)} (R : Rel K z ρ σ F H O) (h : obL ρ[i]? = some (m, fs)) : ∃ p, σ[i]? = some (some (.ref p)) ∧ Ob K F H z.cl p fs (O i) ∧ May z m p (O i) := by
  obtain ⟨v, h1, p, dx, xs, as', e1, e2, h2, h3, h4, h5, h6⟩ := R.ent i _ (obL_eq h)
  subst e1
  exact ⟨p, h1, ⟨dx, xs, as', e2, h2, h3, h4, h6⟩, h5⟩
theorem Ob.ent {m : Nat} {p : Addr} {fs : List (Str × Fd)} {as : List Addr} (h : Ob K F H z.cl p fs as) (hb : May z m p as) : Ent K z F H (.ref p) (.ob m fs) as := by
  obtain ⟨dx, xs, as', e2, h2, h3, h4, h6⟩ := h
  exact ⟨p, dx, xs, as', rfl, e2, h2, h3, h4, hb, h6⟩
theorem Ob.mem {c p : Addr} {fs : List (Str × Fd)} {as : List Addr} (h : Ob K F H c p fs as) : p ∈ as := by
  obtain ⟨_, _, _, e2, _⟩ := h
  rw [e2]
  exact List.mem_cons_self
theorem Fds.names : ∀ {xs : List (Str × V)} {fs : List (Str × Fd)} {as : List Addr}, Fds K F H xs fs as → xs.map (·.1) = fs.map (·.1)
  | _, _, _, .nil => rfl
  | _, _, _, .sh _ t => congrArg (_ :: ·) (Fds.names t)
  | _, _, _, .own _ t => congrArg (_ :: ·) (Fds.names t)
  | _, _, _, .own2 _ _ t => congrArg (_ :: ·) (Fds.names t)
theorem Fds.len {xs : List (Str × V)} {fs : List (Str × Fd)} {as : List Addr} (h : Fds K F H xs fs as) : xs.length = fs.length := by
  have := congrArg List.length h.names
  simpa using this
/-- a field's entry, read -/
def shF (nm : Str) : List (Str × Fd) → Option D
  | [] => none
  | (g, x) :: r => if g = nm then (match x with | .sh d => some d | _ => none) else shF nm r
def fdF (nm : Str) : List (Str × Fd) → Option Fd
  | [] => none
  | (g, x) :: r => if g = nm then some x else fdF nm r
def keyF (nm : Str) : List (Str × D) → Option D
  | [] => none
  | (g, x) :: r => if g = nm then some x else keyF nm r
theorem lookup_cons' {α : Type} {g nm : Str} {x : α} {r : List (Str × α)} : ((g, x) :: r).lookup nm = if g = nm then some x else r.lookup nm := by
  by_cases h : g = nm
  · subst h
    simp [List.lookup]
  · rw [if_neg h]
    have hb : (nm == g) = false := beq_eq_false_iff_ne.mpr (Ne.symm h)
    simp [List.lookup, hb]
theorem Fds.shF : ∀ {xs : List (Str × V)} {fs : List (Str × Fd)} {as : List Addr} {nm : Str} {d : D}, Fds K F H xs fs as → DL.shF nm fs = some d → ∃ v, xs.lookup nm = some v ∧ Rep K F v d
  | _, _, _, _, _, .nil, h => by cases h
  | _, _, _, nm, d, .sh (n := n) r t, h => by
    unfold DL.shF at h
    rw [lookup_cons']
    split at h
    · next e =>
      cases h
      rw [if_pos e]
      exact ⟨_, rfl, r⟩
    · next e =>
      rw [if_neg e]
      exact Fds.shF t h
  | _, _, _, nm, d, .own (n := n) r t, h => by
    unfold DL.shF at h
    rw [lookup_cons']
    split at h
    · cases h
    · next e =>
      rw [if_neg e]
      exact Fds.shF t h
  | _, _, _, nm, d, .own2 (n := n) _ r t, h => by
    unfold DL.shF at h
    rw [lookup_cons']
    split at h
    · cases h
    · next e =>
      rw [if_neg e]
      exact Fds.shF t h
theorem keyF_of : ∀ {xs : List (Str × V)} {fs : List (Str × D)} {nm : Str} {d : D}, xs.map (·.1) = fs.map (·.1) → RepL K F (xs.map (·.2)) (fs.map (·.2)) → keyF nm fs = some d → ∃ v, xs.lookup nm = some v ∧ Rep K F v d
  | [], [], _, _, _, _, h => by cases h
  | [], _ :: _, _, _, e, _, _ => by cases e
  | _ :: _, [], _, _, e, _, _ => by cases e
  | (g, v) :: xs, (g', d') :: fs, nm, d, e, r, h => by
    simp only [List.map_cons, List.cons.injEq] at e
    obtain ⟨e1, e2⟩ := e
    subst e1
    cases r with
    | cons r t =>
      unfold keyF at h
      rw [lookup_cons']
      split at h
      · next e =>
        cases h
        rw [if_pos e]
        exact ⟨_, rfl, r⟩
      · next e =>
        rw [if_neg e]
        exact keyF_of e2 t h
theorem shF_mem : ∀ {fs : List (Str × Fd)} {nm : Str} {d : D}, DL.shF nm fs = some d → nm ∈ fs.map (·.1)
  | [], _, _, h => by cases h
  | (g, x) :: r, nm, d, h => by
    unfold DL.shF at h
    split at h
    · next e => rw [← e]; exact List.mem_cons_self
    · exact List.mem_cons_of_mem _ (shF_mem h)
theorem fdF_mem : ∀ {fs : List (Str × Fd)} {nm : Str} {d : Fd}, fdF nm fs = some d → nm ∈ fs.map (·.1)
  | [], _, _, h => by cases h
  | (g, x) :: r, nm, d, h => by
    unfold fdF at h
    split at h
    · next e => rw [← e]; exact List.mem_cons_self
    · exact List.mem_cons_of_mem _ (fdF_mem h)
theorem keyF_mem : ∀ {fs : List (Str × D)} {nm : Str} {d : D}, keyF nm fs = some d → nm ∈ fs.map (·.1)
  | [], _, _, h => by cases h
  | (g, x) :: r, nm, d, h => by
    unfold keyF at h
    split at h
    · next e => rw [← e]; exact List.mem_cons_self
    · exact List.mem_cons_of_mem _ (keyF_mem h)
/-- a field gets a value: only what is not one's own list may be replaced -/
def putFd (nm : Str) (y : Fd) : List (Str × Fd) → Option (List (Str × Fd))
  | [] => some [(nm, y)]
  | (g, x) :: r => if g = nm then (match x with | .sh _ => some ((g, y) :: r) | _ => none) else (putFd nm y r).map fun r' => (g, x) :: r'
theorem putFd_names : ∀ {fs fs' : List (Str × Fd)} {nm : Str} {y : Fd}, putFd nm y fs = some fs' → ∀ n ∈ fs'.map (·.1), n = nm ∨ n ∈ fs.map (·.1)
  | [], fs', nm, y, h, n, hn => by
    cases h
    simp at hn
    exact .inl hn
  | (g, x) :: r, fs', nm, y, h, n, hn => by
    unfold putFd at h
    split at h
    · split at h
      · cases h
        simp only [List.map_cons, List.mem_cons] at hn ⊢
        exact .inr hn
      · cases h
    · obtain ⟨r', h1, h2⟩ := map_some h
      subst h2
      simp only [List.map_cons, List.mem_cons] at hn ⊢
      rcases hn with hn | hn
      · exact .inr (.inl hn)
      · rcases putFd_names h1 n hn with q | q
        · exact .inl q
        · exact .inr (.inr q)
theorem Fds.put : ∀ {xs : List (Str × V)} {fs fs' : List (Str × Fd)} {as : List Addr} {nm : Str} {y : Fd} {v : V} {bs : List Addr}, Fds K F H xs fs as → putFd nm y fs = some fs' → (∀ {xs1 fs1 as1}, Fds K F H xs1 fs1 as1 → Fds K F H ((nm, v) :: xs1) ((nm, y) :: fs1) (bs ++ as1)) → ∃ cs, Fds K F H (putF nm v xs) fs' cs ∧ List.Perm cs (bs ++ as)
  | _, _, _, _, nm, y, v, bs, .nil, h, k => by
    cases h
    exact ⟨bs ++ [], k .nil, .refl _⟩
  | _, _, _, _, nm, y, v, bs, .sh (n := n) r t, h, k => by
    unfold putFd at h
    show ∃ cs, Fds K F H (if n = nm then _ else _) _ cs ∧ _
    split at h
    · next e =>
      cases h
      subst e
      rw [if_pos rfl]
      exact ⟨_, k t, .refl _⟩
    · next e =>
      obtain ⟨r', h1, h2⟩ := map_some h
      subst h2
      rw [if_neg e]
      obtain ⟨cs, q1, q2⟩ := Fds.put t h1 k
      exact ⟨cs, .sh r q1, q2⟩
  | _, _, _, _, nm, y, v, bs, .own (n := n) (p := p) (as := as) r t, h, k => by
    unfold putFd at h
    show ∃ cs, Fds K F H (if n = nm then _ else _) _ cs ∧ _
    split at h
    · cases h
    · next e =>
      obtain ⟨r', h1, h2⟩ := map_some h
      subst h2
      rw [if_neg e]
      obtain ⟨cs, q1, q2⟩ := Fds.put t h1 k
      exact ⟨p :: cs, .own r q1, (q2.cons p).trans List.perm_middle.symm⟩
  | _, _, _, _, nm, y, v, bs, .own2 (n := n) (p := p) (qs := qs) (as := as) h0 r t, h, k => by
    unfold putFd at h
    show ∃ cs, Fds K F H (if n = nm then _ else _) _ cs ∧ _
    split at h
    · cases h
    · next e =>
      obtain ⟨r', h1, h2⟩ := map_some h
      subst h2
      rw [if_neg e]
      obtain ⟨cs, q1, q2⟩ := Fds.put t h1 k
      refine ⟨p :: (qs ++ cs), .own2 h0 r q1, ?_⟩
      have e2 : List.Perm (p :: qs ++ cs) (bs ++ (p :: qs ++ as)) := by
        refine ((List.Perm.append_left (p :: qs) q2)).trans ?_
        rw [← List.append_assoc, ← List.append_assoc]
        exact List.Perm.append_right as List.perm_append_comm
      exact e2
theorem Fds.putSh : ∀ {xs : List (Str × V)} {fs fs' : List (Str × Fd)} {as : List Addr} {nm : Str} {d : D} {v : V}, Fds K F H xs fs as → putFd nm (.sh d) fs = some fs' → Rep K F v d → Fds K F H (putF nm v xs) fs' as
  | _, _, _, _, nm, y, v, .nil, h, k => by
    cases h
    exact .sh k .nil
  | _, _, _, _, nm, y, v, .sh (n := n) r t, h, k => by
    unfold putFd at h
    show Fds K F H (if n = nm then _ else _) _ _
    split at h
    · next e =>
      cases h
      subst e
      rw [if_pos rfl]
      exact .sh k t
    · next e =>
      obtain ⟨r', h1, h2⟩ := map_some h
      subst h2
      rw [if_neg e]
      exact .sh r (Fds.putSh t h1 k)
  | _, _, _, _, nm, y, v, .own (n := n) r t, h, k => by
    unfold putFd at h
    show Fds K F H (if n = nm then _ else _) _ _
    split at h
    · cases h
    · next e =>
      obtain ⟨r', h1, h2⟩ := map_some h
      subst h2
      rw [if_neg e]
      exact .own r (Fds.putSh t h1 k)
  | _, _, _, _, nm, y, v, .own2 (n := n) h0 r t, h, k => by
    unfold putFd at h
    show Fds K F H (if n = nm then _ else _) _ _
    split at h
    · cases h
    · next e =>
      obtain ⟨r', h1, h2⟩ := map_some h
      subst h2
      rw [if_neg e]
      exact .own2 h0 r (Fds.putSh t h1 k)
/-- slot i's object has changed: its own addresses may be others -/
theorem Rel.mutE {i : Nat} {a : Addr} {o : HO} {e : E} {v : V} {as' : List Addr} (R : Rel K z ρ σ F H O) (ha : a ∈ O i) (hz : z.H0 a = none ∨ z.B a) (hv : σ[i]? = some (some v)) (he : Ent K z F (upd H a o) v e as')
    (hn : ∀ b ∈ as', b ∈ O i ∨ (F b = none ∧ H b ≠ none ∧ ∀ j, b ∉ O j)) (ho : ∀ vs, o ≠ .tup vs := by intro _ q; cases q) : Rel K z (ρ.set i (some e)) σ F (upd H a o) (setO O i as') where
  len := by rw [List.length_set, R.len]
  sub := DL.Same.upd2 R.sub (R.off i a ha).1
  ent := fun j e' hj => by
    unfold setO
    by_cases q : j = i
    · subst q
      have hl : j < ρ.length := by
        have := (List.getElem?_eq_some_iff.mp hj).1
        rw [List.length_set] at this
        exact this
      rw [List.getElem?_set_self hl] at hj
      cases hj
      rw [if_pos rfl]
      exact ⟨v, hv, he⟩
    · rw [List.getElem?_set_ne (Ne.symm q)] at hj
      rw [if_neg q]
      obtain ⟨w, h1, h2⟩ := R.ent j e' hj
      exact ⟨w, h1, h2.mono (Same.refl _) fun b hb => upd_ne (show b ≠ a from fun x => q (R.apt j i a (x ▸ hb) ha))⟩
  off := fun j b hb => by
    unfold setO at hb
    have q1 : F b = none ∧ H b ≠ none := by
      split at hb
      · rcases hn b hb with q | q
        · exact R.off i b q
        · exact ⟨q.1, q.2.1⟩
      · exact R.off j b hb
    refine ⟨q1.1, ?_⟩
    by_cases q : b = a
    · rw [q, upd_same]
      exact fun z => nomatch z
    · rw [upd_ne q]
      exact q1.2
  apt := fun j k b hj hk => by
    unfold setO at hj hk
    by_cases q : j = i
    · by_cases q2 : k = i
      · rw [q, q2]
      · rw [if_pos q] at hj
        rw [if_neg q2] at hk
        rcases hn b hj with q3 | q3
        · exact absurd (R.apt k i b hk q3) q2
        · exact absurd hk (q3.2.2 k)
    · by_cases q2 : k = i
      · rw [if_neg q] at hj
        rw [if_pos q2] at hk
        rcases hn b hk with q3 | q3
        · exact absurd (R.apt j i b hj q3) q
        · exact absurd hj (q3.2.2 j)
      · rw [if_neg q] at hj
        rw [if_neg q2] at hk
        exact R.apt j k b hj hk
  old := R.old
  oldH := fun b h => by
    by_cases e : b = a
    · rw [e, upd_same]
      exact fun z => nomatch z
    · rw [upd_ne e]
      exact R.oldH b h
  keep := fun b o' h nb => by
    have e : b ≠ a := fun e => by
      subst e
      rcases hz with hz | hz
      · rw [hz] at h
        cases h
      · exact nb hz
    rw [upd_ne e]
    exact R.keep b o' h nb
  f0 := R.f0
  tup := R.tup.up ho
end
section
variable {X : Cx} {z : Z}
def cFld (i : Nat) (nm : Str) : Env → Option D := fun ρ => match ρ[i]? with
  | some (some (.ob _ fs)) => shF nm fs
  | some (some (.obs fs)) => keyF nm fs
  | _ => none
theorem q_fld (i : Nat) {x nm : Str} {p1 pos : Pos} (hN : X.N[i]? = some x := by rfl) (hv : Vis X.env.scope x := by first | exact Or.inl rfl | exact Or.inr (Or.inl rfl) | exact Or.inr (Or.inr rfl)) (hd : (x == ("__debug__" : Str)) = false := by decide)
    (hcd : (x == ("__classdict__" : Str)) = false := by decide) (hbase : attributeBase (.Name x p1) nm X.env (eval (.Name x p1) X.env) = eval (.Name x p1) X.env := by rfl) : PE X (.Attribute (.Name x p1) nm pos) (tP X.K z (cFld i nm)) :=
  (pe_fld (pe_var hN hv hd hcd) hbase).mono fun σ H Q ⟨ρ, F, O, d, R, e, q⟩ => by
    unfold cFld at e
    split at e
    · next m fs h =>
      obtain ⟨p, h1, ⟨dx, xs, as', e2, h2, h3, h4, h6⟩, h5⟩ := obL_of (i := i) (m := m) (fs := fs) R (by rw [h]; rfl)
      obtain ⟨v, l, r⟩ := h6.shF e
      refine ⟨_, h1, p, z.cl, dx, xs, v, rfl, h2, h3.cls, h3.no _ (shF_mem e), l, q v H (Same.refl _) ?_⟩
      rw [ext_self R.sub]
      exact r
    · next fs h =>
      obtain ⟨v, h1, _, p, C, dx, xs, e1, h2, h3, h4, h5⟩ := R.ent i _ h
      subst e1
      obtain ⟨v, l, r⟩ := keyF_of h4 h5 e
      refine ⟨_, h1, p, C, dx, xs, v, rfl, R.sub _ _ h2, h3.cls, h3.no _ (keyF_mem e), l, q v H (Same.refl _) ?_⟩
      rw [ext_self R.sub]
      exact r
    · cases e
def gFld (i : Nat) (nm : Str) (f : Env → Option (D × Env)) : Gs := fun ρ => (f ρ).bind fun p => (obL p.2[i]?).bind fun q => if q.2.length ≤ 900 then (putFd nm (.sh p.1) q.2).map fun fs' => (.nx, p.2.set i (some (.ob q.1 fs'))) else none
theorem Ob.put {K : PySem.W.Frag} {F H : Hp} {c p : Addr} {fs fs' : List (Str × Fd)} {as : List Addr} {nm : Str} {y : Fd} {v : V} {bs : List Addr} (h : Ob K F H c p fs as) (no : NoAttr K c nm) (hp : putFd nm y fs = some fs')
    (k : ∀ {H' : Hp}, (∀ a, a ≠ p → H' a = H a) → ∀ {xs1 fs1 as1}, Fds K F H' xs1 fs1 as1 → Fds K F H' ((nm, v) :: xs1) ((nm, y) :: fs1) (bs ++ as1)) (hb : bs.Nodup ∧ ∀ b ∈ bs, b ∉ as) :
    ∃ dx xs as', H p = some (.ins c dx xs) ∧ Cls K c ∧ xs.length = fs.length ∧ Ob K F (upd H p (.ins c dx (putF nm v xs))) c p fs' as' ∧ (∀ a ∈ as', a ∈ as ∨ a ∈ bs) ∧ p ∈ as := by
  obtain ⟨dx, xs, as', e2, h2, h3, h4, h6⟩ := h
  subst e2
  have hne : ∀ a ∈ as', a ≠ p := fun a ha e => (List.nodup_cons.mp h4).1 (e ▸ ha)
  have t := h6.mono (H' := upd H p (.ins c dx (putF nm v xs))) (Same.refl F) fun a ha => upd_ne (hne a ha)
  obtain ⟨cs, q1, q2⟩ := t.put hp (v := v) (bs := bs) fun t1 => k (fun a ha => upd_ne ha) t1
  refine ⟨dx, xs, p :: cs, h2, h3.cls, h6.len, ⟨dx, _, cs, rfl, upd_same, ⟨h3.cls, fun n hn => ?_⟩, ?_, q1⟩, fun a ha => ?_, List.mem_cons_self⟩
  · rcases putFd_names hp n hn with e | e
    · rw [e]
      exact no
    · exact h3.no n e
  · have hnd : (p :: (bs ++ as')).Nodup := by
      rw [List.nodup_cons, List.nodup_append]
      refine ⟨fun ha => ?_, hb.1, (List.nodup_cons.mp h4).2, fun a ha b hb' e => hb.2 a ha (e ▸ List.mem_cons_of_mem _ hb')⟩
      rcases List.mem_append.mp ha with ha | ha
      · exact hb.2 p ha List.mem_cons_self
      · exact (List.nodup_cons.mp h4).1 ha
    exact ((q2.cons p).nodup_iff).mpr hnd
  · rcases List.mem_cons.mp ha with e | ha
    · rw [e]
      exact .inl List.mem_cons_self
    · rcases List.mem_append.mp (q2.mem_iff.mp ha) with ha | ha
      · exact .inr ha
      · exact .inl (List.mem_cons_of_mem _ ha)
theorem Ob.putSh {K : PySem.W.Frag} {F H : Hp} {c p : Addr} {fs fs' : List (Str × Fd)} {as : List Addr} {nm : Str} {d : D} {v : V} (h : Ob K F H c p fs as) (no : NoAttr K c nm) (hp : putFd nm (.sh d) fs = some fs') (r : Rep K F v d) :
    ∃ dx xs, H p = some (.ins c dx xs) ∧ Cls K c ∧ xs.length = fs.length ∧ Ob K F (upd H p (.ins c dx (putF nm v xs))) c p fs' as := by
  obtain ⟨dx, xs, as', e2, h2, h3, h4, h6⟩ := h
  subst e2
  have hne : ∀ a ∈ as', a ≠ p := fun a ha e => (List.nodup_cons.mp h4).1 (e ▸ ha)
  have t := h6.mono (H' := upd H p (.ins c dx (putF nm v xs))) (Same.refl F) fun a ha => upd_ne (hne a ha)
  refine ⟨dx, xs, h2, h3.cls, h6.len, dx, _, as', rfl, upd_same, ⟨h3.cls, fun n hn => ?_⟩, h4, t.putSh hp r⟩
  rcases putFd_names hp n hn with e | e
  · rw [e]
    exact no
  · exact h3.no n e
theorem s_fld {C : Addr} (hz : z.cl = C) (i : Nat) {x nm : Str} {e : Expr} {f : Env → Option (D × Env)} {p1 p2 pos : Pos} (no : NoAttr X.K C nm) (he : PE X e (tR X.K z f)) (hN : X.N[i]? = some x := by rfl) (hv : Vis X.env.scope x := by first | exact Or.inl rfl | exact Or.inr (Or.inl rfl) | exact Or.inr (Or.inr rfl)) (hd : (x == ("__debug__" : Str)) = false := by decide)
    (hcd : (x == ("__classdict__" : Str)) = false := by decide) (hs : swapsWith e (some (.Attribute (.Name x p1) nm p2)) pos.line X.env = pure false := by rfl) : PS X (.Assign [.Attribute (.Name x p1) nm p2] e pos) (tS X.K z (gFld i nm f)) :=
  (ps_fld (pe_var hN hv hd hcd) he hs).mono fun D σ H ⟨ρ, F, O, fl, ρ', R, e, q⟩ => by
    obtain ⟨⟨d, ρ1⟩, h1, e⟩ := bind_some e
    obtain ⟨⟨m, fs⟩, h2, e⟩ := bind_some e
    split at e
    · next hl =>
      obtain ⟨fs', h3, e⟩ := map_some e
      cases e
      refine ⟨ρ, F, O, d, ρ1, R, h1, fun v F1 H1 R1 k1 r1 => ?_⟩
      obtain ⟨p, s1, ob, hb⟩ := obL_of R1 h2
      obtain ⟨dx, xs, g1, g2, g3, g4⟩ := ob.putSh (v := v) (by rw [hz]; exact no) h3 r1
      refine ⟨_, s1, p, z.cl, dx, xs, rfl, g1, g2, by rw [hz]; exact no, by have : fs.length ≤ 900 := hl; omega, ?_⟩
      exact q σ F1 _ _ (R1.mutE ob.mem (hb.1 p ob.mem) s1 (g4.ent hb) fun b hb => .inl hb) k1.same
    · cases e
/-- x.f = a list of one's own -/
def fdE : E → Option Fd
  | .own d => some (.own d)
  | .own2 d => some (.own2 d)
  | _ => none
def gFldW (i : Nat) (nm : Str) (f : Env → Option (E × Env)) : Gs := fun ρ => (f ρ).bind fun p => (obL p.2[i]?).bind fun q => (fdE p.1).bind fun y => if q.1 = 1 then none else if q.2.length ≤ 900 then (putFd nm y q.2).map fun fs' => (.nx, p.2.set i (some (.ob q.1 fs'))) else none
theorem fdE_of {K : PySem.W.Frag} {F H : Hp} {e : E} {y : Fd} {v : V} {as : List Addr} {nm : Str} (h : fdE e = some y) (he : Ent K z F H v e as) : as.Nodup ∧ ∀ {H' : Hp}, (∀ a ∈ as, H' a = H a) → ∀ {xs1 fs1 as1}, Fds K F H' xs1 fs1 as1 → Fds K F H' ((nm, v) :: xs1) ((nm, y) :: fs1) (as ++ as1) := by
  unfold fdE at h
  split at h
  · cases h
    obtain ⟨p, e1, e2, e3, h⟩ := he
    subst e1 e2
    exact ⟨List.nodup_cons.mpr ⟨fun h => (nomatch h), .nil⟩, fun k _ _ _ t => .own (h.mono (Same.refl _) (k p List.mem_cons_self)) t⟩
  · cases h
    obtain ⟨p, qs, ds, e1, e2, e3, h1, h2, h3, h4⟩ := he
    subst e1 e2 e3
    exact ⟨h2, fun k _ _ _ t => .own2 ((k p List.mem_cons_self).trans h1) (h4.mono (Same.refl _) fun a ha => k a (List.mem_cons_of_mem _ ha)) t⟩
  · cases h
theorem s_fldW {C : Addr} (hz : z.cl = C) (i : Nat) {x nm : Str} {e : Expr} {f : Env → Option (E × Env)} {p1 p2 pos : Pos} (no : NoAttr X.K C nm) (he : PE X e (tW X.K z f)) (hN : X.N[i]? = some x := by rfl) (hv : Vis X.env.scope x := by first | exact Or.inl rfl | exact Or.inr (Or.inl rfl) | exact Or.inr (Or.inr rfl)) (hd : (x == ("__debug__" : Str)) = false := by decide)
    (hcd : (x == ("__classdict__" : Str)) = false := by decide) (hs : swapsWith e (some (.Attribute (.Name x p1) nm p2)) pos.line X.env = pure false := by rfl) : PS X (.Assign [.Attribute (.Name x p1) nm p2] e pos) (tS X.K z (gFldW i nm f)) :=
  (ps_fld (pe_var hN hv hd hcd) he hs).mono fun D σ H ⟨ρ, F, O, fl, ρ', R, e, q⟩ => by
    obtain ⟨⟨en, ρ1⟩, h1, e⟩ := bind_some e
    obtain ⟨⟨m, fs⟩, h2, e⟩ := bind_some e
    obtain ⟨y, hy, e⟩ := bind_some e
    split at e
    · cases e
    · next hm =>
      split at e
      · next hl =>
        obtain ⟨fs', h3, e⟩ := map_some e
        cases e
        refine ⟨ρ, F, O, en, ρ1, R, h1, fun v F1 H1 as R1 k1 r1 hf => ?_⟩
        obtain ⟨p, s1, ob, hb⟩ := obL_of R1 h2
        obtain ⟨nd, hk⟩ := fdE_of (nm := nm) hy r1
        have fr : ∀ b ∈ as, ∀ j, b ∉ O j := fun b hb j hj => (R.off j b hj).2 (hf b hb).1
        obtain ⟨dx, xs, as', g1, g2, g3, g4, g5, g6⟩ := ob.put (v := v) (bs := as) (by rw [hz]; exact no) h3 (fun k _ _ _ t => hk (fun a ha => k a fun e => fr a ha i (e ▸ ob.mem)) t) ⟨nd, fun b hb => fr b hb i⟩
        refine ⟨_, s1, p, z.cl, dx, xs, rfl, g1, g2, by rw [hz]; exact no, by have : fs.length ≤ 900 := hl; omega, ?_⟩
        refine q σ F1 _ _ (R1.mutE g6 (hb.1 p g6) s1 (g4.ent ⟨fun a ha => ?_, fun e => absurd e hm, hb.2.2.1, fun e a ha => ?_⟩) fun b hb' => ?_) k1.same
        · rcases g5 a ha with q | q
          · exact hb.1 a q
          · exact .inl (H0_of R (hf a q).1)
        · rcases g5 a ha with q | q
          · exact hb.2.2.2 e a q
          · exact H0_of R (hf a q).1
        · rcases g5 b hb' with q | q
          · exact .inl q
          · exact .inr ⟨(hf b q).2.1, (hf b q).2.2, fr b q⟩
      · cases e
end
end DL
namespace DL
open PySem PySem.Spec PyProof.Rows L2
def setFd (nm : Str) (y : Fd) : List (Str × Fd) → List (Str × Fd)
  | [] => []
  | (g, x) :: r => if g = nm then (g, y) :: r else (g, x) :: setFd nm y r
theorem setFd_names (nm : Str) (y : Fd) : ∀ fs : List (Str × Fd), (setFd nm y fs).map (·.1) = fs.map (·.1)
  | [] => rfl
  | (g, x) :: r => by
    unfold setFd
    split
    · rfl
    · simp only [List.map_cons, setFd_names nm y r]
section
variable {K : PySem.W.Frag} {z : Z} {ρ : Env} {σ : L2.St} {F H : Hp} {O : Nat → List Addr}
theorem Fds.ownAt : ∀ {xs : List (Str × V)} {fs : List (Str × Fd)} {as : List Addr} {nm : Str} {ds : List D}, Fds K F H xs fs as → as.Nodup → fdF nm fs = some (.own (.list ds)) →
    ∃ l vs, xs.lookup nm = some (.ref l) ∧ l ∈ as ∧ H l = some (.lst vs) ∧ RepL K F vs ds ∧ ∀ ws es, RepL K F ws es → Fds K F (upd H l (.lst ws)) xs (setFd nm (.own (.list es)) fs) as
  | _, _, _, _, _, .nil, _, h => by cases h
  | _, _, _, nm, ds, .sh (n := n) r t, hn, h => by
    unfold fdF at h
    rw [lookup_cons']
    split at h
    · cases h
    · next e =>
      obtain ⟨l, vs, h1, h2, h3, h4, h5⟩ := Fds.ownAt t hn h
      rw [if_neg e]
      refine ⟨l, vs, h1, h2, h3, h4, fun ws es q => ?_⟩
      unfold setFd
      rw [if_neg e]
      exact .sh r (h5 ws es q)
  | _, _, _, nm, ds, .own (n := n) (p := p) o t, hn, h => by
    unfold fdF at h
    rw [lookup_cons']
    obtain ⟨n1, n2⟩ := List.nodup_cons.mp hn
    split at h
    · next e =>
      cases h
      obtain ⟨vs, h1, h2⟩ := o
      rw [if_pos e]
      refine ⟨p, vs, rfl, List.mem_cons_self, h1, h2, fun ws es q => ?_⟩
      unfold setFd
      rw [if_pos e]
      exact .own ⟨ws, upd_same, q⟩ (t.mono (Same.refl _) fun a ha => upd_ne fun x => n1 (x ▸ ha))
    · next e =>
      obtain ⟨l, vs, h1, h2, h3, h4, h5⟩ := Fds.ownAt t n2 h
      rw [if_neg e]
      refine ⟨l, vs, h1, List.mem_cons_of_mem _ h2, h3, h4, fun ws es q => ?_⟩
      unfold setFd
      rw [if_neg e]
      exact .own (o.mono (Same.refl _) (upd_ne fun x => n1 (x ▸ h2))) (h5 ws es q)
  | _, _, _, nm, ds, .own2 (n := n) (p := p) (qs := qs) h0 o t, hn, h => by
    unfold fdF at h
    rw [lookup_cons']
    obtain ⟨n1, n2⟩ := List.nodup_cons.mp hn
    obtain ⟨n3, n4, n5⟩ := List.nodup_append.mp n2
    split at h
    · cases h
    · next e =>
      obtain ⟨l, vs, h1, h2, h3, h4, h5⟩ := Fds.ownAt t n4 h
      rw [if_neg e]
      refine ⟨l, vs, h1, List.mem_cons_of_mem _ (List.mem_append_right _ h2), h3, h4, fun ws es q => ?_⟩
      unfold setFd
      rw [if_neg e]
      exact .own2 ((upd_ne fun x => n1 (by rw [x]; exact List.mem_append_right _ h2)).trans h0) (o.mono (Same.refl _) fun a ha => upd_ne fun x => n5 a ha l h2 x) (h5 ws es q)
theorem Ob.ownAt {c p : Addr} {fs : List (Str × Fd)} {as : List Addr} {nm : Str} {ds : List D} (h : Ob K F H c p fs as) (hf : fdF nm fs = some (.own (.list ds))) :
    ∃ dx xs l vs, H p = some (.ins c dx xs) ∧ Cls K c ∧ NoAttr K c nm ∧ xs.lookup nm = some (.ref l) ∧ l ∈ as ∧ l ≠ p ∧ H l = some (.lst vs) ∧ RepL K F vs ds ∧ ∀ ws es, RepL K F ws es → Ob K F (upd H l (.lst ws)) c p (setFd nm (.own (.list es)) fs) as := by
  obtain ⟨dx, xs, as', e2, h2, h3, h4, h6⟩ := h
  subst e2
  obtain ⟨n1, n2⟩ := List.nodup_cons.mp h4
  obtain ⟨l, vs, g1, g2, g3, g4, g5⟩ := h6.ownAt n2 hf
  have np : p ≠ l := fun e => n1 (e ▸ g2)
  exact ⟨dx, xs, l, vs, h2, h3.cls, h3.no _ (fdF_mem hf), g1, List.mem_cons_of_mem _ g2, np.symm, g3, g4, fun ws es q => ⟨dx, xs, as', rfl, (upd_ne np).trans h2, by rw [setFd_names]; exact h3, h4, g5 ws es q⟩⟩
end
def gFApp (i : Nat) (nm : Str) (f : Env → Option D) : Gs := fun ρ => (obL ρ[i]?).bind fun q => match fdF nm q.2 with
  | some (.own (.list ds)) => (f ρ).bind fun d => if ds.length ≤ 1000 then some (.nx, ρ.set i (some (.ob q.1 (setFd nm (.own (.list (ds ++ [d]))) q.2)))) else none
  | _ => none
section
variable {X : Cx} {z : Z}
theorem s_fapp (i : Nat) {x nm : Str} {e : Expr} {f : Env → Option D} {p0 p1 p2 p3 pos : Pos} (he : PE X e (tP X.K z f)) (hN : X.N[i]? = some x := by rfl) (hv : Vis X.env.scope x := by first | exact Or.inl rfl | exact Or.inr (Or.inl rfl) | exact Or.inr (Or.inr rfl)) (hd : (x == ("__debug__" : Str)) = false := by decide)
    (hcd : (x == ("__classdict__" : Str)) = false := by decide)
    (hb1 : attributeBase (.Name x p0) nm X.env (eval (.Name x p0) X.env) = eval (.Name x p0) X.env := by rfl)
    (hbase : attributeBase (.Attribute (.Name x p0) nm p1) "append" X.env (eval (.Attribute (.Name x p0) nm p1) X.env) = eval (.Attribute (.Name x p0) nm p1) X.env := by rfl)
    (hfew : ((backTo p3 (starEach [e] X.env)).all (fun x => !x.1) && (backToKw p3 (keywordEach [] X.env)).all (fun x => x.1.isSome)
      && decide ([e].length + ([] : List Keyword).length + (if ([] : List Keyword).isEmpty then 0 else 1) < 30)) = true := by rfl)
    (hline : (p2.endLine == p3.line) = true := by rfl) (hs : starEach [e] X.env = (false, eval e X.env) :: starEach [] X.env := by rfl) (hpl : (backTo p3 (starEach [] X.env)).any (·.1) = false := by rfl)
    (hsw : swapsWith (.Call (.Attribute (.Attribute (.Name x p0) nm p1) "append" p2) [e] [] p3) none pos.line X.env = pure false := by rfl) :
    PS X (.Expr (.Call (.Attribute (.Attribute (.Name x p0) nm p1) "append" p2) [e] [] p3) pos) (tS X.K z (gFApp i nm f)) :=
  (ps_expr (pe_bm PySem.F.plainAttrs_list PySem.F.slot_list_append PySem.F.type_list_append mt_append (pe_fld (pe_var hN hv hd hcd) hb1) (pa_cons he pa_nil hs) hbase hfew hline hs hpl) hsw).mono fun D σ H ⟨ρ, F, O, fl, ρ', R, e, q⟩ => by
    obtain ⟨⟨m, fs⟩, h0, e⟩ := bind_some e
    dsimp only at e
    split at e
    · next ds hf =>
      obtain ⟨d, h1, e⟩ := bind_some e
      split at e
      · next hl =>
        cases e
        obtain ⟨p, s1, ob, hb⟩ := obL_of R h0
        obtain ⟨dx, xs, l, vs, g1, g2, g3, g4, g5, g6, g7, g8, _⟩ := ob.ownAt hf
        refine ⟨_, s1, p, z.cl, dx, xs, .ref l, rfl, g1, g2, g3, g4, .inl ⟨rfl, _, SqL.of g7⟩, ρ, F, O, d, R, h1, fun v H' sm r => ?_⟩
        have R' := R.grow sm
        obtain ⟨p', s1', ob', hb'⟩ := obL_of R' h0
        have e1 := s1.symm.trans s1'
        cases e1
        obtain ⟨dx', xs', l', vs', t1, t2, t3, t4, t5, t6, t7, t8, t9⟩ := ob'.ownAt hf
        have e2 := (sm _ _ g1).symm.trans t1
        cases e2
        have e3 := g4.symm.trans t4
        cases e3
        refine ⟨l, vs', v, rfl, rfl, t7, by have := t8.length; have := small1000 hl; omega, ?_⟩
        exact q σ _ _ _ (R'.mutE t5 (hb'.1 l t5) s1 ((t9 _ _ (t8.append (.cons r .nil))).ent hb') fun b hb => .inl hb) (same_ext R.sub)
      · cases e
    · cases e
end
structure Left (F H F' H' : Hp) (W : List Addr) : Prop where
  same : Same F F'
  sub : Same F' H'
  tup : AllT F' H'
  keep : ∀ a o, a ∉ W → H a = some o → H' a = some o
  dom : ∀ a, H a ≠ none → H' a ≠ none
  out : ∀ a, H a ≠ none → F a = none → F' a = none
section
variable {K : PySem.W.Frag} {z : Z} {ρ ρ' : Env} {σ : L2.St} {F H F' H' : Hp} {O O' : Nat → List Addr} {W : List Addr}
theorem Rel.leave (R : Rel K z ρ σ F H O) (L : Left F H F' H' W) (hl : ρ'.length = ρ.length)
    (h1 : ∀ (k : Nat) e, ρ'[k]? = some (some e) → (ρ[k]? = some (some e) ∧ O' k = O k ∧ ∀ a ∈ O k, a ∉ W) ∨ ∃ v, σ[k]? = some (some v) ∧ Ent K z F' H' v e (O' k))
    (h2 : ∀ k a, a ∈ O' k → a ∈ O k ∨ (H a = none ∧ F' a = none ∧ H' a ≠ none ∧ ∀ j, a ∈ O' j → j = k)) (hW : ∀ a ∈ W, z.H0 a = none ∨ z.B a) : Rel K z ρ' σ F' H' O' where
  len := hl.trans R.len
  sub := L.sub
  ent := fun k e he => by
    rcases h1 k e he with ⟨q1, q2, q3⟩ | q
    · obtain ⟨v, g1, g2⟩ := R.ent k e q1
      rw [q2]
      refine ⟨v, g1, g2.mono L.same fun a ha => ?_⟩
      obtain ⟨o, ho⟩ := some_of (R.off k a ha).2
      rw [ho]
      exact L.keep a o (q3 a ha) ho
    · exact q
  off := fun k a ha => by
    rcases h2 k a ha with q | q
    · exact ⟨L.out a (R.off k a q).2 (R.off k a q).1, L.dom a (R.off k a q).2⟩
    · exact ⟨q.2.1, q.2.2.1⟩
  apt := fun k j a hk hj => by
    rcases h2 k a hk with q | q
    · rcases h2 j a hj with q2 | q2
      · exact R.apt k j a q q2
      · exact absurd q2.1 (R.off k a q).2
    · exact (q.2.2.2 j hj).symm
  old := fun a h0 f0 => L.out a (R.oldH a h0) (R.old a h0 f0)
  oldH := fun a h0 => L.dom a (R.oldH a h0)
  keep := fun a o h b => by
    refine L.keep a o (fun hw => ?_) (R.keep a o h b)
    rcases hW a hw with q | q
    · rw [q] at h
      cases h
    · exact b q
  f0 := R.f0.trans L.same
  tup := L.tup
theorem Left.kp (L : Left F H F' H' W) (hW : ∀ a ∈ W, ∃ i, a ∈ O i) : Kp F H F' H' O :=
  ⟨L.same, fun a o h n => L.keep a o (fun hw => by
    obtain ⟨i, hi⟩ := hW a hw
    exact n i hi) h, L.out, L.dom⟩
/-- a value that a method gives: shared, or new lists -/
def okV : E → Bool
  | .sh _ => true
  | .own _ => true
  | .own2 _ => true
  | _ => false
def EntV (K : PySem.W.Frag) (F H : Hp) (v : V) (e : E) (as : List Addr) : Prop := okV e = true ∧ Ent K ⟨fun _ => none, F, fun _ => False, 0, [], Zx.no⟩ F H v e as
theorem EntV.ent {v : V} {e : E} {as : List Addr} (h : EntV K F H v e as) (h0 : ∀ a ∈ as, z.H0 a = none) : Ent K z F H v e as := by
  obtain ⟨h1, h⟩ := h
  cases e with
  | sh d => exact h
  | own d =>
    obtain ⟨p, e1, e2, e3, h⟩ := h
    exact ⟨p, e1, e2, h0 p (by rw [e2]; exact List.mem_cons_self), h⟩
  | own2 d =>
    obtain ⟨p, qs, ds, e1, e2, e3, g1, g2, g3, g4⟩ := h
    exact ⟨p, qs, ds, e1, e2, e3, g1, g2, fun a ha => h0 a (by rw [e2]; exact ha), g4⟩
  | _ => cases h1
end
/-- a method that keeps its object's lists where they are -/
def spM (K : PySem.W.Frag) (c : Addr) (m : List (Str × Fd) → List D → Option (E × List (Str × Fd))) : Sp := fun vs H Q _ => ∃ F p as fs vs' ds e fs', vs = .ref p :: vs' ∧ (Same F H ∧ AllT F H) ∧ (∀ a ∈ as, F a = none ∧ H a ≠ none) ∧ Ob K F H c p fs as ∧ RepL K F vs' ds ∧ m fs ds = some (e, fs') ∧
  ∀ v F' H' asv, Left F H F' H' as → Ob K F' H' c p fs' as → EntV K F' H' v e asv → (∀ a ∈ asv, H a = none ∧ F' a = none ∧ H' a ≠ none) → Q v H'
/-- a method that may lay its object's lists anew; it gives None -/
def spMx (K : PySem.W.Frag) (c : Addr) (m : List (Str × Fd) → List D → Option (List (Str × Fd))) : Sp := fun vs H Q _ => ∃ F p as fs vs' ds fs', vs = .ref p :: vs' ∧ (Same F H ∧ AllT F H) ∧ (∀ a ∈ as, F a = none ∧ H a ≠ none) ∧ Ob K F H c p fs as ∧ RepL K F vs' ds ∧ m fs ds = some fs' ∧
  ∀ F' H' as', Left F H F' H' as → Ob K F' H' c p fs' as' → (∀ a ∈ as', F' a = none ∧ H' a ≠ none ∧ (a ∈ as ∨ H a = none)) → Q .non H'
def gSeqE (g : Gs) (h : Env → Option (E × Env)) : Env → Option (E × Env) := fun ρ => (g ρ).bind fun p => match p.1 with
  | .nx => h p.2
  | _ => none
def eRet (i : Nat) : Env → Option (E × Env) := fun ρ => match ρ[i]? with
  | some (some (.own d)) => some (.own d, ρ.set i none)
  | some (some (.own2 d)) => some (.own2 d, ρ.set i none)
  | _ => none
def obAt (m : Nat) (ρ : Env) : Option (List (Str × Fd)) := (obL ρ[0]?).bind fun q => if q.1 = m then some q.2 else none
def runM (N n : Nat) (g : Gs) : List (Str × Fd) → List D → Option (E × List (Str × Fd)) := fun fs ds => if ds.length + 1 = n then (g (some (.ob 1 fs) :: ini (N - 1) ds)).bind fun p => (fin p).bind fun d => (obAt 1 p.2).map fun fs' => (.sh d, fs') else none
def runMx (N n : Nat) (g : Gs) : List (Str × Fd) → List D → Option (List (Str × Fd)) := fun fs ds => if ds.length + 1 = n then (g (some (.ob 2 fs) :: ini (N - 1) ds)).bind fun p => (fin p).bind fun d => match d with
  | .none => obAt 2 p.2
  | _ => none
  else none
section
variable {K : PySem.W.Frag} {F H : Hp}
theorem rel_startM {c : Addr} {m : Nat} (hm : m ≠ 0 := by decide) {N : List Str} {p : Addr} {vs : List V} {ds : List D} {fs : List (Str × Fd)} {as : List Addr} (hN : 0 < N.length) (s : Same F H) (t : AllT F H) (ha : ∀ a ∈ as, F a = none ∧ H a ≠ none) (ob : Ob K F H c p fs as) (r : RepL K F vs ds) :
    Rel K ⟨H, F, fun a => a ∈ as, c, as, Zx.no⟩ (some (.ob m fs) :: ini (N.length - 1) ds) (L2.start N (.ref p :: vs)) F H (fun i => if i = 0 then as else []) where
  len := by
    unfold ini L2.start
    simp only [List.length_append, List.length_map, List.length_replicate, List.length_cons, r.length]
    omega
  sub := s
  ent := fun i e h => by
    cases i with
    | zero =>
      cases h
      refine ⟨.ref p, rfl, Ob.ent (z := ⟨H, F, fun a => a ∈ as, c, as, Zx.no⟩) ob ⟨fun a ha => .inr ha, fun _ => rfl, fun _ => ?_, fun e => absurd e hm⟩⟩
      obtain ⟨_, _, _, e, _⟩ := ob
      show as.head? = _
      rw [e]
      rfl
    | succ i =>
      have h : (ini (N.length - 1) ds)[i]? = some (some e) := h
      obtain ⟨d, h1, h2⟩ := ini_get h
      subst h2
      obtain ⟨v, h3, h4⟩ := r.get h1
      exact ⟨v, start_get (by simpa using h3), rfl, h4⟩
  off := fun i a hi => by
    split at hi
    · exact ha a hi
    · cases hi
  apt := fun i j a hi hj => by
    split at hi
    · split at hj
      · omega
      · cases hj
    · cases hi
  old := fun a _ f => f
  oldH := fun a h => h
  keep := fun a o h _ => h
  f0 := Same.refl _
  tup := t
theorem left_of {c : Addr} {W fp : List Addr} {xx : Zx} {ρ : Env} {σ : L2.St} {F' H' : Hp} {O : Nat → List Addr} (R : Rel K ⟨H, F, fun a => a ∈ W, c, fp, xx⟩ ρ σ F' H' O) : Left F H F' H' W :=
  ⟨R.f0, R.sub, R.tup, fun a o n h => R.keep a o h n, R.oldH, R.old⟩
theorem obAt_of {m : Nat} {ρ : Env} {fs : List (Str × Fd)} (h : obAt m ρ = some fs) : obL ρ[0]? = some (m, fs) := by
  obtain ⟨⟨m', fs'⟩, h1, h2⟩ := bind_some h
  split at h2
  · next e =>
    cases h2
    have e : m' = m := e
    rw [h1, e]
  · cases h2
variable {P : Program} {w : World} {mg : Str → Option Value} {base : Heap}
theorem ok_M {c : Addr} {x qual : Str} {st : Stmt} {f : Addr} {fd : FuncData} {N ps : List Str} {k : Nat} {g : Gs} (F : Fun K x qual st f fd) (S : FnScope N ps (defScope st)) (hN : 0 < N.length)
    (h : ∀ (cdv : Value) (A : Around) (outer : List PySem.Env) (s : Shared) (H : Hp) (E : XK) (z : Z), z.cl = c → Room k (A.deeper (envOfC qual (defScope st) s.heap.objs.size f cdv)) → PSs (cxOf CX0 P w K mg base N qual (defScope st) f cdv A outer s H E).nox (defBody st) (tS K z g)) :
    FnOk P w K mg base CX0 (k + 1) f fd ps (spM K c (runM N.length ps.length g)) := by
  refine F.ok S (fun vs H Q E h => ?_) (fun cdv A outer s H vs Q E hr q => ?_)
  · obtain ⟨F, p, as, fs, vs', ds, e, fs', e1, _, _, _, r, e, _⟩ := h
    unfold runM at e
    split at e
    · next hl => rw [e1, List.length_cons, r.length]; exact hl
    · cases e
  · obtain ⟨F, p, as, fs, vs', ds, e0, fs', e1, ⟨s0, t0⟩, ha, ob, r, e, q⟩ := q
    subst e1
    refine ⟨_, h cdv A outer s H E ⟨H, F, fun a => a ∈ as, c, as, Zx.no⟩ rfl hr, ?_⟩
    unfold runM at e
    split at e
    · obtain ⟨⟨fl, ρ'⟩, h1, e⟩ := bind_some e
      obtain ⟨d', h2, e⟩ := bind_some e
      obtain ⟨fs2, h3, e⟩ := map_some e
      cases e
      refine ⟨_, F, _, fl, ρ', rel_startM (by decide) hN s0 t0 ha ob r, h1, ?_⟩
      have go : ∀ {v : V} {σ : L2.St} {F' H' : Hp} {O : Nat → List Addr}, Rel K ⟨H, F, fun a => a ∈ as, c, as, Zx.no⟩ ρ' σ F' H' O → Rep K F' v d' → Q v H' := fun {v σ F' H' O} R rv => by
        obtain ⟨p', _, ob', may⟩ := obL_of R (obAt_of h3)
        have ea : O 0 = as := may.2.1 rfl
        rw [ea] at ob'
        have ep : p' = p := by
          obtain ⟨_, _, _, q1, _⟩ := ob
          obtain ⟨_, _, _, q2, _⟩ := ob'
          rw [q1] at q2
          exact (List.cons.inj q2).1.symm
        subst ep
        exact q v F' H' [] (left_of R) ob' ⟨rfl, rfl, rv⟩ fun a ha => by cases ha
      cases fl with
      | nx =>
        cases h2
        exact fun σ F' H' O R s => go R .non
      | bk => cases h2
      | ct => cases h2
      | ret d2 =>
        cases h2
        exact fun v σ F' H' O R s r => go R r
    · cases e
theorem ok_Mx {c : Addr} {x qual : Str} {st : Stmt} {f : Addr} {fd : FuncData} {N ps : List Str} {k : Nat} {g : Gs} (F : Fun K x qual st f fd) (S : FnScope N ps (defScope st)) (hN : 0 < N.length)
    (h : ∀ (cdv : Value) (A : Around) (outer : List PySem.Env) (s : Shared) (H : Hp) (E : XK) (z : Z), z.cl = c → Room k (A.deeper (envOfC qual (defScope st) s.heap.objs.size f cdv)) → PSs (cxOf CX0 P w K mg base N qual (defScope st) f cdv A outer s H E).nox (defBody st) (tS K z g)) :
    FnOk P w K mg base CX0 (k + 1) f fd ps (spMx K c (runMx N.length ps.length g)) := by
  refine F.ok S (fun vs H Q E h => ?_) (fun cdv A outer s H vs Q E hr q => ?_)
  · obtain ⟨F, p, as, fs, vs', ds, fs', e1, _, _, _, r, e, _⟩ := h
    unfold runMx at e
    split at e
    · next hl => rw [e1, List.length_cons, r.length]; exact hl
    · cases e
  · obtain ⟨F, p, as, fs, vs', ds, fs', e1, ⟨s0, t0⟩, ha, ob, r, e, q⟩ := q
    subst e1
    refine ⟨_, h cdv A outer s H E ⟨H, F, fun a => a ∈ as, c, as, Zx.no⟩ rfl hr, ?_⟩
    unfold runMx at e
    split at e
    · obtain ⟨⟨fl, ρ'⟩, h1, e⟩ := bind_some e
      obtain ⟨d', h2, e⟩ := bind_some e
      split at e
      · refine ⟨_, F, _, fl, ρ', rel_startM (by decide) hN s0 t0 ha ob r, h1, ?_⟩
        have go : ∀ {σ : L2.St} {F' H' : Hp} {O : Nat → List Addr}, Rel K ⟨H, F, fun a => a ∈ as, c, as, Zx.no⟩ ρ' σ F' H' O → Q .non H' := fun {σ F' H' O} R => by
          obtain ⟨p', _, ob', may⟩ := obL_of R (obAt_of e)
          have ep : p' = p := by
            have q1 : as.head? = some p' := may.2.2.1 rfl
            obtain ⟨_, _, _, q2, _⟩ := ob
            rw [q2] at q1
            exact (Option.some.inj q1).symm
          subst ep
          exact q F' H' (O 0) (left_of R) ob' fun a ha => ⟨(R.off 0 a ha).1, (R.off 0 a ha).2, (may.1 a ha).symm⟩
        cases fl with
        | nx => exact fun σ F' H' O R s => go R
        | bk => cases h2
        | ct => cases h2
        | ret d2 =>
          cases h2
          exact fun v σ F' H' O R s r => by
            cases r
            exact go R
      · cases e
    · cases e
/-- a method that reads alone: all that stands is shared meanwhile -/
theorem rel_startO {N : List Str} {p C dx : Addr} {xs : List (Str × V)} {vs : List V} {ds : List D} {fs : List (Str × D)} (hN : 0 < N.length) (hp : H p = some (.ins C dx xs)) (oc : OkC K C (fs.map (·.1))) (en : xs.map (·.1) = fs.map (·.1)) (rf : RepL K H (xs.map (·.2)) (fs.map (·.2))) (r : RepL K H vs ds) :
    Rel K ⟨H, H, fun _ => False, 0, [], Zx.no⟩ (some (.obs fs) :: ini (N.length - 1) ds) (L2.start N (.ref p :: vs)) H H (fun _ => []) where
  len := by
    unfold ini L2.start
    simp only [List.length_append, List.length_map, List.length_replicate, List.length_cons, r.length]
    omega
  sub := Same.refl _
  ent := fun i e h => by
    cases i with
    | zero =>
      cases h
      exact ⟨.ref p, rfl, rfl, p, C, dx, xs, rfl, hp, oc, en, rf⟩
    | succ i =>
      have h : (ini (N.length - 1) ds)[i]? = some (some e) := h
      obtain ⟨d, h1, h2⟩ := ini_get h
      subst h2
      obtain ⟨v, h3, h4⟩ := r.get h1
      exact ⟨v, start_get (by simpa using h3), rfl, h4⟩
  off := fun i a hi => by cases hi
  apt := fun i j a hi hj => by cases hi
  old := fun a _ f => f
  oldH := fun a h => h
  keep := fun a o h _ => h
  f0 := Same.refl _
  tup := AllT.refl _
end
end DL
namespace DL
open PySem PySem.Spec PyProof.Rows L2
structure CalM (P : Program) (w : World) (K : PySem.W.Frag) (mg : Str → Option Value) (base : Heap) (k : Nat) (C : Addr) (m : Str) (sp : Sp) : Prop where
  cls : Cls K C
  ex : ∃ (f : Addr) (fd : FuncData) (ps : List Str), FnOk P w K mg base CX0 k f fd ps sp ∧ Meth K C m f ∧ Binds K fd ps []
theorem CalM.mono {P : Program} {w : World} {K : PySem.W.Frag} {mg : Str → Option Value} {base : Heap} {j k : Nat} {C : Addr} {m : Str} {sp : Sp} (c : CalM P w K mg base j C m sp) (h : j ≤ k) : CalM P w K mg base k C m sp := by
  obtain ⟨f, fd, ps, F, h1, h2⟩ := c.ex
  exact ⟨c.cls, f, fd, ps, F.mono h, h1, h2⟩
theorem fdF_none : ∀ {fs : List (Str × Fd)} {xs : List (Str × V)} {nm : Str}, fdF nm fs = none → xs.map (·.1) = fs.map (·.1) → xs.lookup nm = none
  | [], [], _, _, _ => rfl
  | [], _ :: _, _, _, e => by cases e
  | _ :: _, [], _, _, e => by cases e
  | (g, x) :: fs, (g', v) :: xs, nm, h, e => by
    simp only [List.map_cons, List.cons.injEq] at e
    obtain ⟨e1, e2⟩ := e
    subst e1
    unfold fdF at h
    rw [lookup_cons']
    split at h
    · cases h
    · next q =>
      rw [if_neg q]
      exact fdF_none h e2
section
variable {K : PySem.W.Frag} {z : Z} {ρ : Env} {σ : L2.St} {F H : Hp} {O : Nat → List Addr}
theorem Rel.meth {i m : Nat} {p : Addr} {fs fs' : List (Str × Fd)} {F' H' : Hp} (R : Rel K z ρ σ F H O) (h0 : obL ρ[i]? = some (m, fs)) (s1 : σ[i]? = some (some (.ref p))) (may : May z m p (O i)) (L : Left F H F' H' (O i)) (ob : Ob K F' H' z.cl p fs' (O i)) :
    Rel K z (ρ.set i (some (.ob m fs'))) σ F' H' O := by
  have hi := obL_eq h0
  have hlt : i < ρ.length := (List.getElem?_eq_some_iff.mp hi).1
  refine R.leave L (by rw [List.length_set]) (fun k e hk => ?_) (fun k a ha => .inl ha) may.1
  by_cases q : k = i
  · subst q
    rw [List.getElem?_set_self hlt] at hk
    cases hk
    exact .inr ⟨_, s1, ob.ent may⟩
  · rw [List.getElem?_set_ne (Ne.symm q)] at hk
    exact .inl ⟨hk, rfl, fun a ha hw => q (R.apt k i a ha hw)⟩
end
def methE (i : Nat) (nm : Str) (mm : List (Str × Fd) → List D → Option (E × List (Str × Fd))) (f : Env → Option (List D)) : Env → Option (E × Env) := fun ρ => (obL ρ[i]?).bind fun q => match fdF nm q.2 with
  | none => (f ρ).bind fun ds => (mm q.2 ds).map fun r => (r.1, ρ.set i (some (.ob q.1 r.2)))
  | some _ => none
def shE (f : Env → Option (E × Env)) : Env → Option (D × Env) := fun ρ => (f ρ).bind fun p => match p.1 with
  | .sh d => some (d, p.2)
  | _ => none
def okW (f : Env → Option (E × Env)) : Env → Option (E × Env) := fun ρ => (f ρ).bind fun p => if okV p.1 then some p else none
def wO (f : Env → Option E) : Env → Option (E × Env) := fun ρ => (f ρ).map fun e => (e, ρ)
section
variable {X : Cx} {z : Z} {C : Addr} {k j : Nat} {x nm : Str}
/-- what a method's call asks, by its promise -/
theorem methE_in {mm : List (Str × Fd) → List D → Option (E × List (Str × Fd))} {i : Nat} {f : Env → Option (List D)} {ta : TA} (ht : ∀ σ H Q, tPs X.K z f σ H Q → ta σ H Q) {σ : L2.St} {H : Hp} {Q : VK} (hz : z.cl = C)
    (h : ∃ ρ F O e ρ', Rel X.K z ρ σ F H O ∧ methE i nm mm f ρ = some (e, ρ') ∧ ∀ v F' H' asv, Rel X.K z ρ' σ F' H' O → Kp F H F' H' O → EntV X.K F' H' v e asv → (∀ a ∈ asv, H a = none ∧ F' a = none ∧ H' a ≠ none) → Q v H') :
    tMeth C nm (spM X.K C mm) [] E0 (fun σ H Q => ∃ v, σ[i]? = some (some v) ∧ Q v H) ta σ H Q := by
  subst hz
  obtain ⟨ρ, F, O, e, ρ', R, e1, q⟩ := h
  obtain ⟨⟨m, fs⟩, h0, e1⟩ := bind_some e1
  dsimp only at e1
  split at e1
  · next hf =>
    obtain ⟨ds, h1, e1⟩ := bind_some e1
    obtain ⟨⟨en, fs'⟩, h2, e1⟩ := map_some e1
    cases e1
    obtain ⟨p, s1, ob, may⟩ := obL_of R h0
    obtain ⟨dx, xs, as', g1, g2, g3, g4, g5⟩ := ob
    refine ⟨_, s1, p, dx, xs, rfl, g2, fdF_none hf g5.names, ht _ _ _ ⟨ρ, F, O, ds, R, h1, fun vs H1 sm r => ?_⟩⟩
    have R1 := R.grow sm
    obtain ⟨p', s1', ob1, may1⟩ := obL_of R1 h0
    have ep := s1.symm.trans s1'
    cases ep
    show spM X.K z.cl mm (.ref p :: (vs ++ [])) H1 Q E0
    rw [List.append_nil]
    refine ⟨_, p, O i, fs, vs, ds, en, fs', rfl, ⟨R1.sub, R1.tup⟩, fun a ha => R1.off i a ha, ob1, r, h2, fun v F' H' asv L ob' ev hf => ?_⟩
    exact q v F' H' asv (R1.meth h0 s1 may1 L ob') ((Kp.of_same R.sub sm).trans (L.kp fun a ha => ⟨i, ha⟩)) ev fun a ha => ⟨(Kp.of_same (O := O) R.sub sm).none_back (hf a ha).1, (hf a ha).2.1, (hf a ha).2.2⟩
  · cases e1
theorem shE_in {g : Env → Option (E × Env)} {σ : L2.St} {H : Hp} {Q : VK} (h : tR X.K z (shE g) σ H Q) : ∃ ρ F O e ρ', Rel X.K z ρ σ F H O ∧ g ρ = some (e, ρ') ∧ ∀ v F' H' asv, Rel X.K z ρ' σ F' H' O → Kp F H F' H' O → EntV X.K F' H' v e asv → (∀ a ∈ asv, H a = none ∧ F' a = none ∧ H' a ≠ none) → Q v H' := by
  obtain ⟨ρ, F, O, d, ρ', R, e, q⟩ := h
  obtain ⟨⟨en, ρ1⟩, h1, h2⟩ := bind_some e
  dsimp only at h2
  split at h2
  · cases h2
    exact ⟨ρ, F, O, _, _, R, h1, fun v F' H' asv R' k ev _ => q v F' H' R' k ev.2.2⟩
  · cases h2
theorem m_meth (i : Nat) {p0 pos apos : Pos} {e : Expr} {es : List Expr} {mm : List (Str × Fd) → List D → Option (E × List (Str × Fd))} {f : Env → Option (List D)} (hz : z.cl = C) (c : CalM X.prog X.w X.K X.mg X.base k C nm (spM X.K C mm)) (hr : Room j X.A) (hk : k ≤ j) (ha : PA X (e :: es) (tPs X.K z f))
    (hN : X.N[i]? = some x := by rfl) (hv : Vis X.env.scope x := by first | exact Or.inl rfl | exact Or.inr (Or.inl rfl) | exact Or.inr (Or.inr rfl)) (hd : (x == ("__debug__" : Str)) = false := by decide) (hcd : (x == ("__classdict__" : Str)) = false := by decide)
    (hst : starEach (e :: es) X.env = (false, eval e X.env) :: starEach es X.env := by rfl) (hpl : (backTo pos (starEach es X.env)).any (·.1) = false := by rfl) {pl : Sem Bool}
    (ht : eval (.Call (.Attribute (.Name x p0) nm apos) (e :: es) [] pos) X.env = (do
      let ov ← eval (.Name x p0) X.env
      standAt apos.atName
      let (f, first) ← holding [ov] (getMethod ov nm pl)
      callWith pos f first (backTo pos (starEach (e :: es) X.env)) (backToKw pos (keywordEach [] X.env))) := by rfl) :
    PE X (.Call (.Attribute (.Name x p0) nm apos) (e :: es) [] pos) (fun σ H Q => ∃ ρ F O e ρ', Rel X.K z ρ σ F H O ∧ methE i nm mm f ρ = some (e, ρ') ∧ ∀ v F' H' asv, Rel X.K z ρ' σ F' H' O → Kp F H F' H' O → EntV X.K F' H' v e asv → (∀ a ∈ asv, H a = none ∧ F' a = none ∧ H' a ≠ none) → Q v H') := by
  obtain ⟨g, fd, ps, F, h1, h2⟩ := c.ex
  exact (pe_meth (dvs := []) (pe_var hN hv hd hcd) c.cls h1 F (hr.mono hk) h2 .nil pass0 ha hst hpl ht).mono fun σ H Q h => methE_in (fun _ _ _ h => h) hz h
/-- a method's value, shared; a method's value, new -/
theorem r_of {e : Expr} {g : Env → Option (E × Env)} (h : PE X e (fun σ H Q => ∃ ρ F O e ρ', Rel X.K z ρ σ F H O ∧ g ρ = some (e, ρ') ∧ ∀ v F' H' asv, Rel X.K z ρ' σ F' H' O → Kp F H F' H' O → EntV X.K F' H' v e asv → (∀ a ∈ asv, H a = none ∧ F' a = none ∧ H' a ≠ none) → Q v H')) : PE X e (tR X.K z (shE g)) := h.mono fun σ H Q h => shE_in h
theorem Rel.grow2 {K : PySem.W.Frag} {ρ : Env} {σ : L2.St} {F H F' H' : Hp} {O : Nat → List Addr} (R : Rel K z ρ σ F H O) (s : Same H H') (sF : Same F F') (sH : Same F' H') (t : AllT F' H') (ou : ∀ a, H a ≠ none → F a = none → F' a = none) : Rel K z ρ σ F' H' O :=
  R.leave (W := []) ⟨sF, sH, t, fun a o _ h => s _ _ h, fun a h => by
    obtain ⟨o, q⟩ := some_of h
    exact ne_none (s _ _ q), ou⟩ rfl (fun k e h => .inl ⟨h, rfl, fun _ _ q => by cases q⟩) (fun k a ha => .inl ha) fun a ha => by cases ha
def wMake (mm : List (Str × Fd) → List D → Option (List (Str × Fd))) (f : Env → Option (List D)) : Env → Option (E × Env) := fun ρ => (f ρ).bind fun ds => (mm [] ds).map fun fs' => (.ob 0 fs', ρ)
theorem w_make {f : Addr} {fd : FuncData} {ps : List Str} {p pos : Pos} {e : Expr} {es : List Expr} {mm : List (Str × Fd) → List D → Option (List (Str × Fd))} {fa : Env → Option (List D)} (hz : z.cl = C) (cl : Cls X.K C) (M : Mk X.K C f) (G : FnOk X.prog X.w X.K X.mg X.base CX0 k f fd ps (spMx X.K C mm)) (hb : Binds X.K fd ps []) (hr : Room j X.A) (hk : k + 1 ≤ j) (hg : Gl X x) (hm : X.mg x = some (.ref C))
    (ha : PA X (e :: es) (tPs X.K z fa)) (hdb : (x == ("__debug__" : Str)) = false := by decide) (he : starEach (e :: es) X.env = (false, eval e X.env) :: starEach es X.env := by rfl) (hpl : (backTo pos (starEach es X.env)).any (·.1) = false := by rfl) :
    PE X (.Call (.Name x p) (e :: es) [] pos) (tW X.K z (wMake mm fa)) := by
  subst hz
  refine (pe_make (dvs := []) M G (hr.mono hk) hg hm hb .nil pass0 ha hdb he hpl).mono fun σ H Q ⟨ρ, F, O, en, ρ', R, e1, q⟩ => ?_
  obtain ⟨ds, h1, e1⟩ := bind_some e1
  obtain ⟨fs', h2, e1⟩ := map_some e1
  cases e1
  refine ⟨ρ, F, O, ds, R, h1, fun vs H1 sm r p dx hp hdx nd => ?_⟩
  have R1 := R.grow sm
  show spMx X.K z.cl mm (.ref p :: (vs ++ [])) _ _ E0
  rw [List.append_nil]
  have f1 : ext F H H1 p = none := R1.sub.free hp
  have f2 : ext F H H1 dx = none := R1.sub.free hdx
  have up : ∀ a, a ≠ p → a ≠ dx → upd (upd H1 dx (.own p)) p (.ins z.cl dx []) a = H1 a := fun a n1 n2 => by rw [upd_ne n1, upd_ne n2]
  refine ⟨_, p, [p], [], vs, ds, fs', rfl, ⟨fun a o h => ?_, (R1.tup.up (by intro _ q; cases q)).up (by intro _ q; cases q)⟩, fun a ha => ?_, ⟨dx, [], [], rfl, upd_same, ⟨cl, fun n hn => by cases hn⟩, by simp, .nil⟩, r, h2, fun F' H' as' L ob hf => ⟨rfl, ?_⟩⟩
  · rw [up a (ne_of_none h f1) (ne_of_none h f2)]
    exact R1.sub _ _ h
  · rcases List.mem_cons.mp ha with e | e
    · rw [e, upd_same]
      exact ⟨f1, fun z => nomatch z⟩
    · cases e
  · have s1 : Same H1 H' := fun a o h => by
      refine L.keep a o (fun e => ?_) ?_
      · rcases List.mem_cons.mp e with e | e
        · rw [e, hp] at h
          cases h
        · cases e
      · rw [up a (ne_of_none h hp) (ne_of_none h hdx)]
        exact h
    have ou : ∀ a, H1 a ≠ none → ext F H H1 a = none → F' a = none := fun a h f => by
      obtain ⟨o, q⟩ := some_of h
      refine L.out a ?_ f
      rw [up a (ne_of_none q hp) (ne_of_none q hdx)]
      exact h
    have R2 := R1.grow2 s1 L.same L.sub L.tup ou
    have new : ∀ a ∈ as', H1 a = none := fun a ha => by
      rcases (hf a ha).2.2 with e | e
      · rcases List.mem_cons.mp e with e | e
        · rw [e]
          exact hp
        · cases e
      · cases y : H1 a with
        | none => rfl
        | some o =>
          rw [up a (ne_of_none y hp) (ne_of_none y hdx), y] at e
          cases e
    have k1 : Kp (ext F H H1) H1 F' H' O := ⟨L.same, fun a o h _ => s1 _ _ h, ou, fun a h => by
      obtain ⟨o, q⟩ := some_of h
      exact ne_none (s1 _ _ q)⟩
    refine q _ F' H' as' R2 ((Kp.of_same R.sub sm).trans k1) (ob.ent ⟨fun a ha => .inl (H0_of R1 (new a ha)), (fun e => by cases e), (fun e => by cases e), fun _ a ha => H0_of R1 (new a ha)⟩) fun a ha => ⟨(Kp.of_same (O := O) R.sub sm).none_back (new a ha), (hf a ha).1, (hf a ha).2.1⟩
end
end DL
namespace DL
open PySem PySem.Spec PyProof.Rows L2
def frzFd (nm : Str) : List (Str × Fd) → List (Str × Fd)
  | [] => []
  | (g, x) :: r => if g = nm then (match x with | .own d => (g, .sh d) :: r | _ => (g, x) :: r) else (g, x) :: frzFd nm r
section
variable {K : PySem.W.Frag} {z : Z} {ρ : Env} {σ : L2.St} {F H : Hp} {O : Nat → List Addr}
theorem Fds.frz : ∀ {xs : List (Str × V)} {fs : List (Str × Fd)} {as : List Addr} (nm : Str), Fds K F H xs fs as → as.Nodup → (∀ a ∈ as, F a = none) →
    ∃ F' as', Same F F' ∧ (∀ a, F' a ≠ F a → a ∈ as ∧ a ∉ as' ∧ F' a = H a) ∧ Fds K F' H xs (frzFd nm fs) as' ∧ as'.Sublist as
  | _, _, _, _, .nil, _, _ => ⟨F, [], Same.refl _, fun a h => absurd rfl h, .nil, .refl _⟩
  | _, _, _, nm, .sh (n := n) r t, hn, hF => by
    unfold frzFd
    split
    · exact ⟨F, _, Same.refl _, fun a h => absurd rfl h, .sh r t, .refl _⟩
    · obtain ⟨F', as', s, c, q, sb⟩ := Fds.frz nm t hn hF
      exact ⟨F', as', s, c, .sh (r.mono s) q, sb⟩
  | _, _, _, nm, .own (n := n) (p := p) (d := d) (as := as) o t, hn, hF => by
    obtain ⟨n1, n2⟩ := List.nodup_cons.mp hn
    unfold frzFd
    split
    · have fp := hF p List.mem_cons_self
      cases d with
      | list ds =>
        obtain ⟨vs, h1, h2⟩ := o
        refine ⟨upd F p (.lst vs), as, same_new fp, fun a ha => ?_, .sh (.lst (.of upd_same) (h2.mono (same_new fp))) (t.mono (same_new fp) fun _ _ => rfl), List.sublist_cons_self _ _⟩
        by_cases e : a = p
        · rw [e, upd_same]
          exact ⟨List.mem_cons_self, n1, h1.symm⟩
        · rw [upd_ne e] at ha
          exact absurd rfl ha
      | _ => exact o.elim
    · obtain ⟨F', as', s, c, q, sb⟩ := Fds.frz nm t n2 fun a ha => hF a (List.mem_cons_of_mem _ ha)
      exact ⟨F', p :: as', s, fun a ha => ⟨List.mem_cons_of_mem _ (c a ha).1, fun h => by
        rcases List.mem_cons.mp h with e | e
        · exact n1 (e ▸ (c a ha).1)
        · exact (c a ha).2.1 e, (c a ha).2.2⟩, .own (o.mono s rfl) q, sb.cons_cons p⟩
  | _, _, _, nm, .own2 (n := n) (p := p) (qs := qs) (as := as) h0 o t, hn, hF => by
    obtain ⟨n1, n2⟩ := List.nodup_cons.mp hn
    obtain ⟨n3, n4, n5⟩ := List.nodup_append.mp n2
    unfold frzFd
    split
    · exact ⟨F, _, Same.refl _, fun a h => absurd rfl h, .own2 h0 o t, .refl _⟩
    · obtain ⟨F', as', s, c, q, sb⟩ := Fds.frz nm t n4 fun a ha => hF a (List.mem_cons_of_mem _ (List.mem_append_right _ ha))
      refine ⟨F', p :: (qs ++ as'), s, fun a ha => ⟨List.mem_cons_of_mem _ (List.mem_append_right _ (c a ha).1), fun h => ?_, (c a ha).2.2⟩, .own2 h0 (o.mono s fun _ _ => rfl) q, (sb.append_left qs).cons_cons p⟩
      rcases List.mem_cons.mp h with e | e
      · exact n1 (by rw [← e]; exact List.mem_append_right _ (c a ha).1)
      · rcases List.mem_append.mp e with e | e
        · exact n5 a e a (c a ha).1 rfl
        · exact (c a ha).2.1 e
end
end DL
namespace DL
open PySem PySem.Spec PyProof.Rows L2
section
variable {P : Program} {w : World} {K : PySem.W.Frag} {mg : Str → Option Value} {base : Heap}
theorem ok_Pc {c : Addr} {x qual : Str} {st : Stmt} {f : Addr} {fd : FuncData} {N ps : List Str} {k : Nat} {g : Gs} (F : Fun K x qual st f fd) (S : FnScope N ps (defScope st))
    (h : ∀ (cdv : Value) (A : Around) (outer : List PySem.Env) (s : Shared) (H : Hp) (E : XK) (z : Z), z.cl = c → Room k (A.deeper (envOfC qual (defScope st) s.heap.objs.size f cdv)) → PSs (cxOf CX0 P w K mg base N qual (defScope st) f cdv A outer s H E).nox (defBody st) (tS K z g)) :
    FnOk P w K mg base CX0 (k + 1) f fd ps (spP K (run N.length ps.length g)) := by
  refine F.ok S (fun vs H Q E h => ?_) (fun cdv A outer s H vs Q E hr q => ?_)
  · obtain ⟨F, ds, d, _, r, e, _⟩ := h
    rw [r.length]
    exact run_len e
  · obtain ⟨F, ds, d, ⟨s0, t0⟩, r, e, q⟩ := q
    refine ⟨_, h cdv A outer s H E ⟨H, F, fun _ => False, c, [], Zx.no⟩ rfl hr, ?_⟩
    unfold run at e
    split at e
    · obtain ⟨⟨fl, ρ'⟩, h1, h2⟩ := bind_some e
      refine ⟨_, F, _, fl, ρ', rel_start s0 t0 r, h1, ?_⟩
      cases fl with
      | nx =>
        cases h2
        exact fun σ F' H' O R s => q .non H' (fun a o h => R.keep a o h id) .non
      | bk => cases h2
      | ct => cases h2
      | ret d2 =>
        cases h2
        exact fun v σ F' H' O R s r => q v H' (fun a o h => R.keep a o h id) (r.mono (end_sub s0 R))
    · cases e
theorem okPc {c : Addr} {x qual : Str} {st : Stmt} {f : Addr} {fd : FuncData} {N ps : List Str} {k : Nat} {g : Gs} (a b : Nat) (F : Fun K x qual st f fd) (S : FnScope N ps (defScope st)) (ha : N.length = a) (hb : ps.length = b)
    (h : ∀ (cdv : Value) (A : Around) (outer : List PySem.Env) (s : Shared) (H : Hp) (E : XK) (z : Z), z.cl = c → Room k (A.deeper (envOfC qual (defScope st) s.heap.objs.size f cdv)) → PSs (cxOf CX0 P w K mg base N qual (defScope st) f cdv A outer s H E).nox (defBody st) (tS K z g)) :
    FnOk P w K mg base CX0 (k + 1) f fd ps (spP K (run a b g)) := by
  subst ha hb
  exact ok_Pc F S h
theorem okM {c : Addr} {x qual : Str} {st : Stmt} {f : Addr} {fd : FuncData} {N ps : List Str} {k : Nat} {g : Gs} (a b : Nat) (F : Fun K x qual st f fd) (S : FnScope N ps (defScope st)) (ha : N.length = a) (hb : ps.length = b) (hN : 0 < a)
    (h : ∀ (cdv : Value) (A : Around) (outer : List PySem.Env) (s : Shared) (H : Hp) (E : XK) (z : Z), z.cl = c → Room k (A.deeper (envOfC qual (defScope st) s.heap.objs.size f cdv)) → PSs (cxOf CX0 P w K mg base N qual (defScope st) f cdv A outer s H E).nox (defBody st) (tS K z g)) :
    FnOk P w K mg base CX0 (k + 1) f fd ps (spM K c (runM a b g)) := by
  subst ha hb
  exact ok_M F S hN h
theorem okMx {c : Addr} {x qual : Str} {st : Stmt} {f : Addr} {fd : FuncData} {N ps : List Str} {k : Nat} {g : Gs} (a b : Nat) (F : Fun K x qual st f fd) (S : FnScope N ps (defScope st)) (ha : N.length = a) (hb : ps.length = b) (hN : 0 < a)
    (h : ∀ (cdv : Value) (A : Around) (outer : List PySem.Env) (s : Shared) (H : Hp) (E : XK) (z : Z), z.cl = c → Room k (A.deeper (envOfC qual (defScope st) s.heap.objs.size f cdv)) → PSs (cxOf CX0 P w K mg base N qual (defScope st) f cdv A outer s H E).nox (defBody st) (tS K z g)) :
    FnOk P w K mg base CX0 (k + 1) f fd ps (spMx K c (runMx a b g)) := by
  subst ha hb
  exact ok_Mx F S hN h
end
end DL
namespace DL
open PySem PySem.Spec PyProof.Rows L2
end DL
namespace DL
open PySem PySem.Spec PyProof.Rows L2
end DL
namespace DL
open PySem PySem.Spec PyProof.Rows L2
end DL
namespace DL
open PySem PySem.Spec PyProof.Rows L2
end DL
namespace DL
open PySem PySem.Spec PyProof.Rows L2
section
variable {K : PySem.W.Frag} {F F' H H' : Hp}
theorem Ob.mono {c p : Addr} {fs : List (Str × Fd)} {as : List Addr} (h : Ob K F H c p fs as) (s : Same F F') (k : ∀ a ∈ as, H' a = H a) : Ob K F' H' c p fs as := by
  obtain ⟨dx, xs, as', e2, h2, h3, h4, h6⟩ := h
  subst e2
  exact ⟨dx, xs, as', rfl, (k p List.mem_cons_self).trans h2, h3, h4, h6.mono s fun a ha => k a (List.mem_cons_of_mem _ ha)⟩
end
end DL
namespace DL
open PySem PySem.Spec PyProof.Rows L2
inductive Oc where
  | ok (d : D)
  | er (e : Er)
/-- the error's own dict -/
def FldOk (K : PySem.W.Frag) (F : Hp) (d : Option Addr) : Option (Str × D) → Prop
  | none => d = none
  | some (f, v) => ∃ dd x, d = some dd ∧ F dd = some (.xd [(f, x)]) ∧ Rep K F x v
def ErOk (K : PySem.W.Frag) (mg : Str → Option Value) (F : Hp) (e : Er) (cls : Value) (d : Option Addr) : Prop := mg e.cls = some cls ∧ FldOk K F d e.fld
theorem ErOk.mono {K : PySem.W.Frag} {mg : Str → Option Value} {F F' : Hp} {e : Er} {cls : Value} {d : Option Addr} (h : ErOk K mg F e cls d) (s : Same F F') : ErOk K mg F' e cls d := by
  refine ⟨h.1, ?_⟩
  have h2 := h.2
  cases q : e.fld with
  | none =>
    rw [q] at h2
    exact h2
  | some p =>
    rw [q] at h2
    obtain ⟨dd, x, h3, h4, h5⟩ := h2
    exact ⟨dd, x, h3, s _ _ h4, h5.mono s⟩
def FinO (K : PySem.W.Frag) (mg : Str → Option Value) (F H : Hp) (Q : VK) (E : XK) : Oc → Prop
  | .ok d => ∀ v H', Same H H' → Rep K (ext F H H') v d → Q v H'
  | .er e => ∀ cls d H', Same H H' → ErOk K mg (ext F H H') e cls d → E cls d H'
def spX (K : PySem.W.Frag) (mg : Str → Option Value) (m : List D → Option Oc) : Sp := fun vs H Q E => ∃ F ds r, (Same F H ∧ AllT F H) ∧ RepL K F vs ds ∧ m ds = some r ∧ FinO K mg F H Q E r
abbrev Ex := Env → Option (Oc × Env)
def FinE (K : PySem.W.Frag) (z : Z) (mg : Str → Option Value) (F H : Hp) (O : Nat → List Addr) (σ : L2.St) (W : WX) (Q : VK) (ρ : Env) : Oc → Prop
  | .ok d => ∀ v F' H', Rel K z ρ σ F' H' O → Kp F H F' H' O → Rep K F' v d → Q v H'
  | .er e => ∀ cls d F' H', Rel K z ρ σ F' H' O → Kp F H F' H' O → ErOk K mg F' e cls d → W cls d σ H'
def tRx (K : PySem.W.Frag) (z : Z) (mg : Str → Option Value) (W : WX) (f : Ex) : TE := fun σ H Q => ∃ ρ F O r ρ', Rel K z ρ σ F H O ∧ f ρ = some (r, ρ') ∧ FinE K z mg F H O σ W Q ρ' r
def eOf (f : Env → Option (D × Env)) : Ex := fun ρ => (f ρ).map fun p => (.ok p.1, p.2)
def eCall (m : List D → Option Oc) (f : Env → Option (List D × Env)) : Ex := fun ρ => (f ρ).bind fun p => (m p.1).map fun r => (r, p.2)
/-- a def that may be called by its name, and may raise -/
structure CalX (P : Program) (w : World) (K : PySem.W.Frag) (mg : Str → Option Value) (base : Heap) (k : Nat) (x : Str) (sp : Sp) : Prop where
  ex : ∃ (f : Addr) (fd : FuncData) (ps : List Str), FnOk P w K mg base (L2.CX P w) k f fd ps sp ∧ mg x = some (.ref f) ∧ PySem.W.keepIn K (.ref f) = true ∧ Binds K fd ps []
section
variable {P : Program} {w : World} {K : PySem.W.Frag} {mg : Str → Option Value} {base : Heap} {k j : Nat} {x : Str} {sp : Sp}
theorem CalX.mono (c : CalX P w K mg base j x sp) (h : j ≤ k) : CalX P w K mg base k x sp := by
  obtain ⟨f, fd, ps, F, h1, h2, h3⟩ := c.ex
  exact ⟨f, fd, ps, F.mono h, h1, h2, h3⟩
end
theorem FinO.toE {K : PySem.W.Frag} {z : Z} {mg : Str → Option Value} {F H F1 H1 : Hp} {O : Nat → List Addr} {σ : L2.St} {W : WX} {Q : VK} {ρ : Env} {r : Oc} (R1 : Rel K z ρ σ F1 H1 O) (k1 : Kp F H F1 H1 O) (h : FinE K z mg F H O σ W Q ρ r) : FinO K mg F1 H1 Q (fun cls d H' => W cls d σ H') r := by
  cases r with
  | ok d => exact fun v H' s r => h v _ H' (R1.grow s) (k1.trans (.of_same R1.sub s)) r
  | er e => exact fun cls d H' s r => h cls d _ H' (R1.grow s) (k1.trans (.of_same R1.sub s)) r
section
variable {X : Cx} {z : Z} {x : Str} {k j : Nat} {p pos : Pos} {e : Expr} {es : List Expr} {W : WX}
theorem e_of {f : Env → Option (D × Env)} (h : PE X e (tR X.K z f)) : PE X e (tRx X.K z X.mg W (eOf f)) := h.mono fun σ H Q ⟨ρ, F, O, r, ρ', R, e, q⟩ => by
  obtain ⟨⟨d, ρ1⟩, h1, h2⟩ := map_some e
  cases h2
  exact ⟨ρ, F, O, d, _, R, h1, q⟩
theorem e_call {m : List D → Option Oc} {f : Env → Option (List D × Env)} (tk : Takes X W) (c : CalX X.prog X.w X.K X.mg X.base k x (spX X.K X.mg m)) (hr : Room j X.A) (hk : k ≤ j) (hg : Gl X x) (ha : PA X (e :: es) (tRs X.K z f))
    (hdb : (x == ("__debug__" : Str)) = false := by decide) (he : starEach (e :: es) X.env = (false, eval e X.env) :: starEach es X.env := by rfl) (hpl : (backTo pos (starEach es X.env)).any (·.1) = false := by rfl) : PE X (.Call (.Name x p) (e :: es) [] pos) (tRx X.K z X.mg W (eCall m f)) := by
  obtain ⟨g, fd, ps, F, h1, h2, h3⟩ := c.ex
  refine (pe_callS F (hr.mono hk) hg h1 h2 h3 (fun σ => passAt tk σ) ha hdb he hpl).mono fun σ H Q ⟨ρ, F, O, r, ρ', R, e, q⟩ => ?_
  obtain ⟨⟨ds, ρ1⟩, h4, e⟩ := bind_some e
  obtain ⟨r2, h5, e⟩ := map_some e
  cases e
  exact ⟨ρ, F, O, ds, _, R, h4, fun vs F1 H1 R1 k1 r1 => ⟨F1, ds, _, ⟨R1.sub, R1.tup⟩, r1, h5, FinO.toE R1 k1 q⟩⟩
end
inductive Fx where
  | fl (f : Fl)
  | er (e : Er)
abbrev Gx := Env → Option (Fx × Env)
def FinX (K : PySem.W.Frag) (z : Z) (mg : Str → Option Value) (F : Hp) (W : WX) (D : Ends) (ρ : Env) : Fx → Prop
  | .fl f => FinS K z F D ρ f
  | .er e => ∀ cls d σ F' H O, Rel K z ρ σ F' H O → Same F F' → ErOk K mg F' e cls d → W cls d σ H
theorem FinX.from {K : PySem.W.Frag} {z : Z} {mg : Str → Option Value} {F F1 : Hp} {W : WX} {D : Ends} {ρ : Env} {r : Fx} (h : FinX K z mg F W D ρ r) (s : Same F F1) : FinX K z mg F1 W D ρ r := by
  cases r with
  | fl f => exact FinS.from h s
  | er e => exact fun cls d σ F' H O R s' => h cls d σ F' H O R (s.trans s')
def tX (K : PySem.W.Frag) (z : Z) (mg : Str → Option Value) (W : WX) (g : Gx) : TS := fun D σ H => ∃ ρ F O r ρ', Rel K z ρ σ F H O ∧ g ρ = some (r, ρ') ∧ FinX K z mg F W D ρ' r
def xF (g : Gs) : Gx := fun ρ => (g ρ).map fun p => (.fl p.1, p.2)
def xSeq (g h : Gx) : Gx := fun ρ => (g ρ).bind fun p => match p.1 with
  | .fl .nx => h p.2
  | r => some (r, p.2)
def xIf (c : Env → Option (Bool × Env)) (g h : Gx) : Gx := fun ρ => (c ρ).bind fun p => if p.1 = true then g p.2 else h p.2
def xLoop (b : D → Env → Option Env) (g : Gx) : List D → Gx
  | [], ρ => some (.fl .nx, ρ)
  | d :: r, ρ => (b d ρ).bind fun ρ1 => (g ρ1).bind fun p => match p.1 with
    | .fl .nx => xLoop b g r p.2
    | .fl .ct => xLoop b g r p.2
    | .fl .bk => some (.fl .nx, p.2)
    | .fl (.ret d) => some (.fl (.ret d), p.2)
    | .er e => some (.er e, p.2)
def xFor (it : Env → Option (List D × Env)) (b : D → Env → Option Env) (g : Gx) : Gx := fun ρ => (it ρ).bind fun p => xLoop b g p.1 p.2
def oEx (f : Ex) (g : D → Gx) : Gx := fun ρ => (f ρ).bind fun p => match p.1 with
  | .ok d => g d p.2
  | .er e => some (.er e, p.2)
def xExpr (f : Ex) : Gx := oEx f fun _ ρ => some (.fl .nx, ρ)
def xAsg (f : Ex) (b : D → Env → Option Env) : Gx := oEx f fun d ρ => (b d ρ).map fun ρ' => (.fl .nx, ρ')
section
variable {X : Cx} {z : Z} {W : WX}
theorem x_of {st : Stmt} {g : Gs} (h : PS X st (tS X.K z g)) : PS X st (tX X.K z X.mg W (xF g)) := h.mono fun D σ H ⟨ρ, F, O, r, ρ', R, e, q⟩ => by
  obtain ⟨⟨fl, ρ1⟩, h1, h2⟩ := map_some e
  cases h2
  exact ⟨ρ, F, O, fl, _, R, h1, q⟩
theorem xs_of {st : List Stmt} {g : Gs} (h : PSs X st (tS X.K z g)) : PSs X st (tX X.K z X.mg W (xF g)) := h.mono fun D σ H ⟨ρ, F, O, r, ρ', R, e, q⟩ => by
  obtain ⟨⟨fl, ρ1⟩, h1, h2⟩ := map_some e
  cases h2
  exact ⟨ρ, F, O, fl, _, R, h1, q⟩
theorem x_cons {st : Stmt} {rest : List Stmt} {g h : Gx} (h1 : PS X st (tX X.K z X.mg W g)) (h2 : PSs X rest (tX X.K z X.mg W h)) : PSs X (st :: rest) (tX X.K z X.mg W (xSeq g h)) :=
  (pss_cons h1 h2).mono fun D σ H ⟨ρ, F, O, r, ρ', R, e, q⟩ => by
    obtain ⟨⟨r1, ρ1⟩, h1, h2⟩ := bind_some e
    refine ⟨ρ, F, O, r1, ρ1, R, h1, ?_⟩
    cases r1 with
    | er e =>
      cases h2
      exact q
    | fl fl1 =>
      cases fl1 with
      | nx => exact fun σ' F' H' O' R' s => ⟨ρ1, F', O', r, ρ', R', h2, q.from s⟩
      | bk =>
        cases h2
        exact q
      | ct =>
        cases h2
        exact q
      | ret d =>
        cases h2
        exact q
theorem x_one {st : Stmt} {g : Gx} (h : PS X st (tX X.K z X.mg W g)) : PSs X [st] (tX X.K z X.mg W g) := pss_one h
theorem x_if {c : Expr} {a b : List Stmt} {pos : Pos} {tc : Env → Option (Bool × Env)} {g h : Gx} (hc : PT X c (tBR X.K z tc)) (ha : PSs X a (tX X.K z X.mg W g)) (hb : PSs X b (tX X.K z X.mg W h)) : PS X (.If c a b pos) (tX X.K z X.mg W (xIf tc g h)) :=
  (ps_if hc ha hb).mono fun D σ H ⟨ρ, F, O, r, ρ', R, e, q⟩ => by
    obtain ⟨⟨b, ρ1⟩, h1, h2⟩ := bind_some e
    refine ⟨ρ, F, O, b, ρ1, R, h1, fun F' H' R' k => ?_⟩
    cases b with
    | true => exact ⟨ρ1, F', O, r, ρ', R', h2, q.from k.same⟩
    | false => exact ⟨ρ1, F', O, r, ρ', R', h2, q.from k.same⟩
theorem oEx_in {f : Ex} {g : D → Gx} {En : Ends} {σ : L2.St} {H : Hp} (h : tX X.K z X.mg W (oEx f g) En σ H) {Q : VK}
    (hq : ∀ (d : D) ρ1 ρ' r F (v : V) F' H' O, g d ρ1 = some (r, ρ') → FinX X.K z X.mg F W En ρ' r → Rel X.K z ρ1 σ F' H' O → Same F F' → Rep X.K F' v d → Q v H') : tRx X.K z X.mg W f σ H Q := by
  obtain ⟨ρ, F, O, r, ρ', R, e, q⟩ := h
  obtain ⟨⟨o, ρ1⟩, h1, h2⟩ := bind_some e
  refine ⟨ρ, F, O, o, ρ1, R, h1, ?_⟩
  cases o with
  | ok d => exact fun v F' H' R' k r' => hq d ρ1 ρ' r F v F' H' O h2 q R' k.same r'
  | er e =>
    cases h2
    exact fun cls d F' H' R' k r' => q cls d σ F' H' O R' k.same r'
theorem x_expr {e : Expr} {pos : Pos} {f : Ex} (he : PE X e (tRx X.K z X.mg W f)) (hs : swapsWith e none pos.line X.env = pure false := by rfl) : PS X (.Expr e pos) (tX X.K z X.mg W (xExpr f)) :=
  (ps_expr he hs).mono fun D σ H h => oEx_in h fun d ρ1 ρ' r F v F' H' O e1 q R' s _ => by
    cases e1
    exact q σ F' H' O R' s
theorem x_set (i : Nat) {x : Str} {e : Expr} {pos pos' : Pos} {f : Ex} (hN : X.N.Nodup) (he : PE X e (tRx X.K z X.mg W f)) (hi : X.N[i]? = some x := by rfl) (hx : Loc X.env.scope x := by first | exact Or.inl rfl | exact Or.inr rfl)
    (hs : swapsWith e (some (.Name x pos')) pos.line X.env = pure false := by rfl) (hf : X.fn x = true ∨ X.env.scope.names.lookup x = some .local := by first | exact .inl rfl | exact .inr rfl) : PS X (.Assign [.Name x pos'] e pos) (tX X.K z X.mg W (xAsg f (bNm i))) :=
  (ps_set hN hi hx he hs hf).mono fun D σ H h => oEx_in h fun d ρ1 ρ' r F v F' H' O e1 q R' s r' => by
    cases e1
    exact q _ _ _ _ (R'.setD r') s
theorem x_for {tg iter : Expr} {body : List Stmt} {pos : Pos} {it : Env → Option (List D × Env)} {b : D → Env → Option Env} {g : Gx} (hc : X.calm = true) (hi : PI X tg iter (tIR X.K z it)) (hg : PG X tg (tG X.K z allJ b)) (hb : PSs X body (tX X.K z X.mg W g))
    (hp : PassesOwn (model X.prog X.w) X.A X.env X.xe) (hs : ∀ x, foldedSetIterable iter X.env x = pure x := by intro _; rfl) : PS X (.For tg iter body [] pos) (tX X.K z X.mg W (xFor it b g)) :=
  (ps_for hp hc hi hg hb hs).mono fun D σ H ⟨ρ, F, O, r, ρ', R, e, q⟩ => by
    obtain ⟨⟨ds, ρ1⟩, h1, h2⟩ := bind_some e
    refine ⟨ρ, F, O, ds, ρ1, R, h1, fun J F1 H1 R1 k1 y => ?_⟩
    refine ⟨fun i m σ H => m = ds.length - i ∧ i ≤ ds.length ∧ ∃ ρ2 F2 O2, Rel X.K z ρ2 σ F2 H O2 ∧ Same F1 F2 ∧ xLoop b g (ds.drop i) ρ2 = some (r, ρ'), ⟨ds.length, by simp, Nat.zero_le _, ρ1, F1, O, R1, Same.refl _, h2⟩, ?_⟩
    rintro i m σ2 H2 ⟨rfl, hi, ρ2, F2, O2, R2, s2, e2⟩
    by_cases hlt : i < ds.length
    · have ed : ds.drop i = ds[i] :: ds.drop (i + 1) := by rw [List.drop_eq_getElem_cons hlt]
      rw [ed] at e2
      obtain ⟨ρ3, e3, e4⟩ := bind_some e2
      obtain ⟨⟨fl4, ρ4⟩, e5, e6⟩ := bind_some e4
      have sH : Same F1 H2 := s2.trans R2.sub
      refine .inr ⟨y.go i H2 sH hlt, fun σ' H' => ∃ ρ2 F2 O2, Rel X.K z ρ2 σ' F2 H' O2 ∧ Same F1 F2 ∧ xLoop b g (ds.drop (i + 1)) ρ2 = some (r, ρ'), fun σ' H' n => ⟨ds.length - (i + 1), by omega, rfl, by omega, n⟩, fun x H' yx => ?_⟩
      obtain ⟨sx, rx⟩ := y.yld i F2 H2 x H' _ s2 R2.sub R2.tup yx (List.getElem?_eq_getElem hlt)
      have R3 := R2.grow sx
      refine ⟨ρ2, _, O2, _, ρ3, R3, rx, e3, fun σ5 O5 R5 _ => ⟨ρ3, _, O5, fl4, ρ4, R5, e5, ?_⟩⟩
      have s5 : Same F1 (ext F2 H2 H') := s2.trans (same_ext R2.sub)
      cases fl4 with
      | er e =>
        cases e6
        exact fun cls d σ6 F6 H6 O6 R6 s6 => q cls d σ6 F6 H6 O6 R6 ((k1.same.trans s5).trans s6)
      | fl fl4 =>
        cases fl4 with
        | nx => exact fun σ6 F6 H6 O6 R6 s6 => ⟨ρ4, F6, O6, R6, s5.trans s6, e6⟩
        | ct => exact fun σ6 F6 H6 O6 R6 s6 => ⟨ρ4, F6, O6, R6, s5.trans s6, e6⟩
        | bk =>
          cases e6
          exact fun σ6 F6 H6 O6 R6 s6 => q σ6 F6 H6 O6 R6 ((k1.same.trans s5).trans s6)
        | ret d =>
          cases e6
          exact fun v σ6 F6 H6 O6 R6 s6 r => q v σ6 F6 H6 O6 R6 ((k1.same.trans s5).trans s6) r
    · have ei : i = ds.length := by omega
      subst ei
      rw [List.drop_length] at e2
      cases e2
      exact .inl ⟨y.stop _ H2 (s2.trans R2.sub) rfl, q σ2 F2 H2 O2 R2 (k1.same.trans s2)⟩
/-- raise e -/
def xRaise0 (c : Str) : Gx := fun ρ => some (.er ⟨c, none⟩, ρ)
def xRaise1 (c f : Str) (e : Env → Option (D × Env)) : Gx := fun ρ => (e ρ).map fun p => (.er ⟨c, some (f, p.1)⟩, p.2)
theorem x_raise0 {e : Expr} {pos : Pos} {c : Str} {C : Value} (hc : X.calm = true) (tk : Takes X W) (hm : X.mg c = some C) (he : PMk X e fun σ H Q => Q C none H) : PS X (.Raise (some e) none pos) (tX X.K z X.mg W (xRaise0 c)) :=
  (ps_raise hc tk he).mono fun D σ H ⟨ρ, F, O, r, ρ', R, e, q⟩ => by
    cases e
    exact q _ _ σ F H O R (Same.refl _) ⟨hm, rfl⟩
theorem x_raise1 {e a : Expr} {pos : Pos} {c n : Str} {C : Value} {f : Env → Option (D × Env)} (hc : X.calm = true) (tk : Takes X W) (hm : X.mg c = some C) (he : PMk X e fun σ H Q => tR X.K z f σ H fun v H1 => ∀ d, H1 d = none → Q C (some d) (upd H1 d (.xd [(n, v)]))) : PS X (.Raise (some e) none pos) (tX X.K z X.mg W (xRaise1 c n f)) :=
  (ps_raise hc tk he).mono fun D σ H ⟨ρ, F, O, r, ρ', R, e, q⟩ => by
    obtain ⟨⟨d, ρ1⟩, h1, h2⟩ := map_some e
    cases h2
    refine ⟨ρ, F, O, d, _, R, h1, fun v F' H' R' k r' p hp => ?_⟩
    have s := same_new (o := .xd [(n, v)]) hp
    refine q _ _ σ _ _ O (R'.grow s) (k.same.trans (same_ext R'.sub)) ⟨hm, p, v, rfl, ?_, r'.mono (same_ext R'.sub)⟩
    rw [ext_new R'.sub hp]
    exact upd_same
end
def finX : Fx × Env → Option Oc
  | (.fl f, ρ) => (fin (f, ρ)).map .ok
  | (.er e, _) => some (.er e)
def runX (N n : Nat) (g : Gx) : List D → Option Oc := fun ds => if ds.length = n then (g (ini N ds)).bind finX else none
section
variable {P : Program} {w : World} {K : PySem.W.Frag} {mg : Str → Option Value} {base : Heap}
theorem runX_len {N n : Nat} {g : Gx} {ds : List D} {r : Oc} (h : runX N n g ds = some r) : ds.length = n := by
  unfold runX at h
  split at h
  · assumption
  · cases h
theorem ok_X {x qual : Str} {st : Stmt} {f : Addr} {fd : FuncData} {N ps : List Str} {k : Nat} {g : Gx} (F : Fun K x qual st f fd) (S : FnScope N ps (defScope st))
    (h : ∀ (cdv : Value) (A : Around) (outer : List PySem.Env) (s : Shared) (H : Hp) (E : XK) (z : Z), Room k (A.deeper (envOfC qual (defScope st) s.heap.objs.size f cdv)) → PSs (cxOf (L2.CX P w) P w K mg base N qual (defScope st) f cdv A outer s H E) (defBody st) (tX K z mg (fun cls d _ H => E cls d H) g)) :
    FnOk P w K mg base (L2.CX P w) (k + 1) f fd ps (spX K mg (runX N.length ps.length g)) := by
  refine F.okX S (fun vs H Q E h => ?_) (fun cdv A outer s H vs Q E hr q => ?_)
  · obtain ⟨F, ds, d, _, r, e, _⟩ := h
    rw [r.length]
    exact runX_len e
  · obtain ⟨F, ds, d, ⟨s0, t0⟩, r, e, q⟩ := q
    refine ⟨_, h cdv A outer s H E ⟨H, F, fun _ => False, 0, [], Zx.no⟩ hr, ?_⟩
    unfold runX at e
    split at e
    · obtain ⟨⟨fx, ρ'⟩, h1, h2⟩ := bind_some e
      refine ⟨_, F, _, fx, ρ', rel_start s0 t0 r, h1, ?_⟩
      cases fx with
      | er e =>
        cases h2
        exact fun cls d σ F' H' O R s r => q cls d H' (fun a o h => R.keep a o h id) (r.mono (end_sub s0 R))
      | fl fl =>
        cases fl with
        | nx =>
          cases h2
          exact fun σ F' H' O R s => q .non H' (fun a o h => R.keep a o h id) .non
        | bk => cases h2
        | ct => cases h2
        | ret d2 =>
          cases h2
          exact fun v σ F' H' O R s r => q v H' (fun a o h => R.keep a o h id) (r.mono (end_sub s0 R))
    · cases e
theorem okX {x qual : Str} {st : Stmt} {f : Addr} {fd : FuncData} {N ps : List Str} {k : Nat} {g : Gx} (a b : Nat) (F : Fun K x qual st f fd) (S : FnScope N ps (defScope st)) (ha : N.length = a) (hb : ps.length = b)
    (h : ∀ (cdv : Value) (A : Around) (outer : List PySem.Env) (s : Shared) (H : Hp) (E : XK) (z : Z), Room k (A.deeper (envOfC qual (defScope st) s.heap.objs.size f cdv)) → PSs (cxOf (L2.CX P w) P w K mg base N qual (defScope st) f cdv A outer s H E) (defBody st) (tX K z mg (fun cls d _ H => E cls d H) g)) :
    FnOk P w K mg base (L2.CX P w) (k + 1) f fd ps (spX K mg (runX a b g)) := by
  subst ha hb
  exact ok_X F S h
end
end DL
set_option maxHeartbeats 2000000
namespace DL
open PySem PySem.Spec PyProof.Rows L2
abbrev supBody (n : Str) (p0 p1 p2 p3 p4 p5 p6 p7 p8 p9 : Pos) : List Stmt :=
  [.Expr (.Call (.Attribute (.Call (.Name "super" p0) [] [] p1) "__init__" p2) [.Name n p3] [] p4) p5, .Assign [.Attribute (.Name "self" p6) n p7] (.Name n p8) p9]
section
open PySem.W PySem.Calls
variable {prog : Program} {w : World} {A : Around} {E : Value → Shared → Prop} {h : Heap} {g : Array GenState} {d : Drawn} {t : Nat} {os : OsState}
variable {nm q : Str} {C N : Addr} {bs bm : List Value} {hdct : Bool} {sn : List Str} {sub : List Value} {ab : Bool} {col : Option Bool} {dd : Option Addr} {k0 k1 k2 k3 k5 : Option Value}
theorem call_mw {u e t0 : Addr} {rest : List Value} {Q : Value → Shared → Prop} (hT : ∀ X : String, bm.contains (.type X) = [Value.type "ValueError", .type "Exception", .type "BaseException", .type "object"].contains (.type X))
    (hC : h.get? C = some (excClassObj nm q C N bs bm hdct sn sub ab col dd k0 k1 k2 k3 k5 "ValueError.__new__")) (he : h.get? e = some (HandSPX.excO C t0)) (hu : h.get? u = some (kxs_mw "ValueError.__init__" e)) (hrest : rest.length ≤ sizeLine)
    (hq : ∀ h' t1, (∀ b o, b ≠ e → h.get? b = some o → h'.get? b = some o) → h'.get? e = some (HandSPX.excO C t1) → Q .none ⟨h', g, d, t, os⟩) :
    wpAny (model prog w) A (call (.ref u) rest) Q E ⟨h, g, d, t, os⟩ := by
  refine wpAny_call (codeAny_of_tree ?_)
  show wpAny _ A.in1 (callAny (.ref u) ⟨rest, []⟩) _ _ _
  simp only [callAny]
  refine wpAny_bind (wpAny_load hu ?_)
  simp only [kxs_mw, show (Value.type "method-wrapper" == Value.type "method" || Value.type "method-wrapper" == Value.type "builtin_function_or_method" || Value.type "method-wrapper" == Value.type "method-wrapper") = true by decide, if_true]
  refine KFB.if_so (by decide) ?_
  refine wpAny_bind (check_bound_init F.excBase_ValueError.toExcCallFacts hC he rfl ?_)
  refine wpAny_bind (wpAny_pure (wpAny_pure ?_))
  refine ⟨Code.quiet_builtin _ (by decide +kernel), codeAny_builtin F.excBase_ValueError.initEntry ?_⟩
  rw [Around.under_plainId F.excBase_ValueError.init.plain _]
  wp_walk
  refine hq _ h.objs.size (fun b o hb ho => ?_) ?_
  · rw [Heap.get?_update_other _ _ (Ne.symm hb)]
    exact Heap.get?_push_of_some _ ho
  · rw [Heap.get?_update_self _ (Heap.get?_push_of_some _ he) rfl]
    rfl
end
abbrev supScope (n : Str) : Scope := { kind := .function, names := [(("self" : Str), .local), (n, .local), (("__class__" : Str), .free), (("super" : Str), .globalImplicit)], isGenerator := false, isCoroutine := false, more := [] }
/-- the facts of such a class -/
structure SupC (K : PySem.W.Frag) (prog : Program) (C fI : Addr) (n : Str) : Prop where
  ox : OexC K C
  ini : PySem.W.findIn K (.ref C) "__init__" = some (some (.ref fI))
  tyI : PySem.W.typeIn K (.ref fI) = some (.type "function")
  fn : ∃ (p0 p1 p2 p3 p4 p5 p6 p7 p8 p9 : Pos) (params : Arguments) (q : Str) (oc : Value) (od : Option Addr) (osl : Array (Option Value)) (kV doc pm ct : Value) (an : Option Addr) (cda cc : Addr) (ccl cl : Value) (cdd cld : Option Addr) (ccs csl : Array (Option Value)) (vs : Array Value) (file : Str) (tf : Tok) (a1 a2 : Arg),
    K.lookup fI = some ⟨oc, od, .func (PySem.W.ksFn "__init__" q params (supBody n p0 p1 p2 p3 p4 p5 p6 p7 p8 p9) (supScope n) .none kV doc pm an (.ref cda) ct cc), osl⟩ ∧
    PySem.W.codeIn K (.ref cda) q = true ∧ K.lookup cda = some ⟨ccl, cdd, .fields vs, ccs⟩ ∧ vs[2]? = some (.str file tf) ∧ ((prog.main.file : Str) == file) = true ∧
    K.lookup cc = some ⟨cl, cld, .cell (some (.ref C)), csl⟩ ∧
    params = ⟨[], [a1, a2], none, [], [], none, []⟩ ∧ a1.arg = "self" ∧ a2.arg = n ∧ (∀ a b : Value, bindArgs (PySem.W.ksFn "__init__" q params (supBody n p0 p1 p2 p3 p4 p5 p6 p7 p8 p9) (supScope n) .none kV doc pm an (.ref cda) ct cc) ⟨[a, b], []⟩ = pure [(("self" : Str), a), (n, b)]) ∧
    (∀ L : Addr, ∃ pl : Sem Bool, eval (.Call (.Attribute (.Call (.Name "super" p0) [] [] p1) "__init__" p2) [.Name n p3] [] p4) (PySem.W.ksEnv q (supScope n) L fI (.ref cda) cc) = (do
      let ov ← attributeBase (.Call (.Name "super" p0) [] [] p1) "__init__" (PySem.W.ksEnv q (supScope n) L fI (.ref cda) cc) (eval (.Call (.Name "super" p0) [] [] p1) (PySem.W.ksEnv q (supScope n) L fI (.ref cda) cc))
      standAt p2.atName
      let (f, first) ← holding [ov] (getMethod ov "__init__" pl)
      callWith p4 f first (backTo p4 (starEach [.Name n p3] (PySem.W.ksEnv q (supScope n) L fI (.ref cda) cc))) [])) ∧ (supScope n).names.lookup n = some .local ∧ (supScope n).names.lookup ("super" : Str) = some .globalImplicit ∧ (supScope n).names.lookup ("__class__" : Str) = some .free
  nn : (n == ("self" : Str)) = false ∧ (n == ("__debug__" : Str)) = false
  no : PySem.W.findIn K (.ref C) n = some none
  su : PySem.W.ks_superIn K C C "__init__" = some (some (.builtin "ValueError.__init__"))
  op : PySem.W.nsIn K cStatics "thirdparty.any" = some none
  ve : PySem.W.subIn K (.ref C) (.type "ValueError") = some true
  mr : PySem.W.mroIn K C (.ref C) = some true
  top : (prog.main.scope.names.lookup ("super" : Str)).isSome = false
section
open PySem.W PySem.Calls
variable {prog : Program} {w : World} {A : Around} {E : Value → Shared → Prop}
theorem sup_make {s : Shared} {K : PySem.W.Frag} {C fI : Addr} {n : Str} {mg : Str → Option Value} {base : Heap} {u : Value} {Q : Value → Shared → Prop} (T : SupC K prog C fI n) (M : L2.Mod K mg base) (hk : ∀ b o, base.get? b = some o → s.heap.get? b = some o) (hm : mg "super" = none) (hr : A.depth + 2 < recursionLimit)
    (hq : ∀ (h' : Heap) (tk : Nat) (e dx t0 : Addr), (∀ b o, s.heap.get? b = some o → h'.get? b = some o) → s.heap.objs.size ≤ e → s.heap.objs.size ≤ dx → dx ≠ e →
      h'.get? e = some ({ cls := .ref C, dict := some dx, data := .fields #[.ref t0, .none, .none, .none, .bool false, .none] } : Obj) → h'.Ns1 dx (fun y => if y = n then some u else none) → Q (.ref e) { s with heap := h', toks := tk }) :
    wpAny (model prog w) A (call (.ref C) [u]) Q E s := by
  have X : K.In s.heap := M.kin.keeps hk
  obtain ⟨nm, q, N, bs, bm, sn, sub, ab, col, dd, k0, k1, k2, k3, k5, hC, hbm⟩ := T.ox.cls
  have hcl : PySem.W.clsIn K C = some { name := nm, bases := bs, mro := .ref C :: bm, ns := N, qualname := q, hasDict := true, slotNames := sn, subclasses := sub, abstract := ab, collection := col, hasDel := false } := by unfold PySem.W.clsIn; rw [hC] <;> rfl
  obtain ⟨p0, p1, p2, p3, p4, p5, p6, p7, p8, p9, params, qf, oc, od, osl, kV, doc, pm, ct, an, cda, cc, ccl, cl, cdd, cld, ccs, csl, vs, file, tf, a1, a2, lf, hcd, lc, hvs, hfile, lcc, hp, ha1, ha2, hbi, hev, s2, s3, s4⟩ := T.fn
  subst hp
  obtain ⟨hp, g, dr, tk, os⟩ := s
  have KX := X
  have hX : ∀ {h' : Heap}, (∀ b o, hp.get? b = some o → h'.get? b = some o) → K.In h' := fun k => KX.keeps k
  refine wpAny_call (PySem.HandSPX.call_own F.excBase_ValueError (fun Y => PySem.HandSPX.refsVE_contains Y bm hbm) (X _ _ hC) (PySem.W.looks_findIn X T.ini) (fun self => PySem.W.bind_fn X self T.tyI) (by show 1 ≤ sizeLine; rw [sizeLine_eq]; omega) ?_)
  have kk : ∀ b o, hp.get? b = some o → ((hp.push (PySem.W.kdv_tup [u])).push (PySem.HandSPX.excO C hp.objs.size)).get? b = some o := fun b o e => Heap.get?_push_of_some _ (Heap.get?_push_of_some _ e)
  have hget : ((hp.push (PySem.W.kdv_tup [u])).push (PySem.HandSPX.excO C hp.objs.size)).get? (hp.objs.size + 1) = some (PySem.HandSPX.excO C hp.objs.size) := by heap_get
  have X1 := hX kk
  have lim : ((hp.push (PySem.W.kdv_tup [u])).push (PySem.HandSPX.excO C hp.objs.size)).NoLimit := M.nolimit.keeps fun b o e => kk b o (hk b o e)
  have hroom : (A.under (.builtin "type.__call__" ⟨.ref C :: [u], []⟩)).depth < recursionLimit := by
    rw [make_depth]
    omega
  refine ks_codeAny_call_defAt (fd := ksFn "__init__" qf ⟨[], [a1, a2], none, [], [], none, []⟩ (supBody n p0 p1 p2 p3 p4 p5 p6 p7 p8 p9) (supScope n) .none kV doc pm an (.ref cda) ct cc) (body := supBody n p0 p1 p2 p3 p4 p5 p6 p7 p8 p9) (binds := [(("self" : Str), .ref (hp.objs.size + 1)), (n, u)]) hroom (X1 _ _ lf) rfl lim (codeRec_of X1 hcd) rfl (.of_eq (hbi _ _)) (by intro x hx; simp [supScope] at hx; rcases hx with e | e | e | e <;> rw [e] <;> exact fun z => nomatch z) ?_ (fun h0 hns k0' => ?_)
  · intro x hx
    rcases List.mem_cons.mp hx with e | hx
    · rw [e]
      exact rfl
    · rcases List.mem_cons.mp hx with e | hx
      · rw [e]
        exact s2
      · cases hx
  have kk0 : ∀ b o, hp.get? b = some o → h0.get? b = some o := fun b o e => k0' b o (kk b o e)
  have X0 := hX kk0
  have hself : (fun x => ([(("self" : Str), .ref (hp.objs.size + 1)), (n, u)] : List (Str × Value)).reverse.lookup x) ("self" : Str) = some (.ref (hp.objs.size + 1)) := by
    have e : ((("self" : Str)) == n) = false := by
      rw [beq_eq_false_iff_ne]
      exact fun z => (beq_eq_false_iff_ne.mp T.nn.1) z.symm
    simp [List.lookup, e]
  have hn : (fun x => ([(("self" : Str), .ref (hp.objs.size + 1)), (n, u)] : List (Str × Value)).reverse.lookup x) n = some u := by
    simp [List.lookup]
  obtain ⟨mb, hb1, hb2⟩ := M.blt
  obtain ⟨pl, hev⟩ := hev (((hp.push (PySem.W.kdv_tup [u])).push (PySem.HandSPX.excO C hp.objs.size)).objs.size)
  refine ks_wpAt_execs_cons (ks_wpAt_Expr_any (ks_wpAt_MethodCall (pl := pl) (ks_wpAt_super_base (ar := a1) (file := file) s3 s4 (by decide) rfl (X0 _ _ lf) rfl rfl rfl (X0 _ _ lc) rfl hvs hfile T.top ?_) hev))
  refine ks_loadName_global rfl s3 (loadGlobal_builtin (M.glob.keeps fun b o e => kk0 b o (hk b o e)) hm (hb1.keeps fun b o e => kk0 b o (hk b o e)) ((hb2 _ (by decide)).trans rfl) ⟨rfl, ?_⟩)
  refine wpAny_loadName_free rfl s4 rfl ⟨_, X0 _ _ lcc, rfl⟩ ?_
  rw [ha1]
  refine wpAny_loadName_local rfl rfl hns hself ?_
  have X0' : K.In h0 := X0
  have he0 : h0.get? (hp.objs.size + 1) = some (PySem.HandSPX.excO C hp.objs.size) := k0' _ _ hget
  refine ks_wpAny_isType_cls (X0 _ _ hC) rfl ⟨rfl, ?_⟩
  refine ks_wpAny_call_super (X0 _ _ hC) rfl he0 rfl (fun c e => by cases e) (looks_mroIn X0 T.mr) (fun h1 hso k1 => ?_)
  have kk1 : ∀ b o, hp.get? b = some o → h1.get? b = some o := fun b o e => k1 b o (kk0 b o e)
  have XA := hX kk1
  have hsu := T.su
  unfold ks_superIn at hsu
  rw [hcl] at hsu
  have he1 : h1.get? (hp.objs.size + 1) = some (PySem.HandSPX.excO C hp.objs.size) := k1 _ _ he0
  have IA : PySem.W.InstAt h1 (hp.objs.size + 1) (PySem.HandSPX.excO C hp.objs.size) C none := ⟨he1, rfl, rfl, trivial⟩
  refine kxs_getMethod kxs_ValueError hso (looks_opaque XA T.op) (l₀ := .ref C :: bm) (fun A Q E s k q => wpAny_bind ((looks_clsIn XA hcl) A _ E s k (wpAny_pure q))) rfl XA hsu (IA.type.andThen (looks_subIn XA T.ve)) (ks_ne XA IA hcl) (by decide) ?_
  have hmw : (h1.push (kxs_mw "ValueError.__init__" (hp.objs.size + 1))).get? h1.objs.size = some (kxs_mw "ValueError.__init__" (hp.objs.size + 1)) := Heap.get?_push_size _ rfl
  have k2 : ∀ b o, h1.get? b = some o → (h1.push (kxs_mw "ValueError.__init__" (hp.objs.size + 1))).get? b = some o := fun b o e => Heap.get?_push_of_some _ e
  refine kxs_callWith (i := "ValueError.__init__") (x := hp.objs.size + 1) rfl ?_
  refine evalArgs_plain ?_
  have kA : ∀ b o, h0.get? b = some o → (h1.push (kxs_mw "ValueError.__init__" (hp.objs.size + 1))).get? b = some o := fun b o e => k2 b o (k1 b o e)
  have kAA : ∀ b o, hp.get? b = some o → (h1.push (kxs_mw "ValueError.__init__" (hp.objs.size + 1))).get? b = some o := fun b o e => kA b o (kk0 b o e)
  have hbm' : ∀ Y : String, bm.contains (.type Y) = [Value.type "ValueError", .type "Exception", .type "BaseException", .type "object"].contains (.type Y) := fun Y => PySem.HandSPX.refsVE_contains Y bm hbm
  show wpAny _ _ (spliced ((false, eval (.Name n p3) _) :: backTo p4 (starEach [] _))) _ _ _
  refine Calls.spliced_cons (wpAny_Name (wpAny_loadName_local rfl s2 (hns.keeps kA) hn ?_) T.nn.2)
  refine Calls.spliced_nil ⟨hmw, ?_⟩
  refine call_mw hbm' (hX kAA _ _ hC) (kA _ _ he0) hmw (by show 1 ≤ sizeLine; rw [sizeLine_eq]; omega) fun h2 t1 k3 he2 => ?_
  have neL : ∀ b o, h0.get? b = some o → b ≠ hp.objs.size + 1 → h2.get? b = some o := fun b o e ne => k3 b o ne (kA b o e)
  have hns2 : h2.Ns (((hp.push (PySem.W.kdv_tup [u])).push (PySem.HandSPX.excO C hp.objs.size)).objs.size) (fun x => ([(("self" : Str), .ref (hp.objs.size + 1)), (n, u)] : List (Str × Value)).reverse.lookup x) := by
    obtain ⟨oL, es, ep, hL, r⟩ := hns
    exact ⟨oL, es, ep, neL _ _ hL (by simp [Heap.size_push]), r⟩
  refine ks_wpAt_execs_cons (ks_wpAt_Assign_Attr (PySem.wpAt_of_wpAny (wpAny_Name (wpAny_loadName_local rfl s2 hns2 hn (wpAny_Name (wpAny_loadName_local rfl rfl hns2 hself ?_))) T.nn.2)))
  obtain ⟨t2, he2'⟩ : ∃ t2 : Addr, h2.get? (hp.objs.size + 1) = some (PySem.HandSPX.excO C t2) := ⟨t1, he2⟩
  have kk2 : ∀ b o, hp.get? b = some o → h2.get? b = some o := fun b o e => k3 b o (Nat.ne_of_lt (Nat.lt_succ_of_lt (Heap.lt_size e))) (kAA b o e)
  have X2 := hX kk2
  refine PySem.W.set_plain X2 (ox := PySem.HandSPX.excO C t2) (od := none) ⟨he2', rfl, rfl, trivial⟩ T.ox.sa ?_
  refine PySem.HandSPX.exc_osa X2 he2' hcl (show PySem.HandSPX.refsVE (.ref C :: bm) = true from hbm) rfl T.no (fun h3 tk3 dx k4 dn dne hx3 hn3 => ?_)
  have kk3 : ∀ b o, hp.get? b = some o → h3.get? b = some o := fun b o e => k4 b o (Nat.ne_of_lt (Nat.lt_succ_of_lt (Heap.lt_size e))) (kk2 b o e)
  have ne : hp.objs.size ≤ hp.objs.size + 1 := Nat.le_succ _
  have nd : hp.objs.size ≤ dx := Nat.le_trans ne (Nat.le_of_lt (Nat.lt_of_lt_of_le (Heap.lt_size he2') dn))
  exact PySem.wpAt_of_wpAny (wpAny_execs_nil ⟨rfl, hq h3 _ _ dx t2 kk3 ne nd dne hx3 hn3⟩)
end
section
variable {X : Cx}
theorem pmk_sup {x : Str} {C fI : Addr} {n : Str} {k : Nat} {p pos : Pos} {e : Expr} {te : TE} (T : SupC X.K X.prog C fI n) (gC : X.mg x = some (.ref C)) (hg : Gl X x) (hm : X.mg "super" = none) (hr : Room k X.A) (he : PE X e te)
    (hdb : (x == ("__debug__" : Str)) = false := by decide) (hs : starEach [e] X.env = (false, eval e X.env) :: starEach [] X.env := by rfl) :
    PMk X (.Call (.Name x p) [e] [] pos) (fun σ H Q => te σ H fun v H1 => ∀ d, H1 d = none → Q (.ref C) (some d) (upd H1 d (.xd [(n, v)]))) := by
  intro pins s σ H Q I h
  refine wpAny_Call_Name_kw (ld_glob I hg gC ?_ hdb)
  have ha : PA X [e] (tCons te tNil) := pa_cons he pa_nil hs
  refine PySem.W.callWith_K (h₀ := X.base) I.ok.mod.kin T.ox.kC (thn (ha.run pos pins s σ H (fun vs H1 => match vs with | [v] => ∀ d, H1 d = none → Q (.ref C) (some d) (upd H1 d (.xd [(n, v)])) | _ => False) I h) fun us s1 hh => ?_) hs rfl
  obtain ⟨vs, H1, I1, r1, q1⟩ := hh
  refine ⟨I1.kIn, ?_⟩
  match vs, r1, q1 with
  | [v], .cons (b := u) ru rn, q1 =>
    cases rn
    have hrd := hr.dp
    show wpAny _ _ (call (.ref C) [u]) _ _ _
    refine sup_make T I1.mod I1.bk hm (by omega) fun h' tk e dx t0 k le ld ne he' hd' => ?_
    obtain ⟨G, g1', g2'⟩ := restrict h' fun b => decide (b ≠ e)
    have gk : ∀ b, b ≠ e → G.get? b = h'.get? b := fun b hb => g1' b (decide_eq_true hb)
    have ge : G.get? e = none := g2' e (by simp)
    have nd : H1 dx = none := I1.hok.fresh ld
    have hob : G.Ns1 dx (fun y => if y = n then some u else none) := hd'.at fun o y => (gk dx ne).trans y
    have J := I1.laid (t' := tk) (a := dx) (o := .xd [(n, v)]) (h' := G) (fun b o z => (gk b (Nat.ne_of_lt (Nat.lt_of_lt_of_le (Heap.lt_size z) le))).trans (k b o z)) ld ⟨_, hob, relO_put (fs := []) ru fun g => True.intro⟩
    refine ⟨e, _, _, _, _, .ref C, some dx, rfl, J, fun b o z => ?_, ge, he', ⟨rfl, rfl⟩, rfl, rfl, ?_, rfl, I1.bare, raises_own T.ox.exC T.ox.tyC, q1 dx nd⟩
    · by_cases hb : b = e
      · rw [hb] at z
        rw [show G.get? e = some o from z] at ge
        cases ge
      · exact (gk b hb).symm.trans z
    · rw [upd_ne (Ne.symm ne)]
      exact I1.hok.fresh le
  | [], _, q1 => exact q1.elim
  | _ :: _ :: _, _, q1 => exact q1.elim
/-- an own class without own __init__, made of nothing -/
theorem pmk_own0 {C : Addr} {bmB : List Value} {B newId initId : String} {x : Str} {p pos : Pos} (F : ExcBaseFacts B newId initId bmB) (q : PySem.W.excIn X.K C bmB newId = true) (gC : X.mg x = some (.ref C)) (kC : PySem.W.keepIn X.K (.ref C) = true) (r : Raises X (.ref C)) (hg : Gl X x)
    (hdb : (x == ("__debug__" : Str)) = false := by decide) : PMk X (.Call (.Name x p) [] [] pos) (fun _ H Q => Q (.ref C) none H) := by
  intro pins s σ H Q I h
  refine wpAny_Call_Name_kw (ld_glob I hg gC ?_ hdb)
  refine PySem.W.callWith_K0 I.kIn kC ?_
  show wpAny _ _ (call (.ref C) []) _ _ _
  obtain ⟨bm, N, nm, qn, bs, hdct, sn, sub, ab, col, dd, k0, k1, k2, k3, k5, mN, hC, hN, hni, T⟩ := exc_obj I.kIn q
  refine wpAny_call_exc_subT F T hC hN hni (fun h' e hm => ?_) (by show 0 ≤ sizeLine; omega)
  exact mk_of I hm r h (I.hok.gone hm.new)
end
end DL
namespace DL
open PySem PySem.Spec PyProof.Rows L2
abbrev veT : List Value := [.type "ValueError", .type "Exception", .type "BaseException", .type "object"]
structure ErrH (K : PySem.W.Frag) (mg : Str → Option Value) (H : Addr) : Prop where
  mgH : mg "HouseError" = some (.ref H)
  look : ∃ (q : Str) (N : Addr) (bs : List Value) (sn : List Str) (sub : List Value) (ab : Bool) (col : Option Bool) (dd : Option Addr) (k0 k1 k2 k3 k5 : Option Value), K.lookup H = some (excClassObj "HouseError" q H N bs veT true sn sub ab col dd k0 k1 k2 k3 k5 "ValueError.__new__")
  ty : PySem.W.typeIn K (.ref H) = some (.type "type")
  sp : PySem.W.specialIn K (.builtin "object.__class__") "__get__" = some (some (.builtin "getset_descriptor.__get__"))
  tk : PySem.W.takesIn K (.builtin "object.__class__") = some true
structure ErrC (K : PySem.W.Frag) (mg : Str → Option Value) (H : Addr) (x : Str) (D : Addr) : Prop where
  mgx : mg x = some (.ref D)
  look : ∃ (q : Str) (N : Addr) (bs : List Value) (sn : List Str) (sub : List Value) (ab : Bool) (col : Option Bool) (dd : Option Addr) (k0 k1 k2 k3 k5 : Option Value), K.lookup D = some (excClassObj x q D N bs (.ref H :: veT) true sn sub ab col dd k0 k1 k2 k3 k5 "ValueError.__new__")
  ty : PySem.W.typeIn K (.ref D) = some (.type "type")
  ga : PySem.W.findIn K (.ref D) "__getattribute__" = some (some (.builtin "BaseException.__getattribute__"))
  gg : PySem.W.findIn K (.ref D) "__getattr__" = some none
  cc : PySem.W.findIn K (.ref D) "__class__" = some (some (.builtin "object.__class__"))
  ne : x ≠ "HouseError"
def Errs (K : PySem.W.Frag) (mg : Str → Option Value) (H : Addr) (cs : List Str) : Prop := ∀ x ∈ cs, ∃ D, ErrC K mg H x D
theorem errs_nil {K : PySem.W.Frag} {mg : Str → Option Value} {H : Addr} : Errs K mg H [] := fun _ h => nomatch h
theorem errs_cons {K : PySem.W.Frag} {mg : Str → Option Value} {H D : Addr} {x : Str} {cs : List Str} (h : ErrC K mg H x D) (t : Errs K mg H cs) : Errs K mg H (x :: cs) := fun y hy => by
  rcases List.mem_cons.mp hy with e | hy
  · subst e
    exact ⟨D, h⟩
  · exact t y hy
section
variable {K : PySem.W.Frag} {mg : Str → Option Value} {H C D : Addr} {x y : Str}
theorem ErrH.cls (h : ErrH K mg H) : ∃ cd, PySem.W.clsIn K H = some cd ∧ cd.mro = .ref H :: veT ∧ cd.hasDict = true ∧ cd.name = "HouseError" := by
  obtain ⟨q, N, bs, sn, sub, ab, col, dd, k0, k1, k2, k3, k5, h⟩ := h.look
  refine ⟨_, by unfold PySem.W.clsIn; rw [h], rfl, rfl, rfl⟩
theorem ErrC.cls (h : ErrC K mg H x D) : ∃ cd, PySem.W.clsIn K D = some cd ∧ cd.mro = .ref D :: .ref H :: veT ∧ cd.hasDict = true ∧ cd.name = x := by
  obtain ⟨q, N, bs, sn, sub, ab, col, dd, k0, k1, k2, k3, k5, h⟩ := h.look
  refine ⟨_, by unfold PySem.W.clsIn; rw [h], rfl, rfl, rfl⟩
theorem ErrC.mro (h : ErrC K mg H x D) (b : Value) : PySem.W.mroIn K D b = some ((Value.ref D :: .ref H :: veT).contains b) := by
  obtain ⟨cd, h1, h2, _⟩ := h.cls
  unfold PySem.W.mroIn
  rw [h1, Option.bind_some, h2]
  rfl
theorem ErrC.sub (h : ErrC K mg H x D) (b : Value) : PySem.W.subIn K (.ref D) b = some ((Value.ref D :: .ref H :: veT).contains b) := h.mro b
theorem ErrC.ne_of (h : ErrC K mg H x D) (h' : ErrC K mg H y C) (n : x ≠ y) : D ≠ C := fun e => by
  subst e
  obtain ⟨cd, h1, _, _, h2⟩ := h.cls
  obtain ⟨cd', h1', _, _, h2'⟩ := h'.cls
  rw [h1] at h1'
  cases h1'
  exact n (h2.symm.trans h2')
theorem ErrC.neH (hh : ErrH K mg H) (h : ErrC K mg H x D) : D ≠ H := fun e => by
  subst e
  obtain ⟨cd, h1, _, _, h2⟩ := h.cls
  obtain ⟨cd', h1', _, _, h2'⟩ := hh.cls
  rw [h1] at h1'
  cases h1'
  exact h.ne (h2.symm.trans h2')
theorem ErrC.exm (hh : ErrH K mg H) (h : ErrC K mg H x D) : PySem.W.exmOne K (.ref D) (.ref H) = some true := by
  obtain ⟨cd, h1, h2, _⟩ := hh.cls
  have e1 : PySem.W.subIn K (.ref H) (.type "BaseException") = some true := by
    show PySem.W.mroIn K H _ = _
    unfold PySem.W.mroIn
    rw [h1, Option.bind_some, h2]
    simp [List.contains_cons]
  unfold PySem.W.exmOne PySem.W.kitCls
  rw [e1, if_pos (by decide)]
  dsimp only
  rw [h1, hh.ty, h.sub]
  simp [List.contains_cons]
theorem ErrC.kit (hh : ErrH K mg H) (h : ErrC K mg H x D) (h' : ErrC K mg H y C) : PySem.W.kitOne K (.ref D) (.ref C) = some (x == y) := by
  unfold PySem.W.kitOne
  by_cases e : x = y
  · subst e
    have := h.mgx.symm.trans h'.mgx
    cases this
    simp
  · have n := h.ne_of h' e
    have nH := ErrC.neH hh h'
    obtain ⟨cd, h1, _⟩ := h'.cls
    rw [if_neg (by simp [n])]
    unfold PySem.W.kitCls
    dsimp only
    rw [h1, h'.ty, h.sub]
    simp [List.contains_cons, e, Ne.symm n, nH]
theorem ErrC.exF (h : ErrC K mg H x D) : XfC K D := by
  obtain ⟨cd, h1, h2, h3, _⟩ := h.cls
  refine ⟨h.ga, h.gg, by rw [h.sub]; simp [List.contains_cons], ?_⟩
  unfold PySem.W.hasDictIn
  rw [h1]
  simpa using h3
end
/-- the frame's knowledge with one error known: at a, of the class cls, its dict d -/
def Zx.exx (x : Zx) (K : PySem.W.Frag) (mg : Str → Option Value) (a : Addr) (cls : Value) (d : Option Addr) : Zx where
  ad := x.ad
  tab := x.tab
  lam := x.lam
  exc := fun e F a' => a' = a ∧ ErOk K mg F e cls d
  tabS := x.tabS
  lamS := x.lamS
  excS := fun s h => ⟨h.1, h.2.mono s⟩
def Z.exx (z : Z) (K : PySem.W.Frag) (mg : Str → Option Value) (a : Addr) (cls : Value) (d : Option Addr) : Z := ⟨z.H0, z.F0, z.B, z.cl, z.fp, z.x.exx K mg a cls d⟩
def noExcE : Option E → Bool
  | some (.odd (.exc _)) => false
  | _ => true
def noExc (ρ : Env) : Bool := ρ.all noExcE
section
variable {K : PySem.W.Frag} {mg : Str → Option Value} {z : Z} {ρ : Env} {σ : L2.St} {F H : Hp} {O : Nat → List Addr} {a : Addr} {cls : Value} {d : Option Addr}
theorem Ent.exx {v : V} {e : E} {as : List Addr} (h : Ent K z F H v e as) (n : noExcE (some e) = true) : Ent K (z.exx K mg a cls d) F H v e as := by
  cases e with
  | odd o =>
    cases o with
    | exc e => cases n
    | _ => exact h
  | _ => exact h
theorem Ent.unexx {v : V} {e : E} {as : List Addr} (h : Ent K (z.exx K mg a cls d) F H v e as) (n : noExcE (some e) = true) : Ent K z F H v e as := by
  cases e with
  | odd o =>
    cases o with
    | exc e => cases n
    | _ => exact h
  | _ => exact h
theorem noExc_at (n : noExc ρ = true) {i : Nat} {e : E} (h : ρ[i]? = some (some e)) : noExcE (some e) = true := List.all_eq_true.mp n _ (List.mem_of_getElem? h)
theorem Rel.exx (R : Rel K z ρ σ F H O) (n : noExc ρ = true) : Rel K (z.exx K mg a cls d) ρ σ F H O where
  len := R.len
  sub := R.sub
  ent := fun i e h => by
    obtain ⟨v, h1, h2⟩ := R.ent i e h
    exact ⟨v, h1, h2.exx (noExc_at n h)⟩
  off := R.off
  apt := R.apt
  old := R.old
  oldH := R.oldH
  keep := R.keep
  f0 := R.f0
  tup := R.tup
theorem Rel.unexx (R : Rel K (z.exx K mg a cls d) ρ σ F H O) (n : noExc ρ = true) : Rel K z ρ σ F H O where
  len := R.len
  sub := R.sub
  ent := fun i e h => by
    obtain ⟨v, h1, h2⟩ := R.ent i e h
    exact ⟨v, h1, h2.unexx (noExc_at n h)⟩
  off := R.off
  apt := R.apt
  old := R.old
  oldH := R.oldH
  keep := R.keep
  f0 := R.f0
  tup := R.tup
theorem Rel.unset (R : Rel K z ρ σ F H O) (i : Nat) : Rel K z (ρ.set i none) (σ.set i none) F H O :=
  R.weak (by rw [List.length_set, List.length_set, R.len]) fun j e h => by
    by_cases q : i = j
    · subst q
      by_cases hl : i < ρ.length
      · rw [List.getElem?_set_self hl] at h
        cases h
      · rw [List.getElem?_eq_none (by rw [List.length_set]; omega)] at h
        cases h
    · rw [List.getElem?_set_ne q] at h
      exact ⟨h, List.getElem?_set_ne q⟩
end
def gTry (i : Nat) (cs : List Str) (g : Gx) (gs : Gs) : Gs := fun ρ => (g ρ).bind fun p => match p.1 with
  | .fl f => some (f, p.2)
  | .er e => if (cs.contains e.cls && noExc p.2) = true then (gs (p.2.set i (some (.odd (.exc e))))).bind fun q => if noExc (q.2.set i none) = true then some (q.1, q.2.set i none) else none else none
section
variable {X : Cx} {z : Z}
theorem s_try (i : Nat) (cs : List Str) {AH : Addr} {n : Str} {body suite : List Stmt} {b₀ : Stmt} {np pos pos' : Pos} {g : Gx} {gs : Gs} (hs : X.stack = X.env :: X.outer) (hf : X.env.frame = some X.env.locals) (hN : X.N.Nodup) (hh : ErrH X.K X.mg AH) (he : Errs X.K X.mg AH cs) (hg : Gl X "HouseError")
    (hb : ∀ (W : WX) (pn : List (Addr × Obj)) (xe : Value → Shared → Prop), Takes (X.tr pn xe) W → PassesOwn (model X.prog X.w) X.A X.env xe → PSs (X.tr pn xe) body (tX X.K z X.mg W g))
    (hsu : ∀ (a : Addr) (oe : Obj) (cls : Value) (d : Option Addr) (pn : List (Addr × Obj)) (z' : Z), Zc cls d oe → (∃ vs, oe.data = .fields vs) → (∀ e F a', z'.x.exc e F a' → a' = a ∧ ErOk X.K X.mg F e cls d) → PSs (X.suite a ((a, oe) :: pn)) (b₀ :: suite) (tS X.K z' gs))
    (hi : X.N[i]? = some n := by rfl) (hln : X.env.kindOf n = some .local := by rfl) :
    PS X (.Try body [.ExceptHandler (some (.Name "HouseError" np)) (some n) (b₀ :: suite) pos'] [] [] pos) (tS X.K z (gTry i cs g gs)) :=
  (ps_try_as (i := i) (c := .ref AH) (tb := fun W => tX X.K z X.mg W g) (ts := fun a cls d => tS X.K (z.exx X.K X.mg a cls d) gs) hs hf hN hi hln ⟨hg, by decide, .inl hh.mgH⟩ L2.takes0 hb (fun a oe cls d pn hz hf' => hsu a oe cls d pn _ hz hf' fun e F a' h => h)).mono fun D σ H ⟨ρ, F, O, fl, ρ', R, e, q⟩ => by
    obtain ⟨⟨fx, ρ1⟩, h1, h2⟩ := bind_some e
    refine ⟨ρ, F, O, fx, ρ1, R, h1, ?_⟩
    cases fx with
    | fl f =>
      cases h2
      exact q
    | er er =>
      dsimp only at h2
      split at h2
      · next hc =>
        obtain ⟨hc1, hc2⟩ := Bool.and_eq_true_iff.mp hc
        obtain ⟨⟨fl2, ρ2⟩, h3, h4⟩ := bind_some h2
        split at h4
        · next hn =>
          cases h4
          intro cls d σ1 F1 H1 O1 R1 s1 ho
          obtain ⟨D, hD⟩ := he er.cls (List.contains_iff_mem.mp hc1)
          have ec : cls = .ref D := Option.some.inj (ho.1.symm.trans hD.mgx)
          refine ⟨true, by rw [ec]; exact hD.exm hh, fun _ a na => ?_, fun q => nomatch q⟩
          have R2 : Rel X.K (z.exx X.K X.mg a cls d) (ρ1.set i (some (.odd (.exc er)))) (σ1.set i (some (.ref a))) F1 H1 (setO O1 i []) := (R1.exx hc2).setE (i := i) (v := .ref a) (e := .odd (.exc er)) (as := []) ⟨rfl, a, rfl, rfl, ho⟩ fun a ha => nomatch ha
          refine ⟨_, F1, _, fl2, ρ2, R2, h3, ?_⟩
          have fin : ∀ {σ2 : L2.St} {F2 H2 : Hp} {O2 : Nat → List Addr}, Rel X.K (z.exx X.K X.mg a cls d) ρ2 σ2 F2 H2 O2 → Rel X.K z (ρ2.set i none) (σ2.set i none) F2 H2 O2 := fun R2 => (R2.unset i).unexx hn
          cases fl2 with
          | nx => exact fun σ2 F2 H2 O2 R2 s2 => q _ F2 H2 O2 (fin R2) (s1.trans s2)
          | bk => exact fun σ2 F2 H2 O2 R2 s2 => q _ F2 H2 O2 (fin R2) (s1.trans s2)
          | ct => exact fun σ2 F2 H2 O2 R2 s2 => q _ F2 H2 O2 (fin R2) (s1.trans s2)
          | ret d => exact fun v σ2 F2 H2 O2 R2 s2 r => q v _ F2 H2 O2 (fin R2) (s1.trans s2) r
        · cases h4
      · cases h2
end
/-- isinstance(e, c), e the error that the suite holds -/
def rIsX (K : PySem.W.Frag) (D a : Addr) (d : Option Addr) : List V → Hp → VK → Prop := fun xs H Q => ∃ (c : V) (cv : Value) (b : Bool), xs = [.ref a, c] ∧ (∀ u, RelV c u → u = cv) ∧ PySem.W.kitOne K (.ref D) cv = some b ∧ (d = none ∨ ∃ dd fs, d = some dd ∧ H dd = some (.xd fs)) ∧ Q (.bl b) H
theorem call_isX {X : Cx} {a D AH : Addr} {x : Str} {oe : Obj} {d : Option Addr} {pn : List (Addr × Obj)} (hh : ErrH X.K X.mg AH) (C : ErrC X.K X.mg AH x D) (hz : Zc (.ref D) d oe) (hf : ∃ vs, oe.data = .fields vs) : CallR (X.suite a ((a, oe) :: pn)) (.builtin "isinstance") (rIsX X.K D a d) := by
  intro pins s σ H xs us Q I r h
  obtain ⟨c, cv, b, rfl, hcv, e, hd, q⟩ := h
  cases r with
  | cons rx rr =>
    cases rr with
    | cons rt rr =>
      cases rr
      cases rx
      have ec := hcv _ rt
      subst ec
      obtain ⟨hget, _⟩ := I.pin (a, oe) (List.mem_append.mpr (.inl List.mem_cons_self))
      obtain ⟨vs, hv⟩ := hf
      obtain ⟨cd, h1, h2, h3, _⟩ := C.cls
      have J : ∃ od, PySem.W.InstAt s.heap a oe D od := by
        obtain ⟨oc, oda, od, osl⟩ := oe
        obtain ⟨z1, z2⟩ := hz
        dsimp only at z1 z2 hv
        subst z1 z2 hv
        rcases hd with hd | ⟨dd, fs, hd, hH⟩
        · subst hd
          exact ⟨none, hget, rfl, rfl, trivial⟩
        · subst hd
          have hx : ObjOk X.prog X.w H s.heap dd (.xd fs) := I.hok dd _ hH
          obtain ⟨mA, ⟨od, es, ep, ho, _⟩, _⟩ := hx
          exact ⟨some od, hget, rfl, rfl, ho⟩
      obtain ⟨od, J⟩ := J
      exact PySem.W.kia_one (PySem.W.kitx_exc (by rw [h1]; rfl) C.ga C.gg C.exF.exC C.cc hh.sp hh.tk (by rw [C.mro]; simp [List.contains_cons])) I.kIn J e (fun z => nomatch z) fun tk => ⟨.bl b, H, I.kept (t' := tk) fun _ _ z => z, rfl, q⟩
def excL (e : Option (Option E)) : Option Er := match e with
  | some (some (.odd (.exc e))) => some e
  | _ => none
theorem excL_of {e : Option (Option E)} {er : Er} (h : excL e = some er) : e = some (some (.odd (.exc er))) := by
  unfold excL at h
  split at h
  · cases h
    rfl
  · cases h
def cIsE (i : Nat) (cs : List Str) (y : Str) : Env → Option D := fun ρ => (excL ρ[i]?).bind fun e => if cs.contains e.cls = true then some (.bool (e.cls == y)) else none
def cFldE (i : Nat) (cs : List Str) (n : Str) : Env → Option D := fun ρ => (excL ρ[i]?).bind fun e => if cs.contains e.cls = true then (match e.fld with | some p => if p.1 = n then some p.2 else none | none => none) else none
/-- classes whose errors may have the field n -/
def NoF (K : PySem.W.Frag) (mg : Str → Option Value) (n : Str) (cs : List Str) : Prop := ∀ x ∈ cs, ∀ D, mg x = some (.ref D) → PySem.W.findIn K (.ref D) n = some none
theorem nof_nil {K : PySem.W.Frag} {mg : Str → Option Value} {n : Str} : NoF K mg n [] := fun _ h => nomatch h
theorem nof_cons {K : PySem.W.Frag} {mg : Str → Option Value} {n x : Str} {D : Addr} {cs : List Str} (h : mg x = some (.ref D)) (f : PySem.W.findIn K (.ref D) n = some none) (t : NoF K mg n cs) : NoF K mg n (x :: cs) := fun y hy D' e => by
  rcases List.mem_cons.mp hy with q | hy
  · subst q
    rw [h] at e
    cases e
    exact f
  · exact t y hy D' e
section
variable {X : Cx} {z : Z} {a : Addr} {oe : Obj} {cls : Value} {d : Option Addr} {pn : List (Addr × Obj)}
theorem q_isE (i : Nat) {AH : Addr} {cs : List Str} {n y : Str} {p p1 p2 pos : Pos} (hh : ErrH X.K X.mg AH) (he : Errs X.K X.mg AH cs) (hy : ∃ C, ErrC X.K X.mg AH y C) (hzc : Zc cls d oe) (hf : ∃ vs, oe.data = .fields vs) (hx : ∀ e F a', z.x.exc e F a' → a' = a ∧ ErOk X.K X.mg F e cls d)
    (hg : Gl X "isinstance") (hm : X.mg "isinstance" = none) (hgy : Gl X y) (hN : X.N[i]? = some n := by rfl) (hv : Vis X.env.scope n := by first | exact Or.inl rfl | exact Or.inr (Or.inl rfl) | exact Or.inr (Or.inr rfl)) (hd : (n == ("__debug__" : Str)) = false := by decide)
    (hcd : (n == ("__classdict__" : Str)) = false := by decide) (hdy : (y == ("__debug__" : Str)) = false := by decide) : PE (X.suite a ((a, oe) :: pn)) (.Call (.Name "isinstance" p) [.Name n p1, .Name y p2] [] pos) (tP X.K z (cIsE i cs y)) := by
  refine ⟨fun pins s σ H Q I ⟨ρ, F, O, dd, R, e, q⟩ => ?_⟩
  obtain ⟨er, h1, h2⟩ := bind_some e
  split at h2
  · next hc =>
    cases h2
    obtain ⟨v, hσ, hent⟩ := R.ent i _ (excL_of h1)
    obtain ⟨_, a', ev, hex⟩ := hent
    obtain ⟨ea, ho⟩ := hx _ _ _ hex
    subst ea
    obtain ⟨D, hD⟩ := he er.cls (List.contains_iff_mem.mp hc)
    have ec : cls = .ref D := Option.some.inj (ho.1.symm.trans hD.mgx)
    subst ec
    obtain ⟨C, hC⟩ := hy
    have hdd : d = none ∨ ∃ dd fs, d = some dd ∧ H dd = some (.xd fs) := by
      have h2 := ho.2
      cases qf : er.fld with
      | none =>
        rw [qf] at h2
        exact .inl h2
      | some p =>
        rw [qf] at h2
        obtain ⟨dd, x, e1, e2, _⟩ := h2
        exact .inr ⟨dd, _, e1, R.sub _ _ e2⟩
    refine (pe_callB (X := X.suite a' ((a', oe) :: pn)) (call_isX hh hD hzc hf) hg hm rfl (pa_cons (pe_var (i := i) hN hv hd hcd) (pa_cons (pe_glob hgy hC.mgx (v := .ref C) rfl hdy) pa_nil)) (by decide) (by decide)).run pins s σ H Q I ?_
    refine ⟨v, hσ, ?_⟩
    show rIsX X.K D a' d [v, .ref C] H Q
    exact ⟨.ref C, .ref C, er.cls == y, by rw [ev], fun u r => r, hD.kit hh hC, hdd, q _ H (Same.refl _) (.bl _)⟩
  · cases h2
theorem q_fldE (i : Nat) {AH : Addr} {cs : List Str} {n f : Str} {p pos : Pos} (he : Errs X.K X.mg AH cs) (hno : NoF X.K X.mg f cs) (hzc : Zc cls d oe) (hf : ∃ vs, oe.data = .fields vs) (hx : ∀ e F a', z.x.exc e F a' → a' = a ∧ ErOk X.K X.mg F e cls d)
    (hN : X.N[i]? = some n := by rfl) (hv : Vis X.env.scope n := by first | exact Or.inl rfl | exact Or.inr (Or.inl rfl) | exact Or.inr (Or.inr rfl)) (hd : (n == ("__debug__" : Str)) = false := by decide)
    (hcd : (n == ("__classdict__" : Str)) = false := by decide) (hb : attributeBase (.Name n p) f X.env (eval (.Name n p) X.env) = eval (.Name n p) X.env := by rfl) : PE (X.suite a ((a, oe) :: pn)) (.Attribute (.Name n p) f pos) (tP X.K z (cFldE i cs f)) := by
  refine ⟨fun pins s σ H Q I ⟨ρ, F, O, dd, R, e, q⟩ => ?_⟩
  obtain ⟨er, h1, h2⟩ := bind_some e
  split at h2
  · next hc =>
    split at h2
    · next pr hp =>
      split at h2
      · next hpn =>
        cases h2
        obtain ⟨v, hσ, hent⟩ := R.ent i _ (excL_of h1)
        obtain ⟨_, a', ev, hex⟩ := hent
        obtain ⟨ea, ho⟩ := hx _ _ _ hex
        subst ea
        obtain ⟨D, hD⟩ := he er.cls (List.contains_iff_mem.mp hc)
        have ec : cls = .ref D := Option.some.inj (ho.1.symm.trans hD.mgx)
        subst ec
        have h2 := ho.2
        rw [hp] at h2
        obtain ⟨dd, x, e1, e2, e3⟩ := h2
        refine (pe_xf hD.exF (hno er.cls (List.contains_iff_mem.mp hc) D hD.mgx) hzc hf (pe_var (X := X.suite a' ((a', oe) :: pn)) (i := i) hN hv hd hcd) hb).run pins s σ H Q I ?_
        refine ⟨v, hσ, ev, rfl, dd, _, x, e1, R.sub _ _ e2, ?_, q x H (Same.refl _) (by rw [ext_self R.sub]; exact e3)⟩
        rw [hpn]
        simp [List.lookup]
      · cases h2
    · cases h2
  · cases h2
end
end DL
set_option maxHeartbeats 2000000
namespace DL
open PySem PySem.Spec PyProof.Rows L2 LamX
def DvOk (F : Hp) (dv : Option Addr) (nm : Option Str) : Prop := match nm with
  | none => dv = none
  | some _ => ∃ T, dv = some T ∧ F T = some (.tup [.int 0])
theorem DvOk.mono {F F' : Hp} {dv : Option Addr} {nm : Option Str} (s : Same F F') (h : DvOk F dv nm) : DvOk F' dv nm := by
  cases nm with
  | none => exact h
  | some n =>
    obtain ⟨T, e, h⟩ := h
    exact ⟨T, e, s _ _ h⟩
end DL
set_option maxHeartbeats 2000000
namespace DL
open PySem PySem.Spec PyProof.Rows L2 LamX
theorem Lams.length {L : Nat → Hp → Addr → Prop} {F : Hp} : ∀ {fs : List Addr} {js : List Nat}, Lams L F fs js → fs.length = js.length
  | _, _, .nil => rfl
  | _, _, .cons _ t => congrArg (· + 1) t.length
theorem Lams.append {L : Nat → Hp → Addr → Prop} {F : Hp} : ∀ {fs gs : List Addr} {js ks : List Nat}, Lams L F fs js → Lams L F gs ks → Lams L F (fs ++ gs) (js ++ ks)
  | _, _, _, _, .nil, t => t
  | _, _, _, _, .cons h s, t => .cons h (s.append t)
theorem Lams.get {L : Nat → Hp → Addr → Prop} {F : Hp} : ∀ {fs : List Addr} {js : List Nat} {i j : Nat}, Lams L F fs js → js[i]? = some j → ∃ f, fs[i]? = some f ∧ L j F f
  | _, _, _, _, .nil, e => by simp at e
  | _, _, 0, _, .cons h _, e => by
    simp at e
    subst e
    exact ⟨_, rfl, h⟩
  | _, _, i + 1, _, .cons _ t, e => by
    obtain ⟨f, h1, h2⟩ := t.get (i := i) (by simpa using e)
    exact ⟨f, by simpa using h1, h2⟩
def FinP (K : PySem.W.Frag) (mg : Str → Option Value) (F H : Hp) (σ : L2.St) (W : WX) (Q : VK) : Oc → Prop
  | .ok d => ∀ v H', Same H H' → Rep K (ext F H H') v d → Q v H'
  | .er e => ∀ cls d H', Same H H' → ErOk K mg (ext F H H') e cls d → W cls d σ H'
theorem atI_nat {α : Type} {xs : List α} {k : Int} {x : α} (h0 : 0 ≤ k) (h : xs[k.toNat]? = some x) : atI xs k = some x := by
  have hl := (List.getElem?_eq_some_iff.mp h).1
  unfold atI ixN
  rw [if_pos h0, if_pos (by omega)]
  exact h
section
variable {X : Cx} {z : Z} {W : WX} {x : Str} {k j : Nat} {p p1 p2 pos : Pos} {e : Expr} {es : List Expr}
theorem FinP.to {K : PySem.W.Frag} {mg : Str → Option Value} {F H H1 : Hp} {σ : L2.St} {W : WX} {Q : VK} {r : Oc} (s : Same H H1) (h : FinP K mg F H σ W Q r) : FinO K mg (ext F H H1) H1 Q (fun cls d H' => W cls d σ H') r := by
  cases r with
  | ok d => exact fun v H' s2 r => h v H' (s.trans s2) (by rw [ext_ext s s2] at r; exact r)
  | er e => exact fun cls d H' s2 r => h cls d H' (s.trans s2) (by rw [ext_ext s s2] at r; exact r)
end
end DL
set_option maxHeartbeats 2000000
namespace DL
open PySem PySem.Spec PyProof.Rows L2 LamX
/-- a frame's own relation, under that of a frame above it -/
theorem Rel.under {K : PySem.W.Frag} {z : Z} {x : Zx} {c : Addr} {l : List Addr} {ρ ρ' : Env} {σ σ' : L2.St} {F H F' H' : Hp} {O O' : Nat → List Addr} (R : Rel K z ρ σ F H O) (R' : Rel K ⟨H, F, fun _ => False, c, l, x⟩ ρ' σ' F' H' O') : Rel K z ρ σ F' H' O where
  len := R.len
  sub := R'.sub
  ent := fun i e h => by
    obtain ⟨v, h1, h2⟩ := R.ent i e h
    refine ⟨v, h1, h2.mono R'.f0 fun a ha => ?_⟩
    obtain ⟨o, e⟩ := some_of (R.off i a ha).2
    rw [e]
    exact R'.keep a o e id
  off := fun i a ha => by
    obtain ⟨h1, h2⟩ := R.off i a ha
    exact ⟨R'.old a h2 h1, R'.oldH a h2⟩
  apt := R.apt
  old := fun a h0 f0 => R'.old a (R.oldH a h0) (R.old a h0 f0)
  oldH := fun a h0 => R'.oldH a (R.oldH a h0)
  keep := fun a o h b => R'.keep a o (R.keep a o h b) id
  f0 := R.f0.trans R'.f0
  tup := R'.tup
end DL
set_option maxHeartbeats 2000000
namespace DL
open PySem PySem.Spec PyProof.Rows L2 LamX
end DL
set_option maxHeartbeats 2000000
namespace DL
open PySem PySem.Spec PyProof.Rows L2 LamX
/-- an own class of errors without __init__ -/
structure Own0 (K : PySem.W.Frag) (mg : Str → Option Value) (c : Str) : Prop where
  ex : ∃ C : Addr, mg c = some (.ref C) ∧ PySem.W.excIn K C veT "ValueError.__new__" = true ∧ PySem.W.keepIn K (.ref C) = true ∧ PySem.W.subIn K (.ref C) (.type "BaseException") = some true ∧ PySem.W.typeIn K (.ref C) = some (.type "type")
structure OwnS (K : PySem.W.Frag) (prog : Program) (mg : Str → Option Value) (c n : Str) : Prop where
  ex : ∃ C fI : Addr, mg c = some (.ref C) ∧ SupC K prog C fI n
  zs : mg "super" = none
section
variable {X : Cx} {z : Z} {W : WX}
theorem x_raiseO {c : Str} {p pos pos2 : Pos} (hc : X.calm = true) (tk : Takes X W) (o : Own0 X.K X.mg c) (hg : Gl X c) (hdb : (c == ("__debug__" : Str)) = false := by decide) : PS X (.Raise (some (.Call (.Name c p) [] [] pos)) none pos2) (tX X.K z X.mg W (xRaise0 c)) := by
  obtain ⟨C, h1, h2, h3, h4, h5⟩ := o.ex
  exact x_raise0 hc tk h1 (pmk_own0 F.excBase_ValueError h2 h1 h3 (raises_own h4 h5) hg hdb)
theorem x_raiseS {c n : Str} {k : Nat} {e : Expr} {f : Env → Option (D × Env)} {p pos pos2 : Pos} (hc : X.calm = true) (tk : Takes X W) (o : OwnS X.K X.prog X.mg c n) (hr : Room k X.A) (hg : Gl X c) (he : PE X e (tR X.K z f)) (hdb : (c == ("__debug__" : Str)) = false := by decide)
    (hs : starEach [e] X.env = (false, eval e X.env) :: starEach [] X.env := by rfl) : PS X (.Raise (some (.Call (.Name c p) [e] [] pos)) none pos2) (tX X.K z X.mg W (xRaise1 c n f)) := by
  obtain ⟨C, fI, h1, h2⟩ := o.ex
  exact x_raise1 (a := e) hc tk h1 (pmk_sup h2 h1 hg o.zs hr he hdb hs)
end
end DL
set_option maxHeartbeats 2000000
namespace DL
open PySem PySem.Spec PyProof.Rows L2 LamX
end DL
namespace DL
open PySem PySem.Spec PyProof.Rows L2 LamX
end DL
set_option maxHeartbeats 2000000
namespace DL
open PySem PySem.Spec PyProof.Rows L2
end DL
set_option maxHeartbeats 2000000
namespace DL
open PySem PySem.Spec PyProof.Rows L2
end DL
namespace DL
open PySem PySem.Spec PyProof.Rows L2 LamX
section
variable {X : Cx} {z : Z} {x : Str} {k j : Nat} {p pos : Pos}
theorem q_call0 {m : List D → Option D} (c : Cal X.prog X.w X.K X.mg X.base k x (spP X.K m)) (hr : Room j X.A) (hk : k ≤ j) (hg : Gl X x) (hdb : (x == ("__debug__" : Str)) = false := by decide) : PE X (.Call (.Name x p) [] [] pos) (tP X.K z (cN m cNil)) := by
  obtain ⟨g, fd, ps, F, h1, h2, h3⟩ := c.ex
  refine (pe_call0 (dvs := []) F (hr.mono hk) hg h1 h2 h3 .nil pass0 hdb).mono fun σ H Q ⟨ρ, F, O, d, R, e, q⟩ => ?_
  obtain ⟨ds, h4, h5⟩ := bind_some e
  cases h4
  show spP X.K m ([] ++ []) H Q E0
  exact ⟨_, [], d, ⟨R.sub, R.tup⟩, .nil, h5, q⟩
end
end DL
set_option maxHeartbeats 2000000
namespace DL
open PySem PySem.Spec PyProof.Rows L2
end DL
set_option maxHeartbeats 2000000
namespace DL
open PySem PySem.Spec PyProof.Rows L2
end DL
set_option maxHeartbeats 2000000
namespace DL
open PySem PySem.Spec PyProof.Rows L2 LamX
end DL
set_option maxHeartbeats 2000000
namespace DL
open PySem PySem.Spec PyProof.Rows L2
mutual
def isTp : D → Bool
  | .none => true
  | .bool _ => true
  | .int _ => true
  | .str _ => true
  | .tuple ds => isTps ds
  | .list _ => false
  | .dict _ => false
def isTps : List D → Bool
  | [] => true
  | d :: ds => isTp d && isTps ds
end
mutual
theorem rep_tp {K : PySem.W.Frag} {F H : Hp} (t : AllT F H) : ∀ (d : D) (v : V), isTp d = true → Rep K H v d → Rep K F v d
  | .none, _, _, r => by cases r; exact .non
  | .bool _, _, _, r => by cases r; exact .bl _
  | .int _, _, _, r => by cases r; exact .int _
  | .str _, _, _, r => by cases r; exact .str _
  | .tuple ds, _, h, r => by
    unfold isTp at h
    cases r with
    | tup e r => exact .tup (t _ _ e) (rep_tps t ds _ h r)
  | .list _, _, h, _ => by unfold isTp at h; cases h
  | .dict _, _, h, _ => by unfold isTp at h; cases h
theorem rep_tps {K : PySem.W.Frag} {F H : Hp} (t : AllT F H) : ∀ (ds : List D) (vs : List V), isTps ds = true → RepL K H vs ds → RepL K F vs ds
  | [], _, _, r => by cases r; exact .nil
  | d :: ds, _, h, r => by
    unfold isTps at h
    rw [Bool.and_eq_true] at h
    cases r with
    | cons r1 r2 => exact .cons (rep_tp t d _ h.1 r1) (rep_tps t ds _ h.2 r2)
end
/-- a method that writes nothing: a tree of tuples -/
def spT (K : PySem.W.Frag) (m : List (Str × D) → List D → Option D) : Sp := fun vs H Q _ => ∃ p C dx xs fs vs' ds d, vs = .ref p :: vs' ∧ H p = some (.ins C dx xs) ∧ OkC K C (fs.map (·.1)) ∧ xs.map (·.1) = fs.map (·.1) ∧ RepL K H (xs.map (·.2)) (fs.map (·.2)) ∧ RepL K H vs' ds ∧ m fs ds = some d ∧ isTp d = true ∧
  ∀ v H', Same H H' → Rep K H' v d → Q v H'
def runT1 (N n : Nat) (g : Gs) : List (Str × D) → List D → Option D := fun fs ds => if ds.length + 1 = n then (g (some (.obs fs) :: ini (N - 1) ds)).bind fun p => fin p else none
section
variable {P : Program} {w : World} {K : PySem.W.Frag} {mg : Str → Option Value} {base : Heap}
theorem ok_T1 {x qual : Str} {st : Stmt} {f : Addr} {fd : FuncData} {N ps : List Str} {k : Nat} {g : Gs} (F : Fun K x qual st f fd) (S : FnScope N ps (defScope st)) (hN : 0 < N.length)
    (h : ∀ (cdv : Value) (A : Around) (outer : List PySem.Env) (s : Shared) (H : Hp) (E : XK) (z : Z), Room k (A.deeper (envOfC qual (defScope st) s.heap.objs.size f cdv)) → PSs (cxOf CX0 P w K mg base N qual (defScope st) f cdv A outer s H E).nox (defBody st) (tS K z g)) :
    FnOk P w K mg base CX0 (k + 1) f fd ps (spT K (runT1 N.length ps.length g)) := by
  refine F.ok S (fun vs H Q E h => ?_) (fun cdv A outer s H vs Q E hr q => ?_)
  · obtain ⟨p, C, dx, xs, fs, vs', ds, e, e1, _, _, _, _, r, e, _⟩ := h
    unfold runT1 at e
    split at e
    · next hl => rw [e1, List.length_cons, r.length]; exact hl
    · cases e
  · obtain ⟨p, C, dx, xs, fs, vs', ds, e0, e1, hp, oc, en, rf, r, e, hat, q⟩ := q
    subst e1
    refine ⟨_, h cdv A outer s H E ⟨H, H, fun _ => False, 0, [], Zx.no⟩ hr, ?_⟩
    unfold runT1 at e
    split at e
    · obtain ⟨⟨fl, ρ'⟩, h1, h2⟩ := bind_some e
      refine ⟨_, H, _, fl, ρ', rel_startO hN hp oc en rf r, h1, ?_⟩
      have go : ∀ {v : V} {σ : L2.St} {F' H' : Hp} {O : Nat → List Addr}, Rel K ⟨H, H, fun _ => False, 0, [], Zx.no⟩ ρ' σ F' H' O → Rep K F' v e0 → Q v H' := fun {v σ F' H' O} R rv =>
        q v H' (fun a o h => R.keep a o h id) (rv.mono R.sub)
      cases fl with
      | nx =>
        cases h2
        exact fun σ F' H' O R s => go R .non
      | bk => cases h2
      | ct => cases h2
      | ret d2 =>
        cases h2
        exact fun v σ F' H' O R s r => go R r
    · cases e
theorem okT1 {x qual : Str} {st : Stmt} {f : Addr} {fd : FuncData} {N ps : List Str} {k : Nat} {g : Gs} (a b : Nat) (F : Fun K x qual st f fd) (S : FnScope N ps (defScope st)) (ha : N.length = a) (hb : ps.length = b) (hN : 0 < a)
    (h : ∀ (cdv : Value) (A : Around) (outer : List PySem.Env) (s : Shared) (H : Hp) (E : XK) (z : Z), Room k (A.deeper (envOfC qual (defScope st) s.heap.objs.size f cdv)) → PSs (cxOf CX0 P w K mg base N qual (defScope st) f cdv A outer s H E).nox (defBody st) (tS K z g)) :
    FnOk P w K mg base CX0 (k + 1) f fd ps (spT K (runT1 a b g)) := by
  subst ha hb
  exact ok_T1 F S hN h
end
def thF2 (fs : List (Str × Fd)) : List (Str × D) := fs.map fun p => (p.1, thF p.2)
def okTp (d : D) : Option D := if isTp d = true then some d else none
def cMethT (i : Nat) (nm : Str) (mm : List (Str × D) → List D → Option D) (f : Env → Option (List D)) : Env → Option D := fun ρ => (obL ρ[i]?).bind fun q => match fdF nm q.2 with
  | none => (f ρ).bind fun ds => (mm (thF2 q.2) ds).bind okTp
  | some _ => none
def cProp (i : Nat) (mm : List (Str × D) → List D → Option D) : Env → Option D := fun ρ => (obL ρ[i]?).bind fun q => (mm (thF2 q.2) []).bind okTp
theorem okTp_of {d d' : D} (h : okTp d = some d') : isTp d = true ∧ d' = d := by
  unfold okTp at h
  split at h
  · cases h
    exact ⟨by assumption, rfl⟩
  · cases h
section
variable {X : Cx} {z : Z} {C : Addr} {k j : Nat} {x nm : Str}
theorem methT_in {mm : List (Str × D) → List D → Option D} {i : Nat} {f : Env → Option (List D)} {σ : L2.St} {H : Hp} {Q : VK} (hz : z.cl = C)
    (h : tP X.K z (cMethT i nm mm f) σ H Q) :
    tMeth C nm (spT X.K mm) [] E0 (fun σ H Q => ∃ v, σ[i]? = some (some v) ∧ Q v H) (tPs X.K z f) σ H Q := by
  subst hz
  obtain ⟨ρ, F, O, e, R, e1, q⟩ := h
  obtain ⟨⟨m, fs⟩, h0, e1⟩ := bind_some e1
  dsimp only at e1
  split at e1
  · next hf =>
    obtain ⟨ds, h1, e1⟩ := bind_some e1
    obtain ⟨d0, h2, e1⟩ := bind_some e1
    obtain ⟨ht, e3⟩ := okTp_of e1
    subst e3
    obtain ⟨p, s1, ob, may⟩ := obL_of R h0
    obtain ⟨dx, xs, as', g1, g2, g3, g4, g5⟩ := ob
    refine ⟨_, s1, p, dx, xs, rfl, g2, fdF_none hf g5.names, ρ, F, O, ds, R, h1, fun vs H1 sm r => ?_⟩
    have R1 := R.grow sm
    obtain ⟨p', s1', ob1, may1⟩ := obL_of R1 h0
    have ep := s1.symm.trans s1'
    cases ep
    obtain ⟨dx', xs', as'', g1, g2, g3, g4, g5⟩ := ob1
    obtain ⟨n1, n2⟩ := g5.rep R1.sub
    show spT X.K mm (.ref p :: (vs ++ [])) H1 Q E0
    rw [List.append_nil]
    refine ⟨p, z.cl, dx', xs', _, vs, ds, _, rfl, g2, by rw [List.map_map]; exact g3, n1, n2, r.mono R1.sub, h2, ht, fun v H' s2 ar => ?_⟩
    have sm2 := sm.trans s2
    exact q v H' sm2 (rep_tp (R.tup.ext sm2) _ _ ht ar)
  · cases e1
theorem q_methT (i : Nat) {p0 pos apos : Pos} {e : Expr} {es : List Expr} {mm : List (Str × D) → List D → Option D} {f : Env → Option (List D)} (hz : z.cl = C) (c : CalM X.prog X.w X.K X.mg X.base k C nm (spT X.K mm)) (hr : Room j X.A) (hk : k ≤ j) (ha : PA X (e :: es) (tPs X.K z f))
    (hN : X.N[i]? = some x := by rfl) (hv : Vis X.env.scope x := by first | exact Or.inl rfl | exact Or.inr (Or.inl rfl) | exact Or.inr (Or.inr rfl)) (hd : (x == ("__debug__" : Str)) = false := by decide) (hcd : (x == ("__classdict__" : Str)) = false := by decide)
    (hst : starEach (e :: es) X.env = (false, eval e X.env) :: starEach es X.env := by rfl) (hpl : (backTo pos (starEach es X.env)).any (·.1) = false := by rfl) {pl : Sem Bool}
    (ht : eval (.Call (.Attribute (.Name x p0) nm apos) (e :: es) [] pos) X.env = (do
      let ov ← eval (.Name x p0) X.env
      standAt apos.atName
      let (f, first) ← holding [ov] (getMethod ov nm pl)
      callWith pos f first (backTo pos (starEach (e :: es) X.env)) (backToKw pos (keywordEach [] X.env))) := by rfl) :
    PE X (.Call (.Attribute (.Name x p0) nm apos) (e :: es) [] pos) (tP X.K z (cMethT i nm mm f)) := by
  obtain ⟨g, fd, ps, F, h1, h2⟩ := c.ex
  exact (pe_meth (dvs := []) (pe_var hN hv hd hcd) c.cls h1 F (hr.mono hk) h2 .nil pass0 ha hst hpl ht).mono fun σ H Q h => methT_in hz h
/-- a property by its getter -/
structure CalG (P : Program) (w : World) (K : PySem.W.Frag) (mg : Str → Option Value) (base : Heap) (k : Nat) (C : Addr) (m : Str) (sp : Sp) : Prop where
  cls : Cls K C
  ex : ∃ (p g : Addr) (fd : FuncData) (ps : List Str), FnOk P w K mg base CX0 k g fd ps sp ∧ PropOf K C m p g ∧ Binds K fd ps []
theorem q_prop (i : Nat) {p0 pos : Pos} {mm : List (Str × D) → List D → Option D} (hz : z.cl = C) (c : CalG X.prog X.w X.K X.mg X.base k C nm (spT X.K mm)) (hr : Room j X.A) (hk : k + 1 ≤ j)
    (hN : X.N[i]? = some x := by rfl) (hv : Vis X.env.scope x := by first | exact Or.inl rfl | exact Or.inr (Or.inl rfl) | exact Or.inr (Or.inr rfl)) (hd : (x == ("__debug__" : Str)) = false := by decide) (hcd : (x == ("__classdict__" : Str)) = false := by decide)
    (hbase : attributeBase (.Name x p0) nm X.env (eval (.Name x p0) X.env) = eval (.Name x p0) X.env := by rfl) : PE X (.Attribute (.Name x p0) nm pos) (tP X.K z (cProp i mm)) := by
  obtain ⟨p, g, fd, ps, F, h1, h2⟩ := c.ex
  refine (pe_prop (dvs := []) (ds := []) (pe_var hN hv hd hcd) c.cls h1 F (hr.mono hk) h2 .nil pass0 hbase).mono fun σ H Q ⟨ρ, F, O, d, R, e1, q⟩ => ?_
  subst hz
  obtain ⟨⟨m, fs⟩, h0, e1⟩ := bind_some e1
  obtain ⟨d0, h2, e1⟩ := bind_some e1
  obtain ⟨ht, e3⟩ := okTp_of e1
  subst e3
  obtain ⟨p, s1, ob, may⟩ := obL_of R h0
  obtain ⟨dx, xs, as', g1, g2, g3, g4, g5⟩ := ob
  obtain ⟨n1, n2⟩ := g5.rep R.sub
  refine ⟨_, s1, p, dx, xs, rfl, g2, ?_⟩
  refine ⟨p, z.cl, dx, xs, _, [], [], _, rfl, g2, by rw [List.map_map]; exact g3, n1, n2, .nil, h2, ht, fun v H' s2 ar => ?_⟩
  exact q v H' s2 (rep_tp (R.tup.ext s2) _ _ ht ar)
def gMethXR (i : Nat) (nm : Str) (mm : List (Str × Fd) → List D → Option (List (Str × Fd))) (f : Env → Option (List D × Env)) : Gs := fun ρ => (obL ρ[i]?).bind fun q0 => match fdF nm q0.2 with
  | none => (f ρ).bind fun a => (obL a.2[i]?).bind fun q => if q.1 = 1 then none else (mm q.2 a.1).map fun fs' => (.nx, a.2.set i (some (.ob q.1 fs')))
  | some _ => none
theorem s_methXR (i : Nat) {p0 pos apos pos2 : Pos} {e : Expr} {es : List Expr} {mm : List (Str × Fd) → List D → Option (List (Str × Fd))} {f : Env → Option (List D × Env)} (hz : z.cl = C) (c : CalM X.prog X.w X.K X.mg X.base k C nm (spMx X.K C mm)) (hr : Room j X.A) (hk : k ≤ j) (ha : PA X (e :: es) (tRs X.K z f))
    (hN : X.N[i]? = some x := by rfl) (hv : Vis X.env.scope x := by first | exact Or.inl rfl | exact Or.inr (Or.inl rfl) | exact Or.inr (Or.inr rfl)) (hd : (x == ("__debug__" : Str)) = false := by decide) (hcd : (x == ("__classdict__" : Str)) = false := by decide)
    (hst : starEach (e :: es) X.env = (false, eval e X.env) :: starEach es X.env := by rfl) (hpl : (backTo pos (starEach es X.env)).any (·.1) = false := by rfl) {pl : Sem Bool}
    (ht : eval (.Call (.Attribute (.Name x p0) nm apos) (e :: es) [] pos) X.env = (do
      let ov ← eval (.Name x p0) X.env
      standAt apos.atName
      let (f, first) ← holding [ov] (getMethod ov nm pl)
      callWith pos f first (backTo pos (starEach (e :: es) X.env)) (backToKw pos (keywordEach [] X.env))) := by rfl)
    (hsw : swapsWith (.Call (.Attribute (.Name x p0) nm apos) (e :: es) [] pos) none pos2.line X.env = pure false := by rfl) :
    PS X (.Expr (.Call (.Attribute (.Name x p0) nm apos) (e :: es) [] pos) pos2) (tS X.K z (gMethXR i nm mm f)) := by
  subst hz
  obtain ⟨g, fd, ps, F, h1, h2⟩ := c.ex
  refine (ps_expr (pe_meth (dvs := []) (pe_var hN hv hd hcd) c.cls h1 F (hr.mono hk) h2 .nil pass0 ha hst hpl ht) hsw).mono fun D σ H ⟨ρ, F, O, fl, ρ', R, e1, q⟩ => ?_
  obtain ⟨⟨m0, fs0⟩, h00, e1⟩ := bind_some e1
  dsimp only at e1
  split at e1
  · next hf0 =>
    obtain ⟨⟨ds, ρ1⟩, h1, e1⟩ := bind_some e1
    obtain ⟨⟨m, fs⟩, h0, e1⟩ := bind_some e1
    dsimp only at e1 h0
    split at e1
    · cases e1
    · next hm =>
      obtain ⟨fs', h2, e1⟩ := map_some e1
      cases e1
      obtain ⟨p0, s10, ob0, _⟩ := obL_of R h00
      obtain ⟨dx0, xs0, as0, _, g20, _, _, g50⟩ := ob0
      refine ⟨_, s10, p0, dx0, xs0, rfl, g20, fdF_none hf0 g50.names, ρ, F, O, ds, ρ1, R, h1, fun vs F1 H1 R1 kp r => ?_⟩
      obtain ⟨p, s1, ob1, may1⟩ := obL_of R1 h0
      have ep := s10.symm.trans s1
      cases ep
      show spMx X.K z.cl mm (.ref p0 :: (vs ++ [])) H1 (fun _ => D.nx σ) E0
      rw [List.append_nil]
      refine ⟨_, p0, O i, fs, vs, ds, fs', rfl, ⟨R1.sub, R1.tup⟩, fun a ha => R1.off i a ha, ob1, r, h2, fun F' H' as2 L ob' hf => ?_⟩
      have hi := obL_eq h0
      have hlt : i < ρ1.length := (List.getElem?_eq_some_iff.mp hi).1
      have R2 : Rel X.K z (ρ1.set i (some (.ob m fs'))) σ F' H' (setO O i as2) := by
        refine R1.leave L (by rw [List.length_set]) (fun k e hk => ?_) (fun k a ha => ?_) may1.1
        · unfold setO
          by_cases q : k = i
          · subst q
            rw [List.getElem?_set_self hlt] at hk
            cases hk
            rw [if_pos rfl]
            refine .inr ⟨_, s1, ob'.ent ⟨fun a ha => ?_, fun e => absurd e hm, may1.2.2.1, fun e a ha => ?_⟩⟩
            · rcases (hf a ha).2.2 with q | q
              · exact may1.1 a q
              · exact .inl (H0_of R1 q)
            · rcases (hf a ha).2.2 with q | q
              · exact may1.2.2.2 e a q
              · exact H0_of R1 q
          · rw [List.getElem?_set_ne (Ne.symm q)] at hk
            rw [if_neg q]
            exact .inl ⟨hk, rfl, fun a ha hw => q (R1.apt k i a ha hw)⟩
        · unfold setO at ha
          split at ha
          · next e =>
            rcases (hf a ha).2.2 with q | q
            · exact .inl (by rw [e]; exact q)
            · refine .inr ⟨q, (hf a ha).1, (hf a ha).2.1, fun j hj => ?_⟩
              unfold setO at hj
              split at hj
              · next e2 => rw [e, e2]
              · exact absurd q (R1.off j a hj).2
          · exact .inl ha
      exact q σ F' H' _ R2 (kp.same.trans L.same)
  · cases e1
end
end DL
set_option maxHeartbeats 2000000
namespace DL
open PySem PySem.Spec PyProof.Rows L2
/-- o.f as a target -/
def gFldT (K : PySem.W.Frag) (to : TE) (f : Str) : TG := fun v σ H Q => to σ H fun x H1 => ∃ a C dx fs, x = .ref a ∧ H1 a = some (.ins C dx fs) ∧ Cls K C ∧ NoAttr K C f ∧ fs.length < 1000 ∧ Q σ (upd H1 a (.ins C dx (putF f v fs)))
theorem pg_fld {X : Cx} {o : Expr} {f : Str} {pos : Pos} {to : TE} (ho : PE X o to)
    (ha : ∀ v, assign (.Attribute o f pos) X.env v = (do
      let ov ← holding [v] (eval o X.env)
      standAt pos.atName
      holding [v, ov] (setAttr ov f v)
      release [v, ov] []) := by intro _; rfl) : PG X (.Attribute o f pos) (gFldT X.K to f) := by
  refine ⟨fun pins s σ H v u Q I r h => ?_⟩
  rw [ha]
  refine wpAny_bind (wpAny_holding (thn (ho.run pins s σ H _ I h) fun ov s1 ⟨x, H1, I1, r1, a, C, dx, fs, ex, ea, c, n, l, q⟩ => ?_))
  subst ex
  obtain rfl : ov = Value.ref a := r1
  refine wpAny_bind (wpAny_standAt (wpAny_bind (wpAny_holding (setattr_ok I1 ea c n l r fun s2 I2 => ?_))))
  exact wpAny_release ⟨σ, _, I2, q⟩
section
variable {K : PySem.W.Frag} {z : Z} {F H : Hp}
theorem Fds.newAt {nm : Str} {l : Addr} {es : List D} (ol : Obj1 K F H l (.list es)) : ∀ {xs : List (Str × V)} {fs : List (Str × Fd)} {as : List Addr} {ds : List D}, Fds K F H xs fs as → as.Nodup → l ∉ as → fdF nm fs = some (.own (.list ds)) →
    ∃ as2, Fds K F H (putF nm (.ref l) xs) (setFd nm (.own (.list es)) fs) as2 ∧ as2.Nodup ∧ ∀ a ∈ as2, a = l ∨ a ∈ as
  | _, _, _, _, .nil, _, _, h => by cases h
  | _, _, _, ds, .sh (n := n) r t, hn, hl, h => by
    unfold fdF at h
    unfold setFd
    show ∃ as2, Fds K F H (if n = nm then _ else _) _ as2 ∧ _
    split at h
    · cases h
    · next e =>
      obtain ⟨as2, h1, h2, h3⟩ := Fds.newAt ol t hn hl h
      rw [if_neg e, if_neg e]
      exact ⟨as2, .sh r h1, h2, h3⟩
  | _, _, _, ds, .own (n := n) (p := p) (as := as) o t, hn, hl, h => by
    unfold fdF at h
    unfold setFd
    show ∃ as2, Fds K F H (if n = nm then _ else _) _ as2 ∧ _
    obtain ⟨n1, n2⟩ := List.nodup_cons.mp hn
    have hl2 : l ∉ as := fun q => hl (List.mem_cons_of_mem _ q)
    split at h
    · next e =>
      rw [if_pos e, if_pos e]
      subst e
      exact ⟨l :: as, .own ol t, List.nodup_cons.mpr ⟨hl2, n2⟩, fun a ha => by
        rcases List.mem_cons.mp ha with q | q
        · exact .inl q
        · exact .inr (List.mem_cons_of_mem _ q)⟩
    · next e =>
      obtain ⟨as2, h1, h2, h3⟩ := Fds.newAt ol t n2 hl2 h
      rw [if_neg e, if_neg e]
      refine ⟨p :: as2, .own o h1, List.nodup_cons.mpr ⟨fun q => ?_, h2⟩, fun a ha => ?_⟩
      · rcases h3 p q with q | q
        · exact hl (by rw [← q]; exact List.mem_cons_self)
        · exact n1 q
      · rcases List.mem_cons.mp ha with q | q
        · exact .inr (by rw [q]; exact List.mem_cons_self)
        · rcases h3 a q with q | q
          · exact .inl q
          · exact .inr (List.mem_cons_of_mem _ q)
  | _, _, _, ds, .own2 (n := n) (p := p) (qs := qs) (as := as) h0 o t, hn, hl, h => by
    unfold fdF at h
    unfold setFd
    show ∃ as2, Fds K F H (if n = nm then _ else _) _ as2 ∧ _
    obtain ⟨n1, n2⟩ := List.nodup_cons.mp hn
    obtain ⟨n3, n4, n5⟩ := List.nodup_append.mp n2
    have hl2 : l ∉ as := fun q => hl (List.mem_cons_of_mem _ (List.mem_append_right _ q))
    split at h
    · cases h
    · next e =>
      obtain ⟨as2, h1, h2, h3⟩ := Fds.newAt ol t n4 hl2 h
      rw [if_neg e, if_neg e]
      refine ⟨p :: (qs ++ as2), .own2 h0 o h1, List.nodup_cons.mpr ⟨fun q => ?_, List.nodup_append.mpr ⟨n3, h2, fun a ha b hb e => ?_⟩⟩, fun a ha => ?_⟩
      · rcases List.mem_append.mp q with q | q
        · exact n1 (List.mem_append_left _ q)
        · rcases h3 p q with q | q
          · exact hl (by rw [← q]; exact List.mem_cons_self)
          · exact n1 (List.mem_append_right _ q)
      · rcases h3 b hb with q | q
        · exact hl (List.mem_cons_of_mem _ (List.mem_append_left _ (by rw [← q, ← e]; exact ha)))
        · exact n5 a ha b q e
      · rcases List.mem_cons.mp ha with q | q
        · exact .inr (by rw [q]; exact List.mem_cons_self)
        · rcases List.mem_append.mp q with q | q
          · exact .inr (List.mem_cons_of_mem _ (List.mem_append_left _ q))
          · rcases h3 a q with q | q
            · exact .inl q
            · exact .inr (List.mem_cons_of_mem _ (List.mem_append_right _ q))
theorem Ob.newAt {c p : Addr} {fs : List (Str × Fd)} {as : List Addr} {nm : Str} {ds es : List D} {l : Addr} (h : Ob K F H c p fs as) (hf : fdF nm fs = some (.own (.list ds))) (ol : Obj1 K F H l (.list es)) (hl : l ∉ as) :
    ∃ dx xs as', H p = some (.ins c dx xs) ∧ Cls K c ∧ NoAttr K c nm ∧ xs.length = fs.length ∧ Ob K F (upd H p (.ins c dx (putF nm (.ref l) xs))) c p (setFd nm (.own (.list es)) fs) as' ∧ ∀ a ∈ as', a = l ∨ a ∈ as := by
  obtain ⟨dx, xs, as', e2, h2, h3, h4, h6⟩ := h
  subst e2
  obtain ⟨n1, n2⟩ := List.nodup_cons.mp h4
  have lp : l ≠ p := fun e => hl (by rw [e]; exact List.mem_cons_self)
  have t := h6.mono (H' := upd H p (.ins c dx (putF nm (.ref l) xs))) (Same.refl F) fun a ha => upd_ne fun e => n1 (e ▸ ha)
  obtain ⟨as2, q1, q2, q3⟩ := Fds.newAt (ol.mono (H' := upd H p (.ins c dx (putF nm (.ref l) xs))) (Same.refl F) (upd_ne lp)) t n2 (fun q => hl (List.mem_cons_of_mem _ q)) hf
  refine ⟨dx, xs, p :: as2, h2, h3.cls, h3.no _ (fdF_mem hf), h6.len, ⟨dx, _, as2, rfl, upd_same, by rw [setFd_names]; exact h3, List.nodup_cons.mpr ⟨fun q => ?_, q2⟩, q1⟩, fun a ha => ?_⟩
  · rcases q3 p q with q | q
    · exact lp q.symm
    · exact n1 q
  · rcases List.mem_cons.mp ha with q | q
    · exact .inr (by rw [q]; exact List.mem_cons_self)
    · rcases q3 a q with q | q
      · exact .inl q
      · exact .inr (List.mem_cons_of_mem _ q)
end
def gFldPar (i : Nat) (n1 n2 : Str) (f : Env → Option D) (g : Env → Option (E × Env)) : Gs := fun ρ => (f ρ).bind fun d => (g ρ).bind fun p => match p.1 with
  | .own (.list es) => (obL p.2[i]?).bind fun q => if q.1 = 1 then none else if q.2.length ≤ 900 then (putFd n1 (.sh d) q.2).bind fun fs1 => match fdF n2 fs1 with
    | some (.own (.list _)) => if fs1.length ≤ 900 then some (.nx, p.2.set i (some (.ob q.1 (setFd n2 (.own (.list es)) fs1)))) else none
    | _ => none else none
  | _ => none
theorem setO_self (O : Nat → List Addr) (i : Nat) : setO O i (O i) = O := by
  funext j
  unfold setO
  split
  · next e => rw [e]
  · rfl
section
variable {X : Cx} {z : Z}
theorem s_fldPar {C : Addr} (hz : z.cl = C) (i : Nat) {x n1 n2 : Str} {e1 e2 : Expr} {f : Env → Option D} {g : Env → Option (E × Env)} {p1 p2 p3 p4 pos pt pt2 : Pos} {kt k2} (hc : X.calm = true) (no : NoAttr X.K C n1) (ha : PE X e1 (tP X.K z f)) (hb : PE X e2 (tW X.K z g)) (hN : X.N[i]? = some x := by rfl) (hv : Vis X.env.scope x := by first | exact Or.inl rfl | exact Or.inr (Or.inl rfl) | exact Or.inr (Or.inr rfl)) (hd : (x == ("__debug__" : Str)) = false := by decide)
    (hcd : (x == ("__classdict__" : Str)) = false := by decide)
    (ha1 : starEach [e1, e2] X.env = (false, eval e1 X.env) :: starEach [e2] X.env := by rfl) (hb1 : starEach [e2] X.env = (false, eval e2 X.env) :: starEach [] X.env := by rfl)
    (hn : (assignEach [.Attribute (.Name x p1) n1 p2, .Attribute (.Name x p3) n2 p4] X.env).length = 2 := by rfl) (hst : (assignEach [.Attribute (.Name x p1) n1 p2, .Attribute (.Name x p3) n2 p4] X.env).findIdx? (·.1) = none := by rfl)
    (hm1 : (assignEach [.Attribute (.Name x p1) n1 p2, .Attribute (.Name x p3) n2 p4] X.env).map (·.2) = assign (.Attribute (.Name x p1) n1 p2) X.env :: (assignEach [.Attribute (.Name x p3) n2 p4] X.env).map (·.2) := by rfl) (hm2 : (assignEach [.Attribute (.Name x p3) n2 p4] X.env).map (·.2) = assign (.Attribute (.Name x p3) n2 p4) X.env :: (assignEach [] X.env).map (·.2) := by rfl)
    (hw : swappedStores [.Tuple [.Attribute (.Name x p1) n1 p2, .Attribute (.Name x p3) n2 p4] kt pt] (.Tuple [e1, e2] k2 pt2) X.env = pure none := by rfl)
    (hs : swapsWithSole [.Tuple [.Attribute (.Name x p1) n1 p2, .Attribute (.Name x p3) n2 p4] kt pt] (.Tuple [e1, e2] k2 pt2) pos.line X.env = pure false := by rfl)
    (h1 : (assignEach [.Tuple [.Attribute (.Name x p1) n1 p2, .Attribute (.Name x p3) n2 p4] kt pt] X.env).map (·.2) = [assign (.Tuple [.Attribute (.Name x p1) n1 p2, .Attribute (.Name x p3) n2 p4] kt pt) X.env] := by rfl) :
    PS X (.Assign [.Tuple [.Attribute (.Name x p1) n1 p2, .Attribute (.Name x p3) n2 p4] kt pt] (.Tuple [e1, e2] k2 pt2) pos) (tS X.K z (gFldPar i n1 n2 f g)) :=
  (ps_asg (pe_tup (pa_cons ha (pa_cons hb pa_nil hb1) ha1)) (pg_tup hc (pgs_cons (pg_fld (pe_var hN hv hd hcd)) (pgs_cons (pg_fld (pe_var hN hv hd hcd)) pgs_nil hm2) hm1) hn hst) hs hw h1).mono fun D σ H ⟨ρ, F, O, fl, ρ', R, e, q⟩ => by
    subst hz
    obtain ⟨d, h1, e⟩ := bind_some e
    obtain ⟨⟨en, ρ2⟩, h2, e⟩ := bind_some e
    dsimp only at e
    split at e
    · next es =>
      obtain ⟨⟨m, fs⟩, h0, e⟩ := bind_some e
      dsimp only at e h0
      split at e
      · cases e
      · next hm =>
        split at e
        · next hl =>
          obtain ⟨fs1, h3, e⟩ := bind_some e
          split at e
          · next ds hf =>
            split at e
            · next hl1 =>
              cases e
              refine ⟨ρ, F, O, d, R, h1, fun v1 H1 s1 r1 => ⟨ρ, _, O, _, ρ2, R.grow s1, h2, fun v2 F2 H2 as2 R2 k2 ent2 f2 => ⟨le1000 (by show 2 ≤ 1000; decide), fun p hp => ?_⟩⟩⟩
              have R3 := R2.newS (o := .tup [v1, v2]) hp
              have sF : Same F2 (upd F2 p (.tup [v1, v2])) := same_new (R2.sub.free hp)
              obtain ⟨l, el, eas, l0, ol⟩ := ent2
              subst el eas
              have hlm : l ∈ [l] := List.mem_cons_self
              obtain ⟨lF, lH⟩ := (f2 l hlm).2
              have lfr : ∀ j, l ∉ O j := fun j hj => ((R.grow s1).off j l hj).2 (f2 l hlm).1
              obtain ⟨pb, sb, ob, may⟩ := obL_of R3 h0
              have r1' := (r1.mono k2.same).mono sF
              obtain ⟨dx, xs, g1, g2, g3, g4⟩ := ob.putSh (v := v1) no h3 r1'
              have R4 := R3.mutE ob.mem (may.1 pb ob.mem) sb (g4.ent may) fun b hb => .inl hb
              rw [setO_self] at R4
              have hset : (ρ2.set i (some (.ob m fs1)))[i]? = some (some (.ob m fs1)) := by
                rw [List.getElem?_set_self (List.getElem?_eq_some_iff.mp (obL_eq h0)).1]
              have lp : l ≠ p := fun q => by rw [q] at lH; exact lH hp
              have lpb : l ≠ pb := fun q => lfr i (by rw [q]; exact ob.mem)
              have ol4 : Obj1 X.K (upd F2 p (.tup [v1, .ref l])) (upd (upd H2 p (.tup [v1, .ref l])) pb (.ins z.cl dx (putF n1 v1 xs))) l (.list es) := ol.mono sF ((upd_ne lpb).trans (upd_ne lp))
              obtain ⟨dx', xs', as', t1, t2, t3, t4, t5, t6⟩ := g4.newAt hf ol4 (lfr i)
              refine ⟨p, [v1, .ref l], rfl, .of upd_same, rfl, v1, [.ref l], rfl, ?_⟩
              refine ⟨_, sb, pb, z.cl, dx, xs, rfl, g1, g2, no, by have : fs.length ≤ 900 := hl; omega, .ref l, [], rfl, ?_⟩
              refine ⟨_, sb, pb, z.cl, dx', xs', rfl, t1, t2, t3, by have : fs1.length ≤ 900 := hl1; omega, rfl, ?_⟩
              have lH4 : upd (upd H2 p (.tup [v1, .ref l])) pb (.ins z.cl dx (putF n1 v1 xs)) l ≠ none := by
                rw [upd_ne lpb, upd_ne lp]
                exact lH
              have R5 := R4.mutE (i := i) (e := .ob m (setFd n2 (.own (.list es)) fs1)) ob.mem (may.1 pb ob.mem) sb (t5.ent ⟨fun a ha => ?_, fun e => absurd e hm, may.2.2.1, fun e a ha => ?_⟩) fun b hb => ?_
              · rw [List.set_set] at R5
                exact q σ _ _ _ R5 (((same_ext R.sub).trans k2.same).trans sF)
              · rcases t6 a ha with q | q
                · exact .inl (by rw [q]; exact l0)
                · exact may.1 a q
              · rcases t6 a ha with q | q
                · rw [q]; exact l0
                · exact may.2.2.2 e a q
              · rcases t6 b hb with q | q
                · refine .inr ⟨?_, by rw [q]; exact lH4, by rw [q]; exact lfr⟩
                  rw [q, upd_ne lp]
                  exact lF
                · exact .inl q
            · cases e
          · cases e
        · cases e
    · cases e
end
end DL
set_option maxHeartbeats 2000000
namespace DL
open PySem PySem.Spec PyProof.Rows L2
/-- a dict of the module: what it has at some words -/
structure KD (K : PySem.W.Frag) (w : World) (mg : Str → Option Value) (x : Str) (tb : List (Str × Option Int)) : Prop where
  ex : ∃ (d : Addr) (es : Array DictEntry) (n : Nat), mg x = some (.ref d) ∧ KDict K w d es n ∧ ∀ p ∈ tb, (∀ i, p.2 = some i → ∃ t, PySem.W.nsIn K d p.1 = some (some (.int i t))) ∧ (p.2 = none → PySem.W.nsIn K d p.1 = some none)
/-- a tuple of words of the module -/
structure KT (K : PySem.W.Frag) (mg : Str → Option Value) (x : Str) (ss : List Str) : Prop where
  ex : ∃ a, mg x = some (.ref a) ∧ ∀ H, SqT K H a (ss.map V.str)
def tbAt (tb : List (Str × Option Int)) (z : Str) : Option (Option Int) := match tb with
  | [] => none
  | (y, o) :: r => if y = z then some o else tbAt r z
theorem tbAt_mem : ∀ {tb : List (Str × Option Int)} {z : Str} {o : Option Int}, tbAt tb z = some o → (z, o) ∈ tb
  | [], _, _, h => by cases h
  | (y, o') :: r, z, o, h => by
    unfold tbAt at h
    split at h
    · next e =>
      cases h
      rw [e]
      exact List.mem_cons_self
    · exact List.mem_cons_of_mem _ (tbAt_mem h)
def kdHas (tb : List (Str × Option Int)) : D → Option D
  | .str z => (tbAt tb z).map fun o => .bool o.isSome
  | _ => none
def kdNot (tb : List (Str × Option Int)) : D → Option D
  | .str z => (tbAt tb z).map fun o => .bool (!o.isSome)
  | _ => none
def kdGet (tb : List (Str × Option Int)) : D → D → Option D
  | .str z, d => (tbAt tb z).map fun o => match o with
    | some i => .int i
    | none => d
  | _, _ => none
def ktNot (ss : List Str) : D → Option D
  | .str z => some (.bool (!ss.any fun y => y == z))
  | _ => none
theorem inV_strs (z : Str) : ∀ ss : List Str, inV (.str z) (ss.map V.str) = ss.any fun y => y == z
  | [] => rfl
  | y :: r => by
    have h := inV_strs z r
    unfold inV at h ⊢
    rw [List.map_cons, List.any_cons, List.any_cons, h]
    rfl
theorem flat_strs : ∀ ss : List Str, (ss.map V.str).all flatV = true
  | [] => rfl
  | _ :: r => by
    rw [List.map_cons, List.all_cons, flat_strs r]
    rfl
section
variable {X : Cx} {z : Z} {e : Expr} {x : Str} {p pos : Pos} {f : Env → Option D} {tb : List (Str × Option Int)} {ss : List Str}
def cGetK (tb : List (Str × Option Int)) (f g : Env → Option D) : Env → Option D := fun ρ => (f ρ).bind fun a => (g ρ).bind fun b => kdGet tb a b
theorem q_getK {e2 : Expr} {apos cpos : Pos} {g : Env → Option D} (c : KD X.K X.w X.mg x tb) (he : PE X e (tP X.K z f)) (hf : PE X e2 (tP X.K z g)) (hg : Gl X x) (m : M2 X (.Name x p) "get" apos e e2 cpos := by exact ⟨by rfl, by rfl, by rfl, by rfl⟩) (hd : (x == ("__debug__" : Str)) = false := by decide) :
    PE X (.Call (.Attribute (.Name x p) "get" apos) [e, e2] [] cpos) (tP X.K z (cGetK tb f g)) := by
  obtain ⟨d, es, n, hmg, D, htb⟩ := c.ex
  refine ⟨fun pins s σ H Q I ⟨ρ, F, O, dd, R, e0, q⟩ => ?_⟩
  obtain ⟨a, h1, e0⟩ := bind_some e0
  obtain ⟨b, h2, e0⟩ := bind_some e0
  refine wpAny_Call_method m.base m.few m.line PySem.F.plainAttrs_dict PySem.F.slot_dict_get PySem.F.type_dict_get (thn ((pe_glob (v := .ref d) hg hmg rfl hd).run pins s σ H (fun v H1 => v = .ref d ∧ H1 = H) I ⟨rfl, rfl⟩) fun u s1 ⟨v, H1, I1, rx, ev, eH⟩ => ?_)
  subst ev eH
  obtain rfl : u = Value.ref d := rx
  refine ⟨kd_type D I1, fun a' ha' => by cases ha'; exact ⟨_, I1.kIn _ _ D.at_, rfl⟩, ?_⟩
  rw [m.trees]
  refine Calls.callWith_builtin rfl (Calls.evalArgs_plain (Calls.spliced_cons (thn (he.run pins s1 σ H1 (fun v H2 => Same H1 H2 ∧ Rep X.K (ext F H1 H2) v a) I1 ⟨ρ, F, O, a, R, h1, fun v H2 s r => ⟨s, r⟩⟩) fun iv s2 ⟨y, H2, I2, ry, sm, r1⟩ =>
    Calls.spliced_cons (thn (hf.run pins s2 σ H2 (fun v H3 => Same H2 H3 ∧ Rep X.K (ext (ext F H1 H2) H2 H3) v b) I2 ⟨ρ, _, O, b, R.grow sm, h2, fun v H3 s r => ⟨s, r⟩⟩) fun fv s3 ⟨y2, H3, I3, rz, s2, r2⟩ => Calls.spliced_nil ?_))))
  unfold kdGet at e0
  split at e0
  · obtain ⟨o, h5, h6⟩ := map_some e0
    cases r1
    obtain ⟨t, rfl⟩ := ry
    obtain ⟨g1, g2⟩ := htb _ (tbAt_mem h5)
    have hmap := PySem.W.mapOf_K (prog := X.prog) I3.kIn D.at_ D.lit
    rw [ext_ext sm s2] at r2
    refine call_meetsIn PySem.F.slot_dict_get (kd_type D I3) PySem.F.entry_dict_get (PySem.F.args_dict_get_3 _ _ _) (meets_dict_get_default (PySem.strKind X.prog X.w) d (PySem.strKind_is X.prog X.w _ t) D.low fv) ⟨_, hmap, ?_⟩
    cases o with
    | some i =>
      obtain ⟨t2, g3⟩ := g1 i rfl
      subst h6
      rw [PySem.W.find_K D.at_ g3]
      exact ⟨.int i, H3, I3.tok _, ⟨_, rfl⟩, q _ H3 (sm.trans s2) (.int i)⟩
    | none =>
      subst h6
      rw [PySem.W.find_K D.at_ (g2 rfl)]
      exact ⟨y2, H3, I3.tok _, rz, q _ H3 (sm.trans s2) r2⟩
  · cases e0
def oSplit : D → List D → Option D
  | .str a, [.str b] => if ((b.length == 0) = false) ∧ a.length ≤ 900 then some (.list ((Txt.split a b).map PyData.str)) else none
  | _, _ => none
theorem rep_strs {K : PySem.W.Frag} {F : Hp} : ∀ ss : List Str, RepL K F (ss.map V.str) (ss.map PyData.str)
  | [] => .nil
  | _ :: r => .cons (.str _) (rep_strs r)
theorem q_split {o : Expr} {apos : Pos} {f g : Env → Option D} (ho : PE X o (tP X.K z f)) (he : PE X e (tP X.K z g)) (hs : starEach [e] X.env = [(false, eval e X.env)] := by rfl) (hbase : attributeBase o "split" X.env (eval o X.env) = eval o X.env := by rfl) (hline : (apos.endLine == pos.line) = true := by rfl) :
    PE X (.Call (.Attribute o "split" apos) [e] [] pos) (tP X.K z (cM oSplit f (cCons g cNil))) :=
  (pe_split ho he hs hbase hline).mono fun σ H Q ⟨ρ, F, O, d, R, e0, q⟩ => by
    obtain ⟨a, h1, e0⟩ := bind_some e0
    obtain ⟨as, h2, e0⟩ := bind_some e0
    obtain ⟨b, h3, h2⟩ := bind_some h2
    cases h2
    have key : ∀ {a b : D}, oSplit a [b] = some d → ∃ a1 b1 : Str, a = .str a1 ∧ b = .str b1 ∧ ((b1.length == 0) = false) ∧ a1.length ≤ 900 ∧ d = .list ((Txt.split a1 b1).map PyData.str) := fun {a b} h => by
      unfold oSplit at h
      split at h
      · next a1 b1 hb =>
        cases hb
        split at h
        · next hc =>
          cases h
          exact ⟨a1, b1, rfl, rfl, hc.1, hc.2, rfl⟩
        · cases h
      · cases h
    obtain ⟨a1, b1, ea, eb, hc1, hc2, ed⟩ := key e0
    subst ea eb ed
    refine ⟨ρ, F, O, _, R, h1, fun x H1 s1 r1 => ?_⟩
    cases r1
    refine ⟨⟨_, rfl⟩, ρ, _, O, _, R.grow s1, h3, fun y H2 s2 r2 => ?_⟩
    cases r2
    refine ⟨a1, b1, rfl, rfl, hc1, by have := small1000 (n := a1.length + 2) (by omega); omega, fun p hp => ?_⟩
    have sn : Same H2 (upd H2 p (.lst ((Txt.split a1 b1).map V.str))) := same_new hp
    refine q _ _ ((s1.trans s2).trans sn) (.lst (.of ?_) (rep_strs _))
    have hn : H p = none := (s1.trans s2).free hp
    unfold ext
    rw [hn]
    exact upd_same
def strOf : D → Option (List D)
  | .str z => some (z.cps.toList.map fun c => .str ⟨#[c]⟩)
  | _ => none
def iT (f : Env → Option D) : Env → Option (List D) := fun ρ => (f ρ).bind strOf
theorem yld_str {K : PySem.W.Frag} {F : Hp} {s : Str} : Yld K (Its s) F (s.cps.toList.map fun c => .str ⟨#[c]⟩) where
  go := fun i H _ hi => by
    rw [List.length_map, Array.length_toList] at hi
    exact hi
  yld := fun i F' H x H' d s1 s2 t ⟨e, c, h1, h2⟩ hd => by
    subst e h2
    refine ⟨Same.refl _, ?_⟩
    rw [List.getElem?_map, Array.getElem?_toList, h1] at hd
    cases hd
    exact .str _
  stop := fun i H _ hi => by
    rw [List.length_map, Array.length_toList] at hi
    exact Nat.le_of_eq hi.symm
theorem i_str {tg : Expr} (h : PE X e (tP X.K z f)) : PI X tg e (tIP X.K z (iT f)) := by
  refine ⟨fun pins s σ H Rr I ⟨ρ, F, O, ds, R, e, q⟩ => ?_⟩
  obtain ⟨d, h1, h2⟩ := bind_some e
  unfold strOf at h2
  split at h2
  · cases h2
    refine (pi_str h).run pins s σ H Rr I ⟨ρ, F, O, _, R, h1, fun v H' s r => ?_⟩
    cases r
    exact ⟨_, rfl, q _ H' s yld_str⟩
  · cases h2
def oNinS : D → D → Option D
  | .str a, .str b => match a.cps.toList with
    | [c] => some (.bool (!decide (c ∈ b.cps.toList)))
    | _ => none
  | _, _ => none
theorem w_ninS {K : PySem.W.Frag} : Op2 K (fun x y H Q => ∃ (c : Nat) (z : Str), x = .str ⟨#[c]⟩ ∧ y = .str z ∧ Q (.bl (!decide (c ∈ z.cps.toList))) H) oNinS := ⟨fun F H x y a b d Q s ra rb e q => by
  unfold oNinS at e
  split at e
  · next a1 b1 =>
    split at e
    · next c hc =>
      cases e
      cases ra
      cases rb
      refine ⟨c, b1, ?_, rfl, q _ H (Same.refl _) (.bl _)⟩
      obtain ⟨⟨l⟩⟩ := a1
      have hc : l = [c] := hc
      rw [hc]
    · cases e
  · cases e⟩
/-- int(s), s a text -/
def oIntS : List D → Option D
  | [.str a] => if a.length ≤ 640 then (PySem.intText? a).map PyData.int else none
  | _ => none
theorem w_intS {K : PySem.W.Frag} : OpN K (fun xs H Q => ∃ a n, xs = [.str a] ∧ PySem.intText? a = some n ∧ a.length ≤ 640 ∧ Q (.int n) H) oIntS := ⟨fun F H xs as d Q s ra e q => by
  unfold oIntS at e
  split at e
  · split at e
    · next hl =>
      obtain ⟨n, h1, h2⟩ := map_some e
      subst h2
      cases ra with
      | cons r t =>
        cases t
        cases r
        exact ⟨_, n, rfl, h1, hl, q _ H (Same.refl _) (.int n)⟩
    · cases e
  · cases e⟩
end
end DL
namespace DL
open PySem PySem.Spec PyProof.Rows L2
section
variable {X : Cx} {z : Z} {e : Expr} {x : Str} {p pos : Pos} {f : Env → Option D} {tb : List (Str × Option Int)} {ss : List Str}
theorem b_inKD (c : KD X.K X.w X.mg x tb) (he : PE X e (tP X.K z f)) (hg : Gl X x) (hm : behindInMarks .In (.Name x p) = false) (hd : (x == ("__debug__" : Str)) = false := by decide) : PT X (.Compare e [.In] [.Name x p] pos) (tB X.K z (bV (c1 (kdHas tb) f))) := by
  obtain ⟨d, es, n, h1, D, h2⟩ := c.ex
  refine (pt_cmpR (op_in_kd D) he (pe_glob (v := .ref d) hg h1 rfl hd) hm).mono fun σ H Q ⟨ρ, F, O, b, R, e, q⟩ => ?_
  obtain ⟨d', e0, h7⟩ := bind_some e
  obtain ⟨a, h3, h4⟩ := bind_some e0
  unfold kdHas at h4
  split at h4
  · obtain ⟨o, h5, h6⟩ := map_some h4
    subst h6
    cases isB_of h7
    obtain ⟨g1, g2⟩ := h2 _ (tbAt_mem h5)
    refine ⟨ρ, F, O, _, R, h3, fun v H' s r => ?_⟩
    cases r
    cases o with
    | some i =>
      obtain ⟨t, g3⟩ := g1 i rfl
      exact ⟨_, _, rfl, rfl, g3, _, rfl, q H' s⟩
    | none => exact ⟨_, _, rfl, rfl, g2 rfl, _, rfl, q H' s⟩
  · cases h4
theorem b_ninKD (c : KD X.K X.w X.mg x tb) (he : PE X e (tP X.K z f)) (hg : Gl X x) (hm : behindInMarks .NotIn (.Name x p) = false) (hd : (x == ("__debug__" : Str)) = false := by decide) : PT X (.Compare e [.NotIn] [.Name x p] pos) (tB X.K z (bV (c1 (kdNot tb) f))) := by
  obtain ⟨d, es, n, h1, D, h2⟩ := c.ex
  refine (pt_cmpR (op_notIn_kd D) he (pe_glob (v := .ref d) hg h1 rfl hd) hm).mono fun σ H Q ⟨ρ, F, O, b, R, e, q⟩ => ?_
  obtain ⟨d', e0, h7⟩ := bind_some e
  obtain ⟨a, h3, h4⟩ := bind_some e0
  unfold kdNot at h4
  split at h4
  · obtain ⟨o, h5, h6⟩ := map_some h4
    subst h6
    cases isB_of h7
    obtain ⟨g1, g2⟩ := h2 _ (tbAt_mem h5)
    refine ⟨ρ, F, O, _, R, h3, fun v H' s r => ?_⟩
    cases r
    cases o with
    | some i =>
      obtain ⟨t, g3⟩ := g1 i rfl
      exact ⟨_, _, rfl, rfl, g3, _, rfl, q H' s⟩
    | none => exact ⟨_, _, rfl, rfl, g2 rfl, _, rfl, q H' s⟩
  · cases h4
theorem b_ninKT (c : KT X.K X.mg x ss) (he : PE X e (tP X.K z f)) (hg : Gl X x) (hm : behindInMarks .NotIn (.Name x p) = false) (hd : (x == ("__debug__" : Str)) = false := by decide) : PT X (.Compare e [.NotIn] [.Name x p] pos) (tB X.K z (bV (c1 (ktNot ss) f))) := by
  obtain ⟨d, h1, h2⟩ := c.ex
  refine (pt_cmpR op_notIn_seq he (pe_glob (v := .ref d) hg h1 rfl hd) hm).mono fun σ H Q ⟨ρ, F, O, b, R, e, q⟩ => ?_
  obtain ⟨d', e0, h7⟩ := bind_some e
  obtain ⟨a, h3, h4⟩ := bind_some e0
  unfold ktNot at h4
  split at h4
  · cases h4
    cases isB_of h7
    refine ⟨ρ, F, O, _, R, h3, fun v H' s r => ?_⟩
    cases r
    refine ⟨d, _, rfl, .inr (h2 H'), rfl, flat_strs ss, _, ?_, q H' s⟩
    rw [if_pos rfl, inV_strs]
  · cases h4
end
end DL
set_option maxHeartbeats 2000000
namespace DL
open PySem PySem.Spec PyProof.Rows L2
def tMethS (C : Addr) (m : Str) (sp : Sp) (E : L2.St → XK) (ta : TE) (t : TA) : TE := fun σ H Q => ta σ H fun x H1 => ∃ a dx fs, x = .ref a ∧ H1 a = some (.ins C dx fs) ∧ fs.lookup m = none ∧ t σ H1 fun vs H2 => sp (x :: vs) H2 Q (E σ)
def tMakeS (C : Addr) (sp : Sp) (E : L2.St → XK) (t : TA) : TE := fun σ H Q => t σ H fun vs H1 => ∀ x dx, H1 x = none → H1 dx = none → dx ≠ x → sp (.ref x :: vs) (upd (upd H1 dx (.own x)) x (.ins C dx [])) (fun v H2 => v = .non ∧ Q (.ref x) H2) (E σ)
section
variable {X : Cx} {CX : CXT} {k : Nat} {f C : Addr} {fd : FuncData} {ps : List Str} {sp : Sp} {E : L2.St → XK} {x m : Str} {p pos apos : Pos} {e o : Expr} {es : List Expr} {ta : TE} {t : TA}
theorem pe_methW {pl : Sem Bool} (he : PE X o ta) (c : Cls X.K C) (hm : Meth X.K C m f) (F : FnOk X.prog X.w X.K X.mg X.base CX k f fd ps sp) (hr : Room k X.A) (hb : Binds X.K fd ps []) (hx : ∀ σ, PassesAt CX X σ (E σ)) (ha : PA X (e :: es) t)
    (hst : starEach (e :: es) X.env = (false, eval e X.env) :: starEach es X.env := by rfl) (hpl : (backTo pos (starEach es X.env)).any (·.1) = false := by rfl)
    (ht : eval (.Call (.Attribute o m apos) (e :: es) [] pos) X.env = (do
      let ov ← eval o X.env
      standAt apos.atName
      let (f, first) ← holding [ov] (getMethod ov m pl)
      callWith pos f first (backTo pos (starEach (e :: es) X.env)) (backToKw pos (keywordEach [] X.env))) := by rfl) :
    PE X (.Call (.Attribute o m apos) (e :: es) [] pos) (tMethS C m sp E ta t) := by
  refine ⟨fun pins s σ H Q I h => ?_⟩
  refine PySem.W.methodCall_KW (pl := pl) (thn (he.run pins s σ H _ I h) fun u s1 ⟨x, H1, I1, rx, a, dx, fs, ex, ea, l, q⟩ => ?_) ht
  subst ex
  obtain rfl : u = Value.ref a := rx
  refine getmeth_ok I1 ea c hm l ?_
  refine PySem.W.callWith_K (first := [.ref a]) (h₀ := X.base) I.ok.mod.kin hm.kp (thn (ha.run pos pins s1 σ H1 _ I1 q) fun us s2 ⟨vs, H2, I2, r, q2⟩ => ⟨I2.kIn, ?_⟩) hst hpl
  exact run_fnS (us := .ref a :: us) (vs := .ref a :: vs) F hr hb (hx σ) I2 (.cons rfl r) q2
theorem run_makeS {pins : List (Addr × Obj)} {σ : L2.St} {H : Hp} {s : Shared} {Q : VK} {us : List Value} {vs : List V} (M : Mk X.K C f) (F : FnOk X.prog X.w X.K X.mg X.base CX k f fd ps sp) (hr : Room (k + 1) X.A) (hb : Binds X.K fd ps [])
    (hx : PassesAt CX X σ (E σ)) (I : Inv X pins σ H s) (r : Vals vs us)
    (h : ∀ x dx, H x = none → H dx = none → dx ≠ x → sp (.ref x :: vs) (upd (upd H dx (.own x)) x (.ins C dx [])) (fun v H2 => v = .non ∧ Q (.ref x) H2) (E σ)) :
    wpAny (model X.prog X.w) X.A (call (.ref C) us) (EP X pins σ Q) X.xe s := by
  have hq := h (s.heap.objs.size + 1) s.heap.objs.size (I.hok.fresh (Nat.le_succ _)) (I.hok.fresh (Nat.le_refl _)) (Nat.ne_of_lt (Nat.lt_succ_self _))
  have I2 := Inv.made (C := C) I
  have r2 : Vals (V.ref (s.heap.objs.size + 1) :: vs) (Value.ref (s.heap.objs.size + 1) :: us) := .cons rfl r
  have hl : (Value.ref (s.heap.objs.size + 1) :: us ++ []).length = ps.length := by
    rw [List.append_nil]
    have e := r2.length
    rw [F.len _ _ _ _ hq] at e
    exact e.symm
  have hbb := hb _ (Value.ref (s.heap.objs.size + 1) :: us) I2.kIn hl
  rw [List.append_nil] at hbb
  refine wpAny_call (make_map (f := f) I.kIn M.makes M.init (beq_iff_eq.mp M.fn) (codeAny_mono (F.run _ X.stack _ _ ⟨Value.ref (s.heap.objs.size + 1) :: us, []⟩ (Value.ref (s.heap.objs.size + 1) :: us) _ _ (E σ) (hr.make C us [])
    (I2.env0.make C us []) hbb r2 hq) fun r s' hq' => ?_))
  cases r with
  | error e => exact hx pins _ _ e s' I2 hq'
  | ok fl =>
    cases fl with
    | ret u =>
      obtain ⟨v, H', I3, rv, ev, q3⟩ := I2.after hq'
      subst ev
      exact ⟨rv, ⟨V.ref (s.heap.objs.size + 1), H', I3, rfl, q3⟩⟩
    | next => exact False.elim hq'
    | brk => exact False.elim hq'
    | cont => exact False.elim hq'
theorem pe_makeS (M : Mk X.K C f) (F : FnOk X.prog X.w X.K X.mg X.base CX k f fd ps sp) (hr : Room (k + 1) X.A) (hg : Gl X x) (hm : X.mg x = some (.ref C)) (hb : Binds X.K fd ps []) (hx : ∀ σ, PassesAt CX X σ (E σ))
    (ha : PA X (e :: es) t) (hdb : (x == ("__debug__" : Str)) = false := by decide) (he : starEach (e :: es) X.env = (false, eval e X.env) :: starEach es X.env := by rfl) (hpl : (backTo pos (starEach es X.env)).any (·.1) = false := by rfl) :
    PE X (.Call (.Name x p) (e :: es) [] pos) (tMakeS C sp E t) := by
  refine ⟨fun pins s σ H Q I h => ?_⟩
  refine wpAny_Call_Name_kw (ld_glob I hg hm ?_ hdb)
  refine PySem.W.callWith_K (h₀ := X.base) I.ok.mod.kin M.kp (thn (ha.run pos pins s σ H _ I h) fun us s1 ⟨vs, H1, I1, r, q⟩ => ⟨I1.kIn, ?_⟩) he hpl
  exact run_makeS M F hr hb (hx σ) I1 r q
end
def FinM (K : PySem.W.Frag) (mg : Str → Option Value) (c p : Addr) (F H : Hp) (as : List Addr) (Q : VK) (E : XK) (fs' : List (Str × Fd)) : Oc → Prop
  | .ok d => ∀ v F' H', Left F H F' H' as → Ob K F' H' c p fs' as → Rep K F' v d → Q v H'
  | .er e => ∀ cls d F' H', Left F H F' H' as → Ob K F' H' c p fs' as → ErOk K mg F' e cls d → E cls d H'
def spMX (K : PySem.W.Frag) (mg : Str → Option Value) (c : Addr) (m : List (Str × Fd) → List D → Option (Oc × List (Str × Fd))) : Sp := fun vs H Q E => ∃ F p as fs vs' ds r fs', vs = .ref p :: vs' ∧ (Same F H ∧ AllT F H) ∧ (∀ a ∈ as, F a = none ∧ H a ≠ none) ∧ Ob K F H c p fs as ∧ RepL K F vs' ds ∧ m fs ds = some (r, fs') ∧ FinM K mg c p F H as Q E fs' r
def runMX (N n : Nat) (g : Gx) : List (Str × Fd) → List D → Option (Oc × List (Str × Fd)) := fun fs ds => if ds.length + 1 = n then (g (some (.ob 1 fs) :: ini (N - 1) ds)).bind fun p => (finX p).bind fun r => (obAt 1 p.2).map fun fs' => (r, fs') else none
section
variable {P : Program} {w : World} {K : PySem.W.Frag} {mg : Str → Option Value} {base : Heap}
theorem ok_MX {c : Addr} {x qual : Str} {st : Stmt} {f : Addr} {fd : FuncData} {N ps : List Str} {k : Nat} {g : Gx} (F : Fun K x qual st f fd) (S : FnScope N ps (defScope st)) (hN : 0 < N.length)
    (h : ∀ (cdv : Value) (A : Around) (outer : List PySem.Env) (s : Shared) (H : Hp) (E : XK) (z : Z), z.cl = c → Room k (A.deeper (envOfC qual (defScope st) s.heap.objs.size f cdv)) → PSs (cxOf (L2.CX P w) P w K mg base N qual (defScope st) f cdv A outer s H E) (defBody st) (tX K z mg (fun cls d _ H => E cls d H) g)) :
    FnOk P w K mg base (L2.CX P w) (k + 1) f fd ps (spMX K mg c (runMX N.length ps.length g)) := by
  refine F.okX S (fun vs H Q E h => ?_) (fun cdv A outer s H vs Q E hr q => ?_)
  · obtain ⟨F, p, as, fs, vs', ds, e, fs', e1, _, _, _, r, e, _⟩ := h
    unfold runMX at e
    split at e
    · next hl => rw [e1, List.length_cons, r.length]; exact hl
    · cases e
  · obtain ⟨F, p, as, fs, vs', ds, e0, fs', e1, ⟨s0, t0⟩, ha, ob, r, e, q⟩ := q
    subst e1
    refine ⟨_, h cdv A outer s H E ⟨H, F, fun a => a ∈ as, c, as, Zx.no⟩ rfl hr, ?_⟩
    unfold runMX at e
    split at e
    · obtain ⟨⟨fx, ρ'⟩, h1, e⟩ := bind_some e
      obtain ⟨d', h2, e⟩ := bind_some e
      obtain ⟨fs2, h3, e⟩ := map_some e
      cases e
      refine ⟨_, F, _, fx, ρ', rel_startM (by decide) hN s0 t0 ha ob r, h1, ?_⟩
      have go : ∀ {σ : L2.St} {F' H' : Hp} {O : Nat → List Addr}, Rel K ⟨H, F, fun a => a ∈ as, c, as, Zx.no⟩ ρ' σ F' H' O → Left F H F' H' as ∧ Ob K F' H' c p fs' as := fun {σ F' H' O} R => by
        obtain ⟨p', _, ob', may⟩ := obL_of R (obAt_of h3)
        have ea : O 0 = as := may.2.1 rfl
        rw [ea] at ob'
        have ep : p' = p := by
          obtain ⟨_, _, _, q1, _⟩ := ob
          obtain ⟨_, _, _, q2, _⟩ := ob'
          rw [q1] at q2
          exact (List.cons.inj q2).1.symm
        subst ep
        exact ⟨left_of R, ob'⟩
      cases fx with
      | er e =>
        cases h2
        exact fun cls d σ F' H' O R s r => q cls d F' H' (go R).1 (go R).2 r
      | fl fl =>
        cases fl with
        | nx =>
          cases h2
          exact fun σ F' H' O R s => q .non F' H' (go R).1 (go R).2 .non
        | bk => cases h2
        | ct => cases h2
        | ret d2 =>
          cases h2
          exact fun v σ F' H' O R s r => q v F' H' (go R).1 (go R).2 r
    · cases e
theorem okMX {c : Addr} {x qual : Str} {st : Stmt} {f : Addr} {fd : FuncData} {N ps : List Str} {k : Nat} {g : Gx} (a b : Nat) (F : Fun K x qual st f fd) (S : FnScope N ps (defScope st)) (ha : N.length = a) (hb : ps.length = b) (hN : 0 < a)
    (h : ∀ (cdv : Value) (A : Around) (outer : List PySem.Env) (s : Shared) (H : Hp) (E : XK) (z : Z), z.cl = c → Room k (A.deeper (envOfC qual (defScope st) s.heap.objs.size f cdv)) → PSs (cxOf (L2.CX P w) P w K mg base N qual (defScope st) f cdv A outer s H E) (defBody st) (tX K z mg (fun cls d _ H => E cls d H) g)) :
    FnOk P w K mg base (L2.CX P w) (k + 1) f fd ps (spMX K mg c (runMX a b g)) := by
  subst ha hb
  exact ok_MX F S hN h
end
structure CalMX (P : Program) (w : World) (K : PySem.W.Frag) (mg : Str → Option Value) (base : Heap) (k : Nat) (C : Addr) (m : Str) (sp : Sp) : Prop where
  cls : Cls K C
  ex : ∃ (f : Addr) (fd : FuncData) (ps : List Str), FnOk P w K mg base (L2.CX P w) k f fd ps sp ∧ Meth K C m f ∧ Binds K fd ps []
def eMeth (i : Nat) (nm : Str) (mm : List (Str × Fd) → List D → Option (Oc × List (Str × Fd))) (f : Env → Option (List D)) : Ex := fun ρ => (obL ρ[i]?).bind fun q => match fdF nm q.2 with
  | none => (f ρ).bind fun ds => (mm q.2 ds).map fun r => (r.1, ρ.set i (some (.ob q.1 r.2)))
  | some _ => none
def eIf (c : Env → Option (Bool × Env)) (f g : Ex) : Ex := fun ρ => (c ρ).bind fun p => if p.1 = true then f p.2 else g p.2
def eMake (mm : List (Str × Fd) → List D → Option (Oc × List (Str × Fd))) (f : Env → Option (List D)) : Ex := fun ρ => (f ρ).bind fun ds => (mm [] ds).bind fun r => match r.1 with
  | .er e => some (.er e, ρ)
  | .ok _ => none
theorem FinE.from {K : PySem.W.Frag} {z : Z} {mg : Str → Option Value} {F H F1 H1 : Hp} {O : Nat → List Addr} {σ : L2.St} {W : WX} {Q : VK} {ρ : Env} {r : Oc} (k1 : Kp F H F1 H1 O) (h : FinE K z mg F H O σ W Q ρ r) : FinE K z mg F1 H1 O σ W Q ρ r := by
  cases r with
  | ok d => exact fun v F' H' R k r => h v F' H' R (k1.trans k) r
  | er e => exact fun cls d F' H' R k r => h cls d F' H' R (k1.trans k) r
section
variable {X : Cx} {z : Z} {C : Addr} {k j : Nat} {x nm : Str} {W : WX}
theorem e_meth (i : Nat) {p0 pos apos : Pos} {e : Expr} {es : List Expr} {mm : List (Str × Fd) → List D → Option (Oc × List (Str × Fd))} {f : Env → Option (List D)} (tk : Takes X W) (hz : z.cl = C) (c : CalMX X.prog X.w X.K X.mg X.base k C nm (spMX X.K X.mg C mm)) (hr : Room j X.A) (hk : k ≤ j) (ha : PA X (e :: es) (tPs X.K z f))
    (hN : X.N[i]? = some x := by rfl) (hv : Vis X.env.scope x := by first | exact Or.inl rfl | exact Or.inr (Or.inl rfl) | exact Or.inr (Or.inr rfl)) (hd : (x == ("__debug__" : Str)) = false := by decide) (hcd : (x == ("__classdict__" : Str)) = false := by decide)
    (hst : starEach (e :: es) X.env = (false, eval e X.env) :: starEach es X.env := by rfl) (hpl : (backTo pos (starEach es X.env)).any (·.1) = false := by rfl) {pl : Sem Bool}
    (ht : eval (.Call (.Attribute (.Name x p0) nm apos) (e :: es) [] pos) X.env = (do
      let ov ← eval (.Name x p0) X.env
      standAt apos.atName
      let (f, first) ← holding [ov] (getMethod ov nm pl)
      callWith pos f first (backTo pos (starEach (e :: es) X.env)) (backToKw pos (keywordEach [] X.env))) := by rfl) :
    PE X (.Call (.Attribute (.Name x p0) nm apos) (e :: es) [] pos) (tRx X.K z X.mg W (eMeth i nm mm f)) := by
  subst hz
  obtain ⟨g, fd, ps, F, h1, h2⟩ := c.ex
  have hk2 : Room k X.A := hr.mono hk
  refine (pe_methW (pe_var hN hv hd hcd) c.cls h1 F hk2 h2 (fun σ => passAt tk σ) ha hst hpl ht).mono fun σ H Q ⟨ρ, F, O, r, ρ', R, e1, q⟩ => ?_
  obtain ⟨⟨m, fs⟩, h0, e1⟩ := bind_some e1
  dsimp only at e1
  split at e1
  · next hf =>
    obtain ⟨ds, h1, e1⟩ := bind_some e1
    obtain ⟨⟨r', fs'⟩, h2, e1⟩ := map_some e1
    cases e1
    obtain ⟨p, s1, ob, may⟩ := obL_of R h0
    obtain ⟨dx, xs, as', g1, g2, g3, g4, g5⟩ := ob
    refine ⟨_, s1, p, dx, xs, rfl, g2, fdF_none hf g5.names, ρ, F, O, ds, R, h1, fun vs H1 sm r => ?_⟩
    have R1 := R.grow sm
    obtain ⟨p', s1', ob1, may1⟩ := obL_of R1 h0
    have ep := s1.symm.trans s1'
    cases ep
    refine ⟨_, p, O i, fs, vs, ds, r', fs', rfl, ⟨R1.sub, R1.tup⟩, fun a ha => R1.off i a ha, ob1, r, h2, ?_⟩
    cases r' with
    | ok d => exact fun v F' H' L ob' rv => q v F' H' (R1.meth h0 s1 may1 L ob') ((Kp.of_same R.sub sm).trans (L.kp fun a ha => ⟨i, ha⟩)) rv
    | er er => exact fun cls d F' H' L ob' rv => q cls d F' H' (R1.meth h0 s1 may1 L ob') ((Kp.of_same R.sub sm).trans (L.kp fun a ha => ⟨i, ha⟩)) rv
  · cases e1
theorem qI {c a b : Expr} {pos : Pos} {tc : Env → Option (Bool × Env)} {f g : Ex} (hc : PT X c (tBR X.K z tc)) (ha : PE X a (tRx X.K z X.mg W f)) (hb : PE X b (tRx X.K z X.mg W g)) : PE X (.IfExp c a b pos) (tRx X.K z X.mg W (eIf tc f g)) :=
  (pe_ifExp hc ha hb).mono fun σ H Q ⟨ρ, F, O, d, ρ', R, e, q⟩ => by
    obtain ⟨⟨b, ρ1⟩, h1, h2⟩ := bind_some e
    refine ⟨ρ, F, O, b, ρ1, R, h1, fun F' H' R' k => ?_⟩
    cases b with
    | true => exact ⟨ρ1, F', O, d, ρ', R', h2, q.from k⟩
    | false => exact ⟨ρ1, F', O, d, ρ', R', h2, q.from k⟩
theorem e_make {f : Addr} {fd : FuncData} {ps : List Str} {p pos : Pos} {e : Expr} {es : List Expr} {mm : List (Str × Fd) → List D → Option (Oc × List (Str × Fd))} {fa : Env → Option (List D)} (tk : Takes X W) (hz : z.cl = C) (cl : Cls X.K C) (M : Mk X.K C f) (G : FnOk X.prog X.w X.K X.mg X.base (L2.CX X.prog X.w) k f fd ps (spMX X.K X.mg C mm)) (hb : Binds X.K fd ps []) (hr : Room j X.A) (hk : k + 1 ≤ j) (hg : Gl X x) (hm : X.mg x = some (.ref C))
    (ha : PA X (e :: es) (tPs X.K z fa)) (hdb : (x == ("__debug__" : Str)) = false := by decide) (he : starEach (e :: es) X.env = (false, eval e X.env) :: starEach es X.env := by rfl) (hpl : (backTo pos (starEach es X.env)).any (·.1) = false := by rfl) :
    PE X (.Call (.Name x p) (e :: es) [] pos) (tRx X.K z X.mg W (eMake mm fa)) := by
  subst hz
  have hr2 : Room (k + 1) X.A := hr.mono hk
  refine (pe_makeS M G hr2 hg hm hb (fun σ => passAt tk σ) ha hdb he hpl).mono fun σ H Q ⟨ρ, F, O, en, ρ', R, e1, q⟩ => ?_
  obtain ⟨ds, h1, e1⟩ := bind_some e1
  obtain ⟨⟨r, fs'⟩, h2, e1⟩ := bind_some e1
  cases r with
  | ok d => cases e1
  | er er =>
    cases e1
    refine ⟨ρ, F, O, ds, R, h1, fun vs H1 sm r p dx hp hdx nd => ?_⟩
    have R1 := R.grow sm
    have f1 : ext F H H1 p = none := R1.sub.free hp
    have f2 : ext F H H1 dx = none := R1.sub.free hdx
    have up : ∀ a, a ≠ p → a ≠ dx → upd (upd H1 dx (.own p)) p (.ins z.cl dx []) a = H1 a := fun a n1 n2 => by rw [upd_ne n1, upd_ne n2]
    refine ⟨_, p, [p], [], vs, ds, .er er, fs', rfl, ⟨fun a o h => ?_, (R1.tup.up (by intro _ q; cases q)).up (by intro _ q; cases q)⟩, fun a ha => ?_, ⟨dx, [], [], rfl, upd_same, ⟨cl, fun n hn => by cases hn⟩, by simp, .nil⟩, r, h2, fun cls d F' H' L ob rv => ?_⟩
    · rw [up a (ne_of_none h f1) (ne_of_none h f2)]
      exact R1.sub _ _ h
    · rcases List.mem_cons.mp ha with e | e
      · rw [e, upd_same]
        exact ⟨f1, fun z => nomatch z⟩
      · cases e
    · have s1 : Same H1 H' := fun a o h => by
        refine L.keep a o (fun e => ?_) ?_
        · rcases List.mem_cons.mp e with e | e
          · rw [e, hp] at h
            cases h
          · cases e
        · rw [up a (ne_of_none h hp) (ne_of_none h hdx)]
          exact h
      have ou : ∀ a, H1 a ≠ none → ext F H H1 a = none → F' a = none := fun a h f => by
        obtain ⟨o, q⟩ := some_of h
        refine L.out a ?_ f
        rw [up a (ne_of_none q hp) (ne_of_none q hdx)]
        exact h
      have R2 := R1.grow2 s1 L.same L.sub L.tup ou
      have k1 : Kp (ext F H H1) H1 F' H' O := ⟨L.same, fun a o h _ => s1 _ _ h, ou, fun a h => by
        obtain ⟨o, q⟩ := some_of h
        exact ne_none (s1 _ _ q)⟩
      exact q cls d F' H' R2 ((Kp.of_same R.sub sm).trans k1) rv
end
end DL
namespace DL
open PySem PySem.Spec PyProof.Rows L2
def rAnd (f g : Env → Option (D × Env)) : Env → Option (D × Env) := fun ρ => (f ρ).bind fun p => (isB p.1).bind fun a => if a = true then g p.2 else some (.bool false, p.2)
theorem r_and {X : Cx} {z : Z} {a b : Expr} {rest : List Expr} {pos : Pos} {f g : Env → Option (D × Env)} (h : PE X a (tR X.K z f)) (k : PE X (.BoolOp .And (b :: rest) pos) (tR X.K z g)) : PE X (.BoolOp .And (a :: b :: rest) pos) (tR X.K z (rAnd f g)) :=
  (pe_and h k).mono fun σ H Q ⟨ρ, F, O, c, ρ', R, e, q⟩ => by
    obtain ⟨⟨d, ρ1⟩, h1, h2⟩ := bind_some e
    obtain ⟨a, ha, h2⟩ := bind_some h2
    dsimp only at ha h2
    rw [isB_of ha] at h1
    refine ⟨ρ, F, O, _, ρ1, R, h1, fun v F' H' R' kp r => ?_⟩
    cases r
    refine ⟨a, rfl, ?_⟩
    split at h2
    · next hd =>
      rw [if_pos hd]
      exact ⟨ρ1, F', O, c, ρ', R', h2, fun v2 F2 H2 R2 k2 r2 => q v2 F2 H2 R2 (kp.trans k2) r2⟩
    · next hd =>
      rw [if_neg hd]
      cases h2
      exact q _ F' H' R' kp (.bl _)
end DL
namespace PL
abbrev Mat := Nat → Nat → Int
def set2 (m : Mat) (i j : Nat) (v : Int) : Mat := fun x y => if x = i ∧ y = j then v else m x y
/-- one turn of the table: through the point k -/
def phase (k : Nat) (m : Mat) : Mat := fun i j => min (m i j) (m i k + m k j)
def phases : Nat → Mat → Mat
  | 0, m => m
  | k + 1, m => phase k (phases k m)
structure Zero (m : Mat) : Prop where
  diag : ∀ i, m i i = 0
  nn : ∀ i j, 0 ≤ m i j
theorem Zero.phase {m : Mat} (h : Zero m) (k : Nat) : Zero (phase k m) where
  diag := fun i => by
    show min (m i i) (m i k + m k i) = 0
    have := h.diag i
    have := h.nn i k
    have := h.nn k i
    omega
  nn := fun i j => by
    show 0 ≤ min (m i j) (m i k + m k j)
    have := h.nn i j
    have := h.nn i k
    have := h.nn k j
    omega
theorem Zero.phases {m : Mat} (h : Zero m) : ∀ k, Zero (phases k m)
  | 0 => h
  | k + 1 => (h.phases k).phase k
theorem phase_le (k : Nat) (m : Mat) (i j : Nat) : phase k m i j ≤ m i j := by
  show min _ _ ≤ _
  omega
theorem phases_le {m : Mat} (i j : Nat) : ∀ k, phases k m i j ≤ m i j
  | 0 => Int.le_refl _
  | k + 1 => Int.le_trans (phase_le k _ i j) (phases_le i j k)
/-- row and column k stand still in turn k -/
theorem phase_row {m : Mat} (h : Zero m) (k j : Nat) : phase k m k j = m k j := by
  show min (m k j) (m k k + m k j) = _
  have := h.diag k
  omega
theorem phase_col {m : Mat} (h : Zero m) (k i : Nat) : phase k m i k = m i k := by
  show min (m i k) (m i k + m k k) = _
  have := h.diag k
  omega
theorem tri {m : Mat} (h : Zero m) : ∀ k x, x < k → ∀ i j, phases k m i j ≤ phases k m i x + phases k m x j
  | 0, x, hx => absurd hx (Nat.not_lt_zero x)
  | k + 1, x, hx => fun i j => by
    have Z := h.phases k
    have T := tri h k
    show phase k (phases k m) i j ≤ phase k (phases k m) i x + phase k (phases k m) x j
    by_cases e : x = k
    · subst e
      rw [phase_col Z, phase_row Z]
      show min _ _ ≤ _
      omega
    · have hx' : x < k := by omega
      have a1 := T x hx' i j
      have a2 := T x hx' k j
      have a3 := T x hx' i k
      have a4 := T x hx' k k
      have a5 := Z.diag k
      show min (phases k m i j) (phases k m i k + phases k m k j) ≤ min (phases k m i x) (phases k m i k + phases k m k x) + min (phases k m x j) (phases k m x k + phases k m k j)
      omega
theorem sym {m : Mat} (h : ∀ i j, m i j = m j i) : ∀ k i j, phases k m i j = phases k m j i
  | 0, i, j => h i j
  | k + 1, i, j => by
    have a1 := sym h k i j
    have a2 := sym h k i k
    have a3 := sym h k k j
    show min _ _ = min _ _
    omega
/-- each way ends with a road, or is as far as 'far' -/
theorem last {m : Mat} {far : Int} (E : Nat → Nat → Int → Prop) (h : Zero m) (h0 : ∀ i j, i ≠ j → far ≤ m i j ∨ E i j (m i j)) : ∀ k i j, i ≠ j → far ≤ phases k m i j ∨ ∃ u l, E u j l ∧ phases k m i u + l ≤ phases k m i j
  | 0, i, j, ne => by
    rcases h0 i j ne with a | a
    · exact .inl a
    · refine .inr ⟨i, m i j, a, ?_⟩
      show m i i + m i j ≤ m i j
      have := h.diag i
      omega
  | k + 1, i, j, ne => by
    have Z := h.phases k
    have eq : phases (k + 1) m i j = min (phases k m i j) (phases k m i k + phases k m k j) := rfl
    by_cases c : phases k m i j ≤ phases k m i k + phases k m k j
    · have e1 : phases (k + 1) m i j = phases k m i j := by omega
      rw [e1]
      rcases last E h h0 k i j ne with a | ⟨u, l, a, b⟩
      · exact .inl a
      · refine .inr ⟨u, l, a, ?_⟩
        have := phase_le k (phases k m) i u
        show phase k (phases k m) i u + l ≤ _
        omega
    · have e1 : phases (k + 1) m i j = phases k m i k + phases k m k j := by omega
      rw [e1]
      by_cases ek : k = j
      · subst ek
        have := Z.diag k
        omega
      · rcases last E h h0 k k j ek with a | ⟨u, l, a, b⟩
        · left
          have := Z.nn i k
          omega
        · refine .inr ⟨u, l, a, ?_⟩
          show min (phases k m i u) (phases k m i k + phases k m k u) + l ≤ _
          omega
abbrev Road := Nat × Nat × Int
abbrev Row := Nat → Int
def set1 (r : Row) (j : Nat) (v : Int) : Row := fun x => if x = j then v else r x
def step (e : Road) (r : Row) : Row :=
  let r1 := set1 r e.2.1 (min (r e.2.1) (r e.1 + e.2.2))
  set1 r1 e.1 (min (r1 e.1) (r1 e.2.1 + e.2.2))
def relax (k i : Nat) (m : Mat) (j : Nat) : Mat := set2 m i j (min (m i j) (m i k + m k j))
def line (k n : Nat) (m : Mat) (i : Nat) : Mat := (List.range n).foldl (relax k i) m
def turn (n : Nat) (m : Mat) (k : Nat) : Mat := (List.range n).foldl (line k n) m
end PL
namespace PL
def lay (m : Mat) (e : Road) : Mat := set2 (set2 m e.1 e.2.1 e.2.2) e.2.1 e.1 e.2.2
def Edge (rs : List Road) (u v : Nat) (l : Int) : Prop := (u, v, l) ∈ rs ∨ (v, u, l) ∈ rs
theorem lay_val {m : Mat} {e : Road} (x y : Nat) : lay m e x y = if (x = e.2.1 ∧ y = e.1) ∨ (x = e.1 ∧ y = e.2.1) then e.2.2 else m x y := by
  unfold lay set2
  by_cases h1 : x = e.2.1 ∧ y = e.1
  · rw [if_pos h1, if_pos (.inl h1)]
  · rw [if_neg h1]
    by_cases h2 : x = e.1 ∧ y = e.2.1
    · rw [if_pos h2, if_pos (.inr h2)]
    · rw [if_neg h2, if_neg (fun h => h.elim h1 h2)]
theorem laid_or : ∀ (rs : List Road) (m : Mat) (x y : Nat), rs.foldl lay m x y = m x y ∨ Edge rs x y (rs.foldl lay m x y)
  | [], _, _, _ => .inl rfl
  | e :: rs, m, x, y => by
    show rs.foldl lay (lay m e) x y = _ ∨ Edge (e :: rs) x y (rs.foldl lay (lay m e) x y)
    rcases laid_or rs (lay m e) x y with h | h
    · rw [h, lay_val]
      split
      · next q =>
        right
        rcases q with ⟨q1, q2⟩ | ⟨q1, q2⟩
        · right
          rw [q1, q2]
          exact List.mem_cons_self
        · left
          rw [q1, q2]
          exact List.mem_cons_self
      · exact .inl rfl
    · right
      rcases h with h | h
      · exact .inl (List.mem_cons_of_mem _ h)
      · exact .inr (List.mem_cons_of_mem _ h)
theorem laid_none : ∀ (rs : List Road) (m : Mat) (x y : Nat), (∀ e ∈ rs, ¬ ((x = e.2.1 ∧ y = e.1) ∨ (x = e.1 ∧ y = e.2.1))) → rs.foldl lay m x y = m x y
  | [], _, _, _, _ => rfl
  | e :: rs, m, x, y, h => by
    show rs.foldl lay (lay m e) x y = _
    rw [laid_none rs _ x y fun f hf => h f (List.mem_cons_of_mem _ hf), lay_val, if_neg (h e List.mem_cons_self)]
def Pair (e : Road) : Nat × Nat := (e.1, e.2.1)
structure Web (n : Nat) (rs : List Road) : Prop where
  lt : ∀ e ∈ rs, e.1 < e.2.1 ∧ e.2.1 < n
  len : ∀ e ∈ rs, 1 ≤ e.2.2 ∧ e.2.2 ≤ 100
  nd : (rs.map Pair).Nodup
  few : rs.length ≤ 14
  tree : ∀ b, 0 < b → b < n → ∃ e ∈ rs, e.2.1 = b
theorem laid_at : ∀ (rs : List Road) (m : Mat), (∀ e ∈ rs, e.1 < e.2.1) → (rs.map Pair).Nodup → ∀ e ∈ rs, rs.foldl lay m e.1 e.2.1 = e.2.2 ∧ rs.foldl lay m e.2.1 e.1 = e.2.2
  | [], _, _, _, e, he => by cases he
  | f :: rs, m, hl, hn, e, he => by
    rw [List.map_cons, List.nodup_cons] at hn
    rcases List.mem_cons.mp he with q | q
    · subst q
      have no : ∀ g ∈ rs, g.1 = e.1 → g.2.1 = e.2.1 → False := fun g hg h1 h2 => hn.1 (List.mem_map.mpr ⟨g, hg, by unfold Pair; rw [h1, h2]⟩)
      have le := hl e List.mem_cons_self
      constructor
      · show rs.foldl lay (lay m e) _ _ = _
        rw [laid_none rs _ _ _ (fun g hg h => by
          have := hl g (List.mem_cons_of_mem _ hg)
          rcases h with ⟨h1, h2⟩ | ⟨h1, h2⟩
          · omega
          · exact no g hg h1.symm h2.symm), lay_val, if_pos (.inr ⟨rfl, rfl⟩)]
      · show rs.foldl lay (lay m e) _ _ = _
        rw [laid_none rs _ _ _ (fun g hg h => by
          have := hl g (List.mem_cons_of_mem _ hg)
          rcases h with ⟨h1, h2⟩ | ⟨h1, h2⟩
          · exact no g hg h2.symm h1.symm
          · omega), lay_val, if_pos (.inl ⟨rfl, rfl⟩)]
    · exact laid_at rs (lay m f) (fun g hg => hl g (List.mem_cons_of_mem _ hg)) hn.2 e q
def total (rs : List Road) : Int := (rs.map (·.2.2)).sum
theorem total_nn {rs : List Road} (h : ∀ e ∈ rs, 1 ≤ e.2.2) : 0 ≤ total rs := by
  induction rs with
  | nil => exact Int.le_refl _
  | cons e rs ih =>
    have := ih fun f hf => h f (List.mem_cons_of_mem _ hf)
    have := h e List.mem_cons_self
    unfold total at *
    rw [List.map_cons, List.sum_cons]
    omega
def iniM (far : Int) : Mat := fun i j => if i = j then 0 else far
theorem zero_laid {n : Nat} {rs : List Road} (w : Web n rs) {far : Int} (hf : 0 ≤ far) : Zero (rs.foldl lay (iniM far)) where
  diag := fun i => by
    rw [laid_none rs _ i i fun e he h => by
      have := (w.lt e he).1
      rcases h with ⟨h1, h2⟩ | ⟨h1, h2⟩ <;> omega]
    exact if_pos rfl
  nn := fun i j => by
    rcases laid_or rs (iniM far) i j with h | h
    · rw [h]
      unfold iniM
      split <;> omega
    · rcases h with h | h
      · have := (w.len _ h).1
        simp only at this
        omega
      · have := (w.len _ h).1
        simp only at this
        omega
theorem laid_sym {n : Nat} {rs : List Road} (w : Web n rs) (far : Int) : ∀ i j, rs.foldl lay (iniM far) i j = rs.foldl lay (iniM far) j i := by
  have s0 : ∀ (rs : List Road) (m : Mat), (∀ e ∈ rs, e.1 < e.2.1) → (∀ i j, m i j = m j i) → ∀ i j, rs.foldl lay m i j = rs.foldl lay m j i := by
    intro rs
    induction rs with
    | nil => exact fun m _ h => h
    | cons e rs ih =>
      intro m hl h
      refine ih (lay m e) (fun f hf => hl f (List.mem_cons_of_mem _ hf)) fun i j => ?_
      rw [lay_val, lay_val, h i j]
      by_cases q : (i = e.2.1 ∧ j = e.1) ∨ (i = e.1 ∧ j = e.2.1)
      · rw [if_pos q, if_pos (q.elim (fun x => .inr ⟨x.2, x.1⟩) fun x => .inl ⟨x.2, x.1⟩)]
      · rw [if_neg q, if_neg (fun x => q (x.elim (fun y => .inr ⟨y.2, y.1⟩) fun y => .inl ⟨y.2, y.1⟩))]
  refine s0 rs _ (fun e he => (w.lt e he).1) fun i j => ?_
  unfold iniM
  by_cases q : i = j
  · rw [if_pos q, if_pos q.symm]
  · rw [if_neg q, if_neg (Ne.symm q)]
/-- the table of a web -/
def far (rs : List Road) : Int := 1 + total rs
def dist (n : Nat) (rs : List Road) : Mat := phases n (rs.foldl lay (iniM (far rs)))
section
variable {n : Nat} {rs : List Road}
theorem far_nn (w : Web n rs) : 0 ≤ far rs := by
  have := total_nn fun e he => (w.len e he).1
  unfold far
  omega
theorem dist_zero (w : Web n rs) : Zero (dist n rs) := (zero_laid w (far_nn w)).phases n
theorem dist_sym (w : Web n rs) (i j : Nat) : dist n rs i j = dist n rs j i := sym (laid_sym w _) n i j
end
end PL
namespace PL
open PySem PySem.Spec PyProof.Rows L2 DL
/-- a table as a list of lists -/
def rowD (n : Nat) (r : Row) : D := .list ((List.range n).map fun j => .int (r j))
end PL
namespace PL
open PySem PySem.Spec PyProof.Rows L2 DL
section ev
variable {ρ : DL.Env}
theorem b64_of {a : Int} (h : -1000000000 ≤ a) (h2 : a ≤ 1000000000) : b64 a = true := by
  unfold b64
  rw [Bool.and_eq_true]
  exact ⟨decide_eq_true (by omega), decide_eq_true (by omega)⟩
end ev
def thn (x : Option (Fl × DL.Env)) (h : Gs) : Option (Fl × DL.Env) := x.bind fun p => match p.1 with
  | .nx => h p.2
  | _ => some p
def iteG (x : Option (Bool × DL.Env)) (g h : Gs) : Option (Fl × DL.Env) := x.bind fun p => if p.1 = true then g p.2 else h p.2
section whole
variable {ρ : DL.Env}
theorem qI (c : DL.Env → Option (Bool × DL.Env)) (g h : Gs) : gIf c g h ρ = iteG (c ρ) g h := (rfl)
end whole
def wO {α : Type} (x : Option α) (Q : α → Prop) : Prop := ∃ a, x = some a ∧ Q a
theorem wO.of {α : Type} {x : Option α} {a : α} {Q : α → Prop} (h : x = some a) (q : Q a) : wO x Q := ⟨a, h, q⟩
def wG (g : Gs) (ρ : DL.Env) (Q : Fl → DL.Env → Prop) : Prop := ∃ fl ρ', g ρ = some (fl, ρ') ∧ Q fl ρ'
/-- what follows a statement -/
def thenG (h : Gs) (Q : Fl → DL.Env → Prop) : Fl → DL.Env → Prop
  | .nx, ρ => wG h ρ Q
  | fl, ρ => Q fl ρ
section rules
variable {g h : Gs} {ρ ρ1 ρ2 : DL.Env} {Q Q' : Fl → DL.Env → Prop}
theorem wG.mono (w : wG g ρ Q) (i : ∀ fl ρ', Q fl ρ' → Q' fl ρ') : wG g ρ Q' := by
  obtain ⟨fl, ρ', e, q⟩ := w
  exact ⟨fl, ρ', e, i _ _ q⟩
theorem wG.seq (w : wG g ρ (thenG h Q)) : wG (gSeq g h) ρ Q := by
  obtain ⟨fl, ρ', e, q⟩ := w
  cases fl with
  | nx =>
    obtain ⟨fl2, ρ2, e2, q2⟩ := q
    exact ⟨fl2, ρ2, by unfold gSeq; rw [e]; exact e2, q2⟩
  | bk => exact ⟨.bk, ρ', by unfold gSeq; rw [e]; rfl, q⟩
  | ct => exact ⟨.ct, ρ', by unfold gSeq; rw [e]; rfl, q⟩
  | ret d => exact ⟨.ret d, ρ', by unfold gSeq; rw [e]; rfl, q⟩
theorem wG.asg {f : DL.Env → Option (D × DL.Env)} {b : D → DL.Env → Option DL.Env} {d : D} (e : f ρ = some (d, ρ1)) (eb : b d ρ1 = some ρ2) (q : Q .nx ρ2) : wG (gAsg f b) ρ Q := ⟨.nx, ρ2, by unfold gAsg; rw [e, Option.bind_some]; dsimp only; rw [eb]; rfl, q⟩
/-- a name gets a value -/
theorem wG.set {f : DL.Env → Option (D × DL.Env)} {i : Nat} {d : D} (e : f ρ = some (d, ρ1)) (q : Q .nx (ρ1.set i (some (.sh d)))) : wG (gAsg f (bNm i)) ρ Q := wG.asg e rfl q
theorem wG.ret {f : DL.Env → Option (D × DL.Env)} {d : D} (e : f ρ = some (d, ρ1)) (q : Q (.ret d) ρ1) : wG (gRet f) ρ Q := ⟨_, _, by unfold gRet; rw [e]; rfl, q⟩
theorem wG.nx (q : Q .nx ρ) : wG gNx ρ Q := ⟨_, _, rfl, q⟩
theorem wG.ct (q : Q .ct ρ) : wG gCt ρ Q := ⟨_, _, rfl, q⟩
theorem wG.bk (q : Q .bk ρ) : wG gBk ρ Q := ⟨_, _, rfl, q⟩
theorem wG.fz {i : Nat} (w : wG g (fz i ρ) Q) : wG (gFz i g) ρ Q := w
end rules
end PL
namespace PL
open PySem PySem.Spec PyProof.Rows L2 DL
instance : PySem.W.Datum Nat where
  toD n := .int (n : Nat)
  plain _ := rfl
  eqv a b := by
    simp only [PyData.eqv]
    rw [Bool.eq_iff_iff, beq_iff_eq, decide_eq_true_eq]
    omega
  depth := 0
  depth_le _ := Nat.le_refl _
instance : PySem.W.DatumOrd Nat where
  lt a b := decide (a < b)
  alike a b := by
    show PySem.W.alike (.int (a : Nat)) (.int (b : Nat)) = true
    simp only [PySem.W.alike]
  notNone a := fun e => by cases e
  lt_eq a b := by
    show PySem.W.dataLt (.int (a : Nat)) (.int (b : Nat)) = _
    rw [PySem.W.dataLt_int]
    exact decide_eq_decide.mpr (by omega)
abbrev dD {α : Type} [DecidableEq α] [PySem.W.Datum α] (a : α) : D := PySem.W.Datum.toD a
abbrev ltK {α : Type} [DecidableEq α] [PySem.W.DatumOrd α] (a b : α) : Bool := PySem.W.DatumOrd.lt a b
class Dat (α : Type) [DecidableEq α] extends PySem.W.DatumOrd α where
  lay : ∀ a : α, PyData.canLay0 (PySem.W.Datum.toD a) = true
  tri : ∀ a b : α, ltK a b = true ∨ a = b ∨ ltK b a = true
  asym : ∀ a b : α, ltK a b = true → ltK b a = false
  trans : ∀ a b c : α, ltK a b = true → ltK b c = true → ltK a c = true
instance : Dat Int where
  lay _ := rfl
  tri a b := by
    show decide (a < b) = true ∨ a = b ∨ decide (b < a) = true
    simp only [decide_eq_true_eq]
    omega
  asym a b h := by
    have h : decide (a < b) = true := h
    show decide (b < a) = false
    simp only [decide_eq_true_eq, decide_eq_false_iff_not] at *
    omega
  trans a b c h k := by
    have h : decide (a < b) = true := h
    have k : decide (b < c) = true := k
    show decide (a < c) = true
    simp only [decide_eq_true_eq] at *
    omega
instance : Dat Nat where
  lay _ := rfl
  tri a b := by
    show decide (a < b) = true ∨ a = b ∨ decide (b < a) = true
    simp only [decide_eq_true_eq]
    omega
  asym a b h := by
    have h : decide (a < b) = true := h
    show decide (b < a) = false
    simp only [decide_eq_true_eq, decide_eq_false_iff_not] at *
    omega
  trans a b c h k := by
    have h : decide (a < b) = true := h
    have k : decide (b < c) = true := k
    show decide (a < c) = true
    simp only [decide_eq_true_eq] at *
    omega
section
variable {α β : Type} [DecidableEq α] [Dat α] [DecidableEq β] [Dat β]
theorem ltK_irr (a : α) : ltK a a = false := by
  cases h : ltK a a with
  | false => rfl
  | true =>
    have := Dat.asym a a h
    rw [h] at this
    exact this
theorem layAll : ∀ xs : List α, PyData.canLayAll0 (xs.map dD) = true
  | [] => rfl
  | x :: xs => by
    rw [List.map_cons, PyData.canLayAll0, Dat.lay x, layAll xs]
    rfl
theorem list_tri : ∀ xs ys : List α, PySem.W.listLt xs ys = true ∨ xs = ys ∨ PySem.W.listLt ys xs = true
  | [], [] => .inr (.inl rfl)
  | [], _ :: _ => .inl rfl
  | _ :: _, [] => .inr (.inr rfl)
  | x :: xs, y :: ys => by
    unfold PySem.W.listLt
    by_cases h : x = y
    · subst h
      rw [if_pos rfl, if_pos rfl]
      rcases list_tri xs ys with h | h | h
      · exact .inl h
      · exact .inr (.inl (by rw [h]))
      · exact .inr (.inr h)
    · rw [if_neg h, if_neg (Ne.symm h)]
      rcases Dat.tri x y with k | k | k
      · exact .inl k
      · exact absurd k h
      · exact .inr (.inr k)
theorem list_asym : ∀ xs ys : List α, PySem.W.listLt xs ys = true → PySem.W.listLt ys xs = false
  | [], [], h => by cases h
  | [], _ :: _, _ => rfl
  | _ :: _, [], h => by cases h
  | x :: xs, y :: ys, h => by
    unfold PySem.W.listLt at *
    by_cases e : x = y
    · subst e
      rw [if_pos rfl] at *
      exact list_asym xs ys h
    · rw [if_neg e] at h
      rw [if_neg (Ne.symm e)]
      exact Dat.asym x y h
theorem list_trans : ∀ xs ys zs : List α, PySem.W.listLt xs ys = true → PySem.W.listLt ys zs = true → PySem.W.listLt xs zs = true
  | [], [], _, h, _ => by cases h
  | [], _ :: _, [], _, k => by cases k
  | [], _ :: _, _ :: _, _, _ => rfl
  | _ :: _, [], _, h, _ => by cases h
  | _ :: _, _ :: _, [], _, k => by cases k
  | x :: xs, y :: ys, z :: zs, h, k => by
    unfold PySem.W.listLt at *
    by_cases e : x = y
    · subst e
      rw [if_pos rfl] at h
      by_cases e2 : x = z
      · subst e2
        rw [if_pos rfl] at *
        exact list_trans xs ys zs h k
      · rw [if_neg e2] at *
        exact k
    · rw [if_neg e] at h
      by_cases e2 : y = z
      · subst e2
        rw [if_neg e]
        exact h
      · rw [if_neg e2] at k
        have t := Dat.trans x y z h k
        by_cases e3 : x = z
        · subst e3
          have := ltK_irr x
          rw [t] at this
          cases this
        · rw [if_neg e3]
          exact t
instance : Dat (PySem.W.Tup α) where
  lay t := by
    show PyData.canLay0 (.tuple (t.items.map dD)) = true
    rw [PyData.canLay0]
    exact layAll t.items
  tri a b := by
    rcases list_tri a.items b.items with h | h | h
    · exact .inl h
    · exact .inr (.inl (by cases a; cases b; exact congrArg PySem.W.Tup.mk h))
    · exact .inr (.inr h)
  asym a b h := list_asym a.items b.items h
  trans a b c h k := list_trans a.items b.items c.items h k
instance : Dat (List α) where
  lay t := by
    show PyData.canLay0 (.list (t.map dD)) = true
    rw [PyData.canLay0]
    exact layAll t
  tri a b := list_tri a b
  asym a b h := list_asym a b h
  trans a b c h k := list_trans a b c h k
instance : Dat (α × β) where
  lay p := by
    show PyData.canLay0 (.tuple [dD p.1, dD p.2]) = true
    rw [PyData.canLay0, PyData.canLayAll0, PyData.canLayAll0, PyData.canLayAll0, Dat.lay p.1, Dat.lay p.2]
    rfl
  tri p q := by
    show (if p.1 = q.1 then ltK p.2 q.2 else ltK p.1 q.1) = true ∨ p = q ∨ (if q.1 = p.1 then ltK q.2 p.2 else ltK q.1 p.1) = true
    by_cases h : p.1 = q.1
    · rw [if_pos h, if_pos h.symm]
      rcases Dat.tri p.2 q.2 with k | k | k
      · exact .inl k
      · exact .inr (.inl (Prod.ext h k))
      · exact .inr (.inr k)
    · rw [if_neg h, if_neg (Ne.symm h)]
      rcases Dat.tri p.1 q.1 with k | k | k
      · exact .inl k
      · exact absurd k h
      · exact .inr (.inr k)
  asym p q k := by
    have k : (if p.1 = q.1 then ltK p.2 q.2 else ltK p.1 q.1) = true := k
    show (if q.1 = p.1 then ltK q.2 p.2 else ltK q.1 p.1) = false
    by_cases h : p.1 = q.1
    · rw [if_pos h] at k
      rw [if_pos h.symm]
      exact Dat.asym _ _ k
    · rw [if_neg h] at k
      rw [if_neg (Ne.symm h)]
      exact Dat.asym _ _ k
  trans p q r k l := by
    have k : (if p.1 = q.1 then ltK p.2 q.2 else ltK p.1 q.1) = true := k
    have l : (if q.1 = r.1 then ltK q.2 r.2 else ltK q.1 r.1) = true := l
    show (if p.1 = r.1 then ltK p.2 r.2 else ltK p.1 r.1) = true
    by_cases h : p.1 = q.1
    · rw [if_pos h] at k
      by_cases h2 : q.1 = r.1
      · rw [if_pos h2] at l
        rw [if_pos (h.trans h2)]
        exact Dat.trans _ _ _ k l
      · rw [if_neg h2] at l
        rw [if_neg (by rw [h]; exact h2), h]
        exact l
    · rw [if_neg h] at k
      by_cases h2 : q.1 = r.1
      · rw [if_pos h2] at l
        rw [if_neg (by rw [← h2]; exact h), ← h2]
        exact k
      · rw [if_neg h2] at l
        have t := Dat.trans _ _ _ k l
        by_cases h3 : p.1 = r.1
        · rw [h3] at t
          have := ltK_irr r.1
          rw [t] at this
          cases this
        · rw [if_neg h3]
          exact t
theorem eq_of_le {a b : α} (h : ltK a b = false) (k : ltK b a = false) : a = b := by
  rcases Dat.tri a b with q | q | q
  · rw [q] at h
    cases h
  · exact q
  · rw [q] at k
    cases k
/-- sorted rows -/
def leK (a b : α) : Bool := !ltK b a
theorem ins_perm {γ : Type} (le : γ → γ → Bool) (x : γ) : ∀ xs : List γ, (ins le x xs).Perm (x :: xs)
  | [] => .refl _
  | y :: r => by
    unfold ins
    split
    · exact .refl _
    · exact ((ins_perm le x r).cons y).trans (.swap x y r)
theorem isort_perm {γ : Type} (le : γ → γ → Bool) : ∀ xs : List γ, (isort le xs).Perm xs
  | [] => .refl _
  | x :: r => (ins_perm le x _).trans ((isort_perm le r).cons x)
theorem ins_sorted (x : α) : ∀ xs : List α, xs.Pairwise (fun a b => ltK b a = false) → (ins leK x xs).Pairwise fun a b => ltK b a = false
  | [], _ => List.pairwise_singleton _ _
  | y :: r, h => by
    unfold ins leK
    rw [List.pairwise_cons] at h
    cases q : ltK y x with
    | false =>
      refine List.pairwise_cons.mpr ⟨fun z hz => ?_, List.pairwise_cons.mpr h⟩
      rcases List.mem_cons.mp hz with e | e
      · rw [e]
        exact q
      · cases p : ltK z x with
        | false => rfl
        | true =>
          have k := h.1 z e
          rcases Dat.tri y x with t | t | t
          · rw [t] at q
            cases q
          · rw [t] at k
            rw [p] at k
            cases k
          · rw [Dat.trans z x y p t] at k
            cases k
    | true =>
      refine List.pairwise_cons.mpr ⟨fun z hz => ?_, ins_sorted x r h.2⟩
      rcases List.mem_cons.mp ((ins_perm leK x r).mem_iff.mp hz) with e | e
      · rw [e]
        exact Dat.asym _ _ q
      · exact h.1 z e
theorem isort_sorted : ∀ xs : List α, (isort leK xs).Pairwise fun a b => ltK b a = false
  | [] => List.Pairwise.nil
  | x :: r => ins_sorted x _ (isort_sorted r)
theorem sorted_unique : ∀ {xs ys : List α}, xs.Perm ys → xs.Pairwise (fun a b => ltK b a = false) → ys.Pairwise (fun a b => ltK b a = false) → xs = ys
  | [], ys, p, _, _ => (List.nil_perm.mp p).symm
  | x :: xs, [], p, _, _ => absurd p.length_eq (by simp)
  | x :: xs, y :: ys, p, h, k => by
    have hx : ltK y x = false := by
      rcases List.mem_cons.mp (p.mem_iff.mpr List.mem_cons_self : y ∈ x :: xs) with e | e
      · rw [e]
        exact ltK_irr x
      · exact (List.pairwise_cons.mp h).1 y e
    have hy : ltK x y = false := by
      rcases List.mem_cons.mp (p.mem_iff.mp List.mem_cons_self : x ∈ y :: ys) with e | e
      · rw [e]
        exact ltK_irr y
      · exact (List.pairwise_cons.mp k).1 x e
    have e := eq_of_le hy hx
    subst e
    rw [sorted_unique (List.Perm.cons_inv p) (List.pairwise_cons.mp h).2 (List.pairwise_cons.mp k).2]
theorem isort_eq {xs ys : List α} (p : xs.Perm ys) (h : ys.Pairwise fun a b => ltK b a = false) : isort leK xs = ys := sorted_unique ((isort_perm leK xs).trans p) (isort_sorted xs) h
end
end PL
namespace PL
def adj (rs : List Road) (u v : Nat) : Prop := ∃ l, (u, v, l) ∈ rs ∨ (v, u, l) ∈ rs
inductive Cn (pts : List Nat) (rs : List Road) (s : Nat) : Nat → Prop
  | self : Cn pts rs s s
  | step {x y : Nat} : Cn pts rs s x → adj rs x y → y ∈ pts → Cn pts rs s y
def addP (left : List Nat) (u : Nat) (p : List Nat) (q : Nat × Nat) : List Nat := if q.1 = u ∧ q.2 ∈ left ∧ q.2 ∉ p then p ++ [q.2] else p
def addE (left : List Nat) (u : Nat) (p : List Nat) (e : Road) : List Nat := [(e.1, e.2.1), (e.2.1, e.1)].foldl (addP left u) p
theorem adj_symm {rs : List Road} {u v : Nat} (h : adj rs u v) : adj rs v u := by
  obtain ⟨l, h⟩ := h
  exact ⟨l, h.symm⟩
theorem addP_mem {left : List Nat} {u : Nat} {p : List Nat} {q : Nat × Nat} {y : Nat} (h : y ∈ addP left u p q) : y ∈ p ∨ (q.1 = u ∧ q.2 = y ∧ y ∈ left) := by
  unfold addP at h
  split at h
  · next c =>
    rcases List.mem_append.mp h with h | h
    · exact .inl h
    · rw [List.mem_singleton] at h
      subst h
      exact .inr ⟨c.1, rfl, c.2.1⟩
  · exact .inl h
theorem addP_sub {left : List Nat} {u : Nat} {p : List Nat} {q : Nat × Nat} : p <+: addP left u p q := by
  unfold addP
  split
  · exact List.prefix_append _ _
  · exact List.prefix_refl _
theorem addP_has {left : List Nat} {u y : Nat} {p : List Nat} {q : Nat × Nat} (h1 : q.1 = u) (h2 : q.2 = y) (h3 : y ∈ left) : y ∈ addP left u p q := by
  subst h1 h2
  unfold addP
  split
  · exact List.mem_append_right _ List.mem_cons_self
  · next c => exact Classical.not_not.mp fun n => c ⟨rfl, h3, n⟩
theorem addP_nodup {left : List Nat} {u : Nat} {p : List Nat} {q : Nat × Nat} (h : p.Nodup) : (addP left u p q).Nodup := by
  unfold addP
  split
  · next c =>
    refine List.nodup_append.mpr ⟨h, by simp, ?_⟩
    intro a ha b hb e
    rw [List.mem_singleton.mp hb] at e
    subst e
    exact c.2.2 ha
  · exact h
structure Scan (left : List Nat) (u : Nat) (rs : List Road) (p p' : List Nat) : Prop where
  pre : p <+: p'
  nd : p.Nodup → p'.Nodup
  new : ∀ y ∈ p', y ∈ p ∨ (adj rs u y ∧ y ∈ left)
  all : ∀ y, adj rs u y → y ∈ left → y ∈ p'
theorem scan_ok (left : List Nat) (u : Nat) : ∀ (rs : List Road) (p : List Nat), Scan left u rs p (rs.foldl (addE left u) p)
  | [], p => ⟨List.prefix_refl _, id, fun y h => .inl h, fun y ⟨l, h⟩ => by rcases h with h | h <;> cases h⟩
  | e :: rs, p => by
    have ih := scan_ok left u rs (addE left u p e)
    rw [List.foldl_cons]
    have e1 : addE left u p e = addP left u (addP left u p (e.1, e.2.1)) (e.2.1, e.1) := rfl
    have pre1 : p <+: addE left u p e := by
      rw [e1]
      exact addP_sub.trans addP_sub
    refine ⟨pre1.trans ih.pre, fun h => ih.nd (by rw [e1]; exact addP_nodup (addP_nodup h)), fun y hy => ?_, fun y ⟨l, hy⟩ hl => ?_⟩
    · rcases ih.new y hy with h | ⟨⟨l, h⟩, h2⟩
      · rw [e1] at h
        rcases addP_mem h with h | ⟨h1, h2, h3⟩
        · rcases addP_mem h with h | ⟨h1, h2, h3⟩
          · exact .inl h
          · refine .inr ⟨⟨e.2.2, .inl ?_⟩, h3⟩
            have h1 : e.1 = u := h1
            have h2 : e.2.1 = y := h2
            rw [← h1, ← h2]
            exact List.mem_cons_self
        · refine .inr ⟨⟨e.2.2, .inr ?_⟩, h3⟩
          have h1 : e.2.1 = u := h1
          have h2 : e.1 = y := h2
          rw [← h1, ← h2]
          exact List.mem_cons_self
      · exact .inr ⟨⟨l, h.elim (fun h => .inl (List.mem_cons_of_mem _ h)) fun h => .inr (List.mem_cons_of_mem _ h)⟩, h2⟩
    · rcases hy with hy | hy
      · rcases List.mem_cons.mp hy with q | q
        · refine ih.pre.subset ?_
          rw [e1]
          refine addP_sub.subset (addP_has ?_ ?_ hl)
          · rw [← q]
          · rw [← q]
        · exact ih.all y ⟨l, .inl q⟩ hl
      · rcases List.mem_cons.mp hy with q | q
        · refine ih.pre.subset ?_
          rw [e1]
          refine addP_has ?_ ?_ hl
          · rw [← q]
          · rw [← q]
        · exact ih.all y ⟨l, .inr q⟩ hl
/-- a part under way: the first `k` points have told their neighbours -/
structure Grow (left : List Nat) (rs : List Road) (s : Nat) (p : List Nat) (k : Nat) : Prop where
  nd : p.Nodup
  sub : ∀ x ∈ p, x ∈ left
  mem : s ∈ p
  cn : ∀ x ∈ p, Cn left rs s x
  told : ∀ (i : Nat) (x y : Nat), i < k → p[i]? = some x → adj rs x y → y ∈ left → y ∈ p
theorem Grow.start {left : List Nat} {rs : List Road} {s : Nat} (h : s ∈ left) : Grow left rs s [s] 0 where
  nd := by simp
  sub x hx := by rw [List.mem_singleton.mp hx]; exact h
  mem := List.mem_cons_self
  cn x hx := by rw [List.mem_singleton.mp hx]; exact .self
  told i x y hi := absurd hi (Nat.not_lt_zero _)
theorem Grow.next {left : List Nat} {rs : List Road} {s k u : Nat} {p : List Nat} (g : Grow left rs s p k) (hu : p[k]? = some u) : Grow left rs s (rs.foldl (addE left u) p) (k + 1) := by
  have sc := scan_ok left u rs p
  have hup : u ∈ p := List.mem_of_getElem? hu
  refine ⟨sc.nd g.nd, fun x hx => ?_, sc.pre.subset g.mem, fun x hx => ?_, fun i x y hi hx ha hy => ?_⟩
  · rcases sc.new x hx with h | ⟨_, h⟩
    · exact g.sub x h
    · exact h
  · rcases sc.new x hx with h | ⟨h1, h2⟩
    · exact g.cn x h
    · exact .step (g.cn u hup) h1 h2
  · have hk : k < p.length := by
      rcases Nat.lt_or_ge k p.length with h | h
      · exact h
      · rw [List.getElem?_eq_none h] at hu
        cases hu
    have hx' : p[i]? = some x := by
      obtain ⟨t, ht⟩ := sc.pre
      rw [← ht, List.getElem?_append_left (by omega)] at hx
      exact hx
    by_cases q : i = k
    · subst q
      rw [hu] at hx'
      cases hx'
      exact sc.all y ha hy
    · exact sc.pre.subset (g.told i x y (by omega) hx' ha hy)
theorem Grow.done {left : List Nat} {rs : List Road} {s : Nat} {p : List Nat} {k : Nat} (g : Grow left rs s p k) (hk : p.length ≤ k) (x : Nat) : x ∈ p ↔ Cn left rs s x := by
  refine ⟨g.cn x, fun h => ?_⟩
  induction h with
  | self => exact g.mem
  | step h ha hy ih =>
    obtain ⟨i, hi, e⟩ := List.getElem_of_mem ih
    exact g.told i _ _ (by omega) (List.getElem?_eq_some_iff.mpr ⟨hi, e⟩) ha hy
theorem nodup_len : ∀ (p l : List Nat), p.Nodup → (∀ x ∈ p, x ∈ l) → p.length ≤ l.length
  | [], _, _, _ => Nat.zero_le _
  | x :: p, l, h, k => by
    rw [List.nodup_cons] at h
    have hx := k x List.mem_cons_self
    have := nodup_len p (l.erase x) h.2 fun y hy => (List.mem_erase_of_ne fun e => h.1 (by rw [← e]; exact hy)).mpr (k y (List.mem_cons_of_mem _ hy))
    rw [List.length_erase_of_mem hx] at this
    have := List.length_pos_of_mem hx
    rw [List.length_cons]
    omega
theorem Grow.len {left : List Nat} {rs : List Road} {s : Nat} {p : List Nat} {k : Nat} (g : Grow left rs s p k) : p.length ≤ left.length := nodup_len p left g.nd g.sub
/-- parts under way -/
structure Parts (pts : List Nat) (rs : List Road) (left : List Nat) (cs : List (List Nat)) : Prop where
  nd : left.Nodup
  sub : ∀ x ∈ left, x ∈ pts
  asc : ∀ c ∈ cs, c.Pairwise (· < ·)
  comp : ∀ c ∈ cs, ∃ s ∈ pts, ∀ x, x ∈ c ↔ Cn pts rs s x
  cover : ∀ x ∈ pts, x ∈ left ∨ ∃ c ∈ cs, x ∈ c
  apart : ∀ c ∈ cs, ∀ x ∈ c, x ∉ left
  apart2 : cs.Pairwise fun c d => ∀ x ∈ c, x ∉ d
theorem Cn.mono {a b : List Nat} {rs : List Road} {s x : Nat} (h : Cn a rs s x) (k : ∀ y ∈ a, y ∈ b) : Cn b rs s x := by
  induction h with
  | self => exact .self
  | step _ ha hy ih => exact .step ih ha (k _ hy)
theorem Parts.start (pts : List Nat) (rs : List Road) (h : pts.Nodup) : Parts pts rs pts [] where
  nd := h
  sub x h := h
  asc c h := nomatch h
  comp c h := nomatch h
  cover x h := .inl h
  apart c h := nomatch h
  apart2 := List.Pairwise.nil
theorem Parts.closed {pts left : List Nat} {rs : List Road} {cs : List (List Nat)} (P : Parts pts rs left cs) {s x : Nat} (hs : s ∈ left) (h : Cn pts rs s x) : x ∈ left ∧ Cn left rs s x := by
  induction h with
  | self => exact ⟨hs, .self⟩
  | step h ha hy ih =>
    rename_i x y
    have hl : y ∈ left := by
      rcases P.cover y hy with q | ⟨c, hc, q⟩
      · exact q
      · obtain ⟨t, ht, e⟩ := P.comp c hc
        have hx : x ∈ c := (e x).mpr (.step ((e y).mp q) (adj_symm ha) (P.sub _ ih.1))
        exact absurd ih.1 (P.apart c hc _ hx)
    exact ⟨hl, .step ih.2 ha hl⟩
theorem Parts.next {pts left : List Nat} {rs : List Road} {cs : List (List Nat)} (P : Parts pts rs left cs) {s : Nat} {p c : List Nat} (hs : s ∈ left) (hp : ∀ x, x ∈ p ↔ Cn left rs s x) (hc : c.Perm p) (ha : c.Pairwise (· < ·)) : Parts pts rs (left.filter fun x => !decide (x ∈ p)) (cs ++ [c]) := by
  have hpc : ∀ x, x ∈ p ↔ Cn pts rs s x := fun x => ⟨fun h => ((hp x).mp h).mono P.sub, fun h => (hp x).mpr (P.closed hs h).2⟩
  refine ⟨P.nd.filter _, fun x h => P.sub x (List.mem_filter.mp h).1, fun d hd => ?_, fun d hd => ?_, fun x hx => ?_, fun d hd x hx hl => ?_, ?_⟩
  · rcases List.mem_append.mp hd with h | h
    · exact P.asc d h
    · rw [List.mem_singleton.mp h]
      exact ha
  · rcases List.mem_append.mp hd with h | h
    · exact P.comp d h
    · rw [List.mem_singleton.mp h]
      exact ⟨s, P.sub s hs, fun x => hc.mem_iff.trans (hpc x)⟩
  · rcases P.cover x hx with h | ⟨d, hd, h⟩
    · by_cases q : x ∈ p
      · exact .inr ⟨c, List.mem_append_right _ List.mem_cons_self, hc.mem_iff.mpr q⟩
      · exact .inl (List.mem_filter.mpr ⟨h, by simp [q]⟩)
    · exact .inr ⟨d, List.mem_append_left _ hd, h⟩
  · obtain ⟨h1, h2⟩ := List.mem_filter.mp hl
    rcases List.mem_append.mp hd with h | h
    · exact P.apart d h x hx h1
    · rw [List.mem_singleton.mp h] at hx
      simp [hc.mem_iff.mp hx] at h2
  · refine List.pairwise_append.mpr ⟨P.apart2, List.pairwise_singleton _ _, fun d hd e he x hx hx2 => ?_⟩
    rw [List.mem_singleton.mp he] at hx2
    have := (P.closed hs ((hpc x).mp (hc.mem_iff.mp hx2))).1
    exact P.apart d hd x hx this
end PL
namespace PL
def Asc (n : Nat) (xs : List Nat) : Prop := xs.Pairwise (· < ·) ∧ ∀ x ∈ xs, x < n
/-- the points of a number -/
def mem (m n : Nat) : List Nat := (List.range n).filter fun k => m.testBit k
end PL
namespace PL
open PySem PySem.Spec PyProof.Rows L2 DL
def ssetN (xs : List Nat) : List Nat := (sset (xs.map fun x => ((x : Nat) : Int))).map Int.toNat
theorem insS_asc {x : Int} : ∀ {l : List Int}, l.Pairwise (· < ·) → (insS x l).Pairwise (· < ·)
  | [], _ => List.pairwise_singleton _ _
  | y :: r, h => by
    unfold insS
    rw [List.pairwise_cons] at h
    split
    · next q =>
      refine List.pairwise_cons.mpr ⟨fun z hz => ?_, List.pairwise_cons.mpr h⟩
      rcases List.mem_cons.mp hz with e | e
      · rw [e]; exact q
      · have := h.1 z e
        omega
    · split
      · exact List.pairwise_cons.mpr h
      · next q1 q2 =>
        refine List.pairwise_cons.mpr ⟨fun z hz => ?_, insS_asc h.2⟩
        rcases insS_mem.mp hz with e | e
        · omega
        · exact h.1 z e
theorem sset_asc : ∀ l : List Int, (sset l).Pairwise (· < ·)
  | [] => List.Pairwise.nil
  | x :: r => insS_asc (sset_asc r)
theorem sset_mem' {k : Int} : ∀ {l : List Int}, k ∈ sset l ↔ k ∈ l
  | [] => Iff.rfl
  | x :: r => by
    unfold sset
    rw [insS_mem, sset_mem' (l := r), List.mem_cons]
theorem ssetN_eq (xs : List Nat) : sset (xs.map fun x => ((x : Nat) : Int)) = (ssetN xs).map fun x => ((x : Nat) : Int) := by
  unfold ssetN
  rw [List.map_map]
  refine ((List.map_congr_left fun k hk => ?_).trans (List.map_id _)).symm
  obtain ⟨x, _, e⟩ := List.mem_map.mp (sset_mem'.mp hk)
  show ((k.toNat : Nat) : Int) = k
  omega
theorem ssetN_asc (xs : List Nat) : (ssetN xs).Pairwise (· < ·) := by
  have h := sset_asc (xs.map fun x => ((x : Nat) : Int))
  rw [ssetN_eq, List.pairwise_map] at h
  exact h.imp fun h => by omega
theorem ssetN_mem {xs : List Nat} {x : Nat} : x ∈ ssetN xs ↔ x ∈ xs := by
  have h : ((x : Nat) : Int) ∈ (ssetN xs).map (fun x => ((x : Nat) : Int)) ↔ ((x : Nat) : Int) ∈ xs.map fun x => ((x : Nat) : Int) := by
    rw [← ssetN_eq]
    exact sset_mem'
  have k : ∀ l : List Nat, ((x : Nat) : Int) ∈ l.map (fun x => ((x : Nat) : Int)) ↔ x ∈ l := fun l => by
    rw [List.mem_map]
    exact ⟨fun ⟨y, hy, e⟩ => by rwa [← Int.ofNat.inj e], fun hx => ⟨x, hx, rfl⟩⟩
  rw [k, k] at h
  exact h
theorem asc_unique {xs ys : List Nat} (h1 : xs.Pairwise (· < ·)) (h2 : ys.Pairwise (· < ·)) (h : ∀ x, x ∈ xs ↔ x ∈ ys) : xs = ys :=
  List.Perm.eq_of_pairwise (le := (· < ·)) (fun a b _ _ h1 h2 => by omega) h1 h2 ((List.perm_ext_iff_of_nodup (h1.imp fun h => by omega) (h2.imp fun h => by omega)).mpr h)
theorem ssetN_self {xs : List Nat} (h : xs.Pairwise (· < ·)) : ssetN xs = xs := asc_unique (ssetN_asc xs) h fun x => ssetN_mem
end PL
namespace PL
open PySem PySem.Spec PyProof.Rows L2 DL
def Sm (q : Rat) : Prop := q.num.natAbs < 2 ^ 50 ∧ q.den < 2 ^ 15
/-- ratios that may be worked with -/
def Sb (q : Rat) : Prop := q.num.natAbs < 2 ^ 60 ∧ q.den < 2 ^ 60
def Sw (q : Rat) : Prop := q.num.natAbs < 2 ^ 75 ∧ q.den < 2 ^ 60
theorem Sb.w {q : Rat} (h : Sb q) : Sw q := ⟨Nat.lt_of_lt_of_le h.1 (by decide), h.2⟩
theorem Sm.b {q : Rat} (h : Sm q) : Sb q := ⟨Nat.lt_of_lt_of_le h.1 (by decide), Nat.lt_of_lt_of_le h.2 (by decide)⟩
theorem Sm.divInt {a : Int} {d : Nat} (hd : 0 < d) (ha : a.natAbs < 2 ^ 50) (h : d < 2 ^ 15) : Sm (Rat.divInt a (d : Nat)) := by
  have hg : 0 < Int.gcd (d : Nat) a := Int.gcd_pos_of_ne_zero_left _ (by omega)
  constructor
  · rw [Rat.num_divInt, show ((d : Nat) : Int).sign = 1 from Int.sign_eq_one_of_pos (by omega), Int.one_mul]
    rw [Int.natAbs_ediv_of_dvd (Int.gcd_dvd_right _ _)]
    exact Nat.lt_of_le_of_lt (Nat.div_le_self _ _) ha
  · rw [Rat.den_divInt, if_neg (by omega)]
    exact Nat.lt_of_le_of_lt (Nat.div_le_self _ _) (by simpa using h)
theorem rat_add (p q : Rat) : Rat.divInt (p.num * ((q.den : Nat) : Int) + q.num * ((p.den : Nat) : Int)) (((p.den : Nat) : Int) * ((q.den : Nat) : Int)) = p + q := by
  have h1 : ((p.den : Nat) : Int) ≠ 0 := by have := p.den_nz; omega
  have h2 : ((q.den : Nat) : Int) ≠ 0 := by have := q.den_nz; omega
  rw [← Rat.divInt_add_divInt p.num q.num h1 h2, Rat.num_divInt_den, Rat.num_divInt_den]
theorem rat_sub (p q : Rat) : Rat.divInt (p.num * ((q.den : Nat) : Int) - q.num * ((p.den : Nat) : Int)) (((p.den : Nat) : Int) * ((q.den : Nat) : Int)) = p - q := by
  have h := rat_add p (-q)
  rw [Rat.neg_num, Rat.neg_den] at h
  rw [Rat.sub_eq_add_neg, ← h]
  congr 1
  rw [Int.neg_mul]
  omega
/-- the turns of Euclid -/
def Euc (k x y : Nat) : Prop := (y < x ∧ x * y < 2 ^ k) ∨ (x ≤ y ∧ 1 ≤ k ∧ x * y < 2 ^ (k - 1))
theorem Euc.next {k x y : Nat} (h : Euc k x y) (hy : 0 < y) : 1 ≤ k ∧ Euc (k - 1) y (x % y) := by
  have hm := Nat.mod_lt x hy
  rcases h with ⟨h1, h2⟩ | ⟨h1, h2, h3⟩
  · have hk : 1 ≤ k := by
      rcases Nat.eq_zero_or_pos k with q | q
      · subst q
        have : 1 ≤ x * y := Nat.mul_pos (by omega) hy
        simp at h2
        omega
      · exact q
    refine ⟨hk, .inl ⟨hm, ?_⟩⟩
    have e := Nat.div_add_mod x y
    have hq : 1 ≤ x / y := Nat.div_pos (by omega) hy
    have h4 : 2 * (y * (x % y)) < x * y ∨ x % y = 0 := by
      rcases Nat.eq_zero_or_pos (x % y) with q | q
      · exact .inr q
      · left
        have h5 : y * 1 ≤ y * (x / y) := Nat.mul_le_mul_left y hq
        have h6 : 2 * (x % y) < x := by omega
        have := Nat.mul_lt_mul_of_pos_right h6 hy
        rw [Nat.mul_comm y (x % y), ← Nat.mul_assoc]
        exact this
    have hp : 2 ^ k = 2 * 2 ^ (k - 1) := by
      rw [← Nat.pow_succ']
      congr 1
      omega
    rcases h4 with h4 | h4
    · omega
    · rw [h4, Nat.mul_zero]
      exact Nat.two_pow_pos _
  · refine ⟨h2, .inl ⟨hm, ?_⟩⟩
    rcases Nat.lt_or_ge x y with q | q
    · rw [Nat.mod_eq_of_lt q, Nat.mul_comm]
      exact h3
    · have : x = y := by omega
      rw [this, Nat.mod_self, Nat.mul_zero]
      exact Nat.two_pow_pos _
theorem Euc.start {a b : Nat} (ha : a < 2 ^ 140) (hb : b < 2 ^ 140) : Euc 281 a b := by
  have h : a * b < 2 ^ 280 := by
    have := Nat.mul_lt_mul'' ha hb
    rw [← Nat.pow_add] at this
    exact this
  rcases Nat.lt_or_ge b a with q | q
  · exact .inl ⟨q, Nat.lt_of_lt_of_le h (Nat.pow_le_pow_right (by decide) (by decide))⟩
  · exact .inr ⟨q, by decide, h⟩
end PL
namespace PL
open PySem PySem.Spec PyProof.Rows L2 DL
def domd (l : List (Int × Int)) (p : Int × Int) : Bool := decide (∃ q ∈ l, q ≠ p ∧ q.1 ≤ p.1 ∧ q.2 ≤ p.2)
def parF (acc : List (Int × Int)) (p : Int × Int) : List (Int × Int) := match acc.getLast? with
  | none => acc ++ [p]
  | some q => if p.2 < q.2 then acc ++ [p] else acc
theorem lt_pair {a b : Int × Int} (h : ltK a b = true) : a.1 < b.1 ∨ (a.1 = b.1 ∧ a.2 < b.2) := by
  have h : (if a.1 = b.1 then decide (a.2 < b.2) else decide (a.1 < b.1)) = true := h
  by_cases q : a.1 = b.1
  · rw [if_pos q] at h
    exact .inr ⟨q, of_decide_eq_true h⟩
  · rw [if_neg q] at h
    exact .inl (of_decide_eq_true h)
structure ParInv (pre acc : List (Int × Int)) : Prop where
  eq : acc = pre.filter fun p => !domd pre p
  last : ∀ q, acc.getLast? = some q → q ∈ pre ∧ ∀ p ∈ pre, q.2 ≤ p.2
  none : acc.getLast? = none → pre = []
theorem ParInv.next {pre acc : List (Int × Int)} {p : Int × Int} (h : ParInv pre acc) (hp : ∀ q ∈ pre, ltK q p = true) : ParInv (pre ++ [p]) (parF acc p) := by
  have hold : ∀ q ∈ pre, domd (pre ++ [p]) q = domd pre q := fun q hq => by
    unfold domd
    refine decide_eq_decide.mpr ⟨fun ⟨r, hr, k⟩ => ?_, fun ⟨r, hr, k⟩ => ⟨r, List.mem_append_left _ hr, k⟩⟩
    rcases List.mem_append.mp hr with e | e
    · exact ⟨r, e, k⟩
    · rw [List.mem_singleton.mp e] at k
      have := lt_pair (hp q hq)
      omega
  have hfil : pre.filter (fun q => !domd (pre ++ [p]) q) = acc := by
    rw [h.eq]
    exact List.filter_congr fun q hq => by rw [hold q hq]
  have hsplit : (pre ++ [p]).filter (fun q => !domd (pre ++ [p]) q) = acc ++ if domd (pre ++ [p]) p then [] else [p] := by
    rw [List.filter_append, hfil]
    congr 1
    rw [List.filter_cons]
    cases domd (pre ++ [p]) p <;> rfl
  cases e : acc.getLast? with
  | none =>
    have e0 := h.none e
    subst e0
    have ea : acc = [] := List.getLast?_eq_none_iff.mp e
    subst ea
    have ep : parF [] p = [p] := rfl
    rw [ep]
    have hd : domd ([] ++ [p]) p = false := by
      unfold domd
      refine decide_eq_false fun ⟨q, hq, k, _⟩ => ?_
      simp at hq
      exact k hq
    refine ⟨?_, fun q hq => ?_, fun hq => ?_⟩
    · rw [hsplit, hd]
      rfl
    · simp at hq
      subst hq
      exact ⟨by simp, fun r hr => by simp at hr; rw [hr]; exact Int.le_refl _⟩
    · simp at hq
  | some q =>
    obtain ⟨hq1, hq2⟩ := h.last q e
    have ep : parF acc p = if p.2 < q.2 then acc ++ [p] else acc := by
      unfold parF
      rw [e]
    rw [ep]
    by_cases c : p.2 < q.2
    · have hd : domd (pre ++ [p]) p = false := by
        unfold domd
        refine decide_eq_false fun ⟨r, hr, k1, k2, k3⟩ => ?_
        rcases List.mem_append.mp hr with e | e
        · have := hq2 r e
          omega
        · exact k1 (List.mem_singleton.mp e)
      rw [if_pos c]
      refine ⟨?_, fun r hr => ?_, fun hr => ?_⟩
      · rw [hsplit, hd]
        rfl
      · rw [List.getLast?_append] at hr
        simp at hr
        subst hr
        refine ⟨by simp, fun s hs => ?_⟩
        rcases List.mem_append.mp hs with e | e
        · have := hq2 s e
          omega
        · rw [List.mem_singleton.mp e]
          exact Int.le_refl _
      · rw [List.getLast?_append] at hr
        simp at hr
    · have hd : domd (pre ++ [p]) p = true := by
        unfold domd
        have := lt_pair (hp q hq1)
        refine decide_eq_true ⟨q, List.mem_append_left _ hq1, fun e => ?_, by omega, by omega⟩
        have k := hp q hq1
        rw [e, ltK_irr] at k
        cases k
      rw [if_neg c]
      refine ⟨?_, fun r hr => ?_, fun hr => ?_⟩
      · rw [hsplit, hd, if_pos rfl, List.append_nil]
      · rw [e] at hr
        cases hr
        refine ⟨List.mem_append_left _ hq1, fun s hs => ?_⟩
        rcases List.mem_append.mp hs with e | e
        · exact hq2 s e
        · rw [List.mem_singleton.mp e]
          omega
      · rw [e] at hr
        cases hr
end PL
namespace PL
open PySem PySem.Spec PyProof.Rows L2 DL
def fr (P : Nat) (x : Int) : Rat := Rat.divInt x (P : Nat)
section
variable {P : Nat} (hP : 0 < P)
include hP
theorem fr_div (x : Int) : fr P x = (x : Rat) / ((P : Nat) : Rat) := Rat.divInt_eq_div x (P : Nat)
theorem fr_ne : ((P : Nat) : Rat) ≠ 0 := by
  intro h
  have : ((P : Nat) : Rat) = ((0 : Nat) : Rat) := h
  rw [Rat.natCast_inj] at this
  omega
theorem fr_add (x y : Int) : fr P x + fr P y = fr P (x + y) := by
  rw [fr_div hP, fr_div hP, fr_div hP, Rat.intCast_add, Rat.div_def, Rat.div_def, Rat.div_def, Rat.add_mul]
theorem fr_int (a : Int) : (a : Rat) = fr P (a * (P : Nat)) := by
  rw [fr_div hP, Rat.intCast_mul]
  have := fr_ne hP
  rw [Rat.div_def, Rat.mul_assoc, show (((P : Nat) : Int) : Rat) = ((P : Nat) : Rat) from rfl, Rat.mul_inv_cancel _ this, Rat.mul_one]
theorem fr_mul (a x : Int) : (a : Rat) * fr P x = fr P (a * x) := by
  rw [fr_div hP, fr_div hP, Rat.intCast_mul, Rat.div_def, Rat.div_def, Rat.mul_assoc]
end
end PL
namespace PL
open PySem PySem.Spec PyProof.Rows L2 DL
section
variable {n : Nat} {rs : List Road}
/-- the points behind a point, away from 0 -/
inductive Sub (rs : List Road) (b : Nat) : Nat → Prop
  | self : Sub rs b b
  | step {e : Road} : e ∈ rs → Sub rs b e.1 → Sub rs b e.2.1
theorem Sub.le (w : Web n rs) {b k : Nat} (h : Sub rs b k) : b ≤ k := by
  induction h with
  | self => exact Nat.le_refl _
  | step he _ ih => have := (w.lt _ he).1; omega
end
end PL
namespace PL
open PySem PySem.Spec PyProof.Rows L2 DL
section
variable {g h : Gs} {ρ ρ1 ρ2 : DL.Env} {Q : Fl → DL.Env → Prop} {fl : Fl}
theorem wG.nxt (e : g ρ = some (.nx, ρ2)) (q : wG h ρ2 Q) : wG (gSeq g h) ρ Q := wG.seq ⟨.nx, ρ2, e, q⟩
end
end PL
namespace PL
open PySem PySem.Spec PyProof.Rows L2 DL
end PL
namespace PL
section
variable {n : Nat} {rs : List Road}
/-- four points: the two greatest of the three sums are equal -/
def Four (d : Nat → Nat → Int) (x y z w : Nat) : Prop := d x y + d z w ≤ max (d x z + d y w) (d x w + d y z)
theorem Four.all {d : Nat → Nat → Int} (ds : ∀ i j, d i j = d j i) {x y z w : Nat} (h : Four d x y z w) : Four d y x z w ∧ Four d z w x y ∧ Four d w z x y := by
  unfold Four at *
  have := ds x y
  have := ds z w
  have := ds x z
  have := ds y w
  have := ds x w
  have := ds y z
  omega
end
end PL
namespace PL
end PL
namespace PL
open PySem PySem.Spec PyProof.Rows L2 DL
section
variable {g : Gs} {ρ ρ1 : DL.Env} {Q : Fl → DL.Env → Prop}
/-- a for, item by item -/
def goesOn (w : DL.Env → Prop) (Q : Fl → DL.Env → Prop) : Fl → DL.Env → Prop
  | .nx, ρ => w ρ
  | .ct, ρ => w ρ
  | .bk, ρ => Q .nx ρ
  | .ret d, ρ => Q (.ret d) ρ
theorem wG.lnil {b : D → DL.Env → Option DL.Env} (q : Q .nx ρ) : wG (gLoop b g []) ρ Q := ⟨.nx, ρ, rfl, q⟩
theorem wG.lcons {b : D → DL.Env → Option DL.Env} {d : D} {r : List D} (e : b d ρ = some ρ1) (w : wG g ρ1 (goesOn (fun ρ' => wG (gLoop b g r) ρ' Q) Q)) : wG (gLoop b g (d :: r)) ρ Q := by
  obtain ⟨fl, ρ2, e2, q⟩ := w
  cases fl with
  | nx =>
    obtain ⟨fl, ρ3, e3, q3⟩ := q
    exact ⟨fl, ρ3, by unfold gLoop; rw [e, Option.bind_some, e2]; exact e3, q3⟩
  | ct =>
    obtain ⟨fl, ρ3, e3, q3⟩ := q
    exact ⟨fl, ρ3, by unfold gLoop; rw [e, Option.bind_some, e2]; exact e3, q3⟩
  | bk => exact ⟨.nx, ρ2, by unfold gLoop; rw [e, Option.bind_some, e2]; rfl, q⟩
  | ret d => exact ⟨.ret d, ρ2, by unfold gLoop; rw [e, Option.bind_some, e2]; rfl, q⟩
theorem wG.for {it : DL.Env → Option (List D × DL.Env)} {b : D → DL.Env → Option DL.Env} {ds : List D} (e : it ρ = some (ds, ρ1)) (w : wG (gLoop b g ds) ρ1 Q) : wG (gFor it b g) ρ Q := by
  obtain ⟨fl, ρ', e', q⟩ := w
  exact ⟨fl, ρ', by unfold gFor; rw [e]; exact e', q⟩
end
end PL
namespace PL
open PySem PySem.Spec PyProof.Rows L2 DL
end PL
namespace PL
open PySem PySem.Spec PyProof.Rows L2 DL
end PL
namespace PL
open PySem PySem.Spec PyProof.Rows L2 DL
end PL
namespace PL
end PL
namespace PL
end PL
namespace PL
end PL
namespace PL
open PySem PySem.Spec PyProof.Rows L2 DL
end PL
namespace PL
open PySem PySem.Spec PyProof.Rows L2 DL
end PL
namespace PL
open PySem PySem.Spec PyProof.Rows L2 DL
theorem ins_pw {γ : Type} {le : γ → γ → Bool} (tot : ∀ a b, le a b = false → le b a = true) (tr : ∀ a b c, le a b = true → le b c = true → le a c = true) (x : γ) : ∀ xs : List γ, xs.Pairwise (fun a b => le a b = true) → (ins le x xs).Pairwise fun a b => le a b = true
  | [], _ => List.pairwise_singleton _ _
  | y :: r, h => by
    unfold ins
    have h2 := List.pairwise_cons.mp h
    cases q : le x y with
    | true =>
      refine List.pairwise_cons.mpr ⟨fun z hz => ?_, h⟩
      rcases List.mem_cons.mp hz with e | e
      · rw [e]
        exact q
      · exact tr _ _ _ q (h2.1 z e)
    | false =>
      refine List.pairwise_cons.mpr ⟨fun z hz => ?_, ins_pw tot tr x r h2.2⟩
      rcases List.mem_cons.mp ((ins_perm le x r).mem_iff.mp hz) with e | e
      · rw [e]
        exact tot _ _ q
      · exact h2.1 z e
theorem isort_pw {γ : Type} {le : γ → γ → Bool} (tot : ∀ a b, le a b = false → le b a = true) (tr : ∀ a b c, le a b = true → le b c = true → le a c = true) : ∀ xs : List γ, (isort le xs).Pairwise fun a b => le a b = true
  | [] => List.Pairwise.nil
  | x :: xs => by
    unfold isort
    exact ins_pw tot tr x _ (isort_pw tot tr xs)
section
variable {n : Nat} {R : Nat → Nat → Prop}
def Apart (R : Nat → Nat → Prop) (A : List Nat) : Prop := ∀ j ∈ A, ∀ k ∈ A, j ≠ k → ¬ ∃ y, R j y ∧ R k y
end
end PL
namespace PL
open PySem PySem.Spec PyProof.Rows L2 DL
end PL
namespace PL
open PySem PySem.Spec PyProof.Rows L2 DL
end PL
namespace PL
open PySem PySem.Spec PyProof.Rows L2 DL
end PL
namespace PL
open PySem PySem.Spec PyProof.Rows L2 DL
theorem ratlt {a b c : Rat} (h : a < b) (k : b < c) : a < c := by grind
def lowQ : List Rat → Rat
  | [] => 0
  | q :: r => r.foldl (fun a b => if b < a then b else a) q
theorem lowQ_spec : ∀ (r : List Rat) (q : Rat), lowQ (q :: r) ∈ q :: r ∧ ∀ x ∈ q :: r, lowQ (q :: r) ≤ x
  | [], q => ⟨List.mem_cons_self, fun x hx => by rw [List.mem_singleton.mp hx]; exact Rat.le_refl⟩
  | y :: r, q => by
    have ih := lowQ_spec r (if y < q then y else q)
    have e : lowQ (q :: y :: r) = lowQ ((if y < q then y else q) :: r) := rfl
    rw [e]
    have le : (if y < q then y else q) ≤ q ∧ (if y < q then y else q) ≤ y := by
      by_cases c : y < q
      · rw [if_pos c]
        exact ⟨Rat.le_of_lt c, Rat.le_refl⟩
      · rw [if_neg c]
        exact ⟨Rat.le_refl, Rat.not_lt.mp c⟩
    have hh := ih.2 _ List.mem_cons_self
    constructor
    · rcases List.mem_cons.mp ih.1 with k | k
      · rw [k]
        by_cases c : y < q
        · rw [if_pos c]
          exact List.mem_cons_of_mem _ List.mem_cons_self
        · rw [if_neg c]
          exact List.mem_cons_self
      · exact List.mem_cons_of_mem _ (List.mem_cons_of_mem _ k)
    · intro x hx
      rcases List.mem_cons.mp hx with k | k
      · rw [k]
        exact Rat.le_trans hh le.1
      · rcases List.mem_cons.mp k with k | k
        · rw [k]
          exact Rat.le_trans hh le.2
        · exact ih.2 x (List.mem_cons_of_mem _ k)
theorem divInt_le {a : Int} {d : Nat} (hd : 0 < d) : (Rat.divInt a (d : Nat)).num.natAbs ≤ a.natAbs ∧ (Rat.divInt a (d : Nat)).den ≤ d := by
  have hg : 0 < Int.gcd (d : Nat) a := Int.gcd_pos_of_ne_zero_left _ (by omega)
  constructor
  · rw [Rat.num_divInt, show ((d : Nat) : Int).sign = 1 from Int.sign_eq_one_of_pos (by omega), Int.one_mul, Int.natAbs_ediv_of_dvd (Int.gcd_dvd_right _ _)]
    exact Nat.div_le_self _ _
  · rw [Rat.den_divInt, if_neg (by omega)]
    exact Nat.div_le_self _ _
/-- ratios of a middle size -/
def Sg (q : Rat) : Prop := q.num.natAbs < 2 ^ 40 ∧ q.den < 2 ^ 15
theorem Sg.sub {p q : Rat} (hp : Sg p) (hq : Sg q) : Sb (p - q) := by
  have d1 := Nat.mul_lt_mul'' hp.2 hq.2
  have hd : 0 < p.den * q.den := Nat.mul_pos p.den_pos q.den_pos
  have n1 := Nat.mul_lt_mul'' hp.1 hq.2
  have n2 := Nat.mul_lt_mul'' hq.1 hp.2
  have := divInt_le (a := p.num * ((q.den : Nat) : Int) - q.num * ((p.den : Nat) : Int)) hd
  rw [Int.natCast_mul, rat_sub] at this
  have ha : (p.num * ((q.den : Nat) : Int) - q.num * ((p.den : Nat) : Int)).natAbs < 2 ^ 59 := by
    refine Nat.lt_of_le_of_lt (Int.natAbs_sub_le _ _) ?_
    rw [Int.natAbs_mul, Int.natAbs_mul]
    simp only [Int.natAbs_natCast]
    omega
  exact ⟨by omega, by omega⟩
/-- steps: a small denominator, at most 1000 -/
structure Stp (q : Rat) : Prop where
  nn : 0 ≤ q.num
  le : q.num ≤ 1000 * ((q.den : Nat) : Int)
  den : q.den ≤ 1400
theorem Stp.line {q : Rat} (h : Stp q) {a b : Int} (a0 : 0 ≤ a) (a1 : a ≤ 1200000) (b0 : 0 ≤ b) (b1 : b ≤ 1400) : Sm (q * (b : Rat)) ∧ Sg ((a : Rat) + q * (b : Rat)) := by
  have h1 := h.nn
  have h2 := h.le
  have h3 := h.den
  have hd := q.den_pos
  have m1 : 0 ≤ b * q.num ∧ b * q.num ≤ 1400 * 1400000 := ⟨Int.mul_nonneg b0 h1, Int.mul_le_mul b1 (by omega) h1 (by omega)⟩
  have m2 : 0 ≤ a * ((q.den : Nat) : Int) ∧ a * ((q.den : Nat) : Int) ≤ 1200000 * 1400 := ⟨Int.mul_nonneg a0 (by omega), Int.mul_le_mul a1 (by omega) (by omega) (by omega)⟩
  have eq : q = fr q.den q.num := (Rat.num_divInt_den q).symm
  have e1 : q * (b : Rat) = fr q.den (b * q.num) := by
    rw [Rat.mul_comm, ← fr_mul hd, ← eq]
  have e2 : (a : Rat) + q * (b : Rat) = fr q.den (a * ((q.den : Nat) : Int) + b * q.num) := by
    rw [e1, ← fr_add hd, fr_int hd]
  have l1 := divInt_le (a := b * q.num) hd
  have l2 := divInt_le (a := a * ((q.den : Nat) : Int) + b * q.num) hd
  rw [e2, e1]
  unfold fr
  exact ⟨⟨by omega, by omega⟩, ⟨by omega, by omega⟩⟩
/-- a ratio put where it belongs -/
theorem put_up (q : Rat) : ∀ l : List Rat, l.Pairwise (· < ·) → q ∉ l → (l.take (l.filter fun x => decide (x < q)).length ++ [q] ++ l.drop (l.filter fun x => decide (x < q)).length).Pairwise (· < ·)
  | [], _, _ => by simp
  | a :: l, h, hn => by
    rw [List.pairwise_cons] at h
    have hq : q ≠ a := fun e => hn (e ▸ List.mem_cons_self)
    have hn' : q ∉ l := fun e => hn (List.mem_cons_of_mem _ e)
    by_cases c : a < q
    · have ih := put_up q l h.2 hn'
      rw [List.filter_cons, if_pos (decide_eq_true c), List.length_cons, List.take_succ_cons, List.drop_succ_cons, List.cons_append, List.cons_append, List.pairwise_cons]
      refine ⟨fun y hy => ?_, ih⟩
      rcases List.mem_append.mp hy with k | k
      · rcases List.mem_append.mp k with k | k
        · exact h.1 y (List.mem_of_mem_take k)
        · rw [List.mem_singleton.mp k]
          exact c
      · exact h.1 y (List.mem_of_mem_drop k)
    · have qa : q < a := by
        rcases Rat.le_iff_lt_or_eq.mp (Rat.not_lt.mp c) with k | k
        · exact k
        · exact absurd k hq
      have e0 : (a :: l).filter (fun x => decide (x < q)) = [] := by
        rw [List.filter_eq_nil_iff]
        intro y hy
        rw [decide_eq_true_eq]
        intro k
        rcases List.mem_cons.mp hy with e | e
        · exact c (e ▸ k)
        · exact c (ratlt (h.1 y e) k)
      rw [e0, List.length_nil, List.take_zero, List.drop_zero, List.nil_append, List.singleton_append, List.pairwise_cons, List.pairwise_cons]
      refine ⟨fun y hy => ?_, h⟩
      rcases List.mem_cons.mp hy with e | e
      · rw [e]
        exact qa
      · exact ratlt qa (h.1 y e)
theorem put_mem (q : Rat) (l : List Rat) (k : Nat) {x : Rat} : x ∈ l.take k ++ [q] ++ l.drop k ↔ x ∈ l ∨ x = q := by
  rw [List.mem_append, List.mem_append, List.mem_singleton]
  have : x ∈ l ↔ x ∈ l.take k ∨ x ∈ l.drop k := by rw [← List.mem_append, List.take_append_drop]
  rw [this]
  constructor
  · rintro ((a | a) | a)
    · exact .inl (.inl a)
    · exact .inr a
    · exact .inl (.inr a)
  · rintro ((a | a) | a)
    · exact .inl (.inl a)
    · exact .inr a
    · exact .inl (.inr a)
def slopeQ (F : List Rat) (V : Rat → Rat) (k : Nat) : Rat := (V (F.getD (k + 1) 0) - V (F.getD k 0)) / (F.getD (k + 1) 0 - F.getD k 0)
end PL
namespace PL
open PySem PySem.Spec PyProof.Rows L2 DL
structure Bent (L : Nat) (F : Nat → Rat) (V : Rat → Rat) : Prop where
  up : ∀ k, k + 1 < L → F k < F (k + 1)
  line : ∀ k, k + 1 < L → ∃ s c : Rat, (∀ q, F k ≤ q → q ≤ F (k + 1) → V q = c + q * s) ∧ ∀ q, V q ≤ c + q * s
structure Rb (A B : Nat) (q : Rat) : Prop where
  num : q.num.natAbs ≤ A
  den : q.den ≤ B
theorem Rb.of {A B : Nat} {a : Int} {d : Nat} {q : Rat} (hd : 0 < d) (e : Rat.divInt a (d : Nat) = q) (h1 : a.natAbs ≤ A) (h2 : d ≤ B) : Rb A B q := by
  have := divInt_le (a := a) hd
  rw [e] at this
  exact ⟨by omega, by omega⟩
theorem Rb.add {A B A' B' : Nat} {p q : Rat} (hp : Rb A B p) (hq : Rb A' B' q) : Rb (A * B' + A' * B) (B * B') (p + q) := by
  refine Rb.of (Nat.mul_pos p.den_pos q.den_pos) (by rw [Int.natCast_mul]; exact rat_add p q) ?_ (Nat.mul_le_mul hp.den hq.den)
  refine Nat.le_trans (Int.natAbs_add_le _ _) ?_
  rw [Int.natAbs_mul, Int.natAbs_mul, Int.natAbs_natCast, Int.natAbs_natCast]
  exact Nat.add_le_add (Nat.mul_le_mul hp.num hq.den) (Nat.mul_le_mul hq.num hp.den)
theorem Rb.neg {A B : Nat} {p : Rat} (hp : Rb A B p) : Rb A B (-p) := ⟨by
  show (-p.num).natAbs ≤ A
  rw [Int.natAbs_neg]
  exact hp.num, hp.den⟩
theorem Rb.int {A : Nat} {a : Int} (h : a.natAbs ≤ A) : Rb A 1 (a : Rat) := ⟨h, Nat.le_refl _⟩
theorem Rb.le {A B A' B' : Nat} {q : Rat} (h : Rb A B q) (h1 : A ≤ A') (h2 : B ≤ B') : Rb A' B' q := ⟨Nat.le_trans h.num h1, Nat.le_trans h.den h2⟩
end PL
namespace PL
open PySem PySem.Spec PyProof.Rows L2 DL
def cross (f g : Nat → Int) (x y : Nat) : Rat := Rat.divInt (f y - f x) (g x - g y)
theorem getD_lt {F : List Rat} (h : F.Pairwise (· < ·)) {i j : Nat} (hij : i < j) (hj : j < F.length) : F.getD i 0 < F.getD j 0 := by
  have := List.pairwise_iff_getElem.mp h i j (by omega) hj hij
  rw [List.getD_eq_getElem?_getD, List.getD_eq_getElem?_getD, List.getElem?_eq_getElem hj, List.getElem?_eq_getElem (show i < F.length by omega)]
  exact this
end PL
namespace PL
open PySem PySem.Spec PyProof.Rows L2 DL
theorem Rb.sub {A B A' B' : Nat} {p q : Rat} (hp : Rb A B p) (hq : Rb A' B' q) : Rb (A * B' + A' * B) (B * B') (p - q) := by
  rw [Rat.sub_eq_add_neg]
  exact hp.add hq.neg
structure Shr (B : Nat) (q : Rat) : Prop where
  nn : 0 ≤ q
  le : q ≤ 1
  den : q.den ≤ B
theorem Shr.num {B : Nat} {q : Rat} (h : Shr B q) : 0 ≤ q.num ∧ q.num ≤ ((q.den : Nat) : Int) := by
  refine ⟨Rat.num_nonneg.mpr h.nn, ?_⟩
  have := (Rat.le_iff _ _).mp h.le
  have e1 : (1 : Rat).num = 1 := rfl
  have e2 : (1 : Rat).den = 1 := rfl
  rw [e1, e2] at this
  omega
/-- the shares found, 0 and 1 among them -/
structure Cor (B m : Nat) (f g : Nat → Int) (ss : List Rat) (P : Nat → Nat → Prop) : Prop where
  pw : ss.Pairwise (· < ·)
  zero : 0 ∈ ss
  one : 1 ∈ ss
  sh : ∀ q ∈ ss, Shr B q
  all : ∀ i j, P i j → g i ≠ g j → 0 < cross f g i j → cross f g i j < 1 → cross f g i j ∈ ss
theorem Cor.put {B m : Nat} {f g : Nat → Int} {ss : List Rat} {P P' : Nat → Nat → Prop} (h : Cor B m f g ss P) {x y : Nat} (hP : ∀ i j, P' i j → P i j ∨ i = x ∧ j = y) (hn : cross f g x y ∉ ss) (hs : Shr B (cross f g x y)) : Cor B m f g (ss.take (ss.filter fun z => decide (z < cross f g x y)).length ++ [cross f g x y] ++ ss.drop (ss.filter fun z => decide (z < cross f g x y)).length) P' := by
  refine ⟨put_up _ ss h.pw hn, (put_mem _ _ _).mpr (.inl h.zero), (put_mem _ _ _).mpr (.inl h.one), fun q hq => ?_, fun i j hij a b c => ?_⟩
  · rcases (put_mem _ _ _).mp hq with k | k
    · exact h.sh q k
    · rw [k]
      exact hs
  · rcases hP i j hij with k | ⟨k1, k2⟩
    · exact (put_mem _ _ _).mpr (.inl (h.all i j k a b c))
    · rw [k1, k2]
      exact (put_mem _ _ _).mpr (.inr rfl)
end PL
namespace PL
open PySem PySem.Spec PyProof.Rows L2 DL
structure Fd (d M : Nat) (q : Rat) : Prop where
  ex : ∃ X : Int, q = fr d X ∧ 0 ≤ X ∧ X ≤ ((M * d : Nat) : Int)
section
variable {d M N : Nat} {p q : Rat}
theorem Fd.add (hd : 0 < d) (hp : Fd d M p) (hq : Fd d N q) : Fd d (M + N) (p + q) := by
  obtain ⟨X, e1, a1, b1⟩ := hp.ex
  obtain ⟨Y, e2, a2, b2⟩ := hq.ex
  refine ⟨X + Y, by rw [e1, e2, fr_add hd], by omega, ?_⟩
  rw [Nat.add_mul]
  omega
theorem Fd.int (hd : 0 < d) {a : Int} (a0 : 0 ≤ a) (a1 : a ≤ (M : Nat)) : Fd d M (a : Rat) := by
  refine ⟨a * (d : Nat), fr_int hd a, Int.mul_nonneg a0 (by omega), ?_⟩
  rw [Int.natCast_mul]
  exact Int.mul_le_mul_of_nonneg_right a1 (by omega)
theorem Fd.low {l : List Rat} (h0 : l ≠ []) (h : ∀ x ∈ l, Fd d M x) : Fd d M (lowQ l) := by
  cases l with
  | nil => exact absurd rfl h0
  | cons a r => exact h _ (lowQ_spec r a).1
end
theorem Bent.add {L : Nat} {F : Nat → Rat} {V W : Rat → Rat} (h : Bent L F V) (k : Bent L F W) : Bent L F (fun q => V q + W q) := by
  refine ⟨h.up, fun i hi => ?_⟩
  obtain ⟨s, c, h1, h2⟩ := h.line i hi
  obtain ⟨t, e, k1, k2⟩ := k.line i hi
  refine ⟨s + t, c + e, fun q q1 q2 => ?_, fun q => ?_⟩
  · have a := h1 q q1 q2
    have b := k1 q q1 q2
    show V q + W q = _
    grind
  · have a := h2 q
    have b := k2 q
    show V q + W q ≤ _
    grind
/-- bends among the shares, with slopes that are whole numbers -/
structure BI (A : Nat) (F : List Rat) (V : Rat → Rat) : Prop where
  bent : Bent F.length (fun k => F.getD k 0) V
  int : ∀ k, k + 1 < F.length → ∃ z : Int, z.natAbs ≤ A ∧ slopeQ F V k = (z : Rat)
theorem BI.add {A B : Nat} {F : List Rat} {V W : Rat → Rat} (h : BI A F V) (k : BI B F W) : BI (A + B) F (fun q => V q + W q) := by
  refine ⟨h.bent.add k.bent, fun i hi => ?_⟩
  obtain ⟨x, x1, x2⟩ := h.int i hi
  obtain ⟨y, y1, y2⟩ := k.int i hi
  refine ⟨x + y, by omega, ?_⟩
  rw [Rat.intCast_add, ← x2, ← y2]
  unfold slopeQ
  rw [Rat.div_def, Rat.div_def, Rat.div_def]
  grind
theorem BI.zero {F : List Rat} (hp : F.Pairwise (· < ·)) : BI 0 F (fun _ => 0) := by
  refine ⟨⟨fun k hk => getD_lt hp (Nat.lt_succ_self k) hk, fun k hk => ⟨0, 0, fun q _ _ => by grind, fun q => by grind⟩⟩, fun k hk => ⟨0, Nat.le_refl _, ?_⟩⟩
  unfold slopeQ
  rw [Rat.div_def]
  grind
theorem BI.sum {A : Nat} {F : List Rat} (hp : F.Pairwise (· < ·)) {α : Type} (G : α → Rat → Rat) : ∀ ts : List α, (∀ t ∈ ts, BI A F (G t)) → BI (A * ts.length) F (fun q => (ts.map fun t => G t q).sum)
  | [], _ => BI.zero hp
  | t :: ts, h => by
    have := (h t List.mem_cons_self).add (BI.sum hp G ts fun u hu => h u (List.mem_cons_of_mem _ hu))
    rw [show A * (t :: ts).length = A + A * ts.length by rw [List.length_cons, Nat.mul_add]; omega]
    exact this
structure CorG (B : Nat) (ss : List Rat) (Q : Rat → Prop) : Prop where
  pw : ss.Pairwise (· < ·)
  zero : 0 ∈ ss
  one : 1 ∈ ss
  sh : ∀ q ∈ ss, Shr B q
  all : ∀ q, Q q → q ∈ ss
theorem CorG.put {B : Nat} {ss : List Rat} {Q Q' : Rat → Prop} (h : CorG B ss Q) {z : Rat} (hQ : ∀ q, Q' q → Q q ∨ q = z) (hn : z ∉ ss) (hs : Shr B z) : CorG B (ss.take (ss.filter fun u => decide (u < z)).length ++ [z] ++ ss.drop (ss.filter fun u => decide (u < z)).length) Q' := by
  refine ⟨put_up _ ss h.pw hn, (put_mem _ _ _).mpr (.inl h.zero), (put_mem _ _ _).mpr (.inl h.one), fun q hq => ?_, fun q hq => ?_⟩
  · rcases (put_mem _ _ _).mp hq with k | k
    · exact h.sh q k
    · rw [k]
      exact hs
  · rcases hQ q hq with k | k
    · exact (put_mem _ _ _).mpr (.inl (h.all q k))
    · exact (put_mem _ _ _).mpr (.inr k)
end PL
namespace PL
open PySem PySem.Spec PyProof.Rows L2 DL
end PL
namespace PL
open PySem PySem.Spec PyProof.Rows L2 DL
def Rl (n : Nat) (d : Mat) (r : Int) (k x : Nat) : Prop := x < n ∧ d k x ≤ r
section
variable {n : Nat} {d d' : Mat} {r : Int} {σ : Nat → Nat}
structure Iso (n : Nat) (d d' : Mat) (σ : Nat → Nat) : Prop where
  lt : ∀ k, k < n → σ k < n
  onto : ∀ k, k < n → ∃ j, j < n ∧ σ j = k
  inj : ∀ i j, i < n → j < n → σ i = σ j → i = j
  same : ∀ i j, i < n → j < n → d' (σ i) (σ j) = d i j
theorem Iso.apart (h : Iso n d d' σ) {A : List Nat} (hA : Asc n A) (hh : Apart (Rl n d r) A) : Asc n (ssetN (A.map σ)) ∧ Apart (Rl n d' r) (ssetN (A.map σ)) ∧ A.length ≤ (ssetN (A.map σ)).length := by
  refine ⟨⟨ssetN_asc _, fun x hx => ?_⟩, fun j hj k hk ne ⟨y, y1, y2⟩ => ?_, ?_⟩
  · obtain ⟨y, hy, e⟩ := List.mem_map.mp (ssetN_mem.mp hx)
    rw [← e]
    exact h.lt y (hA.2 y hy)
  · obtain ⟨a, ha, ea⟩ := List.mem_map.mp (ssetN_mem.mp hj)
    obtain ⟨b, hb, eb⟩ := List.mem_map.mp (ssetN_mem.mp hk)
    obtain ⟨z, hz, ez⟩ := h.onto y y1.1
    refine hh a ha b hb (fun e => ne (by rw [← ea, ← eb, e])) ⟨z, ⟨hz, ?_⟩, hz, ?_⟩
    · rw [← h.same a z (hA.2 a ha) hz, ea, ez]
      exact y1.2
    · rw [← h.same b z (hA.2 b hb) hz, eb, ez]
      exact y2.2
  · have nd : ∀ l : List Nat, l.Nodup → (∀ x ∈ l, x < n) → (l.map σ).Nodup := fun l => by
      induction l with
      | nil => exact fun _ _ => .nil
      | cons a l ih =>
        intro h1 h2
        rw [List.nodup_cons] at h1
        rw [List.map_cons, List.nodup_cons]
        refine ⟨fun k => ?_, ih h1.2 fun x hx => h2 x (List.mem_cons_of_mem _ hx)⟩
        obtain ⟨b, hb, e⟩ := List.mem_map.mp k
        have := h.inj b a (h2 b (List.mem_cons_of_mem _ hb)) (h2 a List.mem_cons_self) e
        rw [this] at hb
        exact h1.1 hb
    have := nodup_len (A.map σ) (ssetN (A.map σ)) (nd A (hA.1.imp fun q => Nat.ne_of_lt q) hA.2) fun x hx => ssetN_mem.mpr hx
    rw [List.length_map] at this
    exact this
theorem Iso.back (h : Iso n d d' σ) : ∃ τ, Iso n d' d τ := by
  classical
  let τ : Nat → Nat := fun k => if hk : k < n then Classical.choose (h.onto k hk) else 0
  have hτ : ∀ k, k < n → τ k < n ∧ σ (τ k) = k := fun k hk => by
    have e : τ k = Classical.choose (h.onto k hk) := dif_pos hk
    rw [e]
    exact Classical.choose_spec (h.onto k hk)
  refine ⟨τ, fun k hk => (hτ k hk).1, fun k hk => ⟨σ k, h.lt k hk, ?_⟩, fun i j hi hj e => ?_, fun i j hi hj => ?_⟩
  · exact h.inj _ _ (hτ _ (h.lt k hk)).1 hk (hτ _ (h.lt k hk)).2
  · rw [← (hτ i hi).2, ← (hτ j hj).2, e]
  · rw [← h.same _ _ (hτ i hi).1 (hτ j hj).1, (hτ i hi).2, (hτ j hj).2]
end
end PL
namespace PL
open PySem PySem.Spec PyProof.Rows L2 DL
end PL
namespace PL
open PySem PySem.Spec PyProof.Rows L2 DL
theorem Cn.trans {pts : List Nat} {rs : List Road} {x y z : Nat} (h1 : Cn pts rs x y) (h2 : Cn pts rs y z) : Cn pts rs x z := by
  induction h2 with
  | self => exact h1
  | step _ ha hy ih => exact .step ih ha hy
theorem Cn.symm {pts : List Nat} {rs : List Road} {x y : Nat} (hx : x ∈ pts) (h : Cn pts rs x y) : Cn pts rs y x ∧ y ∈ pts := by
  induction h with
  | self => exact ⟨.self, hx⟩
  | step h ha hy ih => exact ⟨Cn.trans (.step .self (adj_symm ha) ih.2) ih.1, hy⟩
end PL
namespace PL
open PySem PySem.Spec PyProof.Rows L2 DL
end PL
namespace PL
open PySem PySem.Spec PyProof.Rows L2 DL
/-- roads that need not be laid from point to point -/
structure WebZ (n : Nat) (rs : List Road) : Prop where
  lt : ∀ e ∈ rs, e.1 < e.2.1 ∧ e.2.1 < n
  len : ∀ e ∈ rs, 1 ≤ e.2.2 ∧ e.2.2 ≤ 100
  nd : (rs.map Pair).Nodup
  few : rs.length ≤ 14
section
variable {n : Nat} {rs : List Road}
theorem dist_edge0 (w : WebZ n rs) {u v : Nat} {l : Int} (h : Edge rs u v l) : u < n ∧ v < n ∧ 1 ≤ l ∧ l ≤ 100 ∧ dist n rs u v ≤ l := by
  have key : ∀ e ∈ rs, dist n rs e.1 e.2.1 ≤ e.2.2 ∧ dist n rs e.2.1 e.1 ≤ e.2.2 := fun e he => by
    obtain ⟨h1, h2⟩ := laid_at rs (iniM (far rs)) (fun e he => (w.lt e he).1) w.nd e he
    have a1 := phases_le (m := rs.foldl lay (iniM (far rs))) e.1 e.2.1 n
    have a2 := phases_le (m := rs.foldl lay (iniM (far rs))) e.2.1 e.1 n
    unfold dist
    omega
  rcases h with h | h
  · have a := w.lt _ h
    have b := w.len _ h
    have c := key _ h
    dsimp only at a b c
    omega
  · have a := w.lt _ h
    have b := w.len _ h
    have c := key _ h
    dsimp only at a b c
    omega
structure Rn (n : Nat) (σ τ : Nat → Nat) : Prop where
  to : ∀ k, k < n → σ k < n ∧ τ (σ k) = k
  fro : ∀ k, k < n → τ k < n ∧ σ (τ k) = k
variable {σ τ : Nat → Nat}
theorem Rn.inj (r : Rn n σ τ) {a b : Nat} (ha : a < n) (hb : b < n) (e : σ a = σ b) : a = b := by rw [← (r.to a ha).2, e, (r.to b hb).2]
end
end PL
namespace PL
open PySem PySem.Spec PyProof.Rows L2 DL
end PL
namespace PL
open PySem PySem.Spec PyProof.Rows L2 DL
end PL
namespace PL
open PySem PySem.Spec PyProof.Rows L2 DL
instance {α : Type} : Inhabited (PySem.W.Tup α) := ⟨⟨[]⟩⟩
def farS (p : Nat → Int) (j x : Nat) : Int := (((p j - p x).natAbs : Nat) : Int)
end PL
namespace PL
open PySem PySem.Spec PyProof.Rows L2 DL
def s6c (p : Nat → Int) (a b j : Nat) : Int := if farS p j a < farS p j b then 6 else if farS p j a = farS p j b then 3 else 0
/-- what a seller at a gets against one at b, in sixths -/
def s6 (n : Nat) (p w : Nat → Int) (a b : Nat) : Int := ((List.range n).map fun j => w j * s6c p a b j).sum
end PL
namespace PL
open PySem PySem.Spec PyProof.Rows L2 DL
end PL
namespace PL
open PySem PySem.Spec PyProof.Rows L2 DL
end PL
namespace PL
open PySem PySem.Spec PyProof.Rows L2 DL
end PL
namespace PL
open PySem PySem.Spec PyProof.Rows L2 DL
end PL
namespace PL
open PySem PySem.Spec PyProof.Rows L2 DL
end PL
namespace PL
open PySem PySem.Spec PyProof.Rows L2 DL
end PL
namespace PL
open PySem PySem.Spec PyProof.Rows L2 DL
end PL
namespace PL
def layO (m : Mat) (e : Road) : Mat := set2 m e.1 e.2.1 e.2.2
structure OW (n : Nat) (rs : List Road) : Prop where
  lt : ∀ e ∈ rs, e.1 < n ∧ e.2.1 < n ∧ e.1 ≠ e.2.1
  len : ∀ e ∈ rs, 1 ≤ e.2.2 ∧ e.2.2 ≤ 100
  nd : (rs.map Pair).Nodup
  few : rs.length ≤ 40
def distO (n : Nat) (rs : List Road) : Mat := phases n (rs.foldl layO (iniM (far rs)))
end PL
namespace PL
open PySem PySem.Spec PyProof.Rows L2 DL
inductive FwO (n : Nat) (rs : List Road) (b : Nat) : Nat → List Nat → Prop
  | nil : FwO n rs b b [b]
  | step {u v : Nat} {l : Int} {p : List Nat} : (u, v, l) ∈ rs → l + distO n rs v b = distO n rs u b → FwO n rs b v p → FwO n rs b u (u :: p)
section
variable {n : Nat} {rs : List Road}
theorem FwO.lt (w : OW n rs) {b u : Nat} {p : List Nat} (hb : b < n) (h : FwO n rs b u p) : ∀ x ∈ p, x < n := by
  induction h with
  | nil => exact fun x hx => by rw [List.mem_singleton.mp hx]; exact hb
  | step he _ _ ih =>
    intro x hx
    rcases List.mem_cons.mp hx with q | q
    · rw [q]; exact (w.lt _ he).1
    · exact ih x q
theorem FwO.last {b u : Nat} {p : List Nat} (h : FwO n rs b u p) : ∃ q, p = q ++ [b] := by
  induction h with
  | nil => exact ⟨[], rfl⟩
  | @step u _ _ _ _ _ _ ih =>
    obtain ⟨q, e⟩ := ih
    exact ⟨u :: q, by rw [e]; rfl⟩
end
end PL
namespace PL
open PySem PySem.Spec PyProof.Rows L2 DL
end PL
namespace PL
open PySem PySem.Spec PyProof.Rows L2 DL
end PL
namespace PL
open PySem PySem.Spec PyProof.Rows L2 DL
end PL
namespace PL
open PySem PySem.Spec PyProof.Rows L2 DL
end PL
namespace PL
open PySem PySem.Spec PyProof.Rows L2 DL
end PL
namespace PL
open PySem PySem.Spec PyProof.Rows L2 DL
end PL
namespace SX
/-- a sum over 0 .. n-1 -/
def sm (n : Nat) (f : Nat → Int) : Int := match n with
  | 0 => 0
  | n + 1 => sm n f + f n
theorem sm_ext {f g : Nat → Int} : ∀ n, (∀ i, i < n → f i = g i) → sm n f = sm n g
  | 0, _ => rfl
  | n + 1, h => by
    show sm n f + f n = sm n g + g n
    rw [sm_ext n fun i hi => h i (by omega), h n (by omega)]
theorem sm_add (f g : Nat → Int) : ∀ n, sm n (fun i => f i + g i) = sm n f + sm n g
  | 0 => rfl
  | n + 1 => by
    show sm n (fun i => f i + g i) + (f n + g n) = (sm n f + f n) + (sm n g + g n)
    rw [sm_add f g n]
    omega
theorem sm_mul (c : Int) (f : Nat → Int) : ∀ n, sm n (fun i => c * f i) = c * sm n f
  | 0 => by simp [sm]
  | n + 1 => by
    show sm n (fun i => c * f i) + c * f n = c * (sm n f + f n)
    rw [sm_mul c f n, Int.mul_add]
theorem sm_zero {f : Nat → Int} : ∀ n, (∀ i, i < n → f i = 0) → sm n f = 0
  | 0, _ => rfl
  | n + 1, h => by
    show sm n f + f n = 0
    rw [sm_zero n fun i hi => h i (by omega), h n (by omega)]
    rfl
theorem sm_one {f : Nat → Int} {k : Nat} : ∀ n, k < n → (∀ i, i < n → i ≠ k → f i = 0) → sm n f = f k
  | 0, h, _ => by omega
  | n + 1, h, z => by
    show sm n f + f n = f k
    by_cases e : k = n
    · subst e
      rw [sm_zero k fun i hi => z i (by omega) (by omega)]
      omega
    · rw [sm_one n (by omega) fun i hi => z i (by omega), z n (by omega) (fun q => e q.symm)]
      omega
theorem sm_two {f : Nat → Int} {k l : Nat} : ∀ n, k < l → l < n → (∀ i, i < n → i ≠ k → i ≠ l → f i = 0) → sm n f = f k + f l
  | 0, _, h, _ => by omega
  | n + 1, hk, h, z => by
    show sm n f + f n = f k + f l
    by_cases e : l = n
    · subst e
      rw [sm_one l hk fun i hi hn => z i (by omega) hn (by omega)]
    · rw [sm_two n hk (by omega) fun i hi => z i (by omega), z n (by omega) (by omega) (fun q => e q.symm)]
      omega
theorem sm_swap (f : Nat → Nat → Int) (m : Nat) : ∀ n, sm n (fun i => sm m (f i)) = sm m (fun j => sm n fun i => f i j)
  | 0 => (sm_zero m fun _ _ => rfl).symm
  | n + 1 => by
    show sm n _ + sm m (f n) = sm m (fun j => sm n (fun i => f i j) + f n j)
    rw [sm_swap f m n, sm_add]
theorem sm_nn {f : Nat → Int} : ∀ n, (∀ i, i < n → 0 ≤ f i) → 0 ≤ sm n f
  | 0, _ => Int.le_refl _
  | n + 1, h => Int.add_nonneg (sm_nn n fun i hi => h i (by omega)) (h n (by omega))
/-- columns: M k r is the entry of column k in row r -/
abbrev Cols := Nat → Nat → Int
/-- column p is another one -/
def put (M : Cols) (p : Nat) (v : Nat → Int) : Cols := fun k => if k = p then v else M k
/-- without column k and row 0 -/
def cut (M : Cols) (k : Nat) : Cols := fun i r => M (if i < k then i else i + 1) (r + 1)
def sg (k : Nat) : Int := if k % 2 = 0 then 1 else -1
def det : Nat → Cols → Int
  | 0, _ => 1
  | m + 1, M => sm (m + 1) fun k => sg k * M k 0 * det m (cut M k)
theorem det_ext : ∀ (m : Nat) {M N : Cols}, (∀ k r, k < m → r < m → M k r = N k r) → det m M = det m N
  | 0, _, _, _ => rfl
  | m + 1, M, N, h => sm_ext _ fun k hk => by
    have e : det m (cut M k) = det m (cut N k) := det_ext m fun i r hi hr => h _ _ (by split <;> omega) (by omega)
    rw [h k 0 hk (by omega), e]
theorem cut_put_lt {M : Cols} {p k : Nat} {v : Nat → Int} (h : p < k) : cut (put M p v) k = put (cut M k) p (fun r => v (r + 1)) := by
  funext i r
  unfold cut put
  by_cases e : i = p
  · subst e
    simp [h]
  · by_cases q : i < k
    · simp [q, e]
    · have : ¬ (i + 1 = p) := by omega
      simp [q, e, this]
theorem cut_put_gt {M : Cols} {p k : Nat} {v : Nat → Int} (h : k < p) : cut (put M p v) k = put (cut M k) (p - 1) (fun r => v (r + 1)) := by
  funext i r
  unfold cut put
  by_cases e : i = p - 1
  · subst e
    have h1 : ¬ p - 1 < k := by omega
    have h2 : p - 1 + 1 = p := by omega
    simp [h1, h2]
  · by_cases q : i < k
    · have : ¬ (i = p) := by omega
      simp [q, e, this]
    · have : ¬ (i + 1 = p) := by omega
      simp [q, e, this]
theorem cut_put_eq {M : Cols} {p : Nat} {v : Nat → Int} : cut (put M p v) p = cut M p := by
  funext i r
  unfold cut put
  by_cases q : i < p
  · have : ¬ (i = p) := by omega
    simp [q, this]
  · have : ¬ (i + 1 = p) := by omega
    simp [q, this]
/-- linear in each column -/
theorem det_lin : ∀ (m : Nat) (M : Cols) (p : Nat) (a b : Int) (u v : Nat → Int), p < m → det m (put M p fun r => a * u r + b * v r) = a * det m (put M p u) + b * det m (put M p v)
  | 0, _, _, _, _, _, _, h => by omega
  | m + 1, M, p, a, b, u, v, h => by
    show sm (m + 1) _ = a * sm (m + 1) _ + b * sm (m + 1) _
    rw [← sm_mul, ← sm_mul, ← sm_add]
    refine sm_ext _ fun k hk => ?_
    by_cases e : k = p
    · subst e
      rw [cut_put_eq, cut_put_eq, cut_put_eq]
      unfold put
      simp only [if_true]
      grind
    · have e1 : ∀ w, put M p w k 0 = M k 0 := fun w => by
        unfold put
        rw [if_neg e]
      rw [e1, e1, e1]
      by_cases q : p < k
      · rw [cut_put_lt q, cut_put_lt q, cut_put_lt q, det_lin m (cut M k) p a b (fun r => u (r + 1)) (fun r => v (r + 1)) (by omega)]
        grind
      · rw [cut_put_gt (by omega), cut_put_gt (by omega), cut_put_gt (by omega), det_lin m (cut M k) (p - 1) a b (fun r => u (r + 1)) (fun r => v (r + 1)) (by omega)]
        grind
/-- two neighbouring columns alike -/
theorem det_adj : ∀ (m : Nat) (M : Cols) (p : Nat), p + 1 < m → (∀ r, M p r = M (p + 1) r) → det m M = 0
  | 0, _, _, h, _ => by omega
  | m + 1, M, p, h, e => by
    have ee : M p = M (p + 1) := funext e
    have hc : cut M p = cut M (p + 1) := by
      funext i r
      unfold cut
      by_cases q : i < p
      · have : i < p + 1 := by omega
        simp [q, this]
      · by_cases q2 : i = p
        · subst q2
          simp [ee]
        · have : ¬ i < p + 1 := by omega
          simp [q, this]
    show sm (m + 1) _ = 0
    rw [sm_two (k := p) (l := p + 1) (m + 1) (by omega) h fun k hk n1 n2 => ?_]
    · rw [hc, e 0]
      have hs : sg (p + 1) = - sg p := by
        unfold sg
        split <;> split <;> omega
      rw [hs]
      grind
    · have z : det m (cut M k) = 0 := by
        by_cases q : k < p
        · refine det_adj m (cut M k) (p - 1) (by omega) fun r => ?_
          unfold cut
          have h1 : ¬ p - 1 < k := by omega
          have h2 : ¬ p - 1 + 1 < k := by omega
          have h3 : p - 1 + 1 = p := by omega
          have h4 : ¬ p < k := by omega
          simp only [h1, h2, h3, h4, if_false]
          exact e (r + 1)
        · refine det_adj m (cut M k) p (by omega) fun r => ?_
          unfold cut
          have h1 : p < k := by omega
          have h2 : p + 1 < k := by omega
          simp only [h1, h2, if_true]
          exact e (r + 1)
      rw [z, Int.mul_zero]
theorem put_same (M : Cols) (p : Nat) : put M p (M p) = M := by
  funext k
  unfold put
  split
  · next e => rw [e]
  · rfl
theorem put_put (M : Cols) (p : Nat) (u v : Nat → Int) : put (put M p u) p v = put M p v := by
  funext k
  unfold put
  split <;> rfl
theorem put_comm (M : Cols) {p q : Nat} (h : p ≠ q) (u v : Nat → Int) : put (put M p u) q v = put (put M q v) p u := by
  funext k
  unfold put
  by_cases e : k = q
  · have : ¬ k = p := by omega
    simp [e, Ne.symm h]
  · simp [e]
theorem put_at (M : Cols) (p : Nat) (v : Nat → Int) : put M p v p = v := by
  unfold put
  simp
theorem put_ne (M : Cols) {p k : Nat} (h : k ≠ p) (v : Nat → Int) : put M p v k = M k := by
  unfold put
  simp [h]
theorem det_add (m : Nat) (M : Cols) (p : Nat) (u v : Nat → Int) (h : p < m) : det m (put M p fun r => u r + v r) = det m (put M p u) + det m (put M p v) := by
  have := det_lin m M p 1 1 u v h
  simpa using this
/-- neighbouring columns change places -/
theorem det_swap (m : Nat) (M : Cols) (p : Nat) (h : p + 1 < m) (u v : Nat → Int) : det m (put (put M p u) (p + 1) v) = - det m (put (put M p v) (p + 1) u) := by
  have hne : p ≠ p + 1 := by omega
  have adj : ∀ w, det m (put (put M p w) (p + 1) w) = 0 := fun w => det_adj m _ p h fun r => by rw [put_ne _ hne, put_at, put_at]
  have a := adj fun r => u r + v r
  rw [det_add m _ (p + 1) u v h, put_comm M hne, put_comm M hne, det_add m _ p u v (by omega), det_add m _ p u v (by omega), put_comm _ hne.symm, put_comm _ hne.symm, put_comm _ hne.symm, put_comm _ hne.symm, adj u, adj v] at a
  omega
/-- two columns alike -/
theorem det_alt (m : Nat) : ∀ (d : Nat) (M : Cols) (p : Nat), p + d + 1 < m → (∀ r, M p r = M (p + d + 1) r) → det m M = 0
  | 0, M, p, h, e => det_adj m M p h e
  | d + 1, M, p, h, e => by
    have e1 : M = put (put M p (M p)) (p + 1) (M (p + 1)) := by rw [put_same, put_same]
    rw [e1, det_swap m M p (by omega)]
    rw [det_alt m d (put (put M p (M (p + 1))) (p + 1) (M p)) (p + 1) (by omega) fun r => ?_]
    · rfl
    · rw [put_at, put_ne _ (by omega), put_ne _ (by omega), e r]
      have : p + (d + 1) + 1 = p + 1 + d + 1 := by omega
      rw [this]
theorem det_two {m : Nat} {M : Cols} {p q : Nat} (hp : p < m) (hq : q < m) (n : p ≠ q) (e : ∀ r, M p r = M q r) : det m M = 0 := by
  by_cases h : p < q
  · refine det_alt m (q - p - 1) M p (by omega) fun r => ?_
    have : p + (q - p - 1) + 1 = q := by omega
    rw [this]
    exact e r
  · refine det_alt m (p - q - 1) M q (by omega) fun r => ?_
    have : q + (p - q - 1) + 1 = p := by omega
    rw [this]
    exact (e r).symm
/-- any two columns change places -/
theorem det_sw {m : Nat} {M : Cols} {p q : Nat} (hp : p < m) (hq : q < m) (n : p ≠ q) (u v : Nat → Int) : det m (put (put M p u) q v) = - det m (put (put M p v) q u) := by
  have z : ∀ w, det m (put (put M p w) q w) = 0 := fun w => det_two hp hq n fun r => by rw [put_ne _ n, put_at, put_at]
  have a := z fun r => u r + v r
  rw [det_add m _ q u v hq, put_comm M n, put_comm M n, det_add m _ p u v hp, det_add m _ p u v hp, put_comm _ n.symm, put_comm _ n.symm, put_comm _ n.symm, put_comm _ n.symm, z u, z v] at a
  omega
/-- a column that is a sum of many -/
theorem det_sum (m : Nat) (M : Cols) (p : Nat) (hp : p < m) (f : Nat → Int) (V : Nat → Nat → Int) : ∀ n, det m (put M p fun r => sm n fun k => f k * V k r) = sm n fun k => f k * det m (put M p (V k))
  | 0 => by
    have h := det_lin m M p 0 0 (fun _ => 0) (fun _ => 0) hp
    simp only [Int.zero_mul, Int.add_zero] at h
    exact h
  | n + 1 => by
    have h := det_lin m M p 1 (f n) (fun r => sm n fun k => f k * V k r) (V n) hp
    simp only [Int.one_mul] at h
    show det m (put M p fun r => (sm n fun k => f k * V k r) + f n * V n r) = _
    rw [h, det_sum m M p hp f V n]
    rfl
/-- the unit columns -/
def unit (k : Nat) : Nat → Int := fun r => if r = k then 1 else 0
theorem det_unit : ∀ m, det m unit = 1
  | 0 => rfl
  | m + 1 => by
    show sm (m + 1) _ = 1
    rw [sm_one (k := 0) (m + 1) (by omega) fun k hk hn => ?_]
    · have : cut unit 0 = unit := by
        funext i r
        unfold cut unit
        simp
      rw [this, det_unit m]
      rfl
    · have : unit k 0 = 0 := by
        unfold unit
        rw [if_neg (Ne.symm hn)]
      rw [this]
      simp
/-- the last column a unit column: a determinant of one less -/
theorem det_last : ∀ (m : Nat) (M : Cols), (∀ r, M m r = unit m r) → det (m + 1) M = det m M
  | 0, M, h => by
    show sm 1 _ = 1
    show 0 + sg 0 * M 0 0 * 1 = 1
    rw [h 0]
    rfl
  | m + 1, M, h => by
    show sm (m + 2) _ = sm (m + 1) _
    show (sm (m + 1) fun k => sg k * M k 0 * det (m + 1) (cut M k)) + (sg (m + 1) * M (m + 1) 0 * det (m + 1) (cut M (m + 1))) = _
    have z : M (m + 1) 0 = 0 := by
      rw [h 0]
      unfold unit
      rw [if_neg (by omega)]
    rw [z, Int.mul_zero, Int.zero_mul, Int.add_zero]
    refine sm_ext _ fun k hk => ?_
    rw [det_last m (cut M k) fun r => ?_]
    unfold cut
    have : ¬ m < k := by omega
    rw [if_neg this, h (r + 1)]
    unfold unit
    simp
end SX
namespace SX
def bc (A : Cols) (β : Nat → Nat) : Cols := fun k => A (β k)
structure Tab (m : Nat) (A : Cols) (β : Nat → Nat) (b : Int) (T : Nat → Nat → Int) : Prop where
  ne : b ≠ 0
  det : ∃ σ : Int, (σ = 1 ∨ σ = -1) ∧ b = σ * det m (bc A β) ∧ ∀ i j, i < m → T i j = σ * SX.det m (put (bc A β) i (A j))
  sol : ∀ j r, r < m → b * A j r = sm m fun k => T k j * A (β k) r
def upd (β : Nat → Nat) (r c : Nat) : Nat → Nat := fun k => if k = r then c else β k
theorem bc_upd (A : Cols) (β : Nat → Nat) (r c : Nat) : bc A (upd β r c) = put (bc A β) r (A c) := by
  funext k
  unfold bc upd put
  split <;> rfl
section
variable {m : Nat} {A : Cols} {β : Nat → Nat} {b : Int} {T : Nat → Nat → Int}
/-- the columns of the basis are unit columns, times b -/
theorem Tab.unit (h : Tab m A β b T) {i k : Nat} (hi : i < m) (hk : k < m) : T i (β k) = if i = k then b else 0 := by
  obtain ⟨σ, _, e1, e2⟩ := h.det
  rw [e2 i (β k) hi]
  by_cases e : i = k
  · subst e
    rw [if_pos rfl, e1]
    have : put (bc A β) i (A (β i)) = bc A β := put_same (bc A β) i
    rw [this]
  · rw [if_neg e, det_two hi hk e fun r => by rw [put_at, put_ne _ (Ne.symm e)]; rfl, Int.mul_zero]
theorem sgn_sq {σ : Int} (h : σ = 1 ∨ σ = -1) : σ * σ = 1 := by
  rcases h with h | h <;> subst h <;> rfl
/-- the heart: what a turn divides by is a factor -/
theorem Tab.exact (h : Tab m A β b T) {r c i : Nat} (hr : r < m) (hi : i < m) (n : i ≠ r) {σ : Int} (hs : σ = 1 ∨ σ = -1) (e1 : b = σ * SX.det m (bc A β)) (e2 : ∀ i j, i < m → T i j = σ * SX.det m (put (bc A β) i (A j))) (j : Nat) :
    b * (σ * SX.det m (put (bc A (upd β r c)) i (A j))) = T i j * T r c - T i c * T r j := by
  have ss := sgn_sq hs
  rw [bc_upd]
  have d1 : b * SX.det m (put (put (bc A β) r (A c)) i (A j)) = SX.det m (put (put (bc A β) r (A c)) i fun q => sm m fun k => T k j * A (β k) q) := by
    have z := det_lin m (put (bc A β) r (A c)) i b 0 (A j) (A j) hi
    simp only [Int.zero_mul, Int.add_zero] at z
    rw [← z]
    refine det_ext m fun k q hk hq => ?_
    unfold put
    split
    · exact h.sol j q hq
    · rfl
  have d2 := det_sum m (put (bc A β) r (A c)) i hi (fun k => T k j) (fun k => A (β k)) m
  have ti : SX.det m (put (put (bc A β) r (A c)) i (A (β i))) = SX.det m (put (bc A β) r (A c)) := by
    have : put (put (bc A β) r (A c)) i (A (β i)) = put (bc A β) r (A c) := by
      funext k
      unfold put
      by_cases e : k = i
      · subst e
        rw [if_pos rfl, if_neg n]
        rfl
      · rw [if_neg e]
    rw [this]
  have tr : SX.det m (put (put (bc A β) r (A c)) i (A (β r))) = - SX.det m (put (bc A β) i (A c)) := by
    rw [det_sw hr hi (Ne.symm n)]
    have : put (bc A β) r (A (β r)) = bc A β := put_same (bc A β) r
    rw [this]
  have zz : ∀ k, k < m → k ≠ i → k ≠ r → T k j * SX.det m (put (put (bc A β) r (A c)) i (A (β k))) = 0 := fun k hk n1 n2 => by
    rw [det_two hi hk (Ne.symm n1) fun q => by rw [put_at, put_ne _ n1, put_ne _ n2]; rfl, Int.mul_zero]
  have d3 : (sm m fun k => T k j * SX.det m (put (put (bc A β) r (A c)) i (A (β k)))) = T i j * SX.det m (put (bc A β) r (A c)) + T r j * - SX.det m (put (bc A β) i (A c)) := by
    by_cases q : i < r
    · rw [sm_two m q hr fun k hk n1 n2 => zz k hk n1 n2, ti, tr]
    · rw [sm_two m (show r < i by omega) hi fun k hk n1 n2 => zz k hk n2 n1, ti, tr]
      omega
  have d4 : b * SX.det m (put (put (bc A β) r (A c)) i (A j)) = T i j * SX.det m (put (bc A β) r (A c)) + T r j * - SX.det m (put (bc A β) i (A c)) := d1.trans (d2.trans d3)
  have x1 := e2 r c hr
  have x2 := e2 i c hi
  rw [x1, x2]
  have : b * (σ * SX.det m (put (put (bc A β) r (A c)) i (A j))) = σ * (b * SX.det m (put (put (bc A β) r (A c)) i (A j))) := by grind
  rw [this, d4]
  grind
/-- a turn -/
def piv (T : Nat → Nat → Int) (b : Int) (r c : Nat) : Nat → Nat → Int := fun i j => if i = r then T r j else (T i j * T r c - T i c * T r j).fdiv b
theorem fdiv_mul {b q : Int} (h : b ≠ 0) : (b * q).fdiv b = q := Int.mul_fdiv_cancel_left q h
theorem Tab.piv_mul (h : Tab m A β b T) {r c i : Nat} (hr : r < m) (hi : i < m) (n : i ≠ r) (j : Nat) : b * SX.piv T b r c i j = T i j * T r c - T i c * T r j := by
  obtain ⟨σ, hs, e1, e2⟩ := h.det
  unfold SX.piv
  rw [if_neg n, ← h.exact hr hi n hs e1 e2 j, fdiv_mul h.ne]
theorem Tab.piv (h : Tab m A β b T) {r c : Nat} (hr : r < m) (hp : T r c ≠ 0) : Tab m A (upd β r c) (T r c) (SX.piv T b r c) where
  ne := hp
  det := by
    obtain ⟨σ, hs, e1, e2⟩ := h.det
    refine ⟨σ, hs, ?_, fun i j hi => ?_⟩
    · rw [bc_upd]
      exact e2 r c hr
    · by_cases n : i = r
      · subst n
        unfold SX.piv
        rw [if_pos rfl, bc_upd, put_put]
        exact e2 i j hi
      · unfold SX.piv
        rw [if_neg n, ← h.exact hr hi n hs e1 e2 j, fdiv_mul h.ne]
  sol := fun j q hq => by
    have hb := h.ne
    refine Int.eq_of_mul_eq_mul_left hb ?_
    have s1 := h.sol j q hq
    have s2 := h.sol c q hq
    -- the sum, times b
    have e1 : b * (sm m fun k => SX.piv T b r c k j * A (upd β r c k) q) = (sm m fun k => (T k j * T r c - T k c * T r j) * A (β k) q) + T r j * (b * A c q) := by
      rw [← sm_mul]
      have e2 : (sm m fun k => (T k j * T r c - T k c * T r j) * A (β k) q) + T r j * (b * A c q) = sm m fun k => ((T k j * T r c - T k c * T r j) * A (β k) q + if k = r then T r j * (b * A c q) else 0) := by
        rw [sm_add, sm_one (f := fun k => if k = r then T r j * (b * A c q) else 0) m hr fun i hi n => if_neg n, if_pos rfl]
      rw [e2]
      refine sm_ext m fun k hk => ?_
      by_cases n : k = r
      · subst n
        have u1 : SX.piv T b k c k j = T k j := by
          unfold SX.piv
          rw [if_pos rfl]
        have u2 : upd β k c k = c := by
          unfold upd
          rw [if_pos rfl]
        rw [u1, u2, if_pos rfl]
        grind
      · have u2 : upd β r c k = β k := by
          unfold upd
          rw [if_neg n]
        rw [u2, if_neg n, ← h.piv_mul hr hk n j]
        grind
    rw [e1]
    have e3 : (sm m fun k => (T k j * T r c - T k c * T r j) * A (β k) q) = T r c * (b * A j q) - T r j * (b * A c q) := by
      rw [s1, s2]
      have e4 : (sm m fun k => (T k j * T r c - T k c * T r j) * A (β k) q) = sm m fun k => (T r c * (T k j * A (β k) q) + (-(T r j)) * (T k c * A (β k) q)) := sm_ext m fun k _ => by grind
      rw [e4, sm_add, sm_mul, sm_mul]
      grind
    rw [e3]
    grind
/-- all signs turned -/
theorem Tab.neg (h : Tab m A β b T) : Tab m A β (-b) (fun i j => - T i j) where
  ne := by have := h.ne; omega
  det := by
    obtain ⟨σ, hs, e1, e2⟩ := h.det
    refine ⟨-σ, by omega, by rw [e1]; grind, fun i j hi => by rw [e2 i j hi]; grind⟩
  sol := fun j r hr => by
    have := h.sol j r hr
    have e : (sm m fun k => -T k j * A (β k) r) = (-1) * sm m fun k => T k j * A (β k) r := by
      rw [← sm_mul]
      exact sm_ext m fun k _ => by grind
    rw [e, ← this]
    grind
/-- the first table: the basis' columns are unit columns -/
theorem Tab.first (h : ∀ k r, k < m → r < m → A (β k) r = if r = k then 1 else 0) : Tab m A β 1 (fun i j => A j i) where
  ne := by decide
  det := by
    have e1 : SX.det m (bc A β) = 1 := by
      rw [← det_unit m]
      exact det_ext m fun k r hk hr => by
        unfold bc SX.unit
        exact h k r hk hr
    refine ⟨1, .inl rfl, by rw [e1]; rfl, fun i j hi => ?_⟩
    rw [Int.one_mul]
    have e2 : SX.det m (put (bc A β) i (A j)) = SX.det m (put (bc A β) i fun r => sm m fun k => A j k * A (β k) r) := by
      refine det_ext m fun k r hk hr => ?_
      unfold put
      split
      · show A j r = sm m fun k => A j k * A (β k) r
        rw [sm_one (f := fun k => A j k * A (β k) r) (k := r) m hr fun k hk n => by show A j k * A (β k) r = 0; rw [h k r hk hr, if_neg (Ne.symm n)]; omega]
        show A j r = A j r * A (β r) r
        rw [h r r hr hr, if_pos rfl]
        omega
      · rfl
    rw [e2, det_sum m (bc A β) i hi (fun k => A j k) (fun k => A (β k)) m, sm_one (k := i) m hi fun k hk n => ?_]
    · have : put (bc A β) i (A (β i)) = bc A β := put_same (bc A β) i
      rw [this, e1]
      omega
    · rw [det_two hi hk (Ne.symm n) fun r => by rw [put_at, put_ne _ n]; rfl]
      omega
  sol := fun j r hr => by
    rw [sm_one (f := fun k => A j k * A (β k) r) (k := r) m hr fun k hk n => by show A j k * A (β k) r = 0; rw [h k r hk hr, if_neg (Ne.symm n)]; omega]
    show 1 * A j r = A j r * A (β r) r
    rw [h r r hr hr, if_pos rfl]
    omega
end
end SX
namespace SX
/-- m rows and a goal line (row m); N columns, column N the limits, column N + 1 the goal's own -/
structure Sx (m N : Nat) (A : Cols) (β : Nat → Nat) (b : Int) (T : Nat → Nat → Int) : Prop where
  tab : Tab (m + 1) A β b T
  pos : 0 < b
  last : β m = N + 1
  lt : ∀ k, k < m → β k < N
  feas : ∀ i, i < m → 0 ≤ T i N
/-- the row that leaves -/
structure RowOk (m N : Nat) (β : Nat → Nat) (T : Nat → Nat → Int) (c r : Nat) : Prop where
  lt : r < m
  pos : 0 < T r c
  least : ∀ i, i < m → 0 < T i c → T r N * T i c < T i N * T r c ∨ (T r N * T i c = T i N * T r c ∧ β r ≤ β i)
/-- the column that comes in -/
structure ColOk (m N : Nat) (bar : Nat → Prop) (T : Nat → Nat → Int) (c : Nat) : Prop where
  lt : c < N
  free : ¬ bar c
  neg : T m c < 0
  first : ∀ j, j < c → ¬ bar j → 0 ≤ T m j
section
variable {m N : Nat} {A : Cols} {β : Nat → Nat} {b : Int} {T : Nat → Nat → Int}
theorem Sx.inj (s : Sx m N A β b T) {k l : Nat} (hk : k < m) (hl : l < m) (e : β k = β l) : k = l := Classical.byContradiction fun n => by
  have h1 := s.tab.unit (i := k) (k := k) (by omega) (by omega)
  have h2 := s.tab.unit (i := k) (k := l) (by omega) (by omega)
  rw [if_pos rfl] at h1
  rw [if_neg n, ← e, h1] at h2
  exact s.tab.ne h2
theorem Sx.step (s : Sx m N A β b T) {bar : Nat → Prop} {c r : Nat} (hr : RowOk m N β T c r) (hc : ColOk m N bar T c) : Sx m N A (upd β r c) (T r c) (piv T b r c) where
  tab := s.tab.piv (by have := hr.lt; omega) (by have := hr.pos; omega)
  pos := hr.pos
  last := by
    unfold upd
    rw [if_neg (by have := hr.lt; omega)]
    exact s.last
  lt := fun k hk => by
    unfold upd
    split
    · exact hc.lt
    · exact s.lt k hk
  feas := fun i hi => by
    by_cases n : i = r
    · unfold piv
      rw [if_pos n]
      exact s.feas r hr.lt
    · have e := s.tab.piv_mul (c := c) (show r < m + 1 by have := hr.lt; omega) (show i < m + 1 by omega) n N
      have h1 := s.feas i hi
      have h2 := s.feas r hr.lt
      have h3 := hr.pos
      have num : 0 ≤ T i N * T r c - T i c * T r N := by
        by_cases q : 0 < T i c
        · rcases hr.least i hi q with z | ⟨z, _⟩
          · have : T i c * T r N = T r N * T i c := Int.mul_comm _ _
            omega
          · have : T i c * T r N = T r N * T i c := Int.mul_comm _ _
            omega
        · have a1 : 0 ≤ T i N * T r c := Int.mul_nonneg h1 (by omega)
          have a2 : 0 ≤ (-T i c) * T r N := Int.mul_nonneg (by omega) h2
          have a3 : (-T i c) * T r N = -(T i c * T r N) := Int.neg_mul _ _
          omega
      rw [← e] at num
      exact Int.nonneg_of_mul_nonneg_right num s.pos |> fun h => h
theorem ratio_trans {x b y c z d : Int} (hc : 0 < c) (hb : 0 < b) (hd : 0 < d) (h1 : x * c ≤ y * b) (h2 : y * d ≤ z * c) : x * d ≤ z * b := by
  have a1 : x * c * d ≤ y * b * d := Int.mul_le_mul_of_nonneg_right h1 (by omega)
  have a2 : y * d * b ≤ z * c * b := Int.mul_le_mul_of_nonneg_right h2 (by omega)
  have e1 : x * c * d = c * (x * d) := by grind
  have e2 : y * b * d = y * d * b := by grind
  have e3 : z * c * b = c * (z * b) := by grind
  rw [e1, e2] at a1
  rw [e3] at a2
  exact Int.le_of_mul_le_mul_left (Int.le_trans a1 a2) hc
end
/-- a row of turns -/
structure Run (m N : Nat) (A : Cols) (bar : Nat → Prop) (L : Nat) (β : Nat → Nat → Nat) (b : Nat → Int) (T : Nat → Nat → Nat → Int) (c r : Nat → Nat) : Prop where
  st : ∀ t, t ≤ L → Sx m N A (β t) (b t) (T t)
  row : ∀ t, t < L → RowOk m N (β t) (T t) (c t) (r t)
  col : ∀ t, t < L → ColOk m N bar (T t) (c t)
  nβ : ∀ t, t < L → β (t + 1) = upd (β t) (r t) (c t)
  nb : ∀ t, t < L → b (t + 1) = T t (r t) (c t)
  nT : ∀ t, t < L → T (t + 1) = piv (T t) (b t) (r t) (c t)
section
variable {m N : Nat} {A : Cols} {bar : Nat → Prop} {L : Nat} {β : Nat → Nat → Nat} {b : Nat → Int} {T : Nat → Nat → Nat → Int} {c r : Nat → Nat}
theorem Run.up1 (R : Run m N A bar L β b T c r) {t : Nat} (h : t < L) : T (t + 1) m N * b t = T t m N * b (t + 1) - T t m (c t) * T t (r t) N := by
  have s := R.st t (by omega)
  rw [R.nT t h, R.nb t h, Int.mul_comm, s.tab.piv_mul (by have := (R.row t h).lt; omega) (by omega) (by have := (R.row t h).lt; omega)]
theorem Run.up (R : Run m N A bar L β b T c r) : ∀ (d t : Nat), t + d ≤ L → T t m N * b (t + d) ≤ T (t + d) m N * b t
  | 0, t, h => Int.le_refl _
  | d + 1, t, h => by
    have ih := R.up d t (by omega)
    have e := R.up1 (t := t + d) (by omega)
    have h1 := (R.col (t + d) (by omega)).neg
    have h2 := (R.st (t + d) (by omega)).feas _ (R.row (t + d) (by omega)).lt
    have h3 : 0 ≤ (- T (t + d) m (c (t + d))) * T (t + d) (r (t + d)) N := Int.mul_nonneg (by omega) h2
    rw [Int.neg_mul] at h3
    show T t m N * b (t + d + 1) ≤ T (t + d + 1) m N * b t
    exact ratio_trans (R.st (t + d) (by omega)).pos (R.st t (by omega)).pos (R.st (t + d + 1) (by omega)).pos ih (by omega)
end
end SX
namespace SX
def fac : Nat → Nat
  | 0 => 1
  | n + 1 => (n + 1) * fac n
end SX
namespace SX
section
variable {m N : Nat} {β : Nat → Nat} {T : Nat → Nat → Int} {c : Nat}
def rowF (N : Nat) (β : Nat → Nat) (T : Nat → Nat → Int) (c : Nat) : Nat → Option Nat
  | 0 => none
  | n + 1 => if 0 < T n c then match rowF N β T c n with
      | none => some n
      | some r => if T n N * T r c - T r N * T n c < 0 ∨ T n N * T r c - T r N * T n c = 0 ∧ β n < β r then some n else some r
    else rowF N β T c n
def rowG (N : Nat) (β : Nat → Nat) (T : Nat → Nat → Int) (c n : Nat) : Option Nat → Prop
  | none => ∀ i, i < n → T i c ≤ 0
  | some r => r < n ∧ 0 < T r c ∧ ∀ i, i < n → 0 < T i c → T r N * T i c < T i N * T r c ∨ (T r N * T i c = T i N * T r c ∧ β r ≤ β i)
theorem gap_lt {x b y c z d : Int} (hc : 0 < c) (hb : 0 < b) (hd : 0 < d) (h1 : x * c < y * b) (h2 : y * d ≤ z * c) : x * d < z * b := by
  have a1 : x * c * d < y * b * d := Int.mul_lt_mul_of_pos_right h1 hd
  have a2 : y * d * b ≤ z * c * b := Int.mul_le_mul_of_nonneg_right h2 (by omega)
  have e1 : x * c * d = c * (x * d) := by grind
  have e2 : y * b * d = y * d * b := by grind
  have e3 : z * c * b = c * (z * b) := by grind
  rw [e1, e2] at a1
  rw [e3] at a2
  exact Int.lt_of_mul_lt_mul_left (Int.lt_of_lt_of_le a1 a2) (by omega)
theorem gap_lt' {x b y c z d : Int} (hc : 0 < c) (hb : 0 < b) (hd : 0 < d) (h1 : x * c = y * b) (h2 : y * d < z * c) : x * d < z * b := by
  have a1 : x * c * d = y * b * d := by rw [h1]
  have a2 : y * d * b < z * c * b := Int.mul_lt_mul_of_pos_right h2 hb
  have e1 : x * c * d = c * (x * d) := by grind
  have e2 : y * b * d = y * d * b := by grind
  have e3 : z * c * b = c * (z * b) := by grind
  rw [e1, e2] at a1
  rw [e3] at a2
  exact Int.lt_of_mul_lt_mul_left (show c * (x * d) < c * (z * b) by omega) (by omega)
theorem gap_eq {x b y c z d : Int} (hc : 0 < c) (h1 : x * c = y * b) (h2 : y * d = z * c) : x * d = z * b := by
  have a1 : x * c * d = y * b * d := by rw [h1]
  have a2 : y * d * b = z * c * b := by rw [h2]
  refine Int.eq_of_mul_eq_mul_left (show c ≠ 0 by omega) ?_
  grind
theorem rowF_spec : ∀ n, rowG N β T c n (rowF N β T c n)
  | 0 => fun i h => by omega
  | n + 1 => by
    have ih := rowF_spec n
    unfold rowF
    by_cases q : 0 < T n c
    · rw [if_pos q]
      split
      · next e =>
        rw [e] at ih
        refine ⟨by omega, q, fun i hi hp => ?_⟩
        by_cases z : i = n
        · subst z
          exact .inr ⟨rfl, Nat.le_refl _⟩
        · have := ih i (by omega)
          omega
      · next r e =>
        rw [e] at ih
        obtain ⟨i1, i2, i3⟩ := ih
        split
        · next h =>
          refine ⟨by omega, q, fun i hi hp => ?_⟩
          by_cases z : i = n
          · subst z
            exact .inr ⟨rfl, Nat.le_refl _⟩
          · have i4 := i3 i (by omega) hp
            rcases h with h | ⟨h, hb⟩
            · exact .inl (gap_lt (y := T r N) i2 q hp (by omega) (by omega))
            · rcases i4 with i4 | ⟨i4, i5⟩
              · exact .inl (gap_lt' (y := T r N) i2 q hp (by omega) i4)
              · exact .inr ⟨gap_eq (y := T r N) i2 (by omega) i4, by omega⟩
        · next h =>
          refine ⟨by omega, i2, fun i hi hp => ?_⟩
          by_cases z : i = n
          · subst z
            by_cases y : T r N * T i c < T i N * T r c
            · exact .inl y
            · have hne : ¬ (T i N * T r c - T r N * T i c < 0) := fun y => h (.inl y)
              exact .inr ⟨by omega, Nat.le_of_not_lt fun y => h (.inr ⟨by omega, y⟩)⟩
          · exact i3 i (by omega) hp
    · rw [if_neg q]
      cases e : rowF N β T c n with
      | none =>
        rw [e] at ih
        intro i hi
        by_cases z : i = n
        · subst z; omega
        · exact ih i (by omega)
      | some r =>
        rw [e] at ih
        obtain ⟨i1, i2, i3⟩ := ih
        refine ⟨by omega, i2, fun i hi hp => ?_⟩
        by_cases z : i = n
        · subst z; omega
        · exact i3 i (by omega) hp
theorem rowF_some {r : Nat} (h : rowF N β T c m = some r) : RowOk m N β T c r := by
  have := rowF_spec (N := N) (β := β) (T := T) (c := c) m
  rw [h] at this
  exact ⟨this.1, this.2.1, this.2.2⟩
def colF (bar : Nat → Bool) (T : Nat → Nat → Int) (m N : Nat) : Option Nat := (List.range N).find? fun j => decide (T m j < 0) && !bar j
theorem colF_some {bar : Nat → Bool} {c : Nat} (h : colF bar T m N = some c) : ColOk m N (fun j => bar j = true) T c := by
  obtain ⟨h1, as, bs, h2, h3⟩ := List.find?_eq_some_iff_append.mp h
  have h1' : T m c < 0 ∧ bar c = false := by simpa using h1
  have hl : as.length = c ∧ c < N := by
    have e1 : (List.range N)[as.length]? = some c := by rw [h2]; simp
    rw [List.getElem?_eq_some_iff] at e1
    obtain ⟨q, e1⟩ := e1
    simp at q e1
    omega
  refine ⟨hl.2, by simp [h1'.2], h1'.1, fun j hj hb => ?_⟩
  have : j ∈ as := by
    have e1 : (List.range N)[j]? = some j := by
      rw [List.getElem?_range (by omega)]
    rw [h2, List.getElem?_append_left (by omega)] at e1
    exact List.mem_of_getElem? e1
  have := h3 j this
  simp at this
  rcases this with z | z
  · exact z
  · exact absurd z hb
end
structure St where
  β : Nat → Nat
  b : Int
  T : Nat → Nat → Int
def St.Ok (m N : Nat) (A : Cols) (s : St) : Prop := Sx m N A s.β s.b s.T
def St.piv (s : St) (r c : Nat) : St := ⟨upd s.β r c, s.T r c, SX.piv s.T s.b r c⟩
def stepF (m N : Nat) (bar : Nat → Bool) (s : St) : Option St := (colF bar s.T m N).bind fun c => (rowF N s.β s.T c m).map fun r => s.piv r c
inductive Steps (m N : Nat) (bar : Nat → Bool) : Nat → St → St → Prop
  | refl (s) : Steps m N bar 0 s s
  | step {n s s1 s2} : stepF m N bar s = some s1 → Steps m N bar n s1 s2 → Steps m N bar (n + 1) s s2
section
variable {m N : Nat} {A : Cols} {bar : Nat → Bool}
theorem stepF_some {s s1 : St} (h : stepF m N bar s = some s1) : ∃ c r, colF bar s.T m N = some c ∧ rowF N s.β s.T c m = some r ∧ s1 = s.piv r c := by
  unfold stepF at h
  cases e : colF bar s.T m N with
  | none => rw [e] at h; cases h
  | some c =>
    rw [e] at h
    cases e2 : rowF N s.β s.T c m with
    | none => simp [e2] at h
    | some r =>
      simp [e2] at h
      exact ⟨c, r, rfl, e2, h.symm⟩
theorem stepF_ok {s s1 : St} (h : stepF m N bar s = some s1) (o : s.Ok m N A) : s1.Ok m N A := by
  obtain ⟨c, r, h1, h2, rfl⟩ := stepF_some h
  exact Sx.step o (rowF_some h2) (colF_some h1)
/-- what holds and is kept by turns holds at the end -/
theorem Steps.keep {P : St → Prop} (h : ∀ s s1, P s → stepF m N bar s = some s1 → P s1) {n : Nat} {s s' : St} (w : Steps m N bar n s s') (p : P s) : P s' := by
  induction w with
  | refl s => exact p
  | step e _ ih => exact ih (h _ _ p e)
end
end SX
namespace SX
section
variable {m : Nat} {A : Cols} {β : Nat → Nat} {b : Int} {T : Nat → Nat → Int}
/-- what solves the columns is the table (Cramer) -/
theorem Tab.of_sol (ne : b ≠ 0) {σ : Int} (hs : σ = 1 ∨ σ = -1) (e : b = σ * SX.det m (bc A β)) (sol : ∀ j r, r < m → b * A j r = sm m fun k => T k j * A (β k) r) : Tab m A β b T where
  ne := ne
  sol := sol
  det := by
    refine ⟨σ, hs, e, fun i j hi => ?_⟩
    have ss := sgn_sq hs
    have z := det_lin m (bc A β) i b 0 (A j) (A j) hi
    simp only [Int.zero_mul, Int.add_zero] at z
    have y : SX.det m (put (bc A β) i fun r => b * A j r) = SX.det m (put (bc A β) i fun r => sm m fun k => T k j * A (β k) r) := det_ext m fun k r hk hr => by
      unfold put
      split
      · exact sol j r hr
      · rfl
    rw [y, det_sum m (bc A β) i hi (fun k => T k j) (fun k => A (β k)) m, sm_one (f := fun k => T k j * SX.det m (put (bc A β) i (A (β k)))) (k := i) m hi fun k hk n => ?_] at z
    · have : put (bc A β) i (A (β i)) = bc A β := put_same (bc A β) i
      simp only [this] at z
      have e2 : SX.det m (bc A β) = σ * b := by rw [e, ← Int.mul_assoc, ss, Int.one_mul]
      rw [e2] at z
      have z2 : b * (T i j * σ) = b * SX.det m (put (bc A β) i (A j)) := by rw [← z]; grind
      have z3 := Int.eq_of_mul_eq_mul_left ne z2
      rw [← z3]
      have : σ * (T i j * σ) = T i j * (σ * σ) := by grind
      rw [this, ss, Int.mul_one]
    · show T k j * SX.det m (put (bc A β) i (A (β k))) = 0
      rw [det_two hi hk (Ne.symm n) fun r => by rw [put_at, put_ne _ n]; rfl, Int.mul_zero]
/-- values over some columns -/
theorem Tab.solvesU (h : Tab m A β b T) {n q : Nat} {u : Nat → Nat} {x : Nat → Int} (e : ∀ r, r < m → (sm n fun j => x j * A (u j) r) = A q r) {i : Nat} (hi : i < m) : (sm n fun j => x j * T i (u j)) = T i q := by
  obtain ⟨σ, hs, e1, e2⟩ := h.det
  have a : (sm n fun j => x j * T i (u j)) = σ * sm n fun j => x j * SX.det m (put (bc A β) i (A (u j))) := by
    rw [← sm_mul]
    exact sm_ext n fun j _ => by rw [e2 i (u j) hi]; grind
  rw [a, ← det_sum m (bc A β) i hi x (fun j => A (u j)) n, e2 i q hi]
  congr 1
  refine det_ext m fun k r hk hr => ?_
  unfold put
  split
  · exact e r hr
  · rfl
end
def extA (m N : Nat) (A : Cols) (γ : Nat → Int) : Cols := fun j r => if j = N + 1 then unit m r else if r = m then (if j < N then - γ j else 0) else A j r
def extB (m N : Nat) (β : Nat → Nat) : Nat → Nat := fun k => if k = m then N + 1 else β k
def goalF (m N : Nat) (β : Nat → Nat) (b : Int) (T : Nat → Nat → Int) (γ : Nat → Int) (j : Nat) : Int := (if j < N then - γ j * b else 0) + sm m fun k => γ (β k) * T k j
def extT (m N : Nat) (β : Nat → Nat) (b : Int) (T : Nat → Nat → Int) (γ : Nat → Int) : Nat → Nat → Int := fun i j => if j = N + 1 then (if i = m then b else 0) else if i = m then goalF m N β b T γ j else T i j
section
variable {m N : Nat} {A : Cols} {γ : Nat → Int} {β : Nat → Nat} {b : Int} {T : Nat → Nat → Int}
theorem extA_lt {j r : Nat} (hj : j ≠ N + 1) (hr : r < m) : extA m N A γ j r = A j r := by
  unfold extA
  rw [if_neg hj, if_neg (by omega)]
theorem extA_goal {j : Nat} (hj : j < N) : extA m N A γ j m = - γ j := by
  unfold extA
  rw [if_neg (by omega), if_pos rfl, if_pos hj]
theorem extA_lim : extA m N A γ N m = 0 := by
  unfold extA
  rw [if_neg (by omega), if_pos rfl, if_neg (by omega)]
theorem extA_virt {r : Nat} : extA m N A γ (N + 1) r = unit m r := by
  unfold extA
  rw [if_pos rfl]
theorem unit_lt {r : Nat} (h : r < m) : unit m r = 0 := by
  unfold unit
  rw [if_neg (by omega)]
theorem unit_at : unit m m = 1 := if_pos rfl
theorem extB_lt {k : Nat} (h : k < m) : extB m N β k = β k := if_neg (by omega)
theorem extB_at : extB m N β m = N + 1 := if_pos rfl
theorem det_extA (hβ : ∀ k, k < m → β k < N) : det (m + 1) (bc (extA m N A γ) (extB m N β)) = det m (bc A β) := by
  rw [det_last m _ fun r => by show extA m N A γ (extB m N β m) r = _; rw [extB_at, extA_virt]]
  refine det_ext m fun k r hk hr => ?_
  show extA m N A γ (extB m N β k) r = A (β k) r
  rw [extB_lt hk, extA_lt (by have := hβ k hk; omega) hr]
theorem Tab.ext (h : Tab m A β b T) (hβ : ∀ k, k < m → β k < N) : Tab (m + 1) (extA m N A γ) (extB m N β) b (extT m N β b T γ) := by
  obtain ⟨σ, hs, e1, _⟩ := h.det
  refine Tab.of_sol h.ne hs (by rw [det_extA hβ]; exact e1) fun j r hr => ?_
  show _ = (sm m _) + extT m N β b T γ m j * extA m N A γ (extB m N β m) r
  rw [extB_at, extA_virt]
  by_cases q : r = m
  · subst q
    rw [unit_at, Int.mul_one]
    by_cases y : j = N + 1
    · subst y
      rw [extA_virt, unit_at, sm_zero r fun k hk => ?_]
      · unfold extT
        rw [if_pos rfl, if_pos rfl]
        omega
      · unfold extT
        rw [if_pos rfl, if_neg (by omega), Int.zero_mul]
    · have e : (sm r fun k => extT r N β b T γ k j * extA r N A γ (extB r N β k) r) = (-1) * sm r fun k => γ (β k) * T k j := by
        rw [← sm_mul]
        refine sm_ext r fun k hk => ?_
        rw [extB_lt hk, extA_goal (hβ k hk)]
        unfold extT
        rw [if_neg y, if_neg (by omega)]
        grind
      rw [e]
      unfold extT extA goalF
      rw [if_neg y, if_neg y, if_pos rfl, if_pos rfl]
      split <;> grind
  · have hr' : r < m := by omega
    rw [unit_lt hr', Int.mul_zero, Int.add_zero]
    by_cases y : j = N + 1
    · subst y
      rw [extA_virt, unit_lt hr', Int.mul_zero, sm_zero m fun k hk => ?_]
      unfold extT
      rw [if_pos rfl, if_neg (by omega), Int.zero_mul]
    · rw [extA_lt y hr', h.sol j r hr']
      refine sm_ext m fun k hk => ?_
      rw [extB_lt hk, extA_lt (by have := hβ k hk; omega) hr']
      unfold extT
      rw [if_neg y, if_neg (by omega)]
theorem Sx.of (h : Tab m A β b T) (hb : 0 < b) (hβ : ∀ k, k < m → β k < N) (f : ∀ i, i < m → 0 ≤ T i N) : Sx m N (extA m N A γ) (extB m N β) b (extT m N β b T γ) where
  tab := h.ext hβ
  pos := hb
  last := extB_at
  lt := fun k hk => by rw [extB_lt hk]; exact hβ k hk
  feas := fun i hi => by
    unfold extT
    rw [if_neg (by omega), if_neg (by omega)]
    exact f i hi
/-- the rows without the goal line -/
theorem Sx.rows (s : Sx m N (extA m N A γ) β b T) (hA : ∀ r, r < m → A (N + 1) r = 0) : Tab m A β b T := by
  obtain ⟨σ, hs, e1, _⟩ := s.tab.det
  have e2 : det (m + 1) (bc (extA m N A γ) β) = det m (bc A β) := by
    have : bc (extA m N A γ) β = bc (extA m N A γ) (extB m N β) := by
      funext k
      show extA m N A γ (β k) = extA m N A γ (extB m N β k)
      unfold extB
      split
      · next q => rw [q, s.last]
      · rfl
    rw [this, det_extA s.lt]
  refine Tab.of_sol s.tab.ne hs (by rw [← e2]; exact e1) fun j r hr => ?_
  have z := s.tab.sol j r (by omega)
  have z1 : (sm (m + 1) fun k => T k j * extA m N A γ (β k) r) = sm m fun k => T k j * A (β k) r := by
    show (sm m _) + T m j * extA m N A γ (β m) r = _
    rw [s.last, extA_virt, unit_lt hr, Int.mul_zero, Int.add_zero]
    exact sm_ext m fun k hk => by rw [extA_lt (by have := s.lt k hk; omega) hr]
  rw [z1] at z
  rw [← z]
  by_cases y : j = N + 1
  · subst y
    rw [extA_virt, unit_lt hr, hA r hr]
  · rw [extA_lt y hr]
/-- the goal line tells the sum of the gains -/
theorem Sx.value (s : Sx m N (extA m N A γ) β b T) : T m N = sm m fun k => T k N * γ (β k) := by
  have z := s.tab.sol N m (by omega)
  have z1 : (sm (m + 1) fun k => T k N * extA m N A γ (β k) m) = (sm m fun k => T k N * - γ (β k)) + T m N := by
    show (sm m _) + T m N * extA m N A γ (β m) m = _
    rw [s.last, extA_virt, unit_at, Int.mul_one]
    congr 1
    exact sm_ext m fun k hk => by rw [extA_goal (s.lt k hk)]
  rw [z1, extA_lim] at z
  have z2 : (sm m fun k => T k N * - γ (β k)) = (-1) * sm m fun k => T k N * γ (β k) := by
    rw [← sm_mul]
    exact sm_ext m fun k _ => by grind
  rw [z2] at z
  omega
end
end SX
namespace SX
structure Pg where
  m : Nat
  w : Nat
  num : Nat → Nat → Int
  lim : Nat → Int
  tie : Nat → Bool
theorem Tab.congr {m : Nat} {A : Cols} {β : Nat → Nat} {b : Int} {T T' : Nat → Nat → Int} (h : Tab m A β b T) (e : ∀ i j, i < m → T' i j = T i j) : Tab m A β b T' where
  ne := h.ne
  det := by
    obtain ⟨σ, hs, e1, e2⟩ := h.det
    exact ⟨σ, hs, e1, fun i j hi => by rw [e i j hi, e2 i j hi]⟩
  sol := fun j r hr => by
    rw [h.sol j r hr]
    exact sm_ext m fun k hk => by rw [e k j hk]
namespace Pg
def N (p : Pg) : Nat := p.w + 2 * p.m
def sgn (p : Pg) (i : Nat) : Int := if p.lim i < 0 then -1 else 1
def isX (p : Pg) (i : Nat) : Bool := p.tie i || decide (p.lim i < 0)
/-- the extra columns -/
def ex (p : Pg) (j : Nat) : Bool := decide (p.w + p.m ≤ j) && decide (j < p.w + 2 * p.m) && p.isX (j - (p.w + p.m))
def A (p : Pg) : Cols := fun j r =>
  if j < p.w then p.sgn r * p.num r j
  else if j < p.w + p.m then (if r = j - p.w then (if p.tie r then 0 else p.sgn r) else 0)
  else if j < p.w + 2 * p.m then (if r = j - (p.w + p.m) then (if p.isX r then 1 else 0) else 0)
  else if j = p.w + 2 * p.m then p.sgn r * p.lim r
  else 0
def u (p : Pg) (i : Nat) : Nat := if p.isX i then p.w + p.m + i else p.w + i
section
variable {p : Pg}
theorem sgn_sq (i : Nat) : p.sgn i * p.sgn i = 1 := by
  unfold sgn
  split <;> rfl
theorem A_num {j r : Nat} (h : j < p.w) : p.A j r = p.sgn r * p.num r j := if_pos h
theorem A_slack {i r : Nat} (h : i < p.m) : p.A (p.w + i) r = if r = i then (if p.tie r then 0 else p.sgn r) else 0 := by
  unfold A
  rw [if_neg (by omega), if_pos (by omega), show p.w + i - p.w = i by omega]
theorem A_extra {i r : Nat} (h : i < p.m) : p.A (p.w + p.m + i) r = if r = i then (if p.isX r then 1 else 0) else 0 := by
  unfold A
  rw [if_neg (by omega), if_neg (by omega), if_pos (by omega), show p.w + p.m + i - (p.w + p.m) = i by omega]
theorem A_lim {r : Nat} : p.A p.N r = p.sgn r * p.lim r := by
  unfold A N
  rw [if_neg (by omega), if_neg (by omega), if_neg (by omega), if_pos rfl]
theorem A_virt {r : Nat} : p.A (p.N + 1) r = 0 := by
  unfold A N
  rw [if_neg (by omega), if_neg (by omega), if_neg (by omega), if_neg (by omega)]
theorem ex_of {i : Nat} (h : i < p.m) : p.ex (p.w + p.m + i) = p.isX i := by
  unfold ex
  rw [show p.w + p.m + i - (p.w + p.m) = i by omega]
  simp
  omega
theorem ex_lt {j : Nat} (h : j < p.w + p.m) : p.ex j = false := by
  unfold ex
  simp
  omega
theorem u_lt {i : Nat} (h : i < p.m) : p.u i < p.N := by
  unfold u N
  split <;> omega
theorem lim_nn (i : Nat) : 0 ≤ p.sgn i * p.lim i := by
  unfold sgn
  split <;> omega
theorem u_unit {i r : Nat} (hi : i < p.m) (hr : r < p.m) : p.A (p.u i) r = if r = i then 1 else 0 := by
  unfold u
  by_cases q : p.isX i = true
  · rw [if_pos q, A_extra hi]
    by_cases y : r = i
    · subst y
      rw [if_pos rfl, if_pos rfl, if_pos q]
    · rw [if_neg y, if_neg y]
  · rw [if_neg q, A_slack hi]
    by_cases y : r = i
    · subst y
      rw [if_pos rfl, if_pos rfl]
      unfold isX at q
      simp at q
      unfold sgn
      rw [q.1, if_neg (by decide), if_neg (by omega)]
    · rw [if_neg y, if_neg y]
theorem first (p : Pg) : Tab p.m p.A p.u 1 (fun i j => p.A j i) := Tab.first fun k r hk hr => u_unit hk hr
/-- a column of nothing -/
theorem zero_col {β : Nat → Nat} {b : Int} {T : Nat → Nat → Int} (h : Tab p.m p.A β b T) {j : Nat} (h1 : p.w + p.m ≤ j) (h2 : j < p.N) (h3 : p.ex j = false) {i : Nat} (hi : i < p.m) : T i j = 0 := by
  have := h.solvesU (n := 0) (q := j) (u := fun i => i) (x := fun _ => 0) (fun r hr => ?_) hi
  · exact this.symm
  · show 0 = _
    obtain ⟨k, rfl⟩ : ∃ k, j = p.w + p.m + k := ⟨j - (p.w + p.m), by omega⟩
    unfold N at h2
    rw [ex_of (by omega)] at h3
    rw [A_extra (by omega)]
    by_cases y : r = k
    · subst y
      rw [if_pos rfl, h3]
      rfl
    · rw [if_neg y]
end
def g1 (p : Pg) (j : Nat) : Int := if p.ex j then -1 else 0
def s1 (p : Pg) : St := ⟨extB p.m p.N p.u, 1, extT p.m p.N p.u 1 (fun i j => p.A j i) p.g1⟩
def A1 (p : Pg) : Cols := extA p.m p.N p.A p.g1
section
variable {p : Pg}
theorem s1_ok (p : Pg) : p.s1.Ok p.m p.N p.A1 := Sx.of p.first (show (0 : Int) < 1 by decide) (fun k hk => u_lt hk) fun i hi => by
  show 0 ≤ p.A p.N i
  rw [A_lim]
  exact lim_nn i
theorem g1_le (j : Nat) : p.g1 j ≤ 0 := by
  unfold g1
  split <;> omega
theorem sm_np {f : Nat → Int} (n : Nat) (h : ∀ i, i < n → f i ≤ 0) : sm n f ≤ 0 := by
  have a := sm_nn (f := fun i => (-1) * f i) n fun i hi => by have := h i hi; show 0 ≤ (-1) * f i; omega
  rw [sm_mul] at a
  omega
/-- a sum of amounts from 0 down that is not below 0 has no amount below 0 -/
theorem sm_all0 {f : Nat → Int} : ∀ n, (∀ i, i < n → f i ≤ 0) → 0 ≤ sm n f → ∀ i, i < n → f i = 0
  | 0, _, _, i, hi => by omega
  | n + 1, h, hs, i, hi => by
    have a : 0 ≤ sm n f + f n := hs
    have b := sm_np n fun i hi => h i (by omega)
    have c := h n (by omega)
    by_cases y : i = n
    · subst y; omega
    · exact sm_all0 n (fun i hi => h i (by omega)) (by omega) i (by omega)
theorem some_of' {s : St} (o : s.Ok p.m p.N p.A1) (hv : ¬ s.T p.m p.N < 0) : ∀ k, k < p.m → p.ex (s.β k) = true → s.T k p.N = 0 := fun k hk hx => by
  have v := Sx.value o
  have z := sm_all0 p.m (f := fun k => s.T k p.N * p.g1 (s.β k)) (fun i hi => Int.mul_nonpos_of_nonneg_of_nonpos (o.feas i hi) (g1_le _)) (by rw [← v]; omega) k hk
  have : p.g1 (s.β k) = -1 := by
    unfold g1
    rw [hx]
    rfl
  rw [this] at z
  omega
end
structure Dz (p : Pg) (n : Nat) (s : St) : Prop where
  tab : Tab p.m p.A s.β s.b s.T
  pos : 0 < s.b
  lt : ∀ k, k < p.m → s.β k < p.N
  feas : ∀ k, k < p.m → 0 ≤ s.T k p.N
  zero : ∀ k, k < p.m → p.ex (s.β k) = true → s.T k p.N = 0
  done : ∀ k, k < n → p.ex (s.β k) = true → ∀ j, j < p.w + p.m → s.T k j = 0
def negRow (T : Nat → Nat → Int) (i : Nat) : Nat → Nat → Int := fun k j => if k = i then - T i j else T k j
def dropF (p : Pg) (s : St) (i : Nat) : St := if p.ex (s.β i) then match (List.range (p.w + p.m)).find? fun j => decide (s.T i j ≠ 0) with
    | none => s
    | some c => St.piv ⟨s.β, s.b, if s.T i c < 0 then negRow s.T i else s.T⟩ i c
  else s
def dropsF (p : Pg) (s : St) : Nat → St
  | 0 => s
  | n + 1 => p.dropF (p.dropsF s n) n
section
variable {p : Pg}
theorem dz_of {s : St} (o : s.Ok p.m p.N p.A1) (hv : ¬ s.T p.m p.N < 0) : p.Dz 0 s where
  tab := Sx.rows o fun r hr => A_virt
  pos := o.pos
  lt := o.lt
  feas := o.feas
  zero := some_of' o hv
  done := fun k hk => by omega
theorem dz_piv {n c : Nat} {s s' : St} (d : p.Dz n s) (hn : n < p.m) (hx : p.ex (s.β n) = true) (hc : c < p.w + p.m) (hβ : s'.β = upd s.β n c) (tab : Tab p.m p.A s'.β s'.b s'.T) (pos : 0 < s'.b)
    (h1 : ∀ j, s.T n j = 0 → s'.T n j = 0) (h2 : ∀ k j, k < p.m → k ≠ n → ∃ q : Int, 0 < q ∧ ∃ y : Int, s.b * s'.T k j = s.T k j * q - s.T k c * (y * s.T n j)) : p.Dz (n + 1) s' := by
  have z := d.zero n hn hx
  have hne : s.b ≠ 0 := d.tab.ne
  refine ⟨tab, pos, fun k hk => ?_, fun k hk => ?_, fun k hk hk2 => ?_, fun k hk hk2 j hj => ?_⟩
  · rw [hβ]
    unfold upd
    split
    · unfold N; omega
    · exact d.lt k hk
  · by_cases y : k = n
    · subst y
      rw [h1 _ z]
      exact Int.le_refl _
    · obtain ⟨q, hq, t, e⟩ := h2 k p.N hk y
      rw [z, Int.mul_zero, Int.mul_zero, Int.sub_zero] at e
      have a := Int.mul_nonneg (d.feas k hk) (Int.le_of_lt hq)
      rw [← e] at a
      exact Int.nonneg_of_mul_nonneg_right a d.pos
  · have y : k ≠ n := fun y => by
      subst y
      rw [hβ] at hk2
      unfold upd at hk2
      rw [if_pos rfl, ex_lt hc] at hk2
      cases hk2
    rw [hβ] at hk2
    unfold upd at hk2
    rw [if_neg y] at hk2
    obtain ⟨q, hq, t, e⟩ := h2 k p.N hk y
    rw [z, d.zero k hk hk2, Int.mul_zero, Int.mul_zero, Int.sub_zero, Int.zero_mul] at e
    exact (Int.mul_eq_zero.mp e).resolve_left hne
  · have y : k ≠ n := fun y => by
      subst y
      rw [hβ] at hk2
      unfold upd at hk2
      rw [if_pos rfl, ex_lt hc] at hk2
      cases hk2
    rw [hβ] at hk2
    unfold upd at hk2
    rw [if_neg y] at hk2
    obtain ⟨q, hq, t, e⟩ := h2 k j (by omega) y
    have k1 := d.done k (by omega) hk2
    rw [k1 j hj, k1 c hc, Int.zero_mul, Int.zero_mul, Int.sub_zero] at e
    exact (Int.mul_eq_zero.mp e).resolve_left hne
theorem dz_drop {n : Nat} {s : St} (d : p.Dz n s) (hn : n < p.m) : p.Dz (n + 1) (p.dropF s n) := by
  unfold dropF
  by_cases hx : p.ex (s.β n) = true
  · rw [if_pos hx]
    split
    · next h =>
      refine { d with done := fun k hk hk2 j hj => ?_ }
      by_cases y : k = n
      · subst y
        have := List.find?_eq_none.mp h j (List.mem_range.mpr hj)
        simpa using this
      · exact d.done k (by omega) hk2 j hj
    · next c h =>
      have hc : c < p.w + p.m := List.mem_range.mp (List.mem_of_find?_eq_some h)
      have hne : s.T n c ≠ 0 := by simpa using List.find?_some h
      have tp := d.tab.piv hn hne
      by_cases neg : s.T n c < 0
      · rw [if_pos neg]
        have e : (negRow s.T n) n c = - s.T n c := by unfold negRow; rw [if_pos rfl]
        have eT : ∀ k j, k < p.m → SX.piv (negRow s.T n) s.b n c k j = - SX.piv s.T s.b n c k j := fun k j hk => by
          by_cases y : k = n
          · unfold SX.piv
            rw [if_pos y, if_pos y]
            unfold negRow
            rw [if_pos rfl]
          · have z := d.tab.piv_mul (c := c) hn hk y j
            have z2 : SX.piv (negRow s.T n) s.b n c k j = (s.b * - SX.piv s.T s.b n c k j).fdiv s.b := by
              rw [Int.mul_neg, z]
              show (if k = n then _ else _) = _
              rw [if_neg y]
              unfold negRow
              rw [if_neg y, if_neg y, if_pos rfl, if_pos rfl]
              congr 1
              grind
            rw [z2, fdiv_mul d.tab.ne]
        refine dz_piv d hn hx hc rfl ?_ ?_ (fun j hj => ?_) fun k j hk hkn => ?_
        · show Tab p.m p.A (upd s.β n c) (negRow s.T n n c) (SX.piv (negRow s.T n) s.b n c)
          rw [e]
          exact tp.neg.congr eT
        · show 0 < negRow s.T n n c
          rw [e]
          omega
        · show SX.piv (negRow s.T n) s.b n c n j = 0
          unfold SX.piv negRow
          rw [if_pos rfl, if_pos rfl, hj]
          rfl
        · refine ⟨- s.T n c, by omega, -1, ?_⟩
          show s.b * SX.piv (negRow s.T n) s.b n c k j = _
          rw [eT k j hk]
          show s.b * - SX.piv s.T s.b n c k j = _
          have := d.tab.piv_mul (c := c) hn hk hkn j
          rw [Int.mul_neg, this]
          grind
      · rw [if_neg neg]
        refine dz_piv d hn hx hc rfl tp (show 0 < s.T n c by omega) (fun j hj => ?_) fun k j hk hkn => ⟨s.T n c, by omega, 1, ?_⟩
        · show SX.piv s.T s.b n c n j = 0
          unfold SX.piv
          rw [if_pos rfl, hj]
        · show s.b * SX.piv s.T s.b n c k j = _
          have := d.tab.piv_mul (c := c) hn hk hkn j
          rw [this]
          grind
  · rw [if_neg hx]
    refine { d with done := fun k hk hk2 j hj => ?_ }
    by_cases y : k = n
    · subst y
      exact absurd hk2 hx
    · exact d.done k (by omega) hk2 j hj
theorem dz_drops {s : St} (d : p.Dz 0 s) : ∀ n, n ≤ p.m → p.Dz n (p.dropsF s n)
  | 0, _ => d
  | n + 1, h => dz_drop (dz_drops d n (by omega)) (by omega)
end
end Pg
end SX
namespace SX
namespace Pg
def g2 (p : Pg) (g : Nat → Int) (j : Nat) : Int := if j < p.w then g j else 0
def s2 (p : Pg) (g : Nat → Int) (s : St) : St := ⟨extB p.m p.N s.β, s.b, extT p.m p.N s.β s.b s.T (p.g2 g)⟩
def A2 (p : Pg) (g : Nat → Int) : Cols := extA p.m p.N p.A (p.g2 g)
/-- an extra one in the basis stands with nothing in a row of nothing -/
def Zi (p : Pg) (s : St) : Prop := ∀ k, k < p.m → p.ex (s.β k) = true → s.T k p.N = 0 ∧ ∀ j, j < p.N → p.ex j = false → s.T k j = 0
section
variable {p : Pg} {g : Nat → Int}
theorem s2_ok {s : St} (d : p.Dz p.m s) : (p.s2 g s).Ok p.m p.N (p.A2 g) := Sx.of d.tab d.pos d.lt d.feas
theorem s2_Z {s : St} (d : p.Dz p.m s) : p.Zi (p.s2 g s) := fun k hk hx => by
  have e1 : (p.s2 g s).β k = s.β k := extB_lt hk
  rw [e1] at hx
  have e2 : ∀ j, j ≠ p.N + 1 → (p.s2 g s).T k j = s.T k j := fun j hj => by
    show extT _ _ _ _ _ _ k j = _
    unfold extT
    rw [if_neg hj, if_neg (by omega)]
  refine ⟨by rw [e2 _ (by omega)]; exact d.zero k hk hx, fun j hj hj2 => ?_⟩
  rw [e2 _ (by omega)]
  by_cases q : j < p.w + p.m
  · exact d.done k hk hx j q
  · exact zero_col d.tab (by omega) hj hj2 hk
theorem Z_step {s s' : St} (o : s.Ok p.m p.N (p.A2 g)) (z : p.Zi s) (h : stepF p.m p.N p.ex s = some s') : p.Zi s' := by
  obtain ⟨c, r, h1, h2, rfl⟩ := stepF_some h
  have hr := rowF_some h2
  have hc := colF_some h1
  have hcx : p.ex c = false := by simpa using hc.free
  intro k hk hx
  have hx' : p.ex (upd s.β r c k) = true := hx
  have y : k ≠ r := fun y => by
    unfold upd at hx'
    rw [if_pos y, hcx] at hx'
    cases hx'
  unfold upd at hx'
  rw [if_neg y] at hx'
  obtain ⟨z1, z2⟩ := z k hk hx'
  have zc := z2 c hc.lt hcx
  have e : ∀ j, s.T k j = 0 → SX.piv s.T s.b r c k j = 0 := fun j hj => by
    have := o.tab.piv_mul (c := c) (show r < p.m + 1 by have := hr.lt; omega) (show k < p.m + 1 by omega) y j
    rw [hj, zc, Int.zero_mul, Int.zero_mul, Int.sub_zero] at this
    exact (Int.mul_eq_zero.mp this).resolve_left o.tab.ne
  exact ⟨e _ z1, fun j hj hj2 => e j (z2 j hj hj2)⟩
theorem s2_end {s s' : St} {n : Nat} (d : p.Dz p.m s) (w : Steps p.m p.N p.ex n (p.s2 g s) s') : s'.Ok p.m p.N (p.A2 g) ∧ p.Zi s' :=
  w.keep (P := fun s => s.Ok p.m p.N (p.A2 g) ∧ p.Zi s) (fun _ _ h e => ⟨stepF_ok e h.1, Z_step h.1 h.2 e⟩) ⟨s2_ok d, s2_Z d⟩
theorem sm_split (f : Nat → Int) (a : Nat) : ∀ b, sm (a + b) f = sm a f + sm b fun i => f (a + i)
  | 0 => by show sm a f = sm a f + 0; omega
  | b + 1 => by
    show sm (a + b) f + f (a + b) = sm a f + ((sm b fun i => f (a + i)) + f (a + b))
    rw [sm_split f a b]
    omega
/-- amounts of all columns, none of extras, in the words of the rows -/
theorem lay {Z : Nat → Int} {t : Int} {r : Nat} (hr : r < p.m) (hx : ∀ j, p.ex j = true → Z j = 0) (h : (sm p.N fun j => Z j * p.A j r) = p.sgn r * t) :
    (sm p.w fun j => Z j * p.num r j) + (if p.tie r then 0 else Z (p.w + r)) = t := by
  have e : p.N = p.w + p.m + p.m := by unfold N; omega
  rw [e, sm_split _ (p.w + p.m) p.m, sm_split _ p.w p.m] at h
  have a1 : (sm p.w fun j => Z j * p.A j r) = p.sgn r * sm p.w fun j => Z j * p.num r j := by
    rw [← sm_mul]
    exact sm_ext _ fun j hj => by rw [A_num hj]; grind
  have a2 : (sm p.m fun i => Z (p.w + i) * p.A (p.w + i) r) = p.sgn r * (if p.tie r then 0 else Z (p.w + r)) := by
    rw [sm_one (f := fun i => Z (p.w + i) * p.A (p.w + i) r) (k := r) _ hr fun i hi n => by show Z (p.w + i) * p.A (p.w + i) r = 0; rw [A_slack hi, if_neg (Ne.symm n), Int.mul_zero]]
    show Z (p.w + r) * p.A (p.w + r) r = _
    rw [A_slack hr, if_pos rfl]
    split
    · simp
    · exact Int.mul_comm _ _
  have a3 : (sm p.m fun i => Z (p.w + p.m + i) * p.A (p.w + p.m + i) r) = 0 := sm_zero _ fun i hi => by
    rw [A_extra hi]
    by_cases y : r = i
    · subst y
      rw [if_pos rfl]
      by_cases q : p.isX r = true
      · rw [hx _ (by rw [ex_of hi]; exact q), Int.zero_mul]
      · rw [if_neg q, Int.mul_zero]
    · rw [if_neg y, Int.mul_zero]
  rw [a1, a2, a3, Int.add_zero, ← Int.mul_add] at h
  have ss := sgn_sq (p := p) r
  have := congrArg (p.sgn r * ·) h
  simp only [← Int.mul_assoc, ss, Int.one_mul] at this
  exact this
/-- the first climb's end, and then the second's -/
structure Run1 (p : Pg) (s : St) : Prop where
  steps : ∃ n, n < 2 ^ p.N ∧ Steps p.m p.N (fun _ => false) n p.s1 s
  stop : stepF p.m p.N (fun _ => false) s = none
structure Run2 (p : Pg) (g : Nat → Int) (s s' : St) : Prop where
  steps : ∃ n, n < 2 ^ p.N ∧ Steps p.m p.N p.ex n (p.s2 g (p.dropsF s p.m)) s'
  stop : stepF p.m p.N p.ex s' = none
theorem Steps_ok {A : Cols} {bar : Nat → Bool} {n : Nat} {s s' : St} (w : Steps p.m p.N bar n s s') (o : s.Ok p.m p.N A) : s'.Ok p.m p.N A := w.keep (P := fun s => s.Ok p.m p.N A) (fun _ _ h e => stepF_ok e h) o
theorem Run1.ok {s : St} (r : p.Run1 s) : s.Ok p.m p.N p.A1 := by
  obtain ⟨n, _, w⟩ := r.steps
  exact Steps_ok w (s1_ok p)
theorem Run1.dz {s : St} (r : p.Run1 s) (hv : ¬ s.T p.m p.N < 0) : p.Dz p.m (p.dropsF s p.m) := dz_drops (dz_of r.ok hv) p.m (Nat.le_refl _)
theorem Run2.ok {s s' : St} (r : p.Run1 s) (hv : ¬ s.T p.m p.N < 0) (q : p.Run2 g s s') : s'.Ok p.m p.N (p.A2 g) ∧ p.Zi s' := by
  obtain ⟨n, _, w⟩ := q.steps
  exact s2_end (r.dz hv) w
end
end Pg
end SX
namespace PL
open PySem PySem.Spec PyProof.Rows L2 DL
def wE (g : DL.Env → Option (E × DL.Env)) (ρ : DL.Env) (Q : E → DL.Env → Prop) : Prop := ∃ e ρ', g ρ = some (e, ρ') ∧ Q e ρ'
theorem wE.seq {g : Gs} {h : DL.Env → Option (E × DL.Env)} {ρ : DL.Env} {Q : E → DL.Env → Prop} (w : wG g ρ fun fl ρ' => fl = .nx ∧ wE h ρ' Q) : wE (gSeqE g h) ρ Q := by
  obtain ⟨fl, ρ', e, rfl, e', ρ2, e2, q⟩ := w
  exact ⟨e', ρ2, by unfold gSeqE; rw [e]; exact e2, q⟩
theorem wE.ret {i : Nat} {d : D} {ρ : DL.Env} {Q : E → DL.Env → Prop} (e : ρ[i]? = some (some (.own d))) (q : Q (.own d) (ρ.set i none)) : wE (eRet i) ρ Q := ⟨_, _, by unfold eRet; rw [e], q⟩
section
abbrev rI (n : Nat) (f : Nat → Int) : List Int := (List.range n).map f
variable {m L r c : Nat} {b : Int} {T : Nat → Nat → Int}
end
end PL
namespace SX
namespace Pg
/-- bounds of a program -/
structure Bp (p : Pg) (C0 C : Nat) : Prop where
  one : 1 ≤ C0
  le : C0 ≤ C
  num : ∀ i j, i < p.m → j < p.w → (p.num i j).natAbs ≤ C0
  lim : ∀ i, i < p.m → (p.lim i).natAbs ≤ C
  b0 : fac p.m * C0 ^ p.m < 2 ^ 200
  b1 : fac (p.m + 1) * C ^ (p.m + 1) < 2 ^ 9000
section
variable {p : Pg} {C0 C : Nat}
theorem sgn_abs (i : Nat) : (p.sgn i).natAbs = 1 := by
  unfold sgn
  split <;> rfl
theorem Bp.A0 (B : p.Bp C0 C) {j r : Nat} (hj : j < p.N) (hr : r < p.m) : (p.A j r).natAbs ≤ C0 := by
  have := B.one
  unfold A
  split
  · next q =>
    rw [Int.natAbs_mul, sgn_abs, Nat.one_mul]
    exact B.num r j hr q
  · split
    · split
      · split
        · simp
        · rw [sgn_abs]; exact B.one
      · simp
    · split
      · split
        · split
          · simpa using B.one
          · simp
        · simp
      · unfold N at hj
        omega
theorem Bp.A1 (B : p.Bp C0 C) {j r : Nat} (hj : j < p.N + 1) (hr : r < p.m) : (p.A j r).natAbs ≤ C := by
  by_cases q : j < p.N
  · exact Nat.le_trans (B.A0 q hr) B.le
  · have : j = p.N := by omega
    subst this
    rw [A_lim, Int.natAbs_mul, sgn_abs, Nat.one_mul]
    exact B.lim r hr
theorem Bp.g1 (B : p.Bp C0 C) (j : Nat) : (p.g1 j).natAbs ≤ C := by
  have h1 := B.one
  have h2 := B.le
  unfold Pg.g1
  split
  · simp; omega
  · simp
theorem Bp.g2 {g : Nat → Int} (hg : ∀ j, j < p.w → (g j).natAbs ≤ C) (j : Nat) : (p.g2 g j).natAbs ≤ C := by
  unfold Pg.g2
  split
  · next q => exact hg j q
  · simp
end
end Pg
end SX
namespace PL
open PySem PySem.Spec PyProof.Rows L2 DL
end PL
namespace SX
namespace Pg
/-- bounds of a program and its gains, for ratios that may be reduced -/
structure Bs (p : Pg) (g : Nat → Int) (C0 C : Nat) : Prop where
  bp : p.Bp C0 C
  g : ∀ j, j < p.w → (g j).natAbs ≤ C0
  c0 : C0 ≤ 1000
  f1 : fac p.m * C0 ^ p.m < 2 ^ 170
  f2 : fac (p.m + 1) * C0 ^ (p.m + 1) < 2 ^ 190
  mc : p.m * C < 2 ^ 25
section
variable {p : Pg} {C0 C : Nat} {g γ : Nat → Int} {s : St}
theorem Bs.g1 (B : p.Bs g C0 C) (j : Nat) : (p.g1 j).natAbs ≤ C0 := by
  have h1 := B.bp.one
  unfold Pg.g1
  split
  · simpa using h1
  · simp
theorem Bs.g2 (B : p.Bs g C0 C) (j : Nat) : (p.g2 g j).natAbs ≤ C0 := by
  unfold Pg.g2
  split
  · next q => exact B.g j q
  · simp
end
end Pg
end SX
namespace PL
open PySem PySem.Spec PyProof.Rows L2 DL
end PL
namespace SX
def Net (m : Nat) (M : Cols) : Prop := ∀ k, k < m → ∃ a b : Nat, ∀ r, r < m → M k r = unit a r - unit b r
theorem det_sub {m : Nat} {M : Cols} {p q : Nat} (hp : p < m) (hq : q < m) (n : p ≠ q) (c : Int) : det m (put M q fun r => M q r - c * M p r) = det m M := by
  have h := det_lin m M q 1 (-c) (M q) (M p) hq
  rw [put_same, det_two (M := put M q (M p)) hp hq n fun r => by rw [put_ne _ n, put_at]] at h
  have e : (fun r => 1 * M q r + -c * M p r) = fun r => M q r - c * M p r := by
    funext r
    rw [Int.one_mul, Int.neg_mul]
    omega
  rw [e] at h
  omega
theorem det_elim {m : Nat} (M : Cols) {p : Nat} (hp : p < m) (c : Nat → Int) : ∀ t, t ≤ m → det m (fun q => if q < t ∧ q ≠ p then (fun r => M q r - c q * M p r) else M q) = det m M
  | 0, _ => by
    refine congrArg (det m) ?_
    funext q
    rw [if_neg (by omega)]
  | t + 1, ht => by
    rw [← det_elim M hp c t (by omega)]
    by_cases e : t = p
    · refine congrArg (det m) ?_
      funext q
      by_cases h : q < t ∧ q ≠ p
      · rw [if_pos h, if_pos (by omega)]
      · rw [if_neg h, if_neg (by omega)]
    · rw [← det_sub (M := fun q => if q < t ∧ q ≠ p then (fun r => M q r - c q * M p r) else M q) hp (show t < m by omega) (Ne.symm e) (c t)]
      refine congrArg (det m) ?_
      funext q
      unfold put
      by_cases h : q = t
      · subst h
        rw [if_pos (by omega), if_pos rfl, if_neg (by omega), if_neg (by omega)]
      · rw [if_neg h]
        show _ = if q < t ∧ q ≠ p then _ else _
        by_cases g : q < t ∧ q ≠ p
        · rw [if_pos g, if_pos (by omega)]
        · rw [if_neg g, if_neg (by omega)]
theorem unit_cut {a r m : Nat} (hr : r < m) : unit a (r + 1) = unit (if a = 0 then m else a - 1) r := by
  unfold unit
  by_cases h : a = 0
  · rw [if_pos h, if_neg (by omega), if_neg (by omega)]
  · rw [if_neg h]
    by_cases g : r + 1 = a
    · rw [if_pos g, if_pos (by omega)]
    · rw [if_neg g, if_neg (by omega)]
theorem unit_0 (a : Nat) : unit a 0 = if a = 0 then 1 else 0 := by
  unfold unit
  by_cases h : a = 0
  · rw [if_pos h, if_pos h.symm]
  · rw [if_neg h, if_neg (Ne.symm h)]
theorem net_det : ∀ (m : Nat) (M : Cols), Net m M → (det m M).natAbs ≤ 1
  | 0, _, _ => Nat.le_refl _
  | m + 1, M, h => by
    by_cases ex : ∃ p, p < m + 1 ∧ M p 0 ≠ 0
    · obtain ⟨p, hp, p0⟩ := ex
      obtain ⟨x, y, hxy⟩ := h p hp
      have q0 := hxy 0 (by omega)
      rw [unit_0, unit_0] at q0
      rw [← det_elim M hp (fun q => M p 0 * M q 0) (m + 1) (Nat.le_refl _)]
      generalize hM : (fun q => if q < m + 1 ∧ q ≠ p then (fun r => M q r - M p 0 * M q 0 * M p r) else M q) = M'
      have ep : M' p = M p := by rw [← hM]; exact if_neg (by omega)
      have eq' : ∀ q, q < m + 1 → q ≠ p → ∀ r, M' q r = M q r - M p 0 * M q 0 * M p r := fun q hq nq r => by rw [← hM]; show (if _ then _ else _ : Nat → Int) r = _; rw [if_pos ⟨hq, nq⟩]
      have sq : M p 0 * M p 0 = 1 := by
        rw [q0] at p0 ⊢
        by_cases a : x = 0 <;> by_cases b : y = 0 <;> simp [a, b] at p0 ⊢
      have z : ∀ q, q < m + 1 → q ≠ p → M' q 0 = 0 := fun q hq nq => by
        rw [eq' q hq nq]
        have : M p 0 * M q 0 * M p 0 = (M p 0 * M p 0) * M q 0 := by grind
        rw [this, sq]
        omega
      have nt : Net (m + 1) M' := fun q hq => by
        by_cases nq : q = p
        · rw [nq, ep]
          exact ⟨x, y, hxy⟩
        · obtain ⟨a, b, hab⟩ := h q hq
          have r0 := hab 0 (by omega)
          rw [unit_0, unit_0] at r0
          have go : ∀ a' b' : Nat, (∀ r, r < m + 1 → (unit a r - unit b r) - M p 0 * M q 0 * (unit x r - unit y r) = unit a' r - unit b' r) → ∃ a b : Nat, ∀ r, r < m + 1 → M' q r = unit a r - unit b r := fun a' b' hh => ⟨a', b', fun r hr => by rw [eq' q hq nq, hab r hr, hxy r hr, hh r hr]⟩
          by_cases a0 : a = 0
          · by_cases b0 : b = 0
            · exact go a b fun r _ => by rw [r0, if_pos a0, if_pos b0]; omega
            · by_cases x0 : x = 0
              · have y0 : y ≠ 0 := fun k => p0 (by rw [q0, if_pos x0, if_pos k]; rfl)
                exact go y b fun r _ => by rw [r0, q0, if_pos a0, if_neg b0, if_pos x0, if_neg y0, a0, x0]; omega
              · have y0 : y = 0 := Classical.byContradiction fun k => p0 (by rw [q0, if_neg x0, if_neg k]; rfl)
                exact go x b fun r _ => by rw [r0, q0, if_pos a0, if_neg b0, if_neg x0, if_pos y0, a0, y0]; omega
          · by_cases b0 : b = 0
            · by_cases x0 : x = 0
              · have y0 : y ≠ 0 := fun k => p0 (by rw [q0, if_pos x0, if_pos k]; rfl)
                exact go a y fun r _ => by rw [r0, q0, if_neg a0, if_pos b0, if_pos x0, if_neg y0, b0, x0]; omega
              · have y0 : y = 0 := Classical.byContradiction fun k => p0 (by rw [q0, if_neg x0, if_neg k]; rfl)
                exact go a x fun r _ => by rw [r0, q0, if_neg a0, if_pos b0, if_neg x0, if_pos y0, b0, y0]; omega
            · exact go a b fun r _ => by rw [r0, if_neg a0, if_neg b0]; omega
      show (sm (m + 1) fun k => sg k * M' k 0 * det m (cut M' k)).natAbs ≤ 1
      rw [sm_one (k := p) (m + 1) hp fun k hk nk => by rw [z k hk nk, Int.mul_zero, Int.zero_mul]]
      have cn : Net m (cut M' p) := fun k hk => by
        obtain ⟨a, b, hab⟩ := nt (if k < p then k else k + 1) (by split <;> omega)
        exact ⟨_, _, fun r hr => (hab (r + 1) (by omega)).trans (by rw [unit_cut hr, unit_cut hr])⟩
      have ih := net_det m _ cn
      have s1 : (sg p).natAbs = 1 := by
        unfold sg
        split <;> rfl
      have s2 : (M' p 0).natAbs = 1 := by
        rw [ep]
        have := congrArg Int.natAbs sq
        rw [Int.natAbs_mul] at this
        have h1 : (1 : Int).natAbs = 1 := rfl
        rw [h1] at this
        exact Nat.eq_one_of_mul_eq_one_right this
      rw [Int.natAbs_mul, Int.natAbs_mul, s1, s2]
      omega
    · have z : ∀ k, k < m + 1 → M k 0 = 0 := fun k hk => Classical.byContradiction fun n => ex ⟨k, hk, n⟩
      show (sm (m + 1) fun k => sg k * M k 0 * det m (cut M k)).natAbs ≤ 1
      rw [sm_zero (m + 1) fun k hk => by rw [z k hk, Int.mul_zero, Int.zero_mul]]
      decide
def sp : Nat → (Nat → Int) → Int
  | 0, _ => 1
  | m + 1, s => s 0 * sp m fun r => s (r + 1)
theorem det_rows : ∀ (m : Nat) (M : Cols) (s : Nat → Int), det m (fun k r => s r * M k r) = sp m s * det m M
  | 0, _, _ => rfl
  | m + 1, M, s => by
    show sm (m + 1) _ = _ * sm (m + 1) _
    rw [← sm_mul]
    refine sm_ext _ fun k _ => ?_
    have : cut (fun k r => s r * M k r) k = fun i r => (fun r => s (r + 1)) r * cut M k i r := rfl
    rw [this, det_rows m]
    show sg k * (s 0 * M k 0) * (sp m (fun r => s (r + 1)) * _) = s 0 * sp m (fun r => s (r + 1)) * (sg k * M k 0 * _)
    grind
theorem sp_one : ∀ (m : Nat) (s : Nat → Int), (∀ r, r < m → (s r).natAbs = 1) → (sp m s).natAbs = 1
  | 0, _, _ => rfl
  | m + 1, s, h => by
    show (s 0 * sp m _).natAbs = 1
    rw [Int.natAbs_mul, h 0 (by omega), sp_one m _ fun r hr => h (r + 1) (by omega)]
theorem net_rows {m : Nat} {M : Cols} {s : Nat → Int} (hs : ∀ r, r < m → (s r).natAbs = 1) (h : Net m fun k r => s r * M k r) : (det m M).natAbs ≤ 1 := by
  have a := net_det m _ h
  rw [det_rows, Int.natAbs_mul, sp_one m s hs] at a
  omega
namespace Pg
/-- each column of numbers one plus and one minus, when some rows turn their signs -/
def Tu (p : Pg) : Prop := ∃ t : Nat → Int, (∀ r, r < p.m → (t r).natAbs = 1) ∧ ∀ j, j < p.w → ∃ a b : Nat, ∀ r, r < p.m → t r * p.num r j = unit a r - unit b r
variable {p : Pg} {γ : Nat → Int} {s : St}
theorem unit_sg {x : Int} (h : x = 0 ∨ x = 1 ∨ x = -1) (i m : Nat) : ∃ a b : Nat, ∀ r, r < m → (if r = i then x else 0) = unit a r - unit b r := by
  rcases h with h | h | h
  · exact ⟨0, 0, fun r _ => by rw [h]; split <;> omega⟩
  · refine ⟨i, m, fun r hr => ?_⟩
    unfold unit
    rw [h, if_neg (show ¬ r = m by omega)]
    split <;> rfl
  · refine ⟨m, i, fun r hr => ?_⟩
    unfold unit
    rw [h, if_neg (show ¬ r = m by omega)]
    split <;> rfl
theorem sgn_abs2 (i : Nat) : (p.sgn i).natAbs = 1 := by
  unfold sgn
  split <;> rfl
theorem Tu.net (h : p.Tu) : ∃ t : Nat → Int, (∀ r, r < p.m → (t r).natAbs = 1) ∧ ∀ j, j < p.N → ∃ a b : Nat, ∀ r, r < p.m → t r * p.A j r = unit a r - unit b r := by
  obtain ⟨t, t1, t2⟩ := h
  refine ⟨fun r => t r * p.sgn r, fun r hr => ?_, fun j hj => ?_⟩
  · show (t r * p.sgn r).natAbs = 1
    rw [Int.natAbs_mul, t1 r hr, sgn_abs2]
  · have one : ∀ (i : Nat) (x : Int), i < p.m → (x = 0 ∨ x = 1 ∨ x = -1) → ∃ a b : Nat, ∀ r, r < p.m → t r * p.sgn r * (if r = i then x else 0) = unit a r - unit b r := fun i x hi hx => by
      have h1 : t i * p.sgn i * x = 0 ∨ t i * p.sgn i * x = 1 ∨ t i * p.sgn i * x = -1 := by
        have a := t1 i hi
        have b := sgn_abs2 (p := p) i
        have c : (t i * p.sgn i * x).natAbs = x.natAbs := by rw [Int.natAbs_mul, Int.natAbs_mul, a, b]; omega
        omega
      obtain ⟨a, b, q⟩ := unit_sg h1 i p.m
      refine ⟨a, b, fun r hr => ?_⟩
      rw [← q r hr]
      by_cases e : r = i
      · rw [if_pos e, if_pos e, e]
      · rw [if_neg e, if_neg e, Int.mul_zero]
    unfold N at hj
    by_cases c1 : j < p.w
    · obtain ⟨a, b, q⟩ := t2 j c1
      refine ⟨a, b, fun r hr => ?_⟩
      have e : t r * p.sgn r * (p.sgn r * p.num r j) = t r * (p.sgn r * p.sgn r) * p.num r j := by grind
      rw [A_num c1, e, sgn_sq, Int.mul_one, q r hr]
    · by_cases c2 : j < p.w + p.m
      · have hi : j - p.w < p.m := by omega
        have hx : (if p.tie (j - p.w) then 0 else p.sgn (j - p.w)) = 0 ∨ (if p.tie (j - p.w) then 0 else p.sgn (j - p.w)) = 1 ∨ (if p.tie (j - p.w) then 0 else p.sgn (j - p.w)) = -1 := by
          unfold sgn
          split
          · exact .inl rfl
          · split <;> simp
        obtain ⟨a, b, q⟩ := one (j - p.w) _ hi hx
        refine ⟨a, b, fun r hr => ?_⟩
        rw [← q r hr, show j = p.w + (j - p.w) by omega, A_slack hi, show p.w + (j - p.w) - p.w = j - p.w by omega]
        by_cases e : r = j - p.w
        · rw [if_pos e, if_pos e, e]
        · rw [if_neg e, if_neg e]
      · have hi : j - (p.w + p.m) < p.m := by omega
        have hx : (if p.isX (j - (p.w + p.m)) then (1 : Int) else 0) = 0 ∨ (if p.isX (j - (p.w + p.m)) then (1 : Int) else 0) = 1 ∨ (if p.isX (j - (p.w + p.m)) then (1 : Int) else 0) = -1 := by
          split <;> simp
        obtain ⟨a, b, q⟩ := one (j - (p.w + p.m)) _ hi hx
        refine ⟨a, b, fun r hr => ?_⟩
        rw [← q r hr, show j = p.w + p.m + (j - (p.w + p.m)) by omega, A_extra hi, show p.w + p.m + (j - (p.w + p.m)) - (p.w + p.m) = j - (p.w + p.m) by omega]
        by_cases e : r = j - (p.w + p.m)
        · rw [if_pos e, if_pos e, e]
        · rw [if_neg e, if_neg e]
theorem Tu.one (h : p.Tu) (o : s.Ok p.m p.N (extA p.m p.N p.A γ)) : s.b = 1 := by
  obtain ⟨t, t1, t2⟩ := h.net
  obtain ⟨σ, hs, e, _⟩ := (Sx.rows o fun r _ => A_virt).det
  have n := net_rows (M := bc p.A s.β) t1 fun k hk => t2 _ (o.lt k hk)
  have pos := o.pos
  have : s.b.natAbs ≤ 1 := by
    rw [e, Int.natAbs_mul]
    have : σ.natAbs = 1 := by rcases hs with q | q <;> rw [q] <;> rfl
    rw [this]
    omega
  omega
structure Fit (p : Pg) (X : Nat → Int) (b : Int) : Prop where
  pos : 0 < b
  nn : ∀ j, j < p.w → 0 ≤ X j
  row : ∀ r, r < p.m → (sm p.w fun j => X j * p.num r j) ≤ b * p.lim r
  tie : ∀ r, r < p.m → p.tie r = true → (sm p.w fun j => X j * p.num r j) = b * p.lim r
structure Dul (p : Pg) (g Y : Nat → Int) (b : Int) : Prop where
  pos : 0 < b
  nn : ∀ i, i < p.m → p.tie i = false → 0 ≤ Y i
  col : ∀ j, j < p.w → g j * b ≤ sm p.m fun i => p.num i j * Y i
variable {g : Nat → Int}
theorem two_sums (X Y : Nat → Int) : (sm p.w fun j => X j * sm p.m fun i => p.num i j * Y i) = sm p.m fun i => Y i * sm p.w fun j => X j * p.num i j := by
  have a : (sm p.w fun j => X j * sm p.m fun i => p.num i j * Y i) = sm p.w fun j => sm p.m fun i => X j * (p.num i j * Y i) := sm_ext _ fun j _ => (sm_mul _ _ _).symm
  have b : (sm p.m fun i => Y i * sm p.w fun j => X j * p.num i j) = sm p.m fun i => sm p.w fun j => X j * (p.num i j * Y i) := sm_ext _ fun i _ => by
    rw [← sm_mul]
    exact sm_ext _ fun j _ => by grind
  rw [a, b, sm_swap]
theorem sm_le2 {f g : Nat → Int} (n : Nat) (h : ∀ i, i < n → f i ≤ g i) : sm n f ≤ sm n g := by
  have a := sm_nn (f := fun i => g i + (-1) * f i) n fun i hi => by have := h i hi; show 0 ≤ g i + (-1) * f i; omega
  rw [sm_add, sm_mul] at a
  omega
/-- rows against weights that fit but for the columns -/
theorem rows_le {X Y : Nat → Int} {b : Int} (f : p.Fit X b) (nn : ∀ i, i < p.m → p.tie i = false → 0 ≤ Y i) : (sm p.m fun i => Y i * sm p.w fun j => X j * p.num i j) ≤ b * sm p.m fun i => p.lim i * Y i := by
  rw [← sm_mul]
  refine sm_le2 _ fun i hi => ?_
  cases t : p.tie i with
  | true =>
    rw [f.tie i hi t]
    exact Int.le_of_eq (by grind)
  | false =>
    have := Int.mul_le_mul_of_nonneg_left (f.row i hi) (nn i hi t)
    have e : Y i * (b * p.lim i) = b * (p.lim i * Y i) := by grind
    rw [← e]
    exact this
/-- no amounts that fit have a greater sum than weights that fit -/
theorem weak {X Y : Nat → Int} {b c : Int} (f : p.Fit X b) (d : p.Dul g Y c) : (sm p.w fun j => X j * g j) * c ≤ (sm p.m fun i => p.lim i * Y i) * b := by
  have a : (sm p.w fun j => X j * g j) * c ≤ sm p.w fun j => X j * sm p.m fun i => p.num i j * Y i := by
    rw [Int.mul_comm, ← sm_mul]
    refine sm_le2 _ fun j hj => ?_
    have := Int.mul_le_mul_of_nonneg_left (d.col j hj) (f.nn j hj)
    have e : X j * (g j * c) = c * (X j * g j) := by grind
    rw [← e]
    exact this
  have b' := rows_le f d.nn
  rw [two_sums] at a
  rw [Int.mul_comm (sm p.m _) b]
  exact Int.le_trans a b'
end Pg
end SX
namespace SX
section
variable {n K : Nat} {w rm : Nat → Int} {m : Nat → Nat → Int} {hx : Nat → Nat} {P : Nat → Nat → Int} {t q : Nat → Int}
theorem sm_grid (hK : 0 < K) (F : Nat → Nat → Int) : ∀ n, (sm (n * K) fun j => F (j / K) (j % K)) = sm n fun k => sm K (F k)
  | 0 => by rw [Nat.zero_mul]; rfl
  | n + 1 => by
    rw [Nat.succ_mul, Pg.sm_split, sm_grid hK F n]
    show _ = (sm n fun k => sm K (F k)) + sm K (F n)
    refine congrArg _ (sm_ext K fun i hi => ?_)
    rw [Nat.mul_comm n K, Nat.mul_add_div hK, Nat.mul_add_mod, Nat.div_eq_of_lt hi, Nat.mod_eq_of_lt hi, Nat.add_zero]
theorem sm_grid' (hK : 0 < K) (X : Nat → Int) (G : Nat → Nat → Int) (n : Nat) : (sm (n * K) fun j => X j * G (j / K) (j % K)) = sm n fun k => sm K fun a => X (k * K + a) * G k a := by
  rw [← sm_grid hK (fun k a => X (k * K + a) * G k a)]
  refine sm_ext _ fun j _ => ?_
  rw [show j / K * K + j % K = j by rw [Nat.mul_comm]; exact Nat.div_add_mod j K]
theorem div_lt (j : Nat) (hj : j < n * K) : j / K < n := Nat.div_lt_of_lt_mul (by rw [Nat.mul_comm]; exact hj)
theorem mod_lt' (hK : 0 < K) (j : Nat) : j % K < K := Nat.mod_lt _ hK
theorem grid_at (hK : 0 < K) (k a : Nat) (ha : a < K) : (k * K + a) / K = k ∧ (k * K + a) % K = a := by
  rw [Nat.mul_comm k K, Nat.mul_add_div hK, Nat.mul_add_mod, Nat.div_eq_of_lt ha, Nat.mod_eq_of_lt ha, Nat.add_zero]
  exact ⟨rfl, rfl⟩
end
end SX
namespace SX
structure Off (n : Nat) (c : Nat → Nat → Int) (pr : Nat → Int) (O : Nat → Int) (U : Nat → Nat → Int) (b : Int) : Prop where
  pos : 0 < b
  o0 : ∀ k, k < n → 0 ≤ O k
  u0 : ∀ k x, k < n → x < n → 0 ≤ U k x
  ge : ∀ k x, k < n → x < n → O k - U k x ≤ b * c k x
  pay : ∀ x, x < n → (sm n fun k => U k x) ≤ b * pr x
def offP (n : Nat) (c : Nat → Nat → Int) (pr : Nat → Int) : Pg where
  m := n * n + n
  w := n + n * n
  num := fun i j => if i < n * n then (if j < n then (if j = i / n then 1 else 0) else (if j = n + i then -1 else 0)) else (if j < n then 0 else (if (j - n) % n = i - n * n then 1 else 0))
  lim := fun i => if i < n * n then c (i / n) (i % n) else pr (i - n * n)
  tie := fun _ => false
def offG (n j : Nat) : Int := if j < n then 1 else 0
section
variable {n : Nat} {c : Nat → Nat → Int} {pr : Nat → Int} {O : Nat → Int} {U : Nat → Nat → Int} {b : Int}
theorem off_row1 (hn : 0 < n) {X : Nat → Int} {k x : Nat} (hk : k < n) (hx : x < n) : (sm (n + n * n) fun j => X j * (offP n c pr).num (k * n + x) j) = X k - X (n + (k * n + x)) := by
  have hi : k * n + x < n * n := by
    have := Nat.mul_le_mul_right n (show k + 1 ≤ n by omega)
    rw [Nat.succ_mul] at this
    omega
  have d := (grid_at hn k x hx).1
  rw [Pg.sm_split, sm_one (f := fun j => X j * (offP n c pr).num (k * n + x) j) (k := k) n hk fun j hj nj => ?_, sm_one (f := fun j => X (n + j) * (offP n c pr).num (k * n + x) (n + j)) (k := k * n + x) (n * n) hi fun j hj nj => ?_]
  · show X k * (if k * n + x < n * n then (if k < n then (if k = (k * n + x) / n then 1 else 0) else _) else _) + X (n + (k * n + x)) * (if k * n + x < n * n then (if n + (k * n + x) < n then _ else (if n + (k * n + x) = n + (k * n + x) then -1 else 0)) else _) = _
    rw [if_pos hi, if_pos hk, if_pos d.symm, if_pos hi, if_neg (by omega), if_pos rfl]
    omega
  · show X (n + j) * (if k * n + x < n * n then (if n + j < n then _ else (if n + j = n + (k * n + x) then -1 else 0)) else _) = 0
    rw [if_pos hi, if_neg (by omega), if_neg (by omega), Int.mul_zero]
  · show X j * (if k * n + x < n * n then (if j < n then (if j = (k * n + x) / n then 1 else 0) else _) else _) = 0
    rw [if_pos hi, if_pos hj, d, if_neg nj, Int.mul_zero]
theorem off_row2 (hn : 0 < n) {X : Nat → Int} {x : Nat} (hx : x < n) : (sm (n + n * n) fun j => X j * (offP n c pr).num (n * n + x) j) = sm n fun k => X (n + (k * n + x)) := by
  rw [Pg.sm_split, sm_zero (f := fun j => X j * (offP n c pr).num (n * n + x) j) n fun j hj => ?_, Int.zero_add]
  · have e : (sm (n * n) fun j => X (n + j) * (offP n c pr).num (n * n + x) (n + j)) = sm (n * n) fun j => (fun j => X (n + j)) j * (fun (_ : Nat) a => if a = x then (1 : Int) else 0) (j / n) (j % n) := sm_ext _ fun j _ => by
      show X (n + j) * (if n * n + x < n * n then _ else (if n + j < n then _ else (if (n + j - n) % n = n * n + x - n * n then 1 else 0))) = _
      rw [if_neg (by omega), if_neg (by omega), show n + j - n = j by omega, show n * n + x - n * n = x by omega]
    rw [e]
    refine (sm_grid' hn (fun j => X (n + j)) (fun (_ : Nat) a => if a = x then (1 : Int) else 0) n).trans ?_
    refine sm_ext _ fun k _ => ?_
    rw [sm_one (k := x) n hx fun i _ ni => by rw [if_neg ni, Int.mul_zero], if_pos rfl, Int.mul_one]
  · show X j * (if n * n + x < n * n then _ else (if j < n then 0 else _)) = 0
    rw [if_neg (by omega), if_pos hj, Int.mul_zero]
theorem off_val {X : Nat → Int} : (sm (n + n * n) fun j => X j * offG n j) = sm n X := by
  rw [Pg.sm_split, sm_zero (f := fun j => X (n + j) * offG n (n + j)) _ fun j _ => ?_, Int.add_zero]
  · refine sm_ext _ fun j hj => ?_
    unfold offG
    rw [if_pos hj, Int.mul_one]
  · show X (n + j) * (if n + j < n then 1 else 0) = 0
    rw [if_neg (by omega), Int.mul_zero]
theorem off_fit (hn : 0 < n) (s : Off n c pr O U b) : (offP n c pr).Fit (fun j => if j < n then O j else U ((j - n) / n) ((j - n) % n)) b where
  pos := s.pos
  nn := fun j hj => by
    have hj : j < n + n * n := hj
    show 0 ≤ if j < n then O j else _
    by_cases q : j < n
    · rw [if_pos q]; exact s.o0 j q
    · rw [if_neg q]; exact s.u0 _ _ (div_lt _ (by omega)) (mod_lt' hn _)
  row := fun r hr => by
    have hr : r < n * n + n := hr
    by_cases q : r < n * n
    · have e : r = r / n * n + r % n := by rw [Nat.mul_comm]; exact (Nat.div_add_mod r n).symm
      have d := div_lt r q
      have m := mod_lt' hn r
      have h := off_row1 (c := c) (pr := pr) hn (X := fun j => if j < n then O j else U ((j - n) / n) ((j - n) % n)) d m
      rw [← e] at h
      rw [show (offP n c pr).w = n + n * n from rfl, h, show (offP n c pr).lim r = c (r / n) (r % n) from if_pos q, if_pos d, if_neg (by omega), show n + r - n = r by omega]
      exact s.ge _ _ d m
    · have h := off_row2 (c := c) (pr := pr) hn (X := fun j => if j < n then O j else U ((j - n) / n) ((j - n) % n)) (show r - n * n < n by omega)
      rw [show n * n + (r - n * n) = r by omega] at h
      rw [show (offP n c pr).w = n + n * n from rfl, h, show (offP n c pr).lim r = pr (r - n * n) from if_neg q]
      refine Int.le_trans (Int.le_of_eq (sm_ext _ fun k _ => ?_)) (s.pay (r - n * n) (by omega))
      rw [if_neg (by omega), show n + (k * n + (r - n * n)) - n = k * n + (r - n * n) by omega, (grid_at hn k _ (show r - n * n < n by omega)).1, (grid_at hn k _ (show r - n * n < n by omega)).2]
  tie := fun r _ ht => nomatch ht
end
end SX
namespace SX
def pr : Nat → (Nat → Nat) → Nat
  | 0, _ => 1
  | m + 1, R => R 0 * pr m fun r => R (r + 1)
end SX
namespace PL
open PySem PySem.Spec PyProof.Rows L2 DL
section
variable {α : Type} (R : α → Nat → Prop) (y : α → Int)
open Classical in
noncomputable def payX (os : List α) (x : Nat) : Int := (os.map fun k => if R k x then y k else 0).sum
variable {R y}
theorem payX_app (a b : List α) (x : Nat) : payX R y (a ++ b) x = payX R y a x + payX R y b x := by
  unfold payX
  rw [List.map_append, List.sum_append]
end
section
variable {N m : Nat} {M : Nat → Nat → Prop}
/-- two rows are alike, or at the last column in which they differ the second one has it -/
def LexR (m : Nat) (f g : Nat → Prop) : Prop := (∀ j, j < m → (f j ↔ g j)) ∨ ∃ j, j < m ∧ ¬ f j ∧ g j ∧ ∀ j', j < j' → j' < m → (f j' ↔ g j')
theorem LexR.next {f g : Nat → Prop} (h : LexR m f g) {c : Nat} (hc : c < m) (f1 : f c) (g0 : ¬ g c) : ∃ d, c < d ∧ d < m ∧ ¬ f d ∧ g d ∧ ∀ j', d < j' → j' < m → (f j' ↔ g j') := by
  rcases h with q | ⟨d, hd, a, b, e⟩
  · exact absurd ((q c hc).mp f1) g0
  · refine ⟨d, ?_, hd, a, b, e⟩
    rcases Nat.lt_trichotomy c d with q | q | q
    · exact q
    · subst q
      exact absurd f1 a
    · exact absurd ((e c q hc).mp f1) g0
structure Chain (N m : Nat) (M : Nat → Nat → Prop) (L : Nat) (r c : Nat → Nat) : Prop where
  two : 2 ≤ L
  ru : ∀ a, 1 ≤ a → a < L → r a < r (a + 1)
  cu : ∀ a, 1 ≤ a → a < L → c a < c (a + 1)
  rN : r L < N
  cN : c L < m
  top : M (r 1) (c 1)
  rig : ∀ a, 1 ≤ a → a < L → M (r a) (c (a + 1))
  low : ∀ a, 1 ≤ a → a < L → M (r (a + 1)) (c a)
  no : ∀ a b, 1 ≤ a → a ≤ L → 1 ≤ b → b ≤ L → ¬ (a = 1 ∧ b = 1) → ¬ (a = L ∧ b = L) → b ≠ a + 1 → a ≠ b + 1 → ¬ M (r a) (c b)
  la : ∀ a, 1 ≤ a → a + 2 ≤ L → ∀ i, r (a + 2) < i → i < N → (M i (c a) ↔ M i (c (a + 1)))
  ca : ∀ a, 1 ≤ a → a + 2 ≤ L → ∀ j, c (a + 2) < j → j < m → (M (r a) j ↔ M (r (a + 1)) j)
theorem Chain.rle {L : Nat} {r c : Nat → Nat} (h : Chain N m M L r c) : ∀ a b, 1 ≤ a → a ≤ b → b ≤ L → r a ≤ r b ∧ r a + (b - a) ≤ r b := by
  intro a b ha hab hb
  induction b with
  | zero => omega
  | succ b ih =>
    by_cases e : a = b + 1
    · subst e
      omega
    · have := ih (by omega) (by omega)
      have := h.ru b (by omega) (by omega)
      omega
theorem Chain.cle {L : Nat} {r c : Nat → Nat} (h : Chain N m M L r c) : ∀ a b, 1 ≤ a → a ≤ b → b ≤ L → c a ≤ c b ∧ c a + (b - a) ≤ c b := by
  intro a b ha hab hb
  induction b with
  | zero => omega
  | succ b ih =>
    by_cases e : a = b + 1
    · subst e
      omega
    · have := ih (by omega) (by omega)
      have := h.cu b (by omega) (by omega)
      omega
def updC (r : Nat → Nat) (L v : Nat) : Nat → Nat := fun a => if a = L then v else r a
theorem updC_eq (r : Nat → Nat) (L v : Nat) : updC r L v L = v := if_pos rfl
theorem updC_ne (r : Nat → Nat) {L v a : Nat} (h : a ≠ L) : updC r L v a = r a := if_neg h
theorem Chain.step {L : Nat} {r c : Nat → Nat} (h : Chain N m M L r c) (hl : ¬ M (r L) (c L)) (hr : ∀ i i', i < i' → i' < N → LexR m (M i) (M i')) (hc : ∀ j j', j < j' → j' < m → LexR N (fun i => M i j) (fun i => M i j')) : ∃ r' c', Chain N m M (L + 1) r' c' := by
  have t2 := h.two
  obtain ⟨k, rfl⟩ : ∃ k, L = k + 2 := ⟨L - 2, by omega⟩
  have u1 := h.ru (k + 1) (by omega) (by omega)
  have u2 := h.cu (k + 1) (by omega) (by omega)
  obtain ⟨r', r1, r2, r3, r4, r5⟩ := (hc (c (k + 1)) (c (k + 2)) u2 h.cN).next h.rN (h.low (k + 1) (by omega) (by omega)) hl
  obtain ⟨c', c1, c2, c3, c4, c5⟩ := (hr (r (k + 1)) (r (k + 2)) u1 h.rN).next h.cN (h.rig (k + 1) (by omega) (by omega)) hl
  -- what stands left in the new row, and above in the new column, is nothing
  have z1 : ∀ t b, 1 ≤ b → b + t = k + 1 → ¬ M r' (c b) := by
    intro t
    induction t with
    | zero =>
      intro b _ e
      rw [show b = k + 1 by omega]
      exact r3
    | succ t ih =>
      intro b hb e
      have := (h.rle (b + 2) (k + 2) (by omega) (by omega) (by omega)).1
      rw [h.la b hb (by omega) r' (by omega) r2]
      exact ih (b + 1) (by omega) (by omega)
  have z2 : ∀ t b, 1 ≤ b → b + t = k + 1 → ¬ M (r b) c' := by
    intro t
    induction t with
    | zero =>
      intro b _ e
      rw [show b = k + 1 by omega]
      exact c3
    | succ t ih =>
      intro b hb e
      have := (h.cle (b + 2) (k + 2) (by omega) (by omega) (by omega)).1
      rw [h.ca b hb (by omega) c' (by omega) c2]
      exact ih (b + 1) (by omega) (by omega)
  refine ⟨updC r (k + 3) r', updC c (k + 3) c', by omega, fun a ha hb => ?_, fun a ha hb => ?_, by rw [updC_eq]; exact r2, by rw [updC_eq]; exact c2, ?_, fun a ha hb => ?_, fun a ha hb => ?_, fun a b a1 a2 b1 bit2 n1 n2 n3 n4 => ?_, fun a ha hb i hi hi2 => ?_, fun a ha hb i hi hi2 => ?_⟩
  · rw [updC_ne r (by omega)]
    by_cases e : a = k + 2
    · subst e
      rw [updC_eq]
      exact r1
    · rw [updC_ne r (by omega)]
      exact h.ru a ha (by omega)
  · rw [updC_ne c (by omega)]
    by_cases e : a = k + 2
    · subst e
      rw [updC_eq]
      exact c1
    · rw [updC_ne c (by omega)]
      exact h.cu a ha (by omega)
  · rw [updC_ne r (by omega), updC_ne c (by omega)]
    exact h.top
  · rw [updC_ne r (by omega)]
    by_cases e : a = k + 2
    · subst e
      rw [updC_eq]
      exact c4
    · rw [updC_ne c (by omega)]
      exact h.rig a ha (by omega)
  · rw [updC_ne c (by omega)]
    by_cases e : a = k + 2
    · subst e
      rw [updC_eq]
      exact r4
    · rw [updC_ne r (by omega)]
      exact h.low a ha (by omega)
  · by_cases ea : a = k + 3
    · subst ea
      rw [updC_eq, updC_ne c (by omega)]
      exact z1 (k + 1 - b) b b1 (by omega)
    · by_cases eb : b = k + 3
      · subst eb
        rw [updC_eq, updC_ne r (by omega)]
        exact z2 (k + 1 - a) a a1 (by omega)
      · rw [updC_ne r (by omega), updC_ne c (by omega)]
        by_cases ee : a = k + 2 ∧ b = k + 2
        · rw [ee.1, ee.2]
          exact hl
        · exact h.no a b a1 (by omega) b1 (by omega) n1 ee n3 n4
  · rw [updC_ne c (by omega), updC_ne c (by omega)]
    by_cases e : a = k + 1
    · subst e
      rw [updC_eq] at hi
      exact r5 i hi hi2
    · rw [updC_ne r (by omega)] at hi
      exact h.la a ha (by omega) i hi hi2
  · rw [updC_ne r (by omega), updC_ne r (by omega)]
    by_cases e : a = k + 1
    · subst e
      rw [updC_eq] at hi
      exact c5 i hi hi2
    · rw [updC_ne c (by omega)] at hi
      exact h.ca a ha (by omega) i hi hi2
end
section
variable {γ : Type}
/-- the first one counts once, each next one twice as much -/
def wN (v : γ → Nat) : List γ → Nat
  | [] => 0
  | x :: r => v x + 2 * wN v r
def bit2 (b : Bool) : Nat := if b = true then 1 else 0
end
end PL
namespace PL
open PySem PySem.Spec PyProof.Rows L2 DL
end PL
namespace PL
open PySem PySem.Spec PyProof.Rows L2 DL
end PL
namespace DG
open PySem PySem.Spec PyProof.Rows L2 DL
def top (i : Nat) : Stmt := PySem.Challenge.pw_nearhouses_k87_lines_refused.main.body.getD i (.Pass ⟨0, 0, 0, 0⟩)
structure Txt (mg : Str → Option Value) : Prop where
  bl_int : mg "int" = none
  bl_isinstance : mg "isinstance" = none
  bl_bool : mg "bool" = none
  bl_tuple : mg "tuple" = none
  bl_len : mg "len" = none
  gl_MOST_POINTS : ∃ t, mg "MOST_POINTS" = some (.int 8 t)
  gl_MOST_WEIGHT : ∃ t, mg "MOST_WEIGHT" = some (.int 100 t)
  bl_sum : mg "sum" = none
  gl_MOST_LENGTH : ∃ t, mg "MOST_LENGTH" = some (.int 100 t)
  bl_list : mg "list" = none
  bl_sorted : mg "sorted" = none
  gl_MOST_ROADS : ∃ t, mg "MOST_ROADS" = some (.int 14 t)
  bl_enumerate : mg "enumerate" = none
  bl_range : mg "range" = none
  bl_str : mg "str" = none
  gl_DIGITS : ∃ t, mg "DIGITS" = some (.str "0123456789" t)
  bl_min : mg "min" = none
  bl_zip : mg "zip" = none
  bl_max : mg "max" = none
def kd_STEPS : List (Str × Option Int) := [("open", some 2), ("close", some 2), ("weigh", some 3), ("sum", none), ("reach", none), ("load", none), ("next", none), ("spare", none), ("Open", none), ("undo", none), ("sums", none)]
def kt_QUESTIONS : List Str := ["sum", "reach", "load", "next", "spare"]
structure TxK (K : PySem.W.Frag) (w : World) (mg : Str → Option Value) : Prop where
  kd_STEPS : KD K w mg "STEPS" kd_STEPS
  kt_QUESTIONS : KT K mg "QUESTIONS" kt_QUESTIONS
structure TxC (K : PySem.W.Frag) (C : Addr) : Prop where
  cl : Cls K C
  n_state : NoAttr K C "state"
  n_past : NoAttr K C "past"
  n_future : NoAttr K C "future"
abbrev csAll : List Str := ["BadWeb", "InvalidLine", "NotText"]
structure TxE (P : Program) (K : PySem.W.Frag) (mg : Str → Option Value) (AH : Addr) : Prop where
  hh : ErrH K mg AH
  es : Errs K mg AH csAll
  e_BadWeb : OwnS K P mg "BadWeb" "index"
  e_InvalidLine : OwnS K P mg "InvalidLine" "word"
  e_NotText : Own0 K mg "NotText"
  nf_index : NoF K mg "index" csAll
  nf_word : NoF K mg "word" csAll
section
variable {P : Program} {w : World} {K : PySem.W.Frag} {mg : Str → Option Value} {base : Heap}
abbrev st_is_in : Stmt := top 8
def gs_is_in : Gs :=
  (gRet (lf (cAnd (cIsi .int (cVar 0)) (cAnd (cNot (cIsi .bool (cVar 0))) (cChain oLe oLe (cVar 1) (cVar 0) (cVar 2))))))
def mm_is_in := run 3 3 gs_is_in
theorem sc_is_in : FnScope ["value", "least", "most"] ["value", "least", "most"] (defScope st_is_in) := ⟨rfl, rfl, rfl, by decide +kernel, rfl, by decide +kernel, by decide +kernel⟩
theorem ok_is_in {f : Addr} {fd : FuncData} (F : Fun K "is_in" "is_in" st_is_in f fd) (T : Txt mg) : FnOk P w K mg base CX0 1 f fd ["value", "least", "most"] (spP K mm_is_in) := by
  have S := sc_is_in
  refine okP 3 3 F S rfl rfl (g := gs_is_in) fun cdv A outer s H E z hr => ?_
  exact (s_one (s_ret (r_lf (q_and (q_isi (q_var 0) (by rfl) T.bl_isinstance bt_isinstance (q_ty .int (by rfl) T.bl_int bt_int)) (q_and (q_not (q_isi (q_var 0) (by rfl) T.bl_isinstance bt_isinstance (q_ty .bool (by rfl) T.bl_bool bt_bool))) (q_one (q_chain (op_leD (hu64 hr)) w_le (op_leD (hu64 hr)) w_le (q_var 1) (q_var 0) (q_var 2))))))))
abbrev st_is_weights : Stmt := top 15
def gs_is_weights : Gs :=
  (gSeq (gIf (lfb (bOr (bNot (bT (cIsi .tuple (cVar 0)))) (bNot (bV (cChain oLe oLe (cK (.int 2)) (cN oLen (cCons (cVar 0) cNil)) (cK (.int 8)))))))
  (gRet (lf (cK (.bool false))))
  gNx)
  (gRet (lf (cAnd (c2 oEq (cLc [1] (iS (cVar 0)) (bNm 1) (bNot (bT (cN mm_is_in (cCons (cVar 1) (cCons (cK (.int 0)) (cCons (cK (.int 100)) cNil)))))) (cVar 1)) (cLst cNil)) (c2 oGt (cN oSum (cCons (cVar 0) cNil)) (cK (.int 0)))))))
def mm_is_weights := run 2 1 gs_is_weights
theorem sc_is_weights : FnScope ["value", "one"] ["value"] (defScope st_is_weights) := ⟨rfl, rfl, rfl, by decide +kernel, rfl, by decide +kernel, by decide +kernel⟩
theorem ok_is_weights {f : Addr} {fd : FuncData} (F : Fun K "is_weights" "is_weights" st_is_weights f fd) (T : Txt mg) (c_is_in : Cal P w K mg base 1 "is_in" (spP K mm_is_in)) : FnOk P w K mg base CX0 2 f fd ["value"] (spP K mm_is_weights) := by
  have S := sc_is_weights
  refine okP 2 1 F S rfl rfl (g := gs_is_weights) fun cdv A outer s H E z hr => ?_
  exact (s_cons (s_if (r_lfb ((b_or (b_not (b_val (q_isi (q_var 0) (by rfl) T.bl_isinstance bt_isinstance (q_ty .tuple (by rfl) T.bl_tuple bt_tuple)))) (b_or1 (b_not (b_chain (op_leD (hu64 hr)) w_le (op_leD (hu64 hr)) w_le q_int (q_callB call_len w_len (by rfl) T.bl_len bt_len (q_cons (q_var 0) q_nil)) (q_glob (by rfl) T.gl_MOST_POINTS)))))).pt)
  (s_one (s_ret (r_lf q_bl)))
  s_nil)
  (s_one (s_ret (r_lf (q_and (q_cmp (op_eqQ (hu64 hr)) w_eq (q_lc rfl S.nd (blkOk_by (own := [("one", 1)]) (by kernel_rfl)) (i_seq (q_var 0)) (fun _ _ _ _ _ => (g_nm 1 S.nd)) (fun _ _ _ _ _ => (t_one (b_not (b_val (q_call c_is_in hr (by decide) (by rfl) (q_cons (q_var 1) (q_cons q_int (q_cons (q_glob (by rfl) T.gl_MOST_WEIGHT) q_nil)))))))) (fun _ _ _ _ _ => (q_var 1))) (q_lst q_nil) (by rfl)) (q_one (q_cmp (op_gtD (hu64 hr)) w_gt (q_callB (cr_sumA rfl) w_sum (by rfl) T.bl_sum bt_sum (q_cons (q_var 0) q_nil)) q_int (by rfl))))))))
abbrev st_is_road : Stmt := top 14
def gs_is_road : Gs :=
  (gSeq (gIf (lfb (bOr (bNot (bT (cIsi .tuple (cVar 0)))) (bV (c2 oNe (cN oLen (cCons (cVar 0) cNil)) (cK (.int 3))))))
  (gRet (lf (cK (.bool false))))
  gNx)
  (gSeq (gIf (lfb (bOr (bNot (bT (cN mm_is_in (cCons (c2 oIx (cVar 0) (cK (.int 0))) (cCons (cK (.int 0)) (cCons (c2 oSub (cVar 1) (cK (.int 1))) cNil)))))) (bNot (bT (cN mm_is_in (cCons (c2 oIx (cVar 0) (cK (.int 1))) (cCons (c2 oAdd (c2 oIx (cVar 0) (cK (.int 0))) (cK (.int 1))) (cCons (c2 oSub (cVar 1) (cK (.int 1))) cNil))))))))
  (gRet (lf (cK (.bool false))))
  gNx)
  (gRet (lf (cN mm_is_in (cCons (c2 oIx (cVar 0) (cK (.int 2))) (cCons (cK (.int 1)) (cCons (cK (.int 100)) cNil))))))))
def mm_is_road := run 2 2 gs_is_road
theorem sc_is_road : FnScope ["value", "count"] ["value", "count"] (defScope st_is_road) := ⟨rfl, rfl, rfl, by decide +kernel, rfl, by decide +kernel, by decide +kernel⟩
theorem ok_is_road {f : Addr} {fd : FuncData} (F : Fun K "is_road" "is_road" st_is_road f fd) (T : Txt mg) (c_is_in : Cal P w K mg base 1 "is_in" (spP K mm_is_in)) : FnOk P w K mg base CX0 2 f fd ["value", "count"] (spP K mm_is_road) := by
  have S := sc_is_road
  refine okP 2 2 F S rfl rfl (g := gs_is_road) fun cdv A outer s H E z hr => ?_
  exact (s_cons (s_if (r_lfb ((b_or (b_not (b_val (q_isi (q_var 0) (by rfl) T.bl_isinstance bt_isinstance (q_ty .tuple (by rfl) T.bl_tuple bt_tuple)))) (b_or1 (b_cmp (op_neQ (hu64 hr)) w_ne (q_callB call_len w_len (by rfl) T.bl_len bt_len (q_cons (q_var 0) q_nil)) q_int (by rfl))))).pt)
  (s_one (s_ret (r_lf q_bl)))
  s_nil)
  (s_cons (s_if (r_lfb ((b_or (b_not (b_val (q_call c_is_in hr (by decide) (by rfl) (q_cons (q_ix ix_seq w_ix (q_var 0) q_int) (q_cons q_int (q_cons (q_op op_sub w_sub (q_var 1) q_int) q_nil)))))) (b_or1 (b_not (b_val (q_call c_is_in hr (by decide) (by rfl) (q_cons (q_ix ix_seq w_ix (q_var 0) q_int) (q_cons (q_op op_addA w_add (q_ix ix_seq w_ix (q_var 0) q_int) q_int) (q_cons (q_op op_sub w_sub (q_var 1) q_int) q_nil))))))))).pt)
  (s_one (s_ret (r_lf q_bl)))
  s_nil)
  (s_one (s_ret (r_lf (q_call c_is_in hr (by decide) (by rfl) (q_cons (q_ix ix_seq w_ix (q_var 0) q_int) (q_cons q_int (q_cons (q_glob (by rfl) T.gl_MOST_LENGTH) q_nil)))))))))
abbrev st_parts_in : Stmt := top 17
def gs_parts_in : Gs :=
  (gSeq (gPar2 2 3 (wsh (lf (cN oList (cCons (cVar 0) cNil)))) (wN few (lfs cNil)))
  (gSeq (gWhile (lfb (bV (c2 oNe (cVar 2) (cLst cNil))))
  (gSeq (gPar2 4 5 (wN few (lfs (cCons (c2 oIx (cVar 2) (cK (.int 0))) cNil))) (wsh (lf (cK (.int 0)))))
  (gSeq (gWhile (lfb (bV (c2 oLt (cVar 5) (cBor (cN oLen (cCons (cVar 4) cNil))))))
  (gSeq (gFor (lfs (iS (cVar 1))) (bTp 3 (bCons (bNm 6) (bCons (bNm 7) (bCons (bNm 8) bNil))))
  (gFor (lfs (iS (cTup (cCons (cTup (cCons (cVar 6) (cCons (cVar 7) cNil))) (cCons (cTup (cCons (cVar 7) (cCons (cVar 6) cNil))) cNil))))) (bTp 2 (bCons (bNm 9) (bCons (bNm 10) bNil)))
  (gIf (lfb (bAnd (bV (c2 oEq (cVar 9) (cIxO 4 (cVar 5)))) (bAnd (bV (c2 oIn (cVar 10) (cVar 2))) (bBor (bV (c2 oNotIn (cVar 10) (cVar 4)))))))
  (gApp 4 (lf (cVar 10)))
  gNx)))
  (gAug 5 oAddI (lf (cK (.int 1))))) 400)
  (gSeq (gFz 4 (gApp 3 (lf (cN oTuple (cCons (cN oSortedA (cCons (cVar 4) cNil)) cNil)))))
  (gAsg (lf (cLc [11] (iS (cVar 2)) (bNm 11) (bV (c2 oNotIn (cVar 11) (cVar 4))) (cVar 11))) (bNm 2))))) 400)
  (gFz 3 (gRet (lf (cN oSortedA (cCons (cVar 3) cNil)))))))
def mm_parts_in := run 12 2 gs_parts_in
theorem sc_parts_in : FnScope ["points", "roads", "left", "found", "part", "at", "a", "b", "length", "one", "other", "x"] ["points", "roads"] (defScope st_parts_in) := ⟨rfl, rfl, rfl, by decide +kernel, rfl, by decide +kernel, by decide +kernel⟩
theorem ok_parts_in {f : Addr} {fd : FuncData} (F : Fun K "parts_in" "parts_in" st_parts_in f fd) (T : Txt mg) : FnOk P w K mg base CX0 1 f fd ["points", "roads"] (spP K mm_parts_in) := by
  have S := sc_parts_in
  refine okP 12 2 F S rfl rfl (g := gs_parts_in) fun cdv A outer s H E z hr => ?_
  exact (s_cons (s_par2 2 3 rfl S.nd (w_sh (r_lf (q_callTy call_list_of w_list (by rfl) T.bl_list bt_list (q_cons (q_var 0) q_nil)))) (w_lst (r_lfs q_nil)))
  (s_cons (s_while 400 (r_lfb (b_cmp (op_neQ (hu64 hr)) w_ne (q_var 2) (q_lst q_nil) (by rfl)))
  (s_cons (s_tup2 4 5 rfl S.nd (w_lst (r_lfs (q_cons (q_ix ix_seq w_ix (q_var 2) q_int) q_nil))) (w_sh (r_lf q_int)))
  (s_cons (s_while 400 (r_lfb (b_cmp (op_ltD (hu64 hr)) w_lt (q_var 5) (q_bor fun _ => (q_callB call_len w_len (by rfl) T.bl_len bt_len (q_cons (q_var 4) q_nil))) (by rfl)))
  (s_cons (s_for rfl (i_lf (i_seq (q_var 1))) (g_tup rfl (g_cons (g_nm 6 S.nd) (g_cons (g_nm 7 S.nd) (g_cons (g_nm 8 S.nd) g_nil))))
  (s_one (s_for rfl (i_lf (i_seq (q_tup (q_cons (q_tup (q_cons (q_var 6) (q_cons (q_var 7) q_nil))) (q_cons (q_tup (q_cons (q_var 7) (q_cons (q_var 6) q_nil))) q_nil))))) (g_tup rfl (g_cons (g_nm 9 S.nd) (g_cons (g_nm 10 S.nd) g_nil)))
  (s_one (s_if (r_lfb ((b_and (b_cmp (op_eqQ (hu64 hr)) w_eq (q_var 9) (q_ixO 4 (q_var 5)) (by rfl)) (b_and (b_cmp (op_inA (hu65 hr)) w_in (q_var 10) (q_var 2) (by rfl)) (b_and1 (b_bor fun _ => (b_cmp (op_notInA (hu65 hr)) w_notIn (q_var 10) (q_var 4) (by rfl))))))).pt)
  (s_one (s_app 4 (r_lf (q_var 10))))
  s_nil)) PassesOwn.never)) PassesOwn.never)
  (s_one (s_aug 5 iop_add w_addI S.nd (r_lf q_int)))) PassesOwn.never)
  (s_cons (s_fz 4 (s_app 3 (r_lf (q_callTy call_tuple_of w_tuple (by rfl) T.bl_tuple bt_tuple (q_cons (q_callB (cr_sortedA (hu64 hr)) w_sortedA (by rfl) T.bl_sorted bt_sorted (q_cons (q_var 4) q_nil)) q_nil)))))
  (s_one (s_lc 2 rfl S.nd (blkOk_by (own := [("x", 11)]) (by kernel_rfl)) (sw_true rfl rfl rfl (by rfl)) (i_seq (q_var 2)) (fun _ _ _ _ _ => (g_nm 11 S.nd)) (fun _ _ _ _ _ => (t_one (b_cmp (op_notInA (hu65 hr)) w_notIn (q_var 11) (q_var 4) (by rfl)))) (fun _ _ _ _ _ => (q_var 11))))))) PassesOwn.never)
  (s_one (s_fz 3 (s_ret (r_lf (q_callB (cr_sortedA (hu64 hr)) w_sortedA (by rfl) T.bl_sorted bt_sorted (q_cons (q_var 3) q_nil))))))))
abbrev st_need_web : Stmt := top 16
def gs_need_web : Gs :=
  (gSeq (gIf (lfb (bOr (bNot (bT (cIsi .tuple (cVar 0)))) (bOr (bV (c2 oNe (cN oLen (cCons (cVar 0) cNil)) (cK (.int 2)))) (bNot (bT (cN mm_is_weights (cCons (c2 oIx (cVar 0) (cK (.int 0))) cNil)))))))
  gNever
  gNx)
  (gSeq (gIf (lfb (bOr (bNot (bT (cIsi .tuple (c2 oIx (cVar 0) (cK (.int 1)))))) (bV (c2 oGt (cN oLen (cCons (c2 oIx (cVar 0) (cK (.int 1))) cNil)) (cK (.int 14))))))
  gNever
  gNx)
  (gSeq (gSetW 1 (wN few (lfs cNil)))
  (gSeq (gFor (lfs (iN en1 (cCons (c2 oIx (cVar 0) (cK (.int 1))) cNil))) (bTp 2 (bCons (bNm 2) (bCons (bNm 3) bNil)))
  (gSeq (gIf (lfb (bOr (bNot (bT (cN mm_is_road (cCons (cVar 3) (cCons (cN oLen (cCons (c2 oIx (cVar 0) (cK (.int 0))) cNil)) cNil))))) (bBor (bV (c2 oIn (cSl (cVar 3) cNoPart (cPart (cK (.int 2)))) (cVar 1))))))
  gNever
  gNx)
  (gApp 1 (lf (cSl (cVar 3) cNoPart (cPart (cK (.int 2))))))))
  (gIf (lfb (bV (c2 oGt (cN oLen (cCons (cN mm_parts_in (cCons (cListRg (cRg1 (cN oLen (cCons (c2 oIx (cVar 0) (cK (.int 0))) cNil)))) (cCons (c2 oIx (cVar 0) (cK (.int 1))) cNil))) cNil)) (cK (.int 1)))))
  gNever
  gNx)))))
def mm_need_web := run 4 1 gs_need_web
theorem sc_need_web : FnScope ["web", "pairs", "index", "one"] ["web"] (defScope st_need_web) := ⟨rfl, rfl, rfl, by decide +kernel, rfl, by decide +kernel, by decide +kernel⟩
theorem ok_need_web {f : Addr} {fd : FuncData} (F : Fun K "need_web" "need_web" st_need_web f fd) (T : Txt mg) (c_is_weights : Cal P w K mg base 2 "is_weights" (spP K mm_is_weights)) (c_is_road : Cal P w K mg base 2 "is_road" (spP K mm_is_road)) (c_parts_in : Cal P w K mg base 1 "parts_in" (spP K mm_parts_in)) : FnOk P w K mg base CX0 3 f fd ["web"] (spP K mm_need_web) := by
  have S := sc_need_web
  refine okP 4 1 F S rfl rfl (g := gs_need_web) fun cdv A outer s H E z hr => ?_
  exact (s_cons (s_if (r_lfb ((b_or (b_not (b_val (q_isi (q_var 0) (by rfl) T.bl_isinstance bt_isinstance (q_ty .tuple (by rfl) T.bl_tuple bt_tuple)))) (b_or (b_cmp (op_neQ (hu64 hr)) w_ne (q_callB call_len w_len (by rfl) T.bl_len bt_len (q_cons (q_var 0) q_nil)) q_int (by rfl)) (b_or1 (b_not (b_val (q_call c_is_weights hr (by decide) (by rfl) (q_cons (q_ix ix_seq w_ix (q_var 0) q_int) q_nil)))))))).pt)
  (s_one s_never)
  s_nil)
  (s_cons (s_if (r_lfb ((b_or (b_not (b_val (q_isi (q_ix ix_seq w_ix (q_var 0) q_int) (by rfl) T.bl_isinstance bt_isinstance (q_ty .tuple (by rfl) T.bl_tuple bt_tuple)))) (b_or1 (b_cmp (op_gtD (hu64 hr)) w_gt (q_callB call_len w_len (by rfl) T.bl_len bt_len (q_cons (q_ix ix_seq w_ix (q_var 0) q_int) q_nil)) (q_glob (by rfl) T.gl_MOST_ROADS) (by rfl))))).pt)
  (s_one s_never)
  s_nil)
  (s_cons (s_setW 1 S.nd (w_lst (r_lfs q_nil)))
  (s_cons (s_for rfl (i_lf (i_enum (by rfl) T.bl_enumerate (q_cons (q_ix ix_seq w_ix (q_var 0) q_int) q_nil))) (g_tup rfl (g_cons (g_nm 2 S.nd) (g_cons (g_nm 3 S.nd) g_nil)))
  (s_cons (s_if (r_lfb ((b_or (b_not (b_val (q_call c_is_road hr (by decide) (by rfl) (q_cons (q_var 3) (q_cons (q_callB call_len w_len (by rfl) T.bl_len bt_len (q_cons (q_ix ix_seq w_ix (q_var 0) q_int) q_nil)) q_nil))))) (b_or1 (b_bor fun _ => (b_cmp (op_inA (hu65 hr)) w_in (q_slice (q_var 3) q_nopart (q_part q_int)) (q_var 1) (by rfl)))))).pt)
  (s_one s_never)
  s_nil)
  (s_one (s_app 1 (r_lf (q_slice (q_var 3) q_nopart (q_part q_int)))))) PassesOwn.never)
  (s_one (s_if (r_lfb (b_cmp (op_gtD (hu64 hr)) w_gt (q_callB call_len w_len (by rfl) T.bl_len bt_len (q_cons (q_call c_parts_in hr (by decide) (by rfl) (q_cons (q_listRg rfl (by rfl) T.bl_list (q_rg1 (by rfl) T.bl_range (q_callB call_len w_len (by rfl) T.bl_len bt_len (q_cons (q_ix ix_seq w_ix (q_var 0) q_int) q_nil)))) (q_cons (q_ix ix_seq w_ix (q_var 0) q_int) q_nil))) q_nil)) q_int (by rfl)))
  (s_one s_never)
  s_nil))))))
def gx_need_web : Gx :=
  (xSeq (xIf (lfb (bOr (bNot (bT (cIsi .tuple (cVar 0)))) (bOr (bV (c2 oNe (cN oLen (cCons (cVar 0) cNil)) (cK (.int 2)))) (bNot (bT (cN mm_is_weights (cCons (c2 oIx (cVar 0) (cK (.int 0))) cNil)))))))
  (xRaise1 "BadWeb" "index" (lf (cK .none)))
  (xF gNx))
  (xSeq (xIf (lfb (bOr (bNot (bT (cIsi .tuple (c2 oIx (cVar 0) (cK (.int 1)))))) (bV (c2 oGt (cN oLen (cCons (c2 oIx (cVar 0) (cK (.int 1))) cNil)) (cK (.int 14))))))
  (xRaise1 "BadWeb" "index" (lf (cK .none)))
  (xF gNx))
  (xSeq (xF (gSetW 1 (wN few (lfs cNil))))
  (xSeq (xFor (lfs (iN en1 (cCons (c2 oIx (cVar 0) (cK (.int 1))) cNil))) (bTp 2 (bCons (bNm 2) (bCons (bNm 3) bNil)))
  (xSeq (xIf (lfb (bOr (bNot (bT (cN mm_is_road (cCons (cVar 3) (cCons (cN oLen (cCons (c2 oIx (cVar 0) (cK (.int 0))) cNil)) cNil))))) (bBor (bV (c2 oIn (cSl (cVar 3) cNoPart (cPart (cK (.int 2)))) (cVar 1))))))
  (xRaise1 "BadWeb" "index" (lf (cVar 2)))
  (xF gNx))
  (xF (gApp 1 (lf (cSl (cVar 3) cNoPart (cPart (cK (.int 2)))))))))
  (xIf (lfb (bV (c2 oGt (cN oLen (cCons (cN mm_parts_in (cCons (cListRg (cRg1 (cN oLen (cCons (c2 oIx (cVar 0) (cK (.int 0))) cNil)))) (cCons (c2 oIx (cVar 0) (cK (.int 1))) cNil))) cNil)) (cK (.int 1)))))
  (xRaise1 "BadWeb" "index" (lf (cK .none)))
  (xF gNx))))))
def mx_need_web := runX 4 1 gx_need_web
theorem okE_need_web {f : Addr} {fd : FuncData} (F : Fun K "need_web" "need_web" st_need_web f fd) (T : Txt mg) {AH : Addr} (TE : TxE P K mg AH) (c_is_weights : Cal P w K mg base 2 "is_weights" (spP K mm_is_weights)) (c_is_road : Cal P w K mg base 2 "is_road" (spP K mm_is_road)) (c_parts_in : Cal P w K mg base 1 "parts_in" (spP K mm_parts_in)) : FnOk P w K mg base (L2.CX P w) 3 f fd ["web"] (spX K mg mx_need_web) := by
  have S := sc_need_web
  refine okX 4 1 F S rfl rfl (g := gx_need_web) fun cdv A outer s H E z hr => ?_
  have tk : Takes (cxOf (L2.CX P w) P w K mg base ["web", "pairs", "index", "one"] "need_web" (defScope st_need_web) f cdv A outer s H E) (fun cls d _ H => E cls d H) := takes_of rfl rfl rfl rfl
  exact (x_cons (x_if (r_lfb ((b_or (b_not (b_val (q_isi (q_var 0) (by rfl) T.bl_isinstance bt_isinstance (q_ty .tuple (by rfl) T.bl_tuple bt_tuple)))) (b_or (b_cmp (op_neQ (hu64 hr)) w_ne (q_callB call_len w_len (by rfl) T.bl_len bt_len (q_cons (q_var 0) q_nil)) q_int (by rfl)) (b_or1 (b_not (b_val (q_call c_is_weights hr (by decide) (by rfl) (q_cons (q_ix ix_seq w_ix (q_var 0) q_int) q_nil)))))))).pt)
  (x_one (x_raiseS rfl tk TE.e_BadWeb hr (by rfl) (r_lf q_non)))
  (xs_of s_nil))
  (x_cons (x_if (r_lfb ((b_or (b_not (b_val (q_isi (q_ix ix_seq w_ix (q_var 0) q_int) (by rfl) T.bl_isinstance bt_isinstance (q_ty .tuple (by rfl) T.bl_tuple bt_tuple)))) (b_or1 (b_cmp (op_gtD (hu64 hr)) w_gt (q_callB call_len w_len (by rfl) T.bl_len bt_len (q_cons (q_ix ix_seq w_ix (q_var 0) q_int) q_nil)) (q_glob (by rfl) T.gl_MOST_ROADS) (by rfl))))).pt)
  (x_one (x_raiseS rfl tk TE.e_BadWeb hr (by rfl) (r_lf q_non)))
  (xs_of s_nil))
  (x_cons (x_of (s_setW 1 S.nd (w_lst (r_lfs q_nil))))
  (x_cons (x_for rfl (i_lf (i_enum (by rfl) T.bl_enumerate (q_cons (q_ix ix_seq w_ix (q_var 0) q_int) q_nil))) (g_tup rfl (g_cons (g_nm 2 S.nd) (g_cons (g_nm 3 S.nd) g_nil)))
  (x_cons (x_if (r_lfb ((b_or (b_not (b_val (q_call c_is_road hr (by decide) (by rfl) (q_cons (q_var 3) (q_cons (q_callB call_len w_len (by rfl) T.bl_len bt_len (q_cons (q_ix ix_seq w_ix (q_var 0) q_int) q_nil)) q_nil))))) (b_or1 (b_bor fun _ => (b_cmp (op_inA (hu65 hr)) w_in (q_slice (q_var 3) q_nopart (q_part q_int)) (q_var 1) (by rfl)))))).pt)
  (x_one (x_raiseS rfl tk TE.e_BadWeb hr (by rfl) (r_lf (q_var 2))))
  (xs_of s_nil))
  (xs_of (s_one (s_app 1 (r_lf (q_slice (q_var 3) q_nopart (q_part q_int))))))) (passes_of rfl))
  (x_one (x_if (r_lfb (b_cmp (op_gtD (hu64 hr)) w_gt (q_callB call_len w_len (by rfl) T.bl_len bt_len (q_cons (q_call c_parts_in hr (by decide) (by rfl) (q_cons (q_listRg rfl (by rfl) T.bl_list (q_rg1 (by rfl) T.bl_range (q_callB call_len w_len (by rfl) T.bl_len bt_len (q_cons (q_ix ix_seq w_ix (q_var 0) q_int) q_nil)))) (q_cons (q_ix ix_seq w_ix (q_var 0) q_int) q_nil))) q_nil)) q_int (by rfl)))
  (x_one (x_raiseS rfl tk TE.e_BadWeb hr (by rfl) (r_lf q_non)))
  (xs_of s_nil)))))))
abbrev st_Town___init__ : Stmt := inClass (top 27) 0
def gs_Town___init__ : Gs :=
  (gSeq (gExpr (lf (cN mm_need_web (cCons (cVar 1) cNil))))
  (gSeq (gFld 0 "state" (lf (cTup (cCons (cVar 1) (cCons (cTup cNil) cNil)))))
  (gSeq (gFldW 0 "past" (wN few (lfs cNil)))
  (gFldW 0 "future" (wN few (lfs cNil))))))
def mm_Town___init__ := runMx 2 2 gs_Town___init__
theorem sc_Town___init__ : FnScope ["self", "web"] ["self", "web"] (defScope st_Town___init__) := ⟨rfl, rfl, rfl, by decide +kernel, rfl, by decide +kernel, by decide +kernel⟩
theorem ok_Town___init__ (TK : TxK K w mg) {C : Addr} (TC : TxC K C) {f : Addr} {fd : FuncData} (F : Fun K "__init__" "Town.__init__" st_Town___init__ f fd) (T : Txt mg) (c_need_web : Cal P w K mg base 3 "need_web" (spP K mm_need_web)) : FnOk P w K mg base CX0 4 f fd ["self", "web"] (spMx K C mm_Town___init__) := by
  have S := sc_Town___init__
  refine okMx (c := C) 2 2 F S rfl rfl (by decide) (g := gs_Town___init__) fun cdv A outer s H E z hz hr => ?_
  exact (s_cons (s_expr (r_lf (q_call c_need_web hr (by decide) (by rfl) (q_cons (q_var 1) q_nil))))
  (s_cons (s_fld hz 0 TC.n_state (r_lf (q_tup (q_cons (q_var 1) (q_cons (q_tup q_nil) q_nil)))))
  (s_cons (s_fldW hz 0 TC.n_past (w_lst (r_lfs q_nil)))
  (s_one (s_fldW hz 0 TC.n_future (w_lst (r_lfs q_nil)))))))
def gx_Town___init__ : Gx :=
  (xSeq (xExpr (eCall mx_need_web (lfs (cCons (cVar 1) cNil))))
  (xF (gSeq (gFld 0 "state" (lf (cTup (cCons (cVar 1) (cCons (cTup cNil) cNil)))))
  (gSeq (gFldW 0 "past" (wN few (lfs cNil)))
  (gFldW 0 "future" (wN few (lfs cNil)))))))
def mx_Town___init__ := runMX 2 2 gx_Town___init__
theorem okE_Town___init__ (TK : TxK K w mg) {C : Addr} (TC : TxC K C) {f : Addr} {fd : FuncData} (F : Fun K "__init__" "Town.__init__" st_Town___init__ f fd) (T : Txt mg) {AH : Addr} (TE : TxE P K mg AH) (cX_need_web : CalX P w K mg base 3 "need_web" (spX K mg mx_need_web)) : FnOk P w K mg base (L2.CX P w) 4 f fd ["self", "web"] (spMX K mg C mx_Town___init__) := by
  have S := sc_Town___init__
  refine okMX (c := C) 2 2 F S rfl rfl (by decide) (g := gx_Town___init__) fun cdv A outer s H E z hz hr => ?_
  have tk : Takes (cxOf (L2.CX P w) P w K mg base ["self", "web"] "Town.__init__" (defScope st_Town___init__) f cdv A outer s H E) (fun cls d _ H => E cls d H) := takes_of rfl rfl rfl rfl
  exact (x_cons (x_expr (e_call tk cX_need_web hr (by decide) (by rfl) (r_lfs (q_cons (q_var 1) q_nil))))
  (xs_of (s_cons (s_fld hz 0 TC.n_state (r_lf (q_tup (q_cons (q_var 1) (q_cons (q_tup q_nil) q_nil)))))
  (s_cons (s_fldW hz 0 TC.n_past (w_lst (r_lfs q_nil)))
  (s_one (s_fldW hz 0 TC.n_future (w_lst (r_lfs q_nil))))))))
abbrev st__law_taken : Stmt := top 29
def gs__law_taken : Gs :=
  (gSeq (gIf (lfb (bV (c2 oGt (cIxO 0 (cK (.int 3))) (cK (.int 0)))))
  (gSeq (gAsg (lf (c2 oMod (cN oInt (cCons (cIxO 0 (cK (.int 3))) cNil)) (cVar 1))) (bNm 3))
  (gSeq (gSetI 0 (lf (c2 oDiv (cIxO 0 (cK (.int 3))) (cVar 1))) (lf (cK (.int 3))))
  (gRet (lf (cVar 3)))))
  gNx)
  (gSeq (gSetI 0 (lf (c2 oAdd (cIxO 0 (cK (.int 1))) (cK (.int 1)))) (lf (cK (.int 1))))
  (gSeq (gIf (lfb (bV (c2 oGt (cIxO 0 (cK (.int 1))) (cN oLen (cCons (cIxO 0 (cK (.int 0))) cNil)))))
  (gSeq (gSetI 0 (lf (c2 oMod (cN oInt (cCons (c2 oAdd (c2 oMul (cIxO 0 (cK (.int 2))) (cK (.int 48271))) (cK (.int 11))) cNil)) (cK (.int 2147483647)))) (lf (cK (.int 2))))
  (gRet (lf (c2 oMod (cN oInt (cCons (c2 oDiv (cIxO 0 (cK (.int 2))) (cK (.int 7))) cNil)) (cVar 1)))))
  gNx)
  (gSeq (gAsg (lf (c2 oIx (cIxO 0 (cK (.int 0))) (c2 oSub (cIxO 0 (cK (.int 1))) (cK (.int 1))))) (bNm 2))
  (gSeq (gSetI 0 (lf (c2 oMod (cN oInt (cCons (c2 oAdd (c2 oAdd (c2 oMul (cIxO 0 (cK (.int 2))) (cK (.int 48271))) (cVar 2)) (cK (.int 11))) cNil)) (cK (.int 2147483647)))) (lf (cK (.int 2))))
  (gSeq (gIf (lfb (bV (c2 oGe (cVar 2) (c2 oPow (cK (.int 10)) (cK (.int 18))))))
  (gSetI 0 (lf (c2 oDiv (cVar 2) (cVar 1))) (lf (cK (.int 3))))
  gNx)
  (gRet (lf (c2 oMod (cN oInt (cCons (cVar 2) cNil)) (cVar 1))))))))))
def mm__law_taken := runR 4 2 gs__law_taken
theorem sc__law_taken : FnScope ["_law_row", "_law_many", "_law_cell", "_law_found"] ["_law_row", "_law_many"] (defScope st__law_taken) := ⟨rfl, rfl, rfl, by decide +kernel, rfl, by decide +kernel, by decide +kernel⟩
theorem ok__law_taken {f : Addr} {fd : FuncData} (F : Fun K "_law_taken" "_law_taken" st__law_taken f fd) (T : Txt mg) : FnOk P w K mg base CX0 1 f fd ["_law_row", "_law_many"] (spR K mm__law_taken) := by
  have S := sc__law_taken
  refine okR 4 2 F S rfl rfl (by decide) (g := gs__law_taken) fun cdv A outer s H E z hr => ?_
  exact (s_cons (s_if (r_lfb (b_cmp (op_gtD (hu64 hr)) w_gt (q_ixO 0 q_int) q_int (by rfl)))
  (s_cons (s_set 3 S.nd (r_lf (q_op op_modN w_mod (q_callTy call_int1 w_int (by rfl) T.bl_int bt_int (q_cons (q_ixO 0 q_int) q_nil)) (q_var 1))))
  (s_cons (s_setI 0 (r_lf (q_op DL.op_fdivW w_div (q_ixO 0 q_int) (q_var 1))) (r_lf q_int))
  (s_one (s_ret (r_lf (q_var 3))))))
  s_nil)
  (s_cons (s_setI 0 (r_lf (q_op op_addA w_add (q_ixO 0 q_int) q_int)) (r_lf q_int))
  (s_cons (s_if (r_lfb (b_cmp (op_gtD (hu64 hr)) w_gt (q_ixO 0 q_int) (q_callB call_len w_len (by rfl) T.bl_len bt_len (q_cons (q_ixO 0 q_int) q_nil)) (by rfl)))
  (s_cons (s_setI 0 (r_lf (q_op op_modN w_mod (q_callTy call_int1 w_int (by rfl) T.bl_int bt_int (q_cons (q_op op_addA w_add (q_op op_mulA w_mul (q_ixO 0 q_int) q_int) q_int) q_nil)) q_int)) (r_lf q_int))
  (s_one (s_ret (r_lf (q_op op_modN w_mod (q_callTy call_int1 w_int (by rfl) T.bl_int bt_int (q_cons (q_op DL.op_fdivW w_div (q_ixO 0 q_int) q_int) q_nil)) (q_var 1))))))
  s_nil)
  (s_cons (s_set 2 S.nd (r_lf (q_ix ix_seq w_ix (q_ixO 0 q_int) (q_op op_sub w_sub (q_ixO 0 q_int) q_int))))
  (s_cons (s_setI 0 (r_lf (q_op op_modN w_mod (q_callTy call_int1 w_int (by rfl) T.bl_int bt_int (q_cons (q_op op_addA w_add (q_op op_addA w_add (q_op op_mulA w_mul (q_ixO 0 q_int) q_int) (q_var 2)) q_int) q_nil)) q_int)) (r_lf q_int))
  (s_cons (s_if (r_lfb (b_cmp (op_geD (hu64 hr)) w_ge (q_var 2) (q_op op_pow w_pow q_int q_int) (by rfl)))
  (s_one (s_setI 0 (r_lf (q_op DL.op_fdivW w_div (q_var 2) (q_var 1))) (r_lf q_int)))
  s_nil)
  (s_one (s_ret (r_lf (q_op op_modN w_mod (q_callTy call_int1 w_int (by rfl) T.bl_int bt_int (q_cons (q_var 2) q_nil)) (q_var 1)))))))))))
abbrev st__law_pick : Stmt := top 30
def gs__law_pick : Gs :=
  (gRet (r2 oIx (lf (cVar 1)) (rRow 0 mm__law_taken (lfs (cCons (cN oLen (cCons (cVar 1) cNil)) cNil)))))
def mm__law_pick := runR 2 2 gs__law_pick
theorem sc__law_pick : FnScope ["_law_row", "_law_things"] ["_law_row", "_law_things"] (defScope st__law_pick) := ⟨rfl, rfl, rfl, by decide +kernel, rfl, by decide +kernel, by decide +kernel⟩
theorem ok__law_pick {f : Addr} {fd : FuncData} (F : Fun K "_law_pick" "_law_pick" st__law_pick f fd) (T : Txt mg) (c__law_taken : Cal P w K mg base 1 "_law_taken" (spR K mm__law_taken)) : FnOk P w K mg base CX0 2 f fd ["_law_row", "_law_things"] (spR K mm__law_pick) := by
  have S := sc__law_pick
  refine okR 2 2 F S rfl rfl (by decide) (g := gs__law_pick) fun cdv A outer s H E z hr => ?_
  exact (s_one (s_ret (r_ix ix_seq w_ix (r_lf (q_var 1)) (r_row 0 c__law_taken hr (by decide) (by rfl) (r_lfs (q_cons (q_callB call_len w_len (by rfl) T.bl_len bt_len (q_cons (q_var 1) q_nil)) q_nil))))))
abbrev st__law_alike : Stmt := top 31
def gs__law_alike (mr : List D → Option D) : Gs :=
  (gSeq (gIf (lfb (bT (cIsi2 .tuple .list (cVar 1))))
  (gSeq (gIf (lfb (bOr (bNot (bT (cIsi2 .tuple .list (cVar 0)))) (bV (c2 oNe (cIsi .list (cVar 0)) (cIsi .list (cVar 1))))))
  (gRet (lf (cK (.bool false))))
  gNx)
  (gSeq (gIf (lfb (bV (c2 oNe (cN oLen (cCons (cVar 0) cNil)) (cN oLen (cCons (cVar 1) cNil)))))
  (gRet (lf (cK (.bool false))))
  gNx)
  (gRet (lf (c2 oEq (cLc [2] (iN rg1 (cCons (cN oLen (cCons (cVar 1) cNil)) cNil)) (bNm 2) (bNot (bT (cN mr (cCons (c2 oIx (cVar 0) (cVar 2)) (cCons (c2 oIx (cVar 1) (cVar 2)) cNil))))) (cVar 2)) (cLst cNil))))))
  gNx)
  (gSeq (gIf (lfb (bOr (bV (c2 oIs (cVar 1) (cK .none))) (bT (cIsi .str (cVar 1)))))
  (gRet (lf (cAnd (c2 oEq (cVar 0) (cVar 1)) (c2 oEq (cIsi .str (cVar 0)) (cIsi .str (cVar 1))))))
  gNx)
  (gRet (lf (cAnd (cIsi .int (cVar 0)) (cAnd (c2 oEq (cIsi .bool (cVar 0)) (cIsi .bool (cVar 1))) (c2 oEq (cVar 0) (cVar 1))))))))
def mm__law_alike : Nat → List D → Option D
  | 0 => fun _ => none
  | n + 1 => run 3 2 (gs__law_alike (mm__law_alike n))
theorem sc__law_alike : FnScope ["_law_found", "_law_due", "_law_k"] ["_law_found", "_law_due"] (defScope st__law_alike) := ⟨rfl, rfl, rfl, by decide +kernel, rfl, by decide +kernel, by decide +kernel⟩
theorem ok__law_alike {f : Addr} {fd : FuncData} (F : Fun K "_law_alike" "_law_alike" st__law_alike f fd) (T : Txt mg) (hm : mg "_law_alike" = some (.ref f)) (hb : Binds K fd ["_law_found", "_law_due"] []) : ∀ n, FnOk P w K mg base CX0 (0 + n) f fd ["_law_found", "_law_due"] (spP K (mm__law_alike n))
  | 0 => ok_none
  | n + 1 => by
    have cr : Cal P w K mg base (0 + n) "_law_alike" (spP K (mm__law_alike n)) := ⟨⟨f, fd, _, ok__law_alike F T  hm hb n, hm, F.kp, hb⟩⟩
    have S := sc__law_alike
    refine okP 3 2 F S rfl rfl (g := gs__law_alike (mm__law_alike n)) fun cdv A outer s H E z hr => ?_
    exact (s_cons (s_if (r_lfb (b_val (q_isi2 (q_var 1) (by rfl) T.bl_isinstance bt_isinstance (q_ty .tuple (by rfl) T.bl_tuple bt_tuple) (q_ty .list (by rfl) T.bl_list bt_list))))
  (s_cons (s_if (r_lfb ((b_or (b_not (b_val (q_isi2 (q_var 0) (by rfl) T.bl_isinstance bt_isinstance (q_ty .tuple (by rfl) T.bl_tuple bt_tuple) (q_ty .list (by rfl) T.bl_list bt_list)))) (b_or1 (b_cmp (op_neQ (hu64 hr)) w_ne (q_isi (q_var 0) (by rfl) T.bl_isinstance bt_isinstance (q_ty .list (by rfl) T.bl_list bt_list)) (q_isi (q_var 1) (by rfl) T.bl_isinstance bt_isinstance (q_ty .list (by rfl) T.bl_list bt_list)) (by rfl))))).pt)
  (s_one (s_ret (r_lf q_bl)))
  s_nil)
  (s_cons (s_if (r_lfb (b_cmp (op_neQ (hu64 hr)) w_ne (q_callB call_len w_len (by rfl) T.bl_len bt_len (q_cons (q_var 0) q_nil)) (q_callB call_len w_len (by rfl) T.bl_len bt_len (q_cons (q_var 1) q_nil)) (by rfl)))
  (s_one (s_ret (r_lf q_bl)))
  s_nil)
  (s_one (s_ret (r_lf (q_cmp (op_eqQ (hu64 hr)) w_eq (q_lc rfl S.nd (blkOk_by (own := [("_law_k", 2)]) (by kernel_rfl)) (i_range1 (by rfl) T.bl_range (q_cons (q_callB call_len w_len (by rfl) T.bl_len bt_len (q_cons (q_var 1) q_nil)) q_nil)) (fun _ _ _ _ _ => (g_nm 2 S.nd)) (fun _ _ _ _ _ => (t_one (b_not (b_val (q_call cr hr (Nat.le_refl _) (by rfl) (q_cons (q_ix ix_seq w_ix (q_var 0) (q_var 2)) (q_cons (q_ix ix_seq w_ix (q_var 1) (q_var 2)) q_nil))))))) (fun _ _ _ _ _ => (q_var 2))) (q_lst q_nil) (by rfl)))))))
  s_nil)
  (s_cons (s_if (r_lfb ((b_or (b_cmp op_isA w_is (q_var 1) q_non (by rfl)) (b_or1 (b_val (q_isi (q_var 1) (by rfl) T.bl_isinstance bt_isinstance (q_ty .str (by rfl) T.bl_str bt_str)))))).pt)
  (s_one (s_ret (r_lf (q_and (q_cmp (op_eqQ (hu64 hr)) w_eq (q_var 0) (q_var 1) (by rfl)) (q_one (q_cmp (op_eqQ (hu64 hr)) w_eq (q_isi (q_var 0) (by rfl) T.bl_isinstance bt_isinstance (q_ty .str (by rfl) T.bl_str bt_str)) (q_isi (q_var 1) (by rfl) T.bl_isinstance bt_isinstance (q_ty .str (by rfl) T.bl_str bt_str)) (by rfl)))))))
  s_nil)
  (s_one (s_ret (r_lf (q_and (q_isi (q_var 0) (by rfl) T.bl_isinstance bt_isinstance (q_ty .int (by rfl) T.bl_int bt_int)) (q_and (q_cmp (op_eqQ (hu64 hr)) w_eq (q_isi (q_var 0) (by rfl) T.bl_isinstance bt_isinstance (q_ty .bool (by rfl) T.bl_bool bt_bool)) (q_isi (q_var 1) (by rfl) T.bl_isinstance bt_isinstance (q_ty .bool (by rfl) T.bl_bool bt_bool)) (by rfl)) (q_one (q_cmp (op_eqQ (hu64 hr)) w_eq (q_var 0) (q_var 1) (by rfl))))))))))
abbrev st__law_bad_webs : Stmt := top 32
def gs__law_bad_webs : Gs :=
  (gSeq (gAsg (lf (cTup (cCons (cK (.int 0)) (cCons (cK (.int 1)) (cCons (cK (.int 1)) cNil))))) (bNm 0))
  (gSeq (gAsg (lf (cLst (cCons (cTup (cCons (cK .none) (cCons (cK .none) cNil))) (cCons (cTup (cCons (cTup cNil) (cCons (cK .none) cNil))) (cCons (cTup (cCons (cTup (cCons (cTup (cCons (cK (.int 1)) (cCons (cK (.int 1)) cNil))) cNil)) (cCons (cK .none) cNil))) (cCons (cTup (cCons (cLst (cCons (cTup (cCons (cK (.int 1)) (cCons (cK (.int 1)) cNil))) (cCons (cTup (cCons (cVar 0) cNil)) cNil))) (cCons (cK .none) cNil))) (cCons (cTup (cCons (cTup (cCons (cTup (cCons (cK (.int 1)) (cCons (cK (.int 1)) cNil))) (cCons (cLst (cCons (cVar 0) cNil)) cNil))) (cCons (cK .none) cNil))) cNil))))))) (bNm 1))
  (gSeq (gAsg (lf (c2 oAdd (cVar 1) (cLst (cCons (cTup (cCons (cTup (cCons (cTup (cCons (cK (.int 0)) (cCons (cK (.int 0)) cNil))) (cCons (cTup (cCons (cVar 0) cNil)) cNil))) (cCons (cK .none) cNil))) cNil)))) (bNm 1))
  (gSeq (gAsg (lf (c2 oAdd (cVar 1) (cLst (cCons (cTup (cCons (cTup (cCons (cTup (cCons (cK (.int 1)) cNil)) (cCons (cTup cNil) cNil))) (cCons (cK .none) cNil))) (cCons (cTup (cCons (cTup (cCons (c2 oMul (cTup (cCons (cK (.int 1)) cNil)) (cK (.int 9))) (cCons (cTup (cCons (cVar 0) cNil)) cNil))) (cCons (cK .none) cNil))) (cCons (cTup (cCons (cTup (cCons (cTup (cCons (cK (.int 1)) (cCons (cK (.int 101)) cNil))) (cCons (cTup (cCons (cVar 0) cNil)) cNil))) (cCons (cK .none) cNil))) cNil)))))) (bNm 1))
  (gSeq (gAsg (lf (c2 oAdd (cVar 1) (cLst (cCons (cTup (cCons (cTup (cCons (cTup (cCons (cK (.int 1)) (cCons (c1 oNeg (cK (.int 1))) cNil))) (cCons (cTup (cCons (cVar 0) cNil)) cNil))) (cCons (cK .none) cNil))) (cCons (cTup (cCons cDic (cCons (cK .none) cNil))) cNil))))) (bNm 1))
  (gSeq (gAsg (lf (c2 oAdd (cVar 1) (cLst (cCons (cTup (cCons (cTup (cCons (cTup (cCons (cK (.bool true)) (cCons (cK (.int 1)) cNil))) (cCons (cTup (cCons (cVar 0) cNil)) cNil))) (cCons (cK .none) cNil))) (cCons (cTup (cCons (cTup (cCons (cTup (cCons (cK (.int 1)) (cCons (cK (.int 1)) (cCons (cK (.int 1)) cNil)))) (cCons (cTup (cCons (cVar 0) cNil)) cNil))) (cCons (cK .none) cNil))) (cCons (cTup (cCons (cTup (cCons (cTup (cCons (cK (.int 1)) (cCons (cK (.int 1)) cNil))) (cCons (cTup cNil) cNil))) (cCons (cK .none) cNil))) cNil)))))) (bNm 1))
  (gSeq (gAsg (lf (c2 oAdd (cVar 1) (cLst (cCons (cTup (cCons (cTup (cCons (cTup (cCons (cK (.int 1)) (cCons (cK (.int 1)) cNil))) (cCons (cTup (cCons (cVar 0) cNil)) (cCons (cK (.int 0)) cNil)))) (cCons (cK .none) cNil))) (cCons (cTup (cCons (cK (.int 0)) (cCons (cK .none) cNil))) cNil))))) (bNm 1))
  (gSeq (gAsg (lf (c2 oAdd (cVar 1) (cLst (cCons (cTup (cCons (cTup (cCons (cTup (cCons (cK (.int 1)) (cCons (cK (.int 1)) cNil))) (cCons (cTup (cCons (cVar 0) (cCons (cVar 0) cNil))) cNil))) (cCons (cK (.int 1)) cNil))) (cCons (cTup (cCons (cTup (cCons (cTup (cCons (cK (.int 1)) (cCons (cK (.int 1)) cNil))) (cCons (cTup (cCons (cTup (cCons (cK (.int 1)) (cCons (cK (.int 0)) (cCons (cK (.int 1)) cNil)))) cNil)) cNil))) (cCons (cK (.int 0)) cNil))) (cCons (cTup (cCons (cTup (cCons (cTup (cCons (cK (.int 1)) (cCons (cK (.int 1)) cNil))) (cCons (cTup (cCons (cTup (cCons (cK (.int 0)) (cCons (cK (.int 0)) (cCons (cK (.int 1)) cNil)))) cNil)) cNil))) (cCons (cK (.int 0)) cNil))) cNil)))))) (bNm 1))
  (gSeq (gAsg (lf (c2 oAdd (cVar 1) (cLst (cCons (cTup (cCons (cTup (cCons (cTup (cCons (cK (.int 1)) (cCons (cK (.int 1)) cNil))) (cCons (cTup (cCons (cTup (cCons (cK (.int 0)) (cCons (cK (.int 2)) (cCons (cK (.int 1)) cNil)))) cNil)) cNil))) (cCons (cK (.int 0)) cNil))) cNil)))) (bNm 1))
  (gSeq (gAsg (lf (c2 oAdd (cVar 1) (cLst (cCons (cTup (cCons (cTup (cCons (cTup (cCons (cK (.int 1)) (cCons (cK (.int 1)) cNil))) (cCons (cTup (cCons (cTup (cCons (cK (.int 0)) (cCons (cK (.int 1)) (cCons (cK (.int 0)) cNil)))) cNil)) cNil))) (cCons (cK (.int 0)) cNil))) (cCons (cTup (cCons (cTup (cCons (cTup (cCons (cK (.int 1)) (cCons (cK (.int 1)) cNil))) (cCons (cTup (cCons (cTup (cCons (cK (.int 0)) (cCons (cK (.int 1)) (cCons (cK (.int 101)) cNil)))) cNil)) cNil))) (cCons (cK (.int 0)) cNil))) (cCons (cTup (cCons (cTup (cCons (cTup (cCons (cK (.int 1)) (cCons (cK (.int 1)) cNil))) (cCons (cTup (cCons (cTup (cCons (cK (.int 0)) (cCons (cK (.int 1)) cNil))) cNil)) cNil))) (cCons (cK (.int 0)) cNil))) cNil)))))) (bNm 1))
  (gSeq (gAsg (lf (c2 oAdd (cVar 1) (cLst (cCons (cTup (cCons (cTup (cCons (cTup (cCons (cK (.int 1)) (cCons (cK (.int 1)) (cCons (cK (.int 1)) cNil)))) (cCons (cTup (cCons (cVar 0) (cCons (cTup (cCons (cK (.int 0)) (cCons (cK (.int 2)) (cCons (cK (.bool true)) cNil)))) cNil))) cNil))) (cCons (cK (.int 1)) cNil))) cNil)))) (bNm 1))
  (gRet (lf (c2 oAdd (cVar 1) (cLst (cCons (cTup (cCons (cTup (cCons (cTup (cCons (cK (.int 1)) (cCons (cK (.int 1)) cNil))) (cCons (cTup (cCons (cLst (cCons (cK (.int 0)) (cCons (cK (.int 1)) (cCons (cK (.int 1)) cNil)))) cNil)) cNil))) (cCons (cK (.int 0)) cNil))) (cCons (cTup (cCons (cTup (cCons (cTup (cCons (cK (.int 1)) (cCons (cK (.int 1)) cNil))) (cCons (cTup (cCons (cK .none) cNil)) cNil))) (cCons (cK (.int 0)) cNil))) (cCons (cTup (cCons (cTup (cCons (cTup (cCons (cK (.int 1)) (cCons (cK (.int 1)) cNil))) (cCons (cTup (cCons (cTup (cCons (cK (.int 0)) (cCons (cK (.str "1")) (cCons (cK (.int 1)) cNil)))) cNil)) cNil))) (cCons (cK (.int 0)) cNil))) (cCons (cTup (cCons (cTup (cCons (cTup (cCons (cK (.int 1)) (cCons (cK (.int 1)) cNil))) (cCons (c2 oMul (cTup (cCons (cVar 0) cNil)) (cK (.int 15))) cNil))) (cCons (cK .none) cNil))) cNil)))))))))))))))))))
def mm__law_bad_webs := run 2 0 gs__law_bad_webs
theorem sc__law_bad_webs : FnScope ["_law_road", "_law_some"] [] (defScope st__law_bad_webs) := ⟨rfl, rfl, rfl, by decide +kernel, rfl, by decide +kernel, by decide +kernel⟩
theorem ok__law_bad_webs {f : Addr} {fd : FuncData} (F : Fun K "_law_bad_webs" "_law_bad_webs" st__law_bad_webs f fd) (T : Txt mg) : FnOk P w K mg base CX0 1 f fd [] (spP K mm__law_bad_webs) := by
  have S := sc__law_bad_webs
  refine okP 2 0 F S rfl rfl (g := gs__law_bad_webs) fun cdv A outer s H E z hr => ?_
  exact (s_cons (s_set 0 S.nd (r_lf (q_tup (q_cons q_int (q_cons q_int (q_cons q_int q_nil))))))
  (s_cons (s_set 1 S.nd (r_lf (q_lst (q_cons (q_tup (q_cons q_non (q_cons q_non q_nil))) (q_cons (q_tup (q_cons (q_tup q_nil) (q_cons q_non q_nil))) (q_cons (q_tup (q_cons (q_tup (q_cons (q_tup (q_cons q_int (q_cons q_int q_nil))) q_nil)) (q_cons q_non q_nil))) (q_cons (q_tup (q_cons (q_lst (q_cons (q_tup (q_cons q_int (q_cons q_int q_nil))) (q_cons (q_tup (q_cons (q_var 0) q_nil)) q_nil))) (q_cons q_non q_nil))) (q_cons (q_tup (q_cons (q_tup (q_cons (q_tup (q_cons q_int (q_cons q_int q_nil))) (q_cons (q_lst (q_cons (q_var 0) q_nil)) q_nil))) (q_cons q_non q_nil))) q_nil))))))))
  (s_cons (s_set 1 S.nd (r_lf (q_op op_addA w_add (q_var 1) (q_lst (q_cons (q_tup (q_cons (q_tup (q_cons (q_tup (q_cons q_int (q_cons q_int q_nil))) (q_cons (q_tup (q_cons (q_var 0) q_nil)) q_nil))) (q_cons q_non q_nil))) q_nil)))))
  (s_cons (s_set 1 S.nd (r_lf (q_op op_addA w_add (q_var 1) (q_lst (q_cons (q_tup (q_cons (q_tup (q_cons (q_tup (q_cons q_int q_nil)) (q_cons (q_tup q_nil) q_nil))) (q_cons q_non q_nil))) (q_cons (q_tup (q_cons (q_tup (q_cons (q_op op_mulA w_mul (q_tup (q_cons q_int q_nil)) q_int) (q_cons (q_tup (q_cons (q_var 0) q_nil)) q_nil))) (q_cons q_non q_nil))) (q_cons (q_tup (q_cons (q_tup (q_cons (q_tup (q_cons q_int (q_cons q_int q_nil))) (q_cons (q_tup (q_cons (q_var 0) q_nil)) q_nil))) (q_cons q_non q_nil))) q_nil)))))))
  (s_cons (s_set 1 S.nd (r_lf (q_op op_addA w_add (q_var 1) (q_lst (q_cons (q_tup (q_cons (q_tup (q_cons (q_tup (q_cons q_int (q_cons (q_un un_neg w_neg q_int) q_nil))) (q_cons (q_tup (q_cons (q_var 0) q_nil)) q_nil))) (q_cons q_non q_nil))) (q_cons (q_tup (q_cons q_dic (q_cons q_non q_nil))) q_nil))))))
  (s_cons (s_set 1 S.nd (r_lf (q_op op_addA w_add (q_var 1) (q_lst (q_cons (q_tup (q_cons (q_tup (q_cons (q_tup (q_cons q_bl (q_cons q_int q_nil))) (q_cons (q_tup (q_cons (q_var 0) q_nil)) q_nil))) (q_cons q_non q_nil))) (q_cons (q_tup (q_cons (q_tup (q_cons (q_tup (q_cons q_int (q_cons q_int (q_cons q_int q_nil)))) (q_cons (q_tup (q_cons (q_var 0) q_nil)) q_nil))) (q_cons q_non q_nil))) (q_cons (q_tup (q_cons (q_tup (q_cons (q_tup (q_cons q_int (q_cons q_int q_nil))) (q_cons (q_tup q_nil) q_nil))) (q_cons q_non q_nil))) q_nil)))))))
  (s_cons (s_set 1 S.nd (r_lf (q_op op_addA w_add (q_var 1) (q_lst (q_cons (q_tup (q_cons (q_tup (q_cons (q_tup (q_cons q_int (q_cons q_int q_nil))) (q_cons (q_tup (q_cons (q_var 0) q_nil)) (q_cons q_int q_nil)))) (q_cons q_non q_nil))) (q_cons (q_tup (q_cons q_int (q_cons q_non q_nil))) q_nil))))))
  (s_cons (s_set 1 S.nd (r_lf (q_op op_addA w_add (q_var 1) (q_lst (q_cons (q_tup (q_cons (q_tup (q_cons (q_tup (q_cons q_int (q_cons q_int q_nil))) (q_cons (q_tup (q_cons (q_var 0) (q_cons (q_var 0) q_nil))) q_nil))) (q_cons q_int q_nil))) (q_cons (q_tup (q_cons (q_tup (q_cons (q_tup (q_cons q_int (q_cons q_int q_nil))) (q_cons (q_tup (q_cons (q_tup (q_cons q_int (q_cons q_int (q_cons q_int q_nil)))) q_nil)) q_nil))) (q_cons q_int q_nil))) (q_cons (q_tup (q_cons (q_tup (q_cons (q_tup (q_cons q_int (q_cons q_int q_nil))) (q_cons (q_tup (q_cons (q_tup (q_cons q_int (q_cons q_int (q_cons q_int q_nil)))) q_nil)) q_nil))) (q_cons q_int q_nil))) q_nil)))))))
  (s_cons (s_set 1 S.nd (r_lf (q_op op_addA w_add (q_var 1) (q_lst (q_cons (q_tup (q_cons (q_tup (q_cons (q_tup (q_cons q_int (q_cons q_int q_nil))) (q_cons (q_tup (q_cons (q_tup (q_cons q_int (q_cons q_int (q_cons q_int q_nil)))) q_nil)) q_nil))) (q_cons q_int q_nil))) q_nil)))))
  (s_cons (s_set 1 S.nd (r_lf (q_op op_addA w_add (q_var 1) (q_lst (q_cons (q_tup (q_cons (q_tup (q_cons (q_tup (q_cons q_int (q_cons q_int q_nil))) (q_cons (q_tup (q_cons (q_tup (q_cons q_int (q_cons q_int (q_cons q_int q_nil)))) q_nil)) q_nil))) (q_cons q_int q_nil))) (q_cons (q_tup (q_cons (q_tup (q_cons (q_tup (q_cons q_int (q_cons q_int q_nil))) (q_cons (q_tup (q_cons (q_tup (q_cons q_int (q_cons q_int (q_cons q_int q_nil)))) q_nil)) q_nil))) (q_cons q_int q_nil))) (q_cons (q_tup (q_cons (q_tup (q_cons (q_tup (q_cons q_int (q_cons q_int q_nil))) (q_cons (q_tup (q_cons (q_tup (q_cons q_int (q_cons q_int q_nil))) q_nil)) q_nil))) (q_cons q_int q_nil))) q_nil)))))))
  (s_cons (s_set 1 S.nd (r_lf (q_op op_addA w_add (q_var 1) (q_lst (q_cons (q_tup (q_cons (q_tup (q_cons (q_tup (q_cons q_int (q_cons q_int (q_cons q_int q_nil)))) (q_cons (q_tup (q_cons (q_var 0) (q_cons (q_tup (q_cons q_int (q_cons q_int (q_cons q_bl q_nil)))) q_nil))) q_nil))) (q_cons q_int q_nil))) q_nil)))))
  (s_one (s_ret (r_lf (q_op op_addA w_add (q_var 1) (q_lst (q_cons (q_tup (q_cons (q_tup (q_cons (q_tup (q_cons q_int (q_cons q_int q_nil))) (q_cons (q_tup (q_cons (q_lst (q_cons q_int (q_cons q_int (q_cons q_int q_nil)))) q_nil)) q_nil))) (q_cons q_int q_nil))) (q_cons (q_tup (q_cons (q_tup (q_cons (q_tup (q_cons q_int (q_cons q_int q_nil))) (q_cons (q_tup (q_cons q_non q_nil)) q_nil))) (q_cons q_int q_nil))) (q_cons (q_tup (q_cons (q_tup (q_cons (q_tup (q_cons q_int (q_cons q_int q_nil))) (q_cons (q_tup (q_cons (q_tup (q_cons q_int (q_cons q_str (q_cons q_int q_nil)))) q_nil)) q_nil))) (q_cons q_int q_nil))) (q_cons (q_tup (q_cons (q_tup (q_cons (q_tup (q_cons q_int (q_cons q_int q_nil))) (q_cons (q_op op_mulA w_mul (q_tup (q_cons (q_var 0) q_nil)) q_int) q_nil))) (q_cons q_non q_nil))) q_nil))))))))))))))))))))
abbrev st_whole : Stmt := top 26
def gs_whole : Gs :=
  (gSeq (gIf (lfb (bOr (bNot (bV (cChain oLe oLe (cK (.int 1)) (cN oLen (cCons (cVar 0) cNil)) (cK (.int 3))))) (bV (c2 oNe (cLc [1] (iT (cVar 0)) (bNm 1) (bV (c2 oNinS (cVar 1) (cK (.str "0123456789")))) (cVar 1)) (cLst cNil)))))
  (gRet (lf (cK .none)))
  gNx)
  (gRet (lf (cIf (bAnd (bV (c2 oGt (cN oLen (cCons (cVar 0) cNil)) (cK (.int 1)))) (bV (c2 oEq (c2 oIx (cVar 0) (cK (.int 0))) (cK (.str "0"))))) (cK .none) (cN oIntS (cCons (cVar 0) cNil))))))
def mm_whole := run 2 1 gs_whole
theorem sc_whole : FnScope ["word", "sign"] ["word"] (defScope st_whole) := ⟨rfl, rfl, rfl, by decide +kernel, rfl, by decide +kernel, by decide +kernel⟩
theorem ok_whole {f : Addr} {fd : FuncData} (F : Fun K "whole" "whole" st_whole f fd) (T : Txt mg) : FnOk P w K mg base CX0 1 f fd ["word"] (spP K mm_whole) := by
  have S := sc_whole
  refine okP 2 1 F S rfl rfl (g := gs_whole) fun cdv A outer s H E z hr => ?_
  exact (s_cons (s_if (r_lfb ((b_or (b_not (b_chain (op_leD (hu64 hr)) w_le (op_leD (hu64 hr)) w_le q_int (q_callB call_len w_len (by rfl) T.bl_len bt_len (q_cons (q_var 0) q_nil)) q_int)) (b_or1 (b_cmp (op_neQ (hu64 hr)) w_ne (q_lc rfl S.nd (blkOk_by (own := [("sign", 1)]) (by kernel_rfl)) (i_str (q_var 0)) (fun _ _ _ _ _ => (g_nm 1 S.nd)) (fun _ _ _ _ _ => (t_one (b_cmp op_notIn_sign w_ninS (q_var 1) (q_globStr (by rfl) T.gl_DIGITS) (by rfl)))) (fun _ _ _ _ _ => (q_var 1))) (q_lst q_nil) (by rfl))))).pt)
  (s_one (s_ret (r_lf q_non)))
  s_nil)
  (s_one (s_ret (r_lf (q_if ((b_and (b_cmp (op_gtD (hu64 hr)) w_gt (q_callB call_len w_len (by rfl) T.bl_len bt_len (q_cons (q_var 0) q_nil)) q_int (by rfl)) (b_and1 (b_cmp (op_eqQ (hu64 hr)) w_eq (q_ix ix_seq w_ix (q_var 0) q_int) q_str (by rfl))))).pt q_non (q_callTy call_int_str w_intS (by rfl) T.bl_int bt_int (q_cons (q_var 0) q_nil)))))))
abbrev st_Town_number : Stmt := inClass (top 27) 6
def gs_Town_number : Gs :=
  (gSeq (gIf (lfb (bV (c2 oLe (cN oLen (cCons (cVar 1) cNil)) (cVar 2))))
  gNever
  gNx)
  (gSeq (gAsg (lf (cN mm_whole (cCons (c2 oIx (cVar 1) (cVar 2)) cNil))) (bNm 4))
  (gSeq (gIf (lfb (bOr (bV (c2 oIs (cVar 4) (cK .none))) (bV (c2 oNotIn (cVar 4) (cVar 3)))))
  gNever
  gNx)
  (gRet (lf (cVar 4))))))
def mm_Town_number := runT1 5 4 gs_Town_number
theorem sc_Town_number : FnScope ["self", "words", "at", "allowed", "found"] ["self", "words", "at", "allowed"] (defScope st_Town_number) := ⟨rfl, rfl, rfl, by decide +kernel, rfl, by decide +kernel, by decide +kernel⟩
theorem ok_Town_number (TK : TxK K w mg) {C : Addr} (TC : TxC K C) {f : Addr} {fd : FuncData} (F : Fun K "number" "Town.number" st_Town_number f fd) (T : Txt mg) (c_whole : Cal P w K mg base 1 "whole" (spP K mm_whole)) : FnOk P w K mg base CX0 2 f fd ["self", "words", "at", "allowed"] (spT K mm_Town_number) := by
  have S := sc_Town_number
  refine okT1 5 4 F S rfl rfl (by decide) (g := gs_Town_number) fun cdv A outer s H E z hr => ?_
  exact (s_cons (s_if (r_lfb (b_cmp (op_leD (hu64 hr)) w_le (q_callB call_len w_len (by rfl) T.bl_len bt_len (q_cons (q_var 1) q_nil)) (q_var 2) (by rfl)))
  (s_one s_never)
  s_nil)
  (s_cons (s_set 4 S.nd (r_lf (q_call c_whole hr (by decide) (by rfl) (q_cons (q_ix ix_seq w_ix (q_var 1) (q_var 2)) q_nil))))
  (s_cons (s_if (r_lfb ((b_or (b_cmp op_isA w_is (q_var 4) q_non (by rfl)) (b_or1 (b_cmp (op_notInA (hu65 hr)) w_notIn (q_var 4) (q_var 3) (by rfl))))).pt)
  (s_one s_never)
  s_nil)
  (s_one (s_ret (r_lf (q_var 4)))))))
def gx_Town_number : Gx :=
  (xSeq (xIf (lfb (bV (c2 oLe (cN oLen (cCons (cVar 1) cNil)) (cVar 2))))
  (xRaise1 "InvalidLine" "word" (lf (c2 oAdd (cVar 2) (cK (.int 1)))))
  (xF gNx))
  (xSeq (xF (gAsg (lf (cN mm_whole (cCons (c2 oIx (cVar 1) (cVar 2)) cNil))) (bNm 4)))
  (xSeq (xIf (lfb (bOr (bV (c2 oIs (cVar 4) (cK .none))) (bV (c2 oNotIn (cVar 4) (cVar 3)))))
  (xRaise1 "InvalidLine" "word" (lf (c2 oAdd (cVar 2) (cK (.int 1)))))
  (xF gNx))
  (xF (gRet (lf (cVar 4)))))))
def mx_Town_number := runMX 5 4 gx_Town_number
theorem okE_Town_number (TK : TxK K w mg) {C : Addr} (TC : TxC K C) {f : Addr} {fd : FuncData} (F : Fun K "number" "Town.number" st_Town_number f fd) (T : Txt mg) {AH : Addr} (TE : TxE P K mg AH) (c_whole : Cal P w K mg base 1 "whole" (spP K mm_whole)) : FnOk P w K mg base (L2.CX P w) 2 f fd ["self", "words", "at", "allowed"] (spMX K mg C mx_Town_number) := by
  have S := sc_Town_number
  refine okMX (c := C) 5 4 F S rfl rfl (by decide) (g := gx_Town_number) fun cdv A outer s H E z hz hr => ?_
  have tk : Takes (cxOf (L2.CX P w) P w K mg base ["self", "words", "at", "allowed", "found"] "Town.number" (defScope st_Town_number) f cdv A outer s H E) (fun cls d _ H => E cls d H) := takes_of rfl rfl rfl rfl
  exact (x_cons (x_if (r_lfb (b_cmp (op_leD (hu64 hr)) w_le (q_callB call_len w_len (by rfl) T.bl_len bt_len (q_cons (q_var 1) q_nil)) (q_var 2) (by rfl)))
  (x_one (x_raiseS rfl tk TE.e_InvalidLine hr (by rfl) (r_lf (q_op op_addA w_add (q_var 2) q_int))))
  (xs_of s_nil))
  (x_cons (x_of (s_set 4 S.nd (r_lf (q_call c_whole hr (by decide) (by rfl) (q_cons (q_ix ix_seq w_ix (q_var 1) (q_var 2)) q_nil)))))
  (x_cons (x_if (r_lfb ((b_or (b_cmp op_isA w_is (q_var 4) q_non (by rfl)) (b_or1 (b_cmp (op_notInA (hu65 hr)) w_notIn (q_var 4) (q_var 3) (by rfl))))).pt)
  (x_one (x_raiseS rfl tk TE.e_InvalidLine hr (by rfl) (r_lf (q_op op_addA w_add (q_var 2) q_int))))
  (xs_of s_nil))
  (xs_of (s_one (s_ret (r_lf (q_var 4))))))))
abbrev st_Town_after : Stmt := inClass (top 27) 7
def gs_Town_after : Gs :=
  (gSeq (gAsg (lf (cFld 0 "state")) (bTp 2 (bCons (bNm 2) (bCons (bNm 3) bNil))))
  (gSeq (gAsg (lf (cListRg (cRg1 (cN oLen (cCons (c2 oIx (cVar 2) (cK (.int 0))) cNil))))) (bNm 4))
  (gSeq (gIf (lfb (bV (c2 oEq (c2 oIx (cVar 1) (cK (.int 0))) (cK (.str "open")))))
  (gSeq (gAsg (lf (cMethT 0 "number" mm_Town_number (cCons (cVar 1) (cCons (cK (.int 1)) (cCons (cLc [8] (iS (cVar 4)) (bNm 8) (bV (c2 oNotIn (cVar 8) (cVar 3))) (cVar 8)) cNil))))) (bNm 5))
  (gRet (lf (cTup (cCons (cVar 2) (cCons (cN oTuple (cCons (cN oSortedA (cCons (c2 oAdd (cVar 3) (cTup (cCons (cVar 5) cNil))) cNil)) cNil)) cNil))))))
  gNx)
  (gSeq (gIf (lfb (bV (c2 oEq (c2 oIx (cVar 1) (cK (.int 0))) (cK (.str "close")))))
  (gSeq (gAsg (lf (cMethT 0 "number" mm_Town_number (cCons (cVar 1) (cCons (cK (.int 1)) (cCons (cN oList (cCons (cVar 3) cNil)) cNil))))) (bNm 5))
  (gRet (lf (cTup (cCons (cVar 2) (cCons (cN oTuple (cCons (cLc [8] (iS (cVar 3)) (bNm 8) (bV (c2 oNe (cVar 8) (cVar 5))) (cVar 8)) cNil)) cNil))))))
  gNx)
  (gSeq (gAsg (lf (cMethT 0 "number" mm_Town_number (cCons (cVar 1) (cCons (cK (.int 1)) (cCons (cVar 4) cNil))))) (bNm 5))
  (gSeq (gAsg (lf (cMethT 0 "number" mm_Town_number (cCons (cVar 1) (cCons (cK (.int 2)) (cCons (cListRg (cRg1 (c2 oAdd (cK (.int 100)) (cK (.int 1))))) cNil))))) (bNm 6))
  (gSeq (gAsg (lf (c2 oAdd (c2 oAdd (cSl (c2 oIx (cVar 2) (cK (.int 0))) cNoPart (cPart (cVar 5))) (cTup (cCons (cVar 6) cNil))) (cSl (c2 oIx (cVar 2) (cK (.int 0))) (cPart (c2 oAdd (cVar 5) (cK (.int 1)))) cNoPart))) (bNm 7))
  (gSeq (gIf (lfb (bV (c2 oEq (cN oSum (cCons (cVar 7) cNil)) (cK (.int 0)))))
  gNever
  gNx)
  (gRet (lf (cTup (cCons (cTup (cCons (cVar 7) (cCons (c2 oIx (cVar 2) (cK (.int 1))) cNil))) (cCons (cVar 3) cNil)))))))))))))
def mm_Town_after := runM 9 2 gs_Town_after
theorem sc_Town_after : FnScope ["self", "words", "web", "houses", "points", "k", "weight", "weights", "x"] ["self", "words"] (defScope st_Town_after) := ⟨rfl, rfl, rfl, by decide +kernel, rfl, by decide +kernel, by decide +kernel⟩
theorem ok_Town_after (TK : TxK K w mg) {C : Addr} (TC : TxC K C) {f : Addr} {fd : FuncData} (F : Fun K "after" "Town.after" st_Town_after f fd) (T : Txt mg) (m_number : CalM P w K mg base 2 C "number" (spT K mm_Town_number)) : FnOk P w K mg base CX0 3 f fd ["self", "words"] (spM K C mm_Town_after) := by
  have S := sc_Town_after
  refine okM (c := C) 9 2 F S rfl rfl (by decide) (g := gs_Town_after) fun cdv A outer s H E z hz hr => ?_
  exact (s_cons (s_asg (r_lf (q_fld 0)) (g_tup rfl (g_cons (g_nm 2 S.nd) (g_cons (g_nm 3 S.nd) g_nil))))
  (s_cons (s_set 4 S.nd (r_lf (q_listRg rfl (by rfl) T.bl_list (q_rg1 (by rfl) T.bl_range (q_callB call_len w_len (by rfl) T.bl_len bt_len (q_cons (q_ix ix_seq w_ix (q_var 2) q_int) q_nil))))))
  (s_cons (s_if (r_lfb (b_cmp (op_eqQ (hu64 hr)) w_eq (q_ix ix_seq w_ix (q_var 1) q_int) q_str (by rfl)))
  (s_cons (s_set 5 S.nd (r_lf (q_methT 0 hz m_number hr (by decide) (q_cons (q_var 1) (q_cons q_int (q_cons (q_lc rfl S.nd (blkOk_by (own := [("x", 8)]) (by kernel_rfl)) (i_seq (q_var 4)) (fun _ _ _ _ _ => (g_nm 8 S.nd)) (fun _ _ _ _ _ => (t_one (b_cmp (op_notInA (hu65 hr)) w_notIn (q_var 8) (q_var 3) (by rfl)))) (fun _ _ _ _ _ => (q_var 8))) q_nil))))))
  (s_one (s_ret (r_lf (q_tup (q_cons (q_var 2) (q_cons (q_callTy call_tuple_of w_tuple (by rfl) T.bl_tuple bt_tuple (q_cons (q_callB (cr_sortedA (hu64 hr)) w_sortedA (by rfl) T.bl_sorted bt_sorted (q_cons (q_op op_addA w_add (q_var 3) (q_tup (q_cons (q_var 5) q_nil))) q_nil)) q_nil)) q_nil)))))))
  s_nil)
  (s_cons (s_if (r_lfb (b_cmp (op_eqQ (hu64 hr)) w_eq (q_ix ix_seq w_ix (q_var 1) q_int) q_str (by rfl)))
  (s_cons (s_set 5 S.nd (r_lf (q_methT 0 hz m_number hr (by decide) (q_cons (q_var 1) (q_cons q_int (q_cons (q_callTy call_list_of w_list (by rfl) T.bl_list bt_list (q_cons (q_var 3) q_nil)) q_nil))))))
  (s_one (s_ret (r_lf (q_tup (q_cons (q_var 2) (q_cons (q_callTy call_tuple_of w_tuple (by rfl) T.bl_tuple bt_tuple (q_cons (q_lc rfl S.nd (blkOk_by (own := [("x", 8)]) (by kernel_rfl)) (i_seq (q_var 3)) (fun _ _ _ _ _ => (g_nm 8 S.nd)) (fun _ _ _ _ _ => (t_one (b_cmp (op_neQ (hu64 hr)) w_ne (q_var 8) (q_var 5) (by rfl)))) (fun _ _ _ _ _ => (q_var 8))) q_nil)) q_nil)))))))
  s_nil)
  (s_cons (s_set 5 S.nd (r_lf (q_methT 0 hz m_number hr (by decide) (q_cons (q_var 1) (q_cons q_int (q_cons (q_var 4) q_nil))))))
  (s_cons (s_set 6 S.nd (r_lf (q_methT 0 hz m_number hr (by decide) (q_cons (q_var 1) (q_cons q_int (q_cons (q_listRg rfl (by rfl) T.bl_list (q_rg1 (by rfl) T.bl_range (q_op op_addA w_add (q_glob (by rfl) T.gl_MOST_WEIGHT) q_int))) q_nil))))))
  (s_cons (s_set 7 S.nd (r_lf (q_op op_addA w_add (q_op op_addA w_add (q_slice (q_ix ix_seq w_ix (q_var 2) q_int) q_nopart (q_part (q_var 5))) (q_tup (q_cons (q_var 6) q_nil))) (q_slice (q_ix ix_seq w_ix (q_var 2) q_int) (q_part (q_op op_addA w_add (q_var 5) q_int)) q_nopart))))
  (s_cons (s_if (r_lfb (b_cmp (op_eqQ (hu64 hr)) w_eq (q_callB (cr_sumA rfl) w_sum (by rfl) T.bl_sum bt_sum (q_cons (q_var 7) q_nil)) q_int (by rfl)))
  (s_one s_never)
  s_nil)
  (s_one (s_ret (r_lf (q_tup (q_cons (q_tup (q_cons (q_var 7) (q_cons (q_ix ix_seq w_ix (q_var 2) q_int) q_nil))) (q_cons (q_var 3) q_nil))))))))))))))
def gx_Town_after : Gx :=
  (xSeq (xF (gAsg (lf (cFld 0 "state")) (bTp 2 (bCons (bNm 2) (bCons (bNm 3) bNil)))))
  (xSeq (xF (gAsg (lf (cListRg (cRg1 (cN oLen (cCons (c2 oIx (cVar 2) (cK (.int 0))) cNil))))) (bNm 4)))
  (xSeq (xIf (lfb (bV (c2 oEq (c2 oIx (cVar 1) (cK (.int 0))) (cK (.str "open")))))
  (xSeq (xAsg (eMeth 0 "number" mx_Town_number (cCons (cVar 1) (cCons (cK (.int 1)) (cCons (cLc [8] (iS (cVar 4)) (bNm 8) (bV (c2 oNotIn (cVar 8) (cVar 3))) (cVar 8)) cNil)))) (bNm 5))
  (xF (gRet (lf (cTup (cCons (cVar 2) (cCons (cN oTuple (cCons (cN oSortedA (cCons (c2 oAdd (cVar 3) (cTup (cCons (cVar 5) cNil))) cNil)) cNil)) cNil)))))))
  (xF gNx))
  (xSeq (xIf (lfb (bV (c2 oEq (c2 oIx (cVar 1) (cK (.int 0))) (cK (.str "close")))))
  (xSeq (xAsg (eMeth 0 "number" mx_Town_number (cCons (cVar 1) (cCons (cK (.int 1)) (cCons (cN oList (cCons (cVar 3) cNil)) cNil)))) (bNm 5))
  (xF (gRet (lf (cTup (cCons (cVar 2) (cCons (cN oTuple (cCons (cLc [8] (iS (cVar 3)) (bNm 8) (bV (c2 oNe (cVar 8) (cVar 5))) (cVar 8)) cNil)) cNil)))))))
  (xF gNx))
  (xSeq (xAsg (eMeth 0 "number" mx_Town_number (cCons (cVar 1) (cCons (cK (.int 1)) (cCons (cVar 4) cNil)))) (bNm 5))
  (xSeq (xAsg (eMeth 0 "number" mx_Town_number (cCons (cVar 1) (cCons (cK (.int 2)) (cCons (cListRg (cRg1 (c2 oAdd (cK (.int 100)) (cK (.int 1))))) cNil)))) (bNm 6))
  (xSeq (xF (gAsg (lf (c2 oAdd (c2 oAdd (cSl (c2 oIx (cVar 2) (cK (.int 0))) cNoPart (cPart (cVar 5))) (cTup (cCons (cVar 6) cNil))) (cSl (c2 oIx (cVar 2) (cK (.int 0))) (cPart (c2 oAdd (cVar 5) (cK (.int 1)))) cNoPart))) (bNm 7)))
  (xSeq (xIf (lfb (bV (c2 oEq (cN oSum (cCons (cVar 7) cNil)) (cK (.int 0)))))
  (xRaise1 "InvalidLine" "word" (lf (cK (.int 3))))
  (xF gNx))
  (xF (gRet (lf (cTup (cCons (cTup (cCons (cVar 7) (cCons (c2 oIx (cVar 2) (cK (.int 1))) cNil))) (cCons (cVar 3) cNil))))))))))))))
def mx_Town_after := runMX 9 2 gx_Town_after
theorem okE_Town_after (TK : TxK K w mg) {C : Addr} (TC : TxC K C) {f : Addr} {fd : FuncData} (F : Fun K "after" "Town.after" st_Town_after f fd) (T : Txt mg) {AH : Addr} (TE : TxE P K mg AH) (mX_number : CalMX P w K mg base 2 C "number" (spMX K mg C mx_Town_number)) : FnOk P w K mg base (L2.CX P w) 3 f fd ["self", "words"] (spMX K mg C mx_Town_after) := by
  have S := sc_Town_after
  refine okMX (c := C) 9 2 F S rfl rfl (by decide) (g := gx_Town_after) fun cdv A outer s H E z hz hr => ?_
  have tk : Takes (cxOf (L2.CX P w) P w K mg base ["self", "words", "web", "houses", "points", "k", "weight", "weights", "x"] "Town.after" (defScope st_Town_after) f cdv A outer s H E) (fun cls d _ H => E cls d H) := takes_of rfl rfl rfl rfl
  exact (x_cons (x_of (s_asg (r_lf (q_fld 0)) (g_tup rfl (g_cons (g_nm 2 S.nd) (g_cons (g_nm 3 S.nd) g_nil)))))
  (x_cons (x_of (s_set 4 S.nd (r_lf (q_listRg rfl (by rfl) T.bl_list (q_rg1 (by rfl) T.bl_range (q_callB call_len w_len (by rfl) T.bl_len bt_len (q_cons (q_ix ix_seq w_ix (q_var 2) q_int) q_nil)))))))
  (x_cons (x_if (r_lfb (b_cmp (op_eqQ (hu64 hr)) w_eq (q_ix ix_seq w_ix (q_var 1) q_int) q_str (by rfl)))
  (x_cons (x_set 5 S.nd (e_meth 0 tk hz mX_number hr (by decide) (q_cons (q_var 1) (q_cons q_int (q_cons (q_lc rfl S.nd (blkOk_by (own := [("x", 8)]) (by kernel_rfl)) (i_seq (q_var 4)) (fun _ _ _ _ _ => (g_nm 8 S.nd)) (fun _ _ _ _ _ => (t_one (b_cmp (op_notInA (hu65 hr)) w_notIn (q_var 8) (q_var 3) (by rfl)))) (fun _ _ _ _ _ => (q_var 8))) q_nil)))))
  (xs_of (s_one (s_ret (r_lf (q_tup (q_cons (q_var 2) (q_cons (q_callTy call_tuple_of w_tuple (by rfl) T.bl_tuple bt_tuple (q_cons (q_callB (cr_sortedA (hu64 hr)) w_sortedA (by rfl) T.bl_sorted bt_sorted (q_cons (q_op op_addA w_add (q_var 3) (q_tup (q_cons (q_var 5) q_nil))) q_nil)) q_nil)) q_nil))))))))
  (xs_of s_nil))
  (x_cons (x_if (r_lfb (b_cmp (op_eqQ (hu64 hr)) w_eq (q_ix ix_seq w_ix (q_var 1) q_int) q_str (by rfl)))
  (x_cons (x_set 5 S.nd (e_meth 0 tk hz mX_number hr (by decide) (q_cons (q_var 1) (q_cons q_int (q_cons (q_callTy call_list_of w_list (by rfl) T.bl_list bt_list (q_cons (q_var 3) q_nil)) q_nil)))))
  (xs_of (s_one (s_ret (r_lf (q_tup (q_cons (q_var 2) (q_cons (q_callTy call_tuple_of w_tuple (by rfl) T.bl_tuple bt_tuple (q_cons (q_lc rfl S.nd (blkOk_by (own := [("x", 8)]) (by kernel_rfl)) (i_seq (q_var 3)) (fun _ _ _ _ _ => (g_nm 8 S.nd)) (fun _ _ _ _ _ => (t_one (b_cmp (op_neQ (hu64 hr)) w_ne (q_var 8) (q_var 5) (by rfl)))) (fun _ _ _ _ _ => (q_var 8))) q_nil)) q_nil))))))))
  (xs_of s_nil))
  (x_cons (x_set 5 S.nd (e_meth 0 tk hz mX_number hr (by decide) (q_cons (q_var 1) (q_cons q_int (q_cons (q_var 4) q_nil)))))
  (x_cons (x_set 6 S.nd (e_meth 0 tk hz mX_number hr (by decide) (q_cons (q_var 1) (q_cons q_int (q_cons (q_listRg rfl (by rfl) T.bl_list (q_rg1 (by rfl) T.bl_range (q_op op_addA w_add (q_glob (by rfl) T.gl_MOST_WEIGHT) q_int))) q_nil)))))
  (x_cons (x_of (s_set 7 S.nd (r_lf (q_op op_addA w_add (q_op op_addA w_add (q_slice (q_ix ix_seq w_ix (q_var 2) q_int) q_nopart (q_part (q_var 5))) (q_tup (q_cons (q_var 6) q_nil))) (q_slice (q_ix ix_seq w_ix (q_var 2) q_int) (q_part (q_op op_addA w_add (q_var 5) q_int)) q_nopart)))))
  (x_cons (x_if (r_lfb (b_cmp (op_eqQ (hu64 hr)) w_eq (q_callB (cr_sumA rfl) w_sum (by rfl) T.bl_sum bt_sum (q_cons (q_var 7) q_nil)) q_int (by rfl)))
  (x_one (x_raiseS rfl tk TE.e_InvalidLine hr (by rfl) (r_lf q_int)))
  (xs_of s_nil))
  (xs_of (s_one (s_ret (r_lf (q_tup (q_cons (q_tup (q_cons (q_var 7) (q_cons (q_ix ix_seq w_ix (q_var 2) q_int) q_nil))) (q_cons (q_var 3) q_nil)))))))))))))))
abbrev st_table_of : Stmt := top 18
def gs_table_of : Gs :=
  (gSeq (gAsg (lf (cN oLen (cCons (c2 oIx (cVar 0) (cK (.int 0))) cNil))) (bNm 1))
  (gSeq (gAsg (lf (c2 oAdd (cK (.int 1)) (cN oSum (cCons (cLc [4, 5, 6] (iS (c2 oIx (cVar 0) (cK (.int 1)))) (bTp 3 (bCons (bNm 4) (bCons (bNm 5) (bCons (bNm 6) bNil)))) bYes (cVar 6)) cNil)))) (bNm 2))
  (gSeq (gSetW 3 (wLc2 [8] (lfs (iN rg1 (cCons (cVar 1) cNil))) (bNm 8) (wLc [9] (lfs (iN rg1 (cCons (cVar 1) cNil))) (bNm 9) bYesR (lf (cIf (bV (c2 oEq (cVar 8) (cVar 9))) (cK (.int 0)) (cVar 2))))))
  (gSeq (gFor (lfs (iS (c2 oIx (cVar 0) (cK (.int 1))))) (bTp 3 (bCons (bNm 4) (bCons (bNm 5) (bCons (bNm 6) bNil))))
  (gSeq (gSetI2 3 (lf (cVar 6)) (cVar 4) (cVar 5))
  (gSetI2 3 (lf (cVar 6)) (cVar 5) (cVar 4))))
  (gSeq (gFor (lfs (iN rg1 (cCons (cVar 1) cNil))) (bNm 7)
  (gFor (lfs (iN rg1 (cCons (cVar 1) cNil))) (bNm 8)
  (gFor (lfs (iN rg1 (cCons (cVar 1) cNil))) (bNm 9)
  (gSetI2 3 (lf (cN oMin (cCons (cBor (c2 oIx (c2 oIx (cVar 3) (cVar 8)) (cVar 9))) (cCons (c2 oAdd (cBor (c2 oIx (c2 oIx (cVar 3) (cVar 8)) (cVar 7))) (cBor (c2 oIx (c2 oIx (cVar 3) (cVar 7)) (cVar 9)))) cNil)))) (cVar 8) (cVar 9)))))
  (gFz 3 (gRet (lf (cVar 3)))))))))
def mm_table_of := run 10 1 gs_table_of
theorem sc_table_of : FnScope ["web", "count", "far", "rows", "a", "b", "length", "k", "i", "j"] ["web"] (defScope st_table_of) := ⟨rfl, rfl, rfl, by decide +kernel, rfl, by decide +kernel, by decide +kernel⟩
theorem ok_table_of {f : Addr} {fd : FuncData} (F : Fun K "table_of" "table_of" st_table_of f fd) (T : Txt mg) : FnOk P w K mg base CX0 1 f fd ["web"] (spP K mm_table_of) := by
  have S := sc_table_of
  refine okP 10 1 F S rfl rfl (g := gs_table_of) fun cdv A outer s H E z hr => ?_
  exact (s_cons (s_set 1 S.nd (r_lf (q_callB call_len w_len (by rfl) T.bl_len bt_len (q_cons (q_ix ix_seq w_ix (q_var 0) q_int) q_nil))))
  (s_cons (s_set 2 S.nd (r_lf (q_op op_addA w_add q_int (q_callB (cr_sumA rfl) w_sum (by rfl) T.bl_sum bt_sum (q_cons (q_lc rfl S.nd (blkOk_by (own := [("a", 4), ("b", 5), ("length", 6)]) (by kernel_rfl)) (i_seq (q_ix ix_seq w_ix (q_var 0) q_int)) (fun _ _ _ _ _ => (g_tup rfl (g_cons (g_nm 4 S.nd) (g_cons (g_nm 5 S.nd) (g_cons (g_nm 6 S.nd) g_nil))))) (fun _ _ _ _ _ => t_nil) (fun _ _ _ _ _ => (q_var 6))) q_nil)))))
  (s_cons (s_lcW2 3 rfl S.nd (blkOk_by (own := [("i", 8)]) (by kernel_rfl)) (sw_true rfl rfl rfl (by rfl)) (i_lf (i_range1 (by rfl) T.bl_range (q_cons (q_var 1) q_nil))) (fun _ _ _ _ _ => (g_nm 8 S.nd)) (fun _ _ _ _ _ => (w_lc rfl S.nd (blkOk_by (own := [("j", 9)]) (by kernel_rfl)) (i_lf (i_range1 (by rfl) T.bl_range (q_cons (q_var 1) q_nil))) (fun _ _ _ _ _ => (g_nm 9 S.nd)) (fun _ _ _ _ _ => t_nilR) (fun _ _ _ _ _ => (r_lf (q_if (b_cmp (op_eqQ (hu64 hr)) w_eq (q_var 8) (q_var 9) (by rfl)) q_int (q_var 2)))))))
  (s_cons (s_for rfl (i_lf (i_seq (q_ix ix_seq w_ix (q_var 0) q_int))) (g_tup rfl (g_cons (g_nm 4 S.nd) (g_cons (g_nm 5 S.nd) (g_cons (g_nm 6 S.nd) g_nil))))
  (s_cons (s_setI2 3 (r_lf (q_var 6)) (q_var 4) (q_var 5))
  (s_one (s_setI2 3 (r_lf (q_var 6)) (q_var 5) (q_var 4)))) PassesOwn.never)
  (s_cons (s_for rfl (i_lf (i_range1 (by rfl) T.bl_range (q_cons (q_var 1) q_nil))) (g_nm 7 S.nd)
  (s_one (s_for rfl (i_lf (i_range1 (by rfl) T.bl_range (q_cons (q_var 1) q_nil))) (g_nm 8 S.nd)
  (s_one (s_for rfl (i_lf (i_range1 (by rfl) T.bl_range (q_cons (q_var 1) q_nil))) (g_nm 9 S.nd)
  (s_one (s_setI2 3 (r_lf (q_callB (cr_minA rfl (hu64 hr)) w_min (by rfl) T.bl_min bt_min (q_cons (q_bor fun _ => (q_ix ix_seq w_ix (q_ix ix_seq w_ix (q_var 3) (q_var 8)) (q_var 9))) (q_cons (q_op op_addA w_add (q_bor fun _ => (q_ix ix_seq w_ix (q_ix ix_seq w_ix (q_var 3) (q_var 8)) (q_var 7))) (q_bor fun _ => (q_ix ix_seq w_ix (q_ix ix_seq w_ix (q_var 3) (q_var 7)) (q_var 9)))) q_nil)))) (q_var 8) (q_var 9))) PassesOwn.never)) PassesOwn.never)) PassesOwn.never)
  (s_one (s_fz 3 (s_ret (r_lf (q_var 3))))))))))
abbrev st_near_in : Stmt := top 20
def gs_near_in : Gs :=
  (gRet (lf (cLc [2] (iS (cVar 0)) (bNm 2) bYes (cN oMin (cCons (cLc [3] (iS (cVar 1)) (bNm 3) bYes (c2 oIx (cVar 2) (cVar 3))) cNil)))))
def mm_near_in := run 4 2 gs_near_in
theorem sc_near_in : FnScope ["rows", "houses", "row", "x"] ["rows", "houses"] (defScope st_near_in) := ⟨rfl, rfl, rfl, by decide +kernel, rfl, by decide +kernel, by decide +kernel⟩
theorem ok_near_in {f : Addr} {fd : FuncData} (F : Fun K "near_in" "near_in" st_near_in f fd) (T : Txt mg) : FnOk P w K mg base CX0 1 f fd ["rows", "houses"] (spP K mm_near_in) := by
  have S := sc_near_in
  refine okP 4 2 F S rfl rfl (g := gs_near_in) fun cdv A outer s H E z hr => ?_
  exact (s_one (s_ret (r_lf (q_lc rfl S.nd (blkOk_by (own := [("row", 2)]) (by kernel_rfl)) (i_seq (q_var 0)) (fun _ _ _ _ _ => (g_nm 2 S.nd)) (fun _ _ _ _ _ => t_nil) (fun _ _ _ _ _ => (q_callB (cr_minA rfl (hu64 hr)) w_min (by rfl) T.bl_min bt_min (q_cons (q_lc rfl S.nd (blkOk_by (own := [("x", 3)]) (by kernel_rfl)) (i_seq (q_var 1)) (fun _ _ _ _ _ => (g_nm 3 S.nd)) (fun _ _ _ _ _ => t_nil) (fun _ _ _ _ _ => (q_ix ix_seq w_ix (q_var 2) (q_var 3)))) q_nil)))))))
abbrev st_sum_in : Stmt := top 21
def gs_sum_in : Gs :=
  (gRet (lf (cN oSum (cCons (cLc [3, 4] (iN zp2 (cCons (cVar 0) (cCons (cN mm_near_in (cCons (cVar 1) (cCons (cVar 2) cNil))) cNil))) (bTp 2 (bCons (bNm 3) (bCons (bNm 4) bNil))) bYes (c2 oMul (cVar 3) (cVar 4))) cNil))))
def mm_sum_in := run 5 3 gs_sum_in
theorem sc_sum_in : FnScope ["weights", "rows", "houses", "one", "far"] ["weights", "rows", "houses"] (defScope st_sum_in) := ⟨rfl, rfl, rfl, by decide +kernel, rfl, by decide +kernel, by decide +kernel⟩
theorem ok_sum_in {f : Addr} {fd : FuncData} (F : Fun K "sum_in" "sum_in" st_sum_in f fd) (T : Txt mg) (c_near_in : Cal P w K mg base 1 "near_in" (spP K mm_near_in)) : FnOk P w K mg base CX0 2 f fd ["weights", "rows", "houses"] (spP K mm_sum_in) := by
  have S := sc_sum_in
  refine okP 5 3 F S rfl rfl (g := gs_sum_in) fun cdv A outer s H E z hr => ?_
  exact (s_one (s_ret (r_lf (q_callB (cr_sumA rfl) w_sum (by rfl) T.bl_sum bt_sum (q_cons (q_lc rfl S.nd (blkOk_by (own := [("one", 3), ("far", 4)]) (by kernel_rfl)) (i_zip (by rfl) T.bl_zip (q_cons (q_var 0) (q_cons (q_call c_near_in hr (by decide) (by rfl) (q_cons (q_var 1) (q_cons (q_var 2) q_nil))) q_nil))) (fun _ _ _ _ _ => (g_tup rfl (g_cons (g_nm 3 S.nd) (g_cons (g_nm 4 S.nd) g_nil)))) (fun _ _ _ _ _ => t_nil) (fun _ _ _ _ _ => (q_op op_mulA w_mul (q_var 3) (q_var 4)))) q_nil)))))
abbrev st_Town_told : Stmt := inClass (top 27) 9
def gs_Town_told : Gs :=
  (gSeq (gAsg (lf (cFld 0 "state")) (bTp 2 (bCons (bNm 2) (bCons (bNm 3) bNil))))
  (gSeq (gAsg (lf (cN mm_table_of (cCons (cVar 2) cNil))) (bNm 4))
  (gSeq (gIf (lfb (bV (c2 oIn (cVar 1) (cTup (cCons (cK (.str "next")) (cCons (cK (.str "spare")) cNil))))))
  (gSeq (gSetW 6 (wN few (lfs cNil)))
  (gSeq (gFor (lfs (iN rg1 (cCons (cN oLen (cCons (cVar 4) cNil)) cNil))) (bNm 7)
  (gSeq (gAsg (lf (c2 oAdd (cLc [9] (iS (cVar 3)) (bNm 9) (bV (c2 oNe (cVar 9) (cVar 7))) (cVar 9)) (cRep (cCons (cVar 7) cNil) (cN oInt (cCons (c2 oNotIn (cVar 7) (cVar 3)) cNil))))) (bNm 8))
  (gIf (lfb (bAnd (bV (c2 oEq (c2 oIn (cVar 7) (cVar 3)) (c2 oEq (cVar 1) (cK (.str "spare"))))) (bV (c2 oNe (cVar 8) (cLst cNil)))))
  (gApp 6 (lf (cTup (cCons (cN mm_sum_in (cCons (c2 oIx (cVar 2) (cK (.int 0))) (cCons (cVar 4) (cCons (cVar 8) cNil)))) (cCons (cVar 7) cNil)))))
  gNx)))
  (gFz 6 (gRet (lf (cIf (bV (c2 oNe (cVar 6) (cLst cNil))) (cN oStr (cCons (c2 oIx (cN oMin (cCons (cVar 6) cNil)) (cK (.int 1))) cNil)) (cK (.str "none"))))))))
  gNx)
  (gSeq (gIf (lfb (bV (c2 oEq (cVar 3) (cTup cNil))))
  (gRet (lf (cK (.str "none"))))
  gNx)
  (gSeq (gAsg (lf (cN mm_near_in (cCons (cVar 4) (cCons (cVar 3) cNil)))) (bNm 5))
  (gSeq (gIf (lfb (bV (c2 oEq (cVar 1) (cK (.str "sum")))))
  (gRet (lf (cN oStr (cCons (cN mm_sum_in (cCons (c2 oIx (cVar 2) (cK (.int 0))) (cCons (cVar 4) (cCons (cVar 3) cNil)))) cNil))))
  gNx)
  (gRet (lf (cN oStr (cCons (cIf (bV (c2 oEq (cVar 1) (cK (.str "reach")))) (cN oMax (cCons (cVar 5) cNil)) (cN oMax (cCons (cLc [10, 11] (iN zp2 (cCons (c2 oIx (cVar 2) (cK (.int 0))) (cCons (cVar 5) cNil))) (bTp 2 (bCons (bNm 10) (bCons (bNm 11) bNil))) bYes (c2 oMul (cVar 10) (cVar 11))) cNil))) cNil))))))))))
def mm_Town_told := runT1 12 2 gs_Town_told
theorem sc_Town_told : FnScope ["self", "word", "web", "houses", "rows", "near", "some", "x", "lot", "y", "one", "far"] ["self", "word"] (defScope st_Town_told) := ⟨rfl, rfl, rfl, by decide +kernel, rfl, by decide +kernel, by decide +kernel⟩
theorem ok_Town_told (TK : TxK K w mg) {C : Addr} (TC : TxC K C) {f : Addr} {fd : FuncData} (F : Fun K "told" "Town.told" st_Town_told f fd) (T : Txt mg) (c_table_of : Cal P w K mg base 1 "table_of" (spP K mm_table_of)) (c_sum_in : Cal P w K mg base 2 "sum_in" (spP K mm_sum_in)) (c_near_in : Cal P w K mg base 1 "near_in" (spP K mm_near_in)) : FnOk P w K mg base CX0 3 f fd ["self", "word"] (spT K mm_Town_told) := by
  have S := sc_Town_told
  refine okT1 12 2 F S rfl rfl (by decide) (g := gs_Town_told) fun cdv A outer s H E z hr => ?_
  exact (s_cons (s_asg (r_lf (q_fld 0)) (g_tup rfl (g_cons (g_nm 2 S.nd) (g_cons (g_nm 3 S.nd) g_nil))))
  (s_cons (s_set 4 S.nd (r_lf (q_call c_table_of hr (by decide) (by rfl) (q_cons (q_var 2) q_nil))))
  (s_cons (s_if (r_lfb (b_cmp (op_inA (hu65 hr)) w_in (q_var 1) (q_tup (q_cons q_str (q_cons q_str q_nil))) (by rfl)))
  (s_cons (s_setW 6 S.nd (w_lst (r_lfs q_nil)))
  (s_cons (s_for rfl (i_lf (i_range1 (by rfl) T.bl_range (q_cons (q_callB call_len w_len (by rfl) T.bl_len bt_len (q_cons (q_var 4) q_nil)) q_nil))) (g_nm 7 S.nd)
  (s_cons (s_set 8 S.nd (r_lf (q_op op_addA w_add (q_lc rfl S.nd (blkOk_by (own := [("y", 9)]) (by kernel_rfl)) (i_seq (q_var 3)) (fun _ _ _ _ _ => (g_nm 9 S.nd)) (fun _ _ _ _ _ => (t_one (b_cmp (op_neQ (hu64 hr)) w_ne (q_var 9) (q_var 7) (by rfl)))) (fun _ _ _ _ _ => (q_var 9))) (q_rep (q_cons (q_var 7) q_nil) (q_callTy call_int1 w_int (by rfl) T.bl_int bt_int (q_cons (q_cmp (op_notInA (hu65 hr)) w_notIn (q_var 7) (q_var 3) (by rfl)) q_nil))))))
  (s_one (s_if (r_lfb ((b_and (b_cmp (op_eqQ (hu64 hr)) w_eq (q_cmp (op_inA (hu65 hr)) w_in (q_var 7) (q_var 3) (by rfl)) (q_cmp (op_eqQ (hu64 hr)) w_eq (q_var 1) q_str (by rfl)) (by rfl)) (b_and1 (b_cmp (op_neQ (hu64 hr)) w_ne (q_var 8) (q_lst q_nil) (by rfl))))).pt)
  (s_one (s_app 6 (r_lf (q_tup (q_cons (q_call c_sum_in hr (by decide) (by rfl) (q_cons (q_ix ix_seq w_ix (q_var 2) q_int) (q_cons (q_var 4) (q_cons (q_var 8) q_nil)))) (q_cons (q_var 7) q_nil))))))
  s_nil))) PassesOwn.never)
  (s_one (s_fz 6 (s_ret (r_lf (q_if (b_cmp (op_neQ (hu64 hr)) w_ne (q_var 6) (q_lst q_nil) (by rfl)) (q_callTy call_strI w_str (by rfl) T.bl_str bt_str (q_cons (q_ix ix_seq w_ix (q_callB (cr_minA rfl (hu64 hr)) w_min (by rfl) T.bl_min bt_min (q_cons (q_var 6) q_nil)) q_int) q_nil)) q_str)))))))
  s_nil)
  (s_cons (s_if (r_lfb (b_cmp (op_eqQ (hu64 hr)) w_eq (q_var 3) (q_tup q_nil) (by rfl)))
  (s_one (s_ret (r_lf q_str)))
  s_nil)
  (s_cons (s_set 5 S.nd (r_lf (q_call c_near_in hr (by decide) (by rfl) (q_cons (q_var 4) (q_cons (q_var 3) q_nil)))))
  (s_cons (s_if (r_lfb (b_cmp (op_eqQ (hu64 hr)) w_eq (q_var 1) q_str (by rfl)))
  (s_one (s_ret (r_lf (q_callTy call_strI w_str (by rfl) T.bl_str bt_str (q_cons (q_call c_sum_in hr (by decide) (by rfl) (q_cons (q_ix ix_seq w_ix (q_var 2) q_int) (q_cons (q_var 4) (q_cons (q_var 3) q_nil)))) q_nil)))))
  s_nil)
  (s_one (s_ret (r_lf (q_callTy call_strI w_str (by rfl) T.bl_str bt_str (q_cons (q_if (b_cmp (op_eqQ (hu64 hr)) w_eq (q_var 1) q_str (by rfl)) (q_callB (cr_maxA rfl (hu64 hr)) w_max (by rfl) T.bl_max bt_max (q_cons (q_var 5) q_nil)) (q_callB (cr_maxA rfl (hu64 hr)) w_max (by rfl) T.bl_max bt_max (q_cons (q_lc rfl S.nd (blkOk_by (own := [("one", 10), ("far", 11)]) (by kernel_rfl)) (i_zip (by rfl) T.bl_zip (q_cons (q_ix ix_seq w_ix (q_var 2) q_int) (q_cons (q_var 5) q_nil))) (fun _ _ _ _ _ => (g_tup rfl (g_cons (g_nm 10 S.nd) (g_cons (g_nm 11 S.nd) g_nil)))) (fun _ _ _ _ _ => t_nil) (fun _ _ _ _ _ => (q_op op_mulA w_mul (q_var 10) (q_var 11)))) q_nil))) q_nil)))))))))))
abbrev st_Town_run : Stmt := inClass (top 27) 8
def gs_Town_run : Gs :=
  (gSeq (gIf (lfb (bNot (bT (cIsi .str (cVar 1)))))
  gNever
  gNx)
  (gSeq (gAsg (lf (cLc [5] (iS (cM oSplit (cVar 1) (cCons (cK (.str " ")) cNil))) (bNm 5) (bV (c2 oNe (cVar 5) (cK (.str "")))) (cVar 5))) (bNm 2))
  (gSeq (gIf (lfb (bOr (bV (c2 oEq (cVar 2) (cLst cNil))) (bAnd (bV (c1 (kdNot kd_STEPS) (c2 oIx (cVar 2) (cK (.int 0))))) (bV (c1 (ktNot kt_QUESTIONS) (c2 oIx (cVar 2) (cK (.int 0))))))))
  gNever
  gNx)
  (gSeq (gAsg (lf (cGetK kd_STEPS (c2 oIx (cVar 2) (cK (.int 0))) (cK (.int 1)))) (bNm 3))
  (gSeq (gAsg (rIf (lfb (bV (c1 (kdHas kd_STEPS) (c2 oIx (cVar 2) (cK (.int 0)))))) (shE (methE 0 "after" mm_Town_after (cCons (cVar 2) cNil))) (lf (cK .none))) (bNm 4))
  (gSeq (gIf (lfb (bV (c2 oGt (cN oLen (cCons (cVar 2) cNil)) (cVar 3))))
  gNever
  gNx)
  (gSeq (gIf (lfb (bV (c2 oIs (cVar 4) (cK .none))))
  (gRet (lf (cMethT 0 "told" mm_Town_told (cCons (c2 oIx (cVar 2) (cK (.int 0))) cNil))))
  gNx)
  (gSeq (gFApp 0 "past" (cTup (cCons (cFld 0 "state") (cCons (cVar 1) cNil))))
  (gSeq (gFldPar 0 "state" "future" (cVar 4) (wN few (lfs cNil)))
  (gRet (lf (cK .none))))))))))))
def mm_Town_run := runM 6 2 gs_Town_run
def mm_Town_run_x := runMx 6 2 gs_Town_run
theorem sc_Town_run : FnScope ["self", "line", "words", "most", "state", "word"] ["self", "line"] (defScope st_Town_run) := ⟨rfl, rfl, rfl, by decide +kernel, rfl, by decide +kernel, by decide +kernel⟩
theorem ok_Town_run (TK : TxK K w mg) {C : Addr} (TC : TxC K C) {f : Addr} {fd : FuncData} (F : Fun K "run" "Town.run" st_Town_run f fd) (T : Txt mg) (m_after : CalM P w K mg base 3 C "after" (spM K C mm_Town_after)) (m_told : CalM P w K mg base 3 C "told" (spT K mm_Town_told)) : FnOk P w K mg base CX0 4 f fd ["self", "line"] (spM K C mm_Town_run) := by
  have S := sc_Town_run
  refine okM (c := C) 6 2 F S rfl rfl (by decide) (g := gs_Town_run) fun cdv A outer s H E z hz hr => ?_
  exact (s_cons (s_if (r_lfb (b_not (b_val (q_isi (q_var 1) (by rfl) T.bl_isinstance bt_isinstance (q_ty .str (by rfl) T.bl_str bt_str)))))
  (s_one s_never)
  s_nil)
  (s_cons (s_lc 2 rfl S.nd (blkOk_by (own := [("word", 5)]) (by kernel_rfl)) (sw_true rfl rfl rfl (by rfl)) (i_seq (q_split (q_var 1) q_str)) (fun _ _ _ _ _ => (g_nm 5 S.nd)) (fun _ _ _ _ _ => (t_one (b_cmp (op_neQ (hu64 hr)) w_ne (q_var 5) q_str (by rfl)))) (fun _ _ _ _ _ => (q_var 5)))
  (s_cons (s_if (r_lfb ((b_or (b_cmp (op_eqQ (hu64 hr)) w_eq (q_var 2) (q_lst q_nil) (by rfl)) (b_or1 ((b_and (b_ninKD TK.kd_STEPS (q_ix ix_seq w_ix (q_var 2) q_int) (by rfl) (by rfl)) (b_and1 (b_ninKT TK.kt_QUESTIONS (q_ix ix_seq w_ix (q_var 2) q_int) (by rfl) (by rfl))))).pt))).pt)
  (s_one s_never)
  s_nil)
  (s_cons (s_set 3 S.nd (r_lf (q_getK TK.kd_STEPS (q_ix ix_seq w_ix (q_var 2) q_int) q_int (by rfl))))
  (s_cons (s_set 4 S.nd (r_if (r_lfb (b_inKD TK.kd_STEPS (q_ix ix_seq w_ix (q_var 2) q_int) (by rfl) (by rfl))) (r_of (m_meth 0 hz m_after hr (by decide) (q_cons (q_var 2) q_nil))) (r_lf q_non)))
  (s_cons (s_if (r_lfb (b_cmp (op_gtD (hu64 hr)) w_gt (q_callB call_len w_len (by rfl) T.bl_len bt_len (q_cons (q_var 2) q_nil)) (q_var 3) (by rfl)))
  (s_one s_never)
  s_nil)
  (s_cons (s_if (r_lfb (b_cmp op_isA w_is (q_var 4) q_non (by rfl)))
  (s_one (s_ret (r_lf (q_methT 0 hz m_told hr (by decide) (q_cons (q_ix ix_seq w_ix (q_var 2) q_int) q_nil)))))
  s_nil)
  (s_cons (s_fapp 0 (q_tup (q_cons (q_fld 0) (q_cons (q_var 1) q_nil))))
  (s_cons (s_fldPar hz 0 rfl TC.n_state (q_var 4) (w_lst (r_lfs q_nil)))
  (s_one (s_ret (r_lf q_non))))))))))))
theorem okx_Town_run (TK : TxK K w mg) {C : Addr} (TC : TxC K C) {f : Addr} {fd : FuncData} (F : Fun K "run" "Town.run" st_Town_run f fd) (T : Txt mg) (m_after : CalM P w K mg base 3 C "after" (spM K C mm_Town_after)) (m_told : CalM P w K mg base 3 C "told" (spT K mm_Town_told)) : FnOk P w K mg base CX0 4 f fd ["self", "line"] (spMx K C mm_Town_run_x) := by
  have S := sc_Town_run
  refine okMx (c := C) 6 2 F S rfl rfl (by decide) (g := gs_Town_run) fun cdv A outer s H E z hz hr => ?_
  exact (s_cons (s_if (r_lfb (b_not (b_val (q_isi (q_var 1) (by rfl) T.bl_isinstance bt_isinstance (q_ty .str (by rfl) T.bl_str bt_str)))))
  (s_one s_never)
  s_nil)
  (s_cons (s_lc 2 rfl S.nd (blkOk_by (own := [("word", 5)]) (by kernel_rfl)) (sw_true rfl rfl rfl (by rfl)) (i_seq (q_split (q_var 1) q_str)) (fun _ _ _ _ _ => (g_nm 5 S.nd)) (fun _ _ _ _ _ => (t_one (b_cmp (op_neQ (hu64 hr)) w_ne (q_var 5) q_str (by rfl)))) (fun _ _ _ _ _ => (q_var 5)))
  (s_cons (s_if (r_lfb ((b_or (b_cmp (op_eqQ (hu64 hr)) w_eq (q_var 2) (q_lst q_nil) (by rfl)) (b_or1 ((b_and (b_ninKD TK.kd_STEPS (q_ix ix_seq w_ix (q_var 2) q_int) (by rfl) (by rfl)) (b_and1 (b_ninKT TK.kt_QUESTIONS (q_ix ix_seq w_ix (q_var 2) q_int) (by rfl) (by rfl))))).pt))).pt)
  (s_one s_never)
  s_nil)
  (s_cons (s_set 3 S.nd (r_lf (q_getK TK.kd_STEPS (q_ix ix_seq w_ix (q_var 2) q_int) q_int (by rfl))))
  (s_cons (s_set 4 S.nd (r_if (r_lfb (b_inKD TK.kd_STEPS (q_ix ix_seq w_ix (q_var 2) q_int) (by rfl) (by rfl))) (r_of (m_meth 0 hz m_after hr (by decide) (q_cons (q_var 2) q_nil))) (r_lf q_non)))
  (s_cons (s_if (r_lfb (b_cmp (op_gtD (hu64 hr)) w_gt (q_callB call_len w_len (by rfl) T.bl_len bt_len (q_cons (q_var 2) q_nil)) (q_var 3) (by rfl)))
  (s_one s_never)
  s_nil)
  (s_cons (s_if (r_lfb (b_cmp op_isA w_is (q_var 4) q_non (by rfl)))
  (s_one (s_ret (r_lf (q_methT 0 hz m_told hr (by decide) (q_cons (q_ix ix_seq w_ix (q_var 2) q_int) q_nil)))))
  s_nil)
  (s_cons (s_fapp 0 (q_tup (q_cons (q_fld 0) (q_cons (q_var 1) q_nil))))
  (s_cons (s_fldPar hz 0 rfl TC.n_state (q_var 4) (w_lst (r_lfs q_nil)))
  (s_one (s_ret (r_lf q_non))))))))))))
def gx_Town_run : Gx :=
  (xSeq (xIf (lfb (bNot (bT (cIsi .str (cVar 1)))))
  (xRaise0 "NotText")
  (xF gNx))
  (xSeq (xF (gAsg (lf (cLc [5] (iS (cM oSplit (cVar 1) (cCons (cK (.str " ")) cNil))) (bNm 5) (bV (c2 oNe (cVar 5) (cK (.str "")))) (cVar 5))) (bNm 2)))
  (xSeq (xIf (lfb (bOr (bV (c2 oEq (cVar 2) (cLst cNil))) (bAnd (bV (c1 (kdNot kd_STEPS) (c2 oIx (cVar 2) (cK (.int 0))))) (bV (c1 (ktNot kt_QUESTIONS) (c2 oIx (cVar 2) (cK (.int 0))))))))
  (xRaise1 "InvalidLine" "word" (lf (cK (.int 1))))
  (xF gNx))
  (xSeq (xF (gAsg (lf (cGetK kd_STEPS (c2 oIx (cVar 2) (cK (.int 0))) (cK (.int 1)))) (bNm 3)))
  (xSeq (xAsg (eIf (lfb (bV (c1 (kdHas kd_STEPS) (c2 oIx (cVar 2) (cK (.int 0)))))) (eMeth 0 "after" mx_Town_after (cCons (cVar 2) cNil)) (eOf (lf (cK .none)))) (bNm 4))
  (xSeq (xIf (lfb (bV (c2 oGt (cN oLen (cCons (cVar 2) cNil)) (cVar 3))))
  (xRaise1 "InvalidLine" "word" (lf (c2 oAdd (cVar 3) (cK (.int 1)))))
  (xF gNx))
  (xF (gSeq (gIf (lfb (bV (c2 oIs (cVar 4) (cK .none))))
  (gRet (lf (cMethT 0 "told" mm_Town_told (cCons (c2 oIx (cVar 2) (cK (.int 0))) cNil))))
  gNx)
  (gSeq (gFApp 0 "past" (cTup (cCons (cFld 0 "state") (cCons (cVar 1) cNil))))
  (gSeq (gFldPar 0 "state" "future" (cVar 4) (wN few (lfs cNil)))
  (gRet (lf (cK .none)))))))))))))
def mx_Town_run := runMX 6 2 gx_Town_run
theorem okE_Town_run (TK : TxK K w mg) {C : Addr} (TC : TxC K C) {f : Addr} {fd : FuncData} (F : Fun K "run" "Town.run" st_Town_run f fd) (T : Txt mg) {AH : Addr} (TE : TxE P K mg AH) (m_told : CalM P w K mg base 3 C "told" (spT K mm_Town_told)) (mX_after : CalMX P w K mg base 3 C "after" (spMX K mg C mx_Town_after)) : FnOk P w K mg base (L2.CX P w) 4 f fd ["self", "line"] (spMX K mg C mx_Town_run) := by
  have S := sc_Town_run
  refine okMX (c := C) 6 2 F S rfl rfl (by decide) (g := gx_Town_run) fun cdv A outer s H E z hz hr => ?_
  have tk : Takes (cxOf (L2.CX P w) P w K mg base ["self", "line", "words", "most", "state", "word"] "Town.run" (defScope st_Town_run) f cdv A outer s H E) (fun cls d _ H => E cls d H) := takes_of rfl rfl rfl rfl
  exact (x_cons (x_if (r_lfb (b_not (b_val (q_isi (q_var 1) (by rfl) T.bl_isinstance bt_isinstance (q_ty .str (by rfl) T.bl_str bt_str)))))
  (x_one (x_raiseO rfl tk TE.e_NotText (by rfl)))
  (xs_of s_nil))
  (x_cons (x_of (s_lc 2 rfl S.nd (blkOk_by (own := [("word", 5)]) (by kernel_rfl)) (sw_true rfl rfl rfl (by rfl)) (i_seq (q_split (q_var 1) q_str)) (fun _ _ _ _ _ => (g_nm 5 S.nd)) (fun _ _ _ _ _ => (t_one (b_cmp (op_neQ (hu64 hr)) w_ne (q_var 5) q_str (by rfl)))) (fun _ _ _ _ _ => (q_var 5))))
  (x_cons (x_if (r_lfb ((b_or (b_cmp (op_eqQ (hu64 hr)) w_eq (q_var 2) (q_lst q_nil) (by rfl)) (b_or1 ((b_and (b_ninKD TK.kd_STEPS (q_ix ix_seq w_ix (q_var 2) q_int) (by rfl) (by rfl)) (b_and1 (b_ninKT TK.kt_QUESTIONS (q_ix ix_seq w_ix (q_var 2) q_int) (by rfl) (by rfl))))).pt))).pt)
  (x_one (x_raiseS rfl tk TE.e_InvalidLine hr (by rfl) (r_lf q_int)))
  (xs_of s_nil))
  (x_cons (x_of (s_set 3 S.nd (r_lf (q_getK TK.kd_STEPS (q_ix ix_seq w_ix (q_var 2) q_int) q_int (by rfl)))))
  (x_cons (x_set 4 S.nd (qI (r_lfb (b_inKD TK.kd_STEPS (q_ix ix_seq w_ix (q_var 2) q_int) (by rfl) (by rfl))) (e_meth 0 tk hz mX_after hr (by decide) (q_cons (q_var 2) q_nil)) (e_of (r_lf q_non))))
  (x_cons (x_if (r_lfb (b_cmp (op_gtD (hu64 hr)) w_gt (q_callB call_len w_len (by rfl) T.bl_len bt_len (q_cons (q_var 2) q_nil)) (q_var 3) (by rfl)))
  (x_one (x_raiseS rfl tk TE.e_InvalidLine hr (by rfl) (r_lf (q_op op_addA w_add (q_var 3) q_int))))
  (xs_of s_nil))
  (xs_of (s_cons (s_if (r_lfb (b_cmp op_isA w_is (q_var 4) q_non (by rfl)))
  (s_one (s_ret (r_lf (q_methT 0 hz m_told hr (by decide) (q_cons (q_ix ix_seq w_ix (q_var 2) q_int) q_nil)))))
  s_nil)
  (s_cons (s_fapp 0 (q_tup (q_cons (q_fld 0) (q_cons (q_var 1) q_nil))))
  (s_cons (s_fldPar hz 0 rfl TC.n_state (q_var 4) (w_lst (r_lfs q_nil)))
  (s_one (s_ret (r_lf q_non)))))))))))))
abbrev st_Town_houses : Stmt := inClass (top 27) 2
def gs_Town_houses : Gs :=
  (gRet (lf (c2 oIx (cFld 0 "state") (cK (.int 1)))))
def mm_Town_houses := runT1 1 1 gs_Town_houses
theorem sc_Town_houses : FnScope ["self"] ["self"] (defScope st_Town_houses) := ⟨rfl, rfl, rfl, by decide +kernel, rfl, by decide +kernel, by decide +kernel⟩
theorem ok_Town_houses (TK : TxK K w mg) {C : Addr} (TC : TxC K C) {f : Addr} {fd : FuncData} (F : Fun K "houses" "Town.houses" st_Town_houses f fd) (T : Txt mg) : FnOk P w K mg base CX0 1 f fd ["self"] (spT K mm_Town_houses) := by
  have S := sc_Town_houses
  refine okT1 1 1 F S rfl rfl (by decide) (g := gs_Town_houses) fun cdv A outer s H E z hr => ?_
  exact (s_one (s_ret (r_lf (q_ix ix_seq w_ix (q_fld 0) q_int))))
abbrev st_Town_web : Stmt := inClass (top 27) 1
def gs_Town_web : Gs :=
  (gRet (lf (c2 oIx (cFld 0 "state") (cK (.int 0)))))
def mm_Town_web := runT1 1 1 gs_Town_web
theorem sc_Town_web : FnScope ["self"] ["self"] (defScope st_Town_web) := ⟨rfl, rfl, rfl, by decide +kernel, rfl, by decide +kernel, by decide +kernel⟩
theorem ok_Town_web (TK : TxK K w mg) {C : Addr} (TC : TxC K C) {f : Addr} {fd : FuncData} (F : Fun K "web" "Town.web" st_Town_web f fd) (T : Txt mg) : FnOk P w K mg base CX0 1 f fd ["self"] (spT K mm_Town_web) := by
  have S := sc_Town_web
  refine okT1 1 1 F S rfl rfl (by decide) (g := gs_Town_web) fun cdv A outer s H E z hr => ?_
  exact (s_one (s_ret (r_lf (q_ix ix_seq w_ix (q_fld 0) q_int))))
abbrev st_Town_steps : Stmt := inClass (top 27) 3
def gs_Town_steps : Gs :=
  (gRet (lf (cN oTuple (cCons (cLc [1, 2] (iS (cFld 0 "past")) (bTp 2 (bCons (bNm 1) (bCons (bNm 2) bNil))) bYes (cVar 2)) cNil))))
def mm_Town_steps := runT1 3 1 gs_Town_steps
theorem sc_Town_steps : FnScope ["self", "state", "line"] ["self"] (defScope st_Town_steps) := ⟨rfl, rfl, rfl, by decide +kernel, rfl, by decide +kernel, by decide +kernel⟩
theorem ok_Town_steps (TK : TxK K w mg) {C : Addr} (TC : TxC K C) {f : Addr} {fd : FuncData} (F : Fun K "steps" "Town.steps" st_Town_steps f fd) (T : Txt mg) : FnOk P w K mg base CX0 1 f fd ["self"] (spT K mm_Town_steps) := by
  have S := sc_Town_steps
  refine okT1 3 1 F S rfl rfl (by decide) (g := gs_Town_steps) fun cdv A outer s H E z hr => ?_
  exact (s_one (s_ret (r_lf (q_callTy call_tuple_of w_tuple (by rfl) T.bl_tuple bt_tuple (q_cons (q_lc rfl S.nd (blkOk_by (own := [("state", 1), ("line", 2)]) (by kernel_rfl)) (i_seq (q_fld 0)) (fun _ _ _ _ _ => (g_tup rfl (g_cons (g_nm 1 S.nd) (g_cons (g_nm 2 S.nd) g_nil)))) (fun _ _ _ _ _ => t_nil) (fun _ _ _ _ _ => (q_var 2))) q_nil)))))
abbrev st_law : Stmt := top 33
def gs_law_f1 : Gs :=
  (gMethXR 2 "run" mm_Town_run_x (lfs (cCons (cVar 3) cNil)))
def gs_law_f2 : Gs :=
  (gSeq (gAsg (rRow 1 mm__law_pick (lfs (cCons (cVar 4) cNil))) (bTp 2 (bCons (bNm 3) (bCons (bNm 10) bNil))))
  (gSeq (gAsg (lf (cK .none)) (bNm 9))
  (gSeq (gTry 11 csAll (xExpr (eMeth 2 "run" mx_Town_run (cCons (cVar 3) cNil)))
  (gAsg (lf (cIf (bT (cIsE 11 csAll "InvalidLine")) (cFldE 11 csAll "word") (cK (.str "other")))) (bNm 9)))
  (gIf (lfb (bOr (bNot (bT (cN (mm__law_alike 6) (cCons (cVar 9) (cCons (cVar 10) cNil))))) (bV (c2 oNe (cTup (cCons (cProp 2 mm_Town_houses) (cCons (cProp 2 mm_Town_web) (cCons (cProp 2 mm_Town_steps) cNil)))) (cVar 5)))))
  (gRet (lf (cK (.bool false))))
  gNx))))
def gs_law_rest : Gs :=
  (gSeq (gFor (lfs (iN rg1 (cCons (cK (.int 8)) cNil))) (bNm 6)
  gs_law_f2)
  (gSeq (gAsg (rRow 1 mm__law_pick (lfs (cCons (cN mm__law_bad_webs cNil) cNil))) (bTp 2 (bCons (bNm 7) (bCons (bNm 8) bNil))))
  (gSeq (gAsg (lf (cK (.str "none"))) (bNm 9))
  (gSeq (gTry 11 csAll (xExpr (eMake mx_Town___init__ (cCons (cVar 7) cNil)))
  (gAsg (lf (cIf (bT (cIsE 11 csAll "BadWeb")) (cFldE 11 csAll "index") (cK (.str "other")))) (bNm 9)))
  (gRet (rAnd (lf (c2 oEq (cVar 9) (cVar 8))) (r2 oEq (rN dLst (rCons (shE (methE 2 "run" mm_Town_run (cCons (cK (.str "sum")) cNil))) (rCons (shE (methE 2 "run" mm_Town_run (cCons (cK (.str "next")) cNil))) (rCons (shE (methE 2 "run" mm_Town_run (cCons (cK (.str "spare")) cNil))) (rCons (shE (methE 2 "run" mm_Town_run (cCons (cK (.str "reach")) cNil))) rNil))))) (lf (cLst (cCons (cK (.str "0")) (cCons (cK (.str "0")) (cCons (cK (.str "none")) (cCons (cK (.str "5")) cNil)))))))))))))
def gs_law_head (rest : Gs) : Gs :=
  (gSeq (gSetW 1 (wN few (lfs (cCons (cVar 0) (cCons (cK (.int 0)) (cCons (cK (.int 6387)) (cCons (cK (.int 0)) cNil)))))))
  (gSeq (gSetW 2 (wMake mm_Town___init__ (cCons (cTup (cCons (cTup (cCons (cK (.int 1)) (cCons (cK (.int 2)) (cCons (cK (.int 0)) cNil)))) (cCons (cTup (cCons (cTup (cCons (cK (.int 0)) (cCons (cK (.int 1)) (cCons (cK (.int 4)) cNil)))) (cCons (cTup (cCons (cK (.int 1)) (cCons (cK (.int 2)) (cCons (cK (.int 5)) cNil)))) cNil))) cNil))) cNil)))
  (gSeq (gFor (lfs (iS (cLst (cCons (cK (.str "open 1")) (cCons (cK (.str "weigh 0 0")) cNil))))) (bNm 3)
  gs_law_f1)
  (gSeq (gAsg (lf (cLst (cCons (cTup (cCons (cK (.str "")) (cCons (cK (.int 1)) cNil))) (cCons (cTup (cCons (cK (.str "  ")) (cCons (cK (.int 1)) cNil))) (cCons (cTup (cCons (cK (.str "Open 0")) (cCons (cK (.int 1)) cNil))) (cCons (cTup (cCons (cK (.str "open")) (cCons (cK (.int 2)) cNil))) (cCons (cTup (cCons (cK (.str "open 1")) (cCons (cK (.int 2)) cNil))) (cCons (cTup (cCons (cK (.str "open 3")) (cCons (cK (.int 2)) cNil))) (cCons (cTup (cCons (cK (.str "open -1")) (cCons (cK (.int 2)) cNil))) cNil))))))))) (bNm 4))
  (gSeq (gAsg (lf (c2 oAdd (cVar 4) (cLst (cCons (cTup (cCons (cK (.str "open 00")) (cCons (cK (.int 2)) cNil))) (cCons (cTup (cCons (cK (.str "open 0 1")) (cCons (cK (.int 3)) cNil))) (cCons (cTup (cCons (cK (.str "open x")) (cCons (cK (.int 2)) cNil))) cNil)))))) (bNm 4))
  (gSeq (gAsg (lf (c2 oAdd (cVar 4) (cLst (cCons (cTup (cCons (cK (.str "close")) (cCons (cK (.int 2)) cNil))) (cCons (cTup (cCons (cK (.str "close 0")) (cCons (cK (.int 2)) cNil))) (cCons (cTup (cCons (cK (.str "close 1 1")) (cCons (cK (.int 3)) cNil))) (cCons (cTup (cCons (cK (.str "close 3")) (cCons (cK (.int 2)) cNil))) (cCons (cTup (cCons (cK (.str "weigh")) (cCons (cK (.int 2)) cNil))) cNil)))))))) (bNm 4))
  (gSeq (gAsg (lf (c2 oAdd (cVar 4) (cLst (cCons (cTup (cCons (cK (.str "weigh 3 1")) (cCons (cK (.int 2)) cNil))) (cCons (cTup (cCons (cK (.str "weigh 0")) (cCons (cK (.int 3)) cNil))) (cCons (cTup (cCons (cK (.str "weigh 0 101")) (cCons (cK (.int 3)) cNil))) cNil)))))) (bNm 4))
  (gSeq (gAsg (lf (c2 oAdd (cVar 4) (cLst (cCons (cTup (cCons (cK (.str "weigh 0 -1")) (cCons (cK (.int 3)) cNil))) (cCons (cTup (cCons (cK (.str "weigh 0 01")) (cCons (cK (.int 3)) cNil))) (cCons (cTup (cCons (cK (.str "weigh 1 0")) (cCons (cK (.int 3)) cNil))) (cCons (cTup (cCons (cK (.str "weigh 0 1 1")) (cCons (cK (.int 4)) cNil))) (cCons (cTup (cCons (cK (.str "sum 1")) (cCons (cK (.int 2)) cNil))) cNil)))))))) (bNm 4))
  (gSeq (gAsg (lf (c2 oAdd (cVar 4) (cLst (cCons (cTup (cCons (cK (.str "reach 0")) (cCons (cK (.int 2)) cNil))) (cCons (cTup (cCons (cK (.str "next 0")) (cCons (cK (.int 2)) cNil))) (cCons (cTup (cCons (cK (.str "spare 1")) (cCons (cK (.int 2)) cNil))) cNil)))))) (bNm 4))
  (gSeq (gAsg (lf (c2 oAdd (cVar 4) (cLst (cCons (cTup (cCons (cK (.str "undo")) (cCons (cK (.int 1)) cNil))) (cCons (cTup (cCons (cK (.str "sums")) (cCons (cK (.int 1)) cNil))) (cCons (cTup (cCons (cK (.str "load 0")) (cCons (cK (.int 2)) cNil))) (cCons (cTup (cCons (cK (.str "open 1000")) (cCons (cK (.int 2)) cNil))) (cCons (cTup (cCons (cK (.str "weigh 1 1000")) (cCons (cK (.int 3)) cNil))) cNil)))))))) (bNm 4))
  (gSeq (gAsg (lf (c2 oAdd (cVar 4) (cLst (cCons (cTup (cCons (cK (.str "open +0")) (cCons (cK (.int 2)) cNil))) cNil)))) (bNm 4))
  (gSeq (gAsg (lf (cTup (cCons (cProp 2 mm_Town_houses) (cCons (cProp 2 mm_Town_web) (cCons (cProp 2 mm_Town_steps) cNil))))) (bNm 5))
  rest))))))))))))
def gs_law : Gs :=
  gs_law_head gs_law_rest
def mm_law := run 12 1 gs_law
theorem sc_law : FnScope ["_law_script", "_law_row", "_law_town", "_law_line", "_law_tries", "_law_before", "_law_turn", "_law_value", "_law_index", "_law_told", "_law_due", "error"] ["_law_script"] (defScope st_law) := ⟨rfl, rfl, rfl, by decide +kernel, rfl, by decide +kernel, by decide +kernel⟩
theorem ok_law (TK : TxK K w mg) {C : Addr} (TC : TxC K C) {f : Addr} {fd : FuncData} (F : Fun K "law" "law" st_law f fd) (T : Txt mg) {AH : Addr} (TE : TxE P K mg AH) (c__law_pick : Cal P w K mg base 2 "_law_pick" (spR K mm__law_pick)) (c__law_alike : Cal P w K mg base 6 "_law_alike" (spP K (mm__law_alike 6))) (c__law_bad_webs : Cal P w K mg base 1 "_law_bad_webs" (spP K mm__law_bad_webs)) {f_Town : Addr} {fd_Town : FuncData} (M_Town : Mk K C f_Town) (G_Town : FnOk P w K mg base CX0 4 f_Town fd_Town ["self", "web"] (spMx K C mm_Town___init__)) (B_Town : Binds K fd_Town ["self", "web"] []) (mg_Town : mg "Town" = some (.ref C)) (m_run : CalM P w K mg base 4 C "run" (spM K C mm_Town_run)) (m_runx : CalM P w K mg base 4 C "run" (spMx K C mm_Town_run_x)) (m_houses : CalG P w K mg base 1 C "houses" (spT K mm_Town_houses)) (m_web : CalG P w K mg base 1 C "web" (spT K mm_Town_web)) (m_steps : CalG P w K mg base 1 C "steps" (spT K mm_Town_steps)) (mX_run : CalMX P w K mg base 4 C "run" (spMX K mg C mx_Town_run)) (GX_Town : FnOk P w K mg base (L2.CX P w) 4 f_Town fd_Town ["self", "web"] (spMX K mg C mx_Town___init__)) : FnOk P w K mg base CX0 7 f fd ["_law_script"] (spP K mm_law) := by
  have S := sc_law
  refine okPc (c := C) 12 1 F S rfl rfl (g := gs_law) fun cdv A outer s H E z hz hr => ?_
  have hu6 := hu65 hr
  have hu4 := hu64 hr
  exact (s_cons (s_setW 1 S.nd (w_lst (r_lfs (q_cons (q_var 0) (q_cons q_int (q_cons q_int (q_cons q_int q_nil)))))))
  (s_cons (s_setW 2 S.nd (w_make hz TC.cl M_Town G_Town B_Town hr (by decide) (by rfl) mg_Town (q_cons (q_tup (q_cons (q_tup (q_cons q_int (q_cons q_int (q_cons q_int q_nil)))) (q_cons (q_tup (q_cons (q_tup (q_cons q_int (q_cons q_int (q_cons q_int q_nil)))) (q_cons (q_tup (q_cons q_int (q_cons q_int (q_cons q_int q_nil)))) q_nil))) q_nil))) q_nil)))
  (s_cons (s_for rfl (i_lf (i_seq (q_lst (q_cons q_str (q_cons q_str q_nil))))) (g_nm 3 S.nd)
  (s_one (s_methXR 2 hz m_runx hr (by decide) (r_lfs (q_cons (q_var 3) q_nil)))) PassesOwn.never)
  (s_cons (s_set 4 S.nd (r_lf (q_lst (q_cons (q_tup (q_cons q_str (q_cons q_int q_nil))) (q_cons (q_tup (q_cons q_str (q_cons q_int q_nil))) (q_cons (q_tup (q_cons q_str (q_cons q_int q_nil))) (q_cons (q_tup (q_cons q_str (q_cons q_int q_nil))) (q_cons (q_tup (q_cons q_str (q_cons q_int q_nil))) (q_cons (q_tup (q_cons q_str (q_cons q_int q_nil))) (q_cons (q_tup (q_cons q_str (q_cons q_int q_nil))) q_nil))))))))))
  (s_cons (s_set 4 S.nd (r_lf (q_op op_addA w_add (q_var 4) (q_lst (q_cons (q_tup (q_cons q_str (q_cons q_int q_nil))) (q_cons (q_tup (q_cons q_str (q_cons q_int q_nil))) (q_cons (q_tup (q_cons q_str (q_cons q_int q_nil))) q_nil)))))))
  (s_cons (s_set 4 S.nd (r_lf (q_op op_addA w_add (q_var 4) (q_lst (q_cons (q_tup (q_cons q_str (q_cons q_int q_nil))) (q_cons (q_tup (q_cons q_str (q_cons q_int q_nil))) (q_cons (q_tup (q_cons q_str (q_cons q_int q_nil))) (q_cons (q_tup (q_cons q_str (q_cons q_int q_nil))) (q_cons (q_tup (q_cons q_str (q_cons q_int q_nil))) q_nil)))))))))
  (s_cons (s_set 4 S.nd (r_lf (q_op op_addA w_add (q_var 4) (q_lst (q_cons (q_tup (q_cons q_str (q_cons q_int q_nil))) (q_cons (q_tup (q_cons q_str (q_cons q_int q_nil))) (q_cons (q_tup (q_cons q_str (q_cons q_int q_nil))) q_nil)))))))
  (s_cons (s_set 4 S.nd (r_lf (q_op op_addA w_add (q_var 4) (q_lst (q_cons (q_tup (q_cons q_str (q_cons q_int q_nil))) (q_cons (q_tup (q_cons q_str (q_cons q_int q_nil))) (q_cons (q_tup (q_cons q_str (q_cons q_int q_nil))) (q_cons (q_tup (q_cons q_str (q_cons q_int q_nil))) (q_cons (q_tup (q_cons q_str (q_cons q_int q_nil))) q_nil)))))))))
  (s_cons (s_set 4 S.nd (r_lf (q_op op_addA w_add (q_var 4) (q_lst (q_cons (q_tup (q_cons q_str (q_cons q_int q_nil))) (q_cons (q_tup (q_cons q_str (q_cons q_int q_nil))) (q_cons (q_tup (q_cons q_str (q_cons q_int q_nil))) q_nil)))))))
  (s_cons (s_set 4 S.nd (r_lf (q_op op_addA w_add (q_var 4) (q_lst (q_cons (q_tup (q_cons q_str (q_cons q_int q_nil))) (q_cons (q_tup (q_cons q_str (q_cons q_int q_nil))) (q_cons (q_tup (q_cons q_str (q_cons q_int q_nil))) (q_cons (q_tup (q_cons q_str (q_cons q_int q_nil))) (q_cons (q_tup (q_cons q_str (q_cons q_int q_nil))) q_nil)))))))))
  (s_cons (s_set 4 S.nd (r_lf (q_op op_addA w_add (q_var 4) (q_lst (q_cons (q_tup (q_cons q_str (q_cons q_int q_nil))) q_nil)))))
  (s_cons (s_set 5 S.nd (r_lf (q_tup (q_cons (q_prop 2 hz m_houses hr (by decide)) (q_cons (q_prop 2 hz m_web hr (by decide)) (q_cons (q_prop 2 hz m_steps hr (by decide)) q_nil))))))
  (s_cons (s_for rfl (i_lf (i_range1 (by rfl) T.bl_range (q_cons q_int q_nil))) (g_nm 6 S.nd)
  (s_cons (s_asg (r_row 1 c__law_pick hr (by decide) (by rfl) (r_lfs (q_cons (q_var 4) q_nil))) (g_tup rfl (g_cons (g_nm 3 S.nd) (g_cons (g_nm 10 S.nd) g_nil))))
  (s_cons (s_set 9 S.nd (r_lf q_non))
  (s_cons (s_try 11 csAll rfl rfl S.nd TE.hh TE.es (by rfl) (fun W pn xe tk hp => x_one (x_expr (e_meth 2 tk hz mX_run hr (by decide) (q_cons (q_var 3) q_nil)))) (fun a oe cls d pn z hzc hf hx =>
  (s_one (s_set 9 S.nd (r_lf (q_if (b_val (q_isE 11 TE.hh TE.es (TE.es "InvalidLine" (by decide)) hzc hf hx (by rfl) T.bl_isinstance (by rfl))) (q_fldE 11 TE.es TE.nf_word hzc hf hx) q_str))))))
  (s_one (s_if (r_lfb ((b_or (b_not (b_val (q_call c__law_alike hr (by decide) (by rfl) (q_cons (q_var 9) (q_cons (q_var 10) q_nil))))) (b_or1 (b_cmp (op_neQ (hu64 hr)) w_ne (q_tup (q_cons (q_prop 2 hz m_houses hr (by decide)) (q_cons (q_prop 2 hz m_web hr (by decide)) (q_cons (q_prop 2 hz m_steps hr (by decide)) q_nil)))) (q_var 5) (by rfl))))).pt)
  (s_one (s_ret (r_lf q_bl)))
  s_nil))))) PassesOwn.never)
  (s_cons (s_asg (r_row 1 c__law_pick hr (by decide) (by rfl) (r_lfs (q_cons (q_call0 c__law_bad_webs hr (by decide) (by rfl)) q_nil))) (g_tup rfl (g_cons (g_nm 7 S.nd) (g_cons (g_nm 8 S.nd) g_nil))))
  (s_cons (s_set 9 S.nd (r_lf q_str))
  (s_cons (s_try 11 csAll rfl rfl S.nd TE.hh TE.es (by rfl) (fun W pn xe tk hp => x_one (x_expr (e_make tk hz TC.cl M_Town GX_Town B_Town hr (by decide) (by rfl) mg_Town (q_cons (q_var 7) q_nil)))) (fun a oe cls d pn z hzc hf hx =>
  (s_one (s_set 9 S.nd (r_lf (q_if (b_val (q_isE 11 TE.hh TE.es (TE.es "BadWeb" (by decide)) hzc hf hx (by rfl) T.bl_isinstance (by rfl))) (q_fldE 11 TE.es TE.nf_index hzc hf hx) q_str))))))
  (s_one (s_ret (r_and (r_lf (q_cmp (op_eqQ (hu64 hr)) w_eq (q_var 9) (q_var 8) (by rfl))) (q_one (r_cmp (op_eqQ (hu64 hr)) w_eq (r_lst (r_cons (r_of (m_meth 2 hz m_run hr (by decide) (q_cons q_str q_nil))) (r_cons (r_of (m_meth 2 hz m_run hr (by decide) (q_cons q_str q_nil))) (r_cons (r_of (m_meth 2 hz m_run hr (by decide) (q_cons q_str q_nil))) (r_cons (r_of (m_meth 2 hz m_run hr (by decide) (q_cons q_str q_nil))) r_nil))))) (r_lf (q_lst (q_cons q_str (q_cons q_str (q_cons q_str (q_cons q_str q_nil)))))) (by rfl))))))))))))))))))))))
end
end DG
namespace DG
open PySem PySem.Spec PyProof.Rows L2 DL
theorem lt_ii (a b : Int) : PySem.W.dataLt (.int a) (.int b) = decide (a < b) := by
  have h := congrFun (congrFun (PySem.W.dataLe_int (fun x : Int => x)) b) a
  rw [PySem.W.dataLe_eq] at h
  have h : (!PySem.W.dataLt (.int a) (.int b)) = decide (b ≤ a) := h
  by_cases q : a < b
  · rw [decide_eq_false (by omega)] at h
    rw [decide_eq_true q]
    simpa using h
  · rw [decide_eq_true (by omega)] at h
    rw [decide_eq_false q]
    simpa using h
theorem oGt_ii (a b : Int) : oGt (.int a) (.int b) = some (.bool (decide (b < a))) := by
  have e : oGt (.int a) (.int b) = some (.bool (PySem.W.dataLt (.int b) (.int a))) := rfl
  rw [e, lt_ii]
theorem oGe_ii (a b : Int) : oGe (.int a) (.int b) = some (.bool (decide (b ≤ a))) := by
  have e : oGe (.int a) (.int b) = some (.bool (!PySem.W.dataLt (.int a) (.int b))) := rfl
  rw [e, lt_ii]
  congr 2
  by_cases q : a < b
  · rw [decide_eq_true q, decide_eq_false (by omega)]; rfl
  · rw [decide_eq_false q, decide_eq_true (by omega)]; rfl
theorem oDiv_ii (a b : Int) (h : b ≠ 0) (h2 : b.natAbs < 1073741824) : oDiv (.int a) (.int b) = some (.int (a.fdiv b)) := by
  unfold oDiv
  simp [h, Nat.lt_of_lt_of_le h2 (show 1073741824 ≤ 2 ^ 200 by decide)]
theorem oMod_ii (a b : Int) (h : b ≠ 0) : oMod (.int a) (.int b) = some (.int (a.fmod b)) := by
  unfold oMod
  simp [h]
def rowD (ns : List Int) (k sd ps : Int) : List D := [.list (ns.map .int), .int k, .int sd, .int ps]
theorem atI_int (ns : List Int) (k : Int) (h0 : 0 ≤ k) (h1 : k < ns.length) : ∃ c : Int, atI (ns.map PyData.int) k = some (.int c) := by
  unfold atI ixN
  rw [if_pos h0, if_pos (by rw [List.length_map]; exact h1)]
  refine ⟨ns[k.toNat]'(by omega), ?_⟩
  show (ns.map PyData.int)[k.toNat]? = _
  rw [List.getElem?_map, List.getElem?_eq_getElem (by omega)]
  rfl
theorem at0 (a b c d : D) : atI [a, b, c, d] 0 = some a := rfl
theorem at1 (a b c d : D) : atI [a, b, c, d] 1 = some b := rfl
theorem at2 (a b c d : D) : atI [a, b, c, d] 2 = some c := rfl
theorem at3 (a b c d : D) : atI [a, b, c, d] 3 = some d := rfl
theorem taken_ok (ns : List Int) (k sd ps m : Int) (hk : 0 ≤ k) (hm : 0 < m) (hm2 : m < 1000000) : ∃ r k' sd' ps', mm__law_taken (rowD ns k sd ps) [.int m] = some (.int r, rowD ns k' sd' ps') ∧ 0 ≤ r ∧ r < m ∧ 0 ≤ k' := by
  have hmz : m ≠ 0 := by omega
  have hma : m.natAbs < 1073741824 := by omega
  have hr : ∀ x : Int, 0 ≤ x.fmod m ∧ x.fmod m < m := fun x => ⟨Int.fmod_nonneg_of_pos _ hm, Int.fmod_lt_of_pos _ hm⟩
  by_cases h1 : 0 < ps
  · refine ⟨ps.fmod m, k, sd, ps.fdiv m, ?_, (hr _).1, (hr _).2, hk⟩
    simp [mm__law_taken, rowD, runR, gs__law_taken, ini, gSeq, gIf, gAsg, gSetI, gRet, lf, lfb, bV, c2, cN, cCons, cNil, cIxO, cVar, cK, bNm, ownL, putL, oGt_ii, oDiv_ii, oMod_ii, hmz, hma, h1, isB, oInt, fin, rowL, atI, ixN]
  · have hmul : ∀ a : Int, oMul (.int a) (.int 48271) = some (.int (a * 48271)) := fun a => by
      show (if (b64 a || b64 48271) = true then some (PyData.int (a * 48271)) else none) = _
      rw [show b64 48271 = true from rfl, Bool.or_true, if_pos rfl]
    have hadd : ∀ a b : Int, oAdd (.int a) (.int b) = some (.int (a + b)) := fun _ _ => rfl
    have hsub : ∀ a b : Int, oSub (.int a) (.int b) = some (.int (a - b)) := fun _ _ => rfl
    have hix : ∀ i : Int, oIx (.list (ns.map .int)) (.int i) = atI (ns.map .int) i := fun _ => rfl
    have hpow : oPow (.int 10) (.int 18) = some (.int 1000000000000000000) := rfl
    have hlen : oLen [.list (ns.map .int)] = some (.int ns.length) := by
      show some (PyData.int ((ns.map PyData.int).length : Nat)) = _
      rw [List.length_map]
    by_cases h2 : (ns.length : Int) < k + 1
    · refine ⟨(((sd * 48271 + 11).fmod 2147483647).fdiv 7).fmod m, k + 1, (sd * 48271 + 11).fmod 2147483647, ps, ?_, (hr _).1, (hr _).2, by omega⟩
      simp [mm__law_taken, rowD, runR, gs__law_taken, ini, gSeq, gIf, gAsg, gSetI, gRet, lf, lfb, bV, c2, cN, cCons, cNil, cIxO, cVar, cK, bNm, ownL, putL, oGt_ii, oDiv_ii, oMod_ii, hmz, hma, h1, isB, oInt, fin, rowL, at0, at1, at2, at3, ixN, hmul, hadd, hlen, h2, gNx]
    · obtain ⟨c, hc⟩ := atI_int ns k hk (by omega)
      have hc' : atI (ns.map PyData.int) (k + 1 - 1) = some (.int c) := by
        rw [show k + 1 - 1 = k by omega]
        exact hc
      by_cases h3 : (1000000000000000000 : Int) ≤ c
      · refine ⟨c.fmod m, k + 1, (sd * 48271 + c + 11).fmod 2147483647, c.fdiv m, ?_, (hr _).1, (hr _).2, by omega⟩
        simp [mm__law_taken, rowD, runR, gs__law_taken, ini, gSeq, gIf, gAsg, gSetI, gRet, lf, lfb, bV, c2, cN, cCons, cNil, cIxO, cVar, cK, bNm, ownL, putL, oGt_ii, oGe_ii, oDiv_ii, oMod_ii, hmz, hma, h1, isB, oInt, fin, rowL, ixN, hmul, hadd, hsub, hlen, h2, hix, hc, hpow, h3, at0, at1, at2, at3, gNx]
      · refine ⟨c.fmod m, k + 1, (sd * 48271 + c + 11).fmod 2147483647, ps, ?_, (hr _).1, (hr _).2, by omega⟩
        simp [mm__law_taken, rowD, runR, gs__law_taken, ini, gSeq, gIf, gAsg, gSetI, gRet, lf, lfb, bV, c2, cN, cCons, cNil, cIxO, cVar, cK, bNm, ownL, putL, oGt_ii, oGe_ii, oDiv_ii, oMod_ii, hmz, hma, h1, isB, oInt, fin, rowL, ixN, hmul, hadd, hsub, hlen, h2, hix, hc, hpow, h3, at0, at1, at2, at3, gNx]
end DG
namespace PL
open PySem PySem.Spec PyProof.Rows L2 DL
/-- the row that draws are taken from -/
structure Stt where
  k : Int
  sd : Int
  ps : Int
def stD (ns : List Int) (s : Stt) : List D := DG.rowD ns s.k s.sd s.ps
theorem taken_st (ns : List Int) (s : Stt) (hk : 0 ≤ s.k) (m : Int) (hm : 0 < m) (hm2 : m < 1000000) : ∃ (r : Int) (s' : Stt), DG.mm__law_taken (stD ns s) [.int m] = some (.int r, stD ns s') ∧ 0 ≤ r ∧ r < m ∧ 0 ≤ s'.k := by
  obtain ⟨r, k', sd', ps', h1, h2, h3, h4⟩ := DG.taken_ok ns s.k s.sd s.ps m hk hm hm2
  exact ⟨r, ⟨k', sd', ps'⟩, h1, h2, h3, h4⟩
theorem pick_st (ns : List Int) (s : Stt) (hk : 0 ≤ s.k) (xs : List D) (h0 : xs ≠ []) (h1 : xs.length < 1000000) : ∃ (x : D) (s' : Stt), DG.mm__law_pick (stD ns s) [.list xs] = some (x, stD ns s') ∧ x ∈ xs ∧ 0 ≤ s'.k := by
  have hl : 0 < xs.length := List.length_pos_iff.mpr h0
  obtain ⟨r, s', e, r0, r1, k'⟩ := taken_st ns s hk (xs.length : Nat) (by omega) (by omega)
  have hr : r.toNat < xs.length := by omega
  refine ⟨xs[r.toNat], s', ?_, List.getElem_mem _, k'⟩
  have hix : oIx (.list xs) (.int r) = some xs[r.toNat] := by
    have q := atI_nat (xs := xs) (List.getElem?_eq_getElem hr)
    rw [Int.toNat_of_nonneg r0] at q
    exact q
  have ee : rRow 0 DG.mm__law_taken (lfs (cCons (cN oLen (cCons (cVar 1) cNil)) cNil)) [some (.row (.list (stD ns s))), some (.sh (.list xs))] = some (.int r, [some (.row (.list (stD ns s'))), some (.sh (.list xs))]) := by
    have e1 : lfs (cCons (cN oLen (cCons (cVar 1) cNil)) cNil) [some (.row (.list (stD ns s))), some (.sh (.list xs))] = some ([.int (xs.length : Nat)], [some (.row (.list (stD ns s))), some (.sh (.list xs))]) := rfl
    unfold rRow
    rw [show ownL ([some (E.row (.list (stD ns s))), some (.sh (.list xs))] : DL.Env)[0]? = some (stD ns s) from rfl, Option.bind_some, e1, Option.bind_some]
    dsimp only
    rw [show ownL ([some (E.row (.list (stD ns s))), some (.sh (.list xs))] : DL.Env)[0]? = some (stD ns s) from rfl, Option.bind_some, e]
    rfl
  show ((DG.gs__law_pick [some (.row (.list (stD ns s))), some (.sh (.list xs))]).bind fun p => (fin p).bind fun d => (rowL p.2[0]?).bind fun ds' => some (d, ds')) = _
  unfold DG.gs__law_pick gRet r2
  rw [show lf (cVar 1) [some (E.row (.list (stD ns s))), some (.sh (.list xs))] = some (.list xs, [some (E.row (.list (stD ns s))), some (.sh (.list xs))]) from rfl, Option.bind_some]
  dsimp only
  rw [ee, Option.bind_some]
  dsimp only
  rw [hix]
  rfl
end PL
namespace PL
open PySem PySem.Spec PyProof.Rows L2 DL
end PL
namespace PL
open PySem PySem.Spec PyProof.Rows L2 DL
end PL
namespace PL
open PySem PySem.Spec PyProof.Rows L2 DL
end PL
namespace PL
open PySem PySem.Spec PyProof.Rows L2 DL
end PL
namespace PL
open PySem PySem.Spec PyProof.Rows L2 DL
end PL
namespace PL
open PySem PySem.Spec PyProof.Rows L2 DL
end PL
namespace PL
open PySem PySem.Spec PyProof.Rows L2 DL
end PL
namespace PL
open PySem PySem.Spec PyProof.Rows L2 DL
end PL
namespace PL
open PySem PySem.Spec PyProof.Rows L2 DL
end PL
namespace PL
open PySem PySem.Spec PyProof.Rows L2 DL
end PL
namespace PL
open PySem PySem.Spec PyProof.Rows L2 DL
/-- data that the law's own look at structure goes through -/
inductive Good : Nat → D → Prop
  | int {k : Nat} (i : Int) : Good k (.int i)
  | non {k : Nat} : Good k .none
  | bl {k : Nat} (b : Bool) : Good k (.bool b)
  | tup {k : Nat} {ds : List D} : (∀ d ∈ ds, Good k d) → ds.length ≤ 1000 → Good (k + 1) (.tuple ds)
  | lst {k : Nat} {ds : List D} : (∀ d ∈ ds, Good k d) → ds.length ≤ 1000 → Good (k + 1) (.list ds)
theorem Good.up {k : Nat} {d : D} (h : Good k d) : Good (k + 1) d := by
  induction h with
  | int i => exact .int i
  | non => exact .non
  | bl b => exact .bl b
  | tup _ hl ih => exact .tup ih hl
  | lst _ hl ih => exact .lst ih hl
end PL
namespace PL
open PySem PySem.Spec PyProof.Rows L2 DL
end PL
namespace PL
open PySem PySem.Spec PyProof.Rows L2 DL
end PL
namespace PL
open PySem PySem.Spec PyProof.Rows L2 DL
end PL
namespace PL
open PySem PySem.Spec PyProof.Rows L2 DL
end PL
namespace PL
open PySem PySem.Spec PyProof.Rows L2 DL
end PL
namespace PL
open PySem PySem.Spec PyProof.Rows L2 DL
end PL
namespace PL
open PySem PySem.Spec PyProof.Rows L2 DL
end PL
namespace PL
open PySem PySem.Spec PyProof.Rows L2 DL
end PL
namespace PL
open PySem PySem.Spec PyProof.Rows L2 DL
end PL
namespace PL
open PySem PySem.Spec PyProof.Rows L2 DL
end PL
namespace PL
open PySem PySem.Spec PyProof.Rows L2 DL
end PL
namespace PL
open PySem PySem.Spec PyProof.Rows L2 DL
end PL
namespace PL
open PySem PySem.Spec PyProof.Rows L2 DL
end PL
namespace PL
open PySem PySem.Spec PyProof.Rows L2 DL
end PL
namespace PL
open PySem PySem.Spec PyProof.Rows L2 DL
end PL
namespace PL
open PySem PySem.Spec PyProof.Rows L2 DL
end PL
namespace PL
open PySem PySem.Spec PyProof.Rows L2 DL
end PL
namespace PL
open PySem PySem.Spec PyProof.Rows L2 DL
end PL
namespace PL
open PySem PySem.Spec PyProof.Rows L2 DL
end PL
namespace PL
open PySem PySem.Spec PyProof.Rows L2 DL
end PL
namespace PL
open PySem PySem.Spec PyProof.Rows L2 DL
end PL
namespace PL
open PySem PySem.Spec PyProof.Rows L2 DL
end PL
namespace PL
open PySem PySem.Spec PyProof.Rows L2 DL
end PL
namespace PL
open PySem PySem.Spec PyProof.Rows L2 DL
end PL
namespace PL
open PySem PySem.Spec PyProof.Rows L2 DL
end PL
namespace PL
open PySem PySem.Spec PyProof.Rows L2 DL
end PL
namespace PL
open PySem PySem.Spec PyProof.Rows L2 DL
section
variable {n : Nat} {w : Nat → Int} {rs : List Road}
/-- a longest pair, the least one -/
structure LongOk (n : Nat) (m : Mat) (p q : Nat) : Prop where
  lt : p < q
  ltn : q < n
  le : ∀ i j, i < j → j < n → m i j ≤ m p q
  least : ∀ i j, i < j → j < n → m i j = m p q → p < i ∨ (p = i ∧ q ≤ j)
theorem LongOk.all (w : Web n rs) {p q : Nat} (h : LongOk n (dist n rs) p q) : ∀ i j, i < n → j < n → dist n rs i j ≤ dist n rs p q := fun i j hi hj => by
  have h1 := dist_sym w i j
  have h2 := (dist_zero w).diag i
  have h3 := (dist_zero w).nn p q
  rcases Nat.lt_trichotomy i j with c | c | c
  · exact h.le i j c hj
  · rw [← c, h2]
    exact h3
  · have := h.le j i c hi
    omega
end
end PL
namespace PL
open PySem PySem.Spec PyProof.Rows L2 DL
end PL
namespace PL
open PySem PySem.Spec PyProof.Rows L2 DL
end PL
namespace PL
open PySem PySem.Spec PyProof.Rows L2 DL
end PL
namespace PL
open PySem PySem.Spec PyProof.Rows L2 DL
end PL
namespace PL
open PySem PySem.Spec PyProof.Rows L2 DL
def RS (S : Nat → List Nat) (k x : Nat) : Prop := x ∈ S k
end PL
namespace PL
open PySem PySem.Spec PyProof.Rows L2 DL
structure LineOk (n : Nat) (p w : Nat → Int) : Prop where
  n1 : 1 ≤ n
  n8 : n ≤ 8
  p0 : 0 ≤ p 0
  up : ∀ i j, i < j → j < n → p i < p j
  le : ∀ k, k < n → p k ≤ 1000
  w0 : ∀ k, k < n → 0 ≤ w k
  w100 : ∀ k, k < n → w k ≤ 100
end PL
namespace PL
open PySem PySem.Spec PyProof.Rows L2 DL
end PL
namespace PL
open PySem PySem.Spec PyProof.Rows L2 DL
end PL
namespace PL
open PySem PySem.Spec PyProof.Rows L2 DL
end PL
namespace PL
open PySem PySem.Spec PyProof.Rows L2 DL
end PL
namespace PL
open PySem PySem.Spec PyProof.Rows L2 DL
end PL
namespace PL
open PySem PySem.Spec PyProof.Rows L2 DL
end PL
namespace PL
open PySem PySem.Spec PyProof.Rows L2 DL
end PL
namespace PL
open PySem PySem.Spec PyProof.Rows L2 DL
end PL
namespace PL
open PySem PySem.Spec PyProof.Rows L2 DL
end PL
namespace PL
open PySem PySem.Spec PyProof.Rows L2 DL
end PL
namespace PL
open PySem PySem.Spec PyProof.Rows L2 DL
end PL
namespace PL
open PySem PySem.Spec PyProof.Rows L2 DL
end PL
namespace PL
open PySem PySem.Spec PyProof.Rows L2 DL
end PL
namespace PL
open PySem PySem.Spec PyProof.Rows L2 DL
end PL
namespace PL
open PySem PySem.Spec PyProof.Rows L2 DL
end PL
namespace PL
open PySem PySem.Spec PyProof.Rows L2 DL
end PL
namespace PL
open PySem PySem.Spec PyProof.Rows L2 DL
end PL
namespace PL
open PySem PySem.Spec PyProof.Rows L2 DL
end PL
namespace PL
open PySem PySem.Spec PyProof.Rows L2 DL
end PL
namespace PL
open PySem PySem.Spec PyProof.Rows L2 DL
end PL
namespace PL
open PySem PySem.Spec PyProof.Rows L2 DL
end PL
namespace PL
open PySem PySem.Spec PyProof.Rows L2 DL
end PL
namespace PL
open PySem PySem.Spec PyProof.Rows L2 DL
end PL
namespace PL
open PySem PySem.Spec PyProof.Rows L2 DL
end PL
namespace PL
open PySem PySem.Spec PyProof.Rows L2 DL
end PL
namespace PL
open PySem PySem.Spec PyProof.Rows L2 DL
end PL
namespace PL
open PySem PySem.Spec PyProof.Rows L2 DL
end PL
namespace PL
open PySem PySem.Spec PyProof.Rows L2 DL
end PL
namespace PL
open PySem PySem.Spec PyProof.Rows L2 DL
end PL
namespace PL
open PySem PySem.Spec PyProof.Rows L2 DL
end PL
namespace PL
open PySem PySem.Spec PyProof.Rows L2 DL
section
variable {n : Nat} {w : Nat → Int} {rs : List Road}
def plR (w : Nat → Int) (m : Mat) (a b : Nat) : Rat := if w a + w b = 0 then 0 else Rat.divInt (w a * w b * m a b) (w a + w b)
abbrev HpS := Rat × Option (Nat × Nat)
def stepHp (w : Nat → Int) (m : Mat) (s : HpS) (q : Nat × Nat) : HpS := if 0 < w q.1 ∧ 0 < w q.2 ∧ s.1 < plR w m q.1 q.2 then (plR w m q.1 q.2, some q) else s
/-- what the fold holds -/
structure HpI (n : Nat) (w : Nat → Int) (m : Mat) (s : HpS) : Prop where
  none : s.2 = Option.none → s.1 = 0
  some : ∀ q, s.2 = Option.some q → s.1 = plR w m q.1 q.2 ∧ q.1 < q.2 ∧ q.2 < n ∧ 0 < w q.1 ∧ 0 < w q.2
theorem HpI.step {m : Mat} {s : HpS} (I : HpI n w m s) {q : Nat × Nat} (h1 : q.1 < q.2) (h2 : q.2 < n) : HpI n w m (stepHp w m s q) := by
  unfold stepHp
  by_cases c : 0 < w q.1 ∧ 0 < w q.2 ∧ s.1 < plR w m q.1 q.2
  · rw [if_pos c]
    exact ⟨fun e => (nomatch e), fun p e => by rw [← Option.some.inj e]; exact ⟨rfl, h1, h2, c.1, c.2.1⟩⟩
  · rw [if_neg c]
    exact I
end
end PL
namespace PL
open PySem PySem.Spec PyProof.Rows L2 DL
end PL
namespace PL
open PySem PySem.Spec PyProof.Rows L2 DL
structure LineX (n : Nat) (p w : Nat → Int) : Prop where
  n1 : 1 ≤ n
  n10 : n ≤ 10
  p0 : 0 ≤ p 0
  up : ∀ i j, i < j → j < n → p i < p j
  le : ∀ k, k < n → p k ≤ 1000
  w0 : ∀ k, k < n → 0 ≤ w k
  w100 : ∀ k, k < n → w k ≤ 100
theorem LineOk.x {n : Nat} {p w : Nat → Int} (h : LineOk n p w) : LineX n p w := ⟨h.n1, Nat.le_trans h.n8 (by decide), h.p0, h.up, h.le, h.w0, h.w100⟩
end PL
namespace PL
open PySem PySem.Spec PyProof.Rows L2 DL
end PL
namespace PL
open PySem PySem.Spec PyProof.Rows L2 DL
end PL
namespace PL
open PySem PySem.Spec PyProof.Rows L2 DL
end PL
namespace PL
open PySem PySem.Spec PyProof.Rows L2 DL
end PL
namespace PL
open PySem PySem.Spec PyProof.Rows L2 DL
section
variable {n : Nat} {p w : Nat → Int}
def two (q : Nat × Nat) : List Nat := [q.1, q.2]
end
end PL
namespace PL
open PySem PySem.Spec PyProof.Rows L2 DL
end PL
namespace PL
open PySem PySem.Spec PyProof.Rows L2 DL
end PL
namespace PL
open PySem PySem.Spec PyProof.Rows L2 DL
end PL
namespace PL
open PySem PySem.Spec PyProof.Rows L2 DL
end PL
namespace PL
open PySem PySem.Spec PyProof.Rows L2 DL
end PL
namespace PL
open PySem PySem.Spec PyProof.Rows L2 DL
end PL
namespace PL
open PySem PySem.Spec PyProof.Rows L2 DL
section
variable {n : Nat} {w : Nat → Int} {rs : List Road}
theorem asc_iff {t : List Nat} : Asc n t ↔ t = ssetN t ∧ ∀ x ∈ t, x < n := by
  constructor
  · intro h
    exact ⟨(ssetN_self h.1).symm, h.2⟩
  · intro h
    exact ⟨by rw [h.1]; exact ssetN_asc _, h.2⟩
instance ascDec (n : Nat) (t : List Nat) : Decidable (Asc n t) := decidable_of_iff _ asc_iff.symm
end
end PL
namespace PL
open PySem PySem.Spec PyProof.Rows L2 DL
end PL
namespace PL
open PySem PySem.Spec PyProof.Rows L2 DL
end PL
namespace PL
open PySem PySem.Spec PyProof.Rows L2 DL
end PL
namespace PL
open PySem PySem.Spec PyProof.Rows L2 DL
end PL
namespace PL
open PySem PySem.Spec PyProof.Rows L2 DL
end PL
namespace PL
open PySem PySem.Spec PyProof.Rows L2 DL
end PL
namespace PL
open PySem PySem.Spec PyProof.Rows L2 DL
section
variable {n : Nat} {w : Nat → Int} {rs : List Road}
inductive FwC (n : Nat) (rs : List Road) (b : Nat) : Nat → List Nat → Prop
  | nil : FwC n rs b b [b]
  | step {u v : Nat} {l : Int} {p : List Nat} : Edge rs u v l → l + dist n rs v b = dist n rs u b → FwC n rs b v p → FwC n rs b u (u :: p)
theorem FwC.last {b u : Nat} {p : List Nat} (h : FwC n rs b u p) : ∃ t, p = t ++ [b] := by
  induction h with
  | nil => exact ⟨[], rfl⟩
  | @step u v l p _ _ _ ih =>
    obtain ⟨t, e⟩ := ih
    exact ⟨u :: t, by rw [e]; rfl⟩
theorem FwC.lt (W : WebZ n rs) {b u : Nat} (hb : b < n) {p : List Nat} (h : FwC n rs b u p) : ∀ x ∈ p, x < n ∧ dist n rs x b ≤ dist n rs u b := by
  induction h with
  | nil => exact fun x hx => by rw [List.mem_singleton.mp hx]; exact ⟨hb, Int.le_refl _⟩
  | @step u v l p a d _ ih =>
    have e := dist_edge0 W a
    intro x hx
    rcases List.mem_cons.mp hx with q | q
    · rw [q]
      exact ⟨e.1, Int.le_refl _⟩
    · have := ih x q
      exact ⟨this.1, by omega⟩
end
end PL
namespace PL
open PySem PySem.Spec PyProof.Rows L2 DL
section
variable {n : Nat} {w : Nat → Int} {rs : List Road}
def sideR (n : Nat) (rs : List Road) (e : Road) (k : Nat) : Prop := dist n rs k e.2.1 = dist n rs k e.1 + e.2.2
instance (e : Road) (k : Nat) : Decidable (sideR n rs e k) := inferInstanceAs (Decidable (dist n rs k e.2.1 = dist n rs k e.1 + e.2.2))
end
end PL
namespace PL
open PySem PySem.Spec PyProof.Rows L2 DL
end PL
namespace PL
open PySem PySem.Spec PyProof.Rows L2 DL
end PL
namespace PL
open PySem PySem.Spec PyProof.Rows L2 DL
end PL
namespace PL
open PySem PySem.Spec PyProof.Rows L2 DL
end PL
namespace PL
open PySem PySem.Spec PyProof.Rows L2 DL
end PL
namespace PL
open PySem PySem.Spec PyProof.Rows L2 DL
end PL
namespace PL
open PySem PySem.Spec PyProof.Rows L2 DL
end PL
namespace PL
open PySem PySem.Spec PyProof.Rows L2 DL
end PL
namespace PL
open PySem PySem.Spec PyProof.Rows L2 DL
end PL
namespace PL
open PySem PySem.Spec PyProof.Rows L2 DL
end PL
namespace PL
open PySem PySem.Spec PyProof.Rows L2 DL
end PL
namespace PL
open PySem PySem.Spec PyProof.Rows L2 DL
end PL
namespace PL
open PySem PySem.Spec PyProof.Rows L2 DL
structure Best (p : SX.Pg) (g X Y : Nat → Int) (b : Int) : Prop where
  fit : p.Fit X b
  dul : p.Dul g Y b
  eq : (SX.sm p.w fun j => X j * g j) = SX.sm p.m fun i => p.lim i * Y i
  one : p.Tu → b = 1
  bb : b.natAbs < 2 ^ 170
  xb : ∀ j, (X j).natAbs < 2 ^ 202
  yb : ∀ i, i < p.m → (Y i).natAbs < 2 ^ 192
  vb : (SX.sm p.w fun j => X j * g j).natAbs < 2 ^ 217
  rb : ∀ R : Nat → Nat, (∀ r, r < p.m → (SX.sm p.N fun j => ((p.A j r).natAbs : Int)) ≤ (R r : Nat)) → b.natAbs ≤ SX.pr p.m R
end PL
namespace PL
open PySem PySem.Spec PyProof.Rows L2 DL
end PL
namespace PL
open PySem PySem.Spec PyProof.Rows L2 DL
end PL
namespace PL
open PySem PySem.Spec PyProof.Rows L2 DL
end PL
namespace PL
open PySem PySem.Spec PyProof.Rows L2 DL
end PL
namespace PL
open PySem PySem.Spec PyProof.Rows L2 DL
end PL
namespace PL
open PySem PySem.Spec PyProof.Rows L2 DL
end PL
namespace PL
open PySem PySem.Spec PyProof.Rows L2 DL
section
variable {n : Nat} {w : Nat → Int} {rs : List Road} {p : Nat → Int}
def costM (w : Nat → Int) (m : Mat) : Mat := fun k x => w k * m k x
end
end PL
namespace PL
open PySem PySem.Spec PyProof.Rows L2 DL
section
variable {n : Nat} {w : Nat → Int} {rs : List Road} {p p' : Nat → Int}
/-- the greatest offers -/
structure BestO (n : Nat) (w : Nat → Int) (rs : List Road) (p : Nat → Int) (X Y : Nat → Int) (b : Int) : Prop where
  best : Best (SX.offP n (costM w (dist n rs)) p) (SX.offG n) X Y b
  off : SX.Off n (costM w (dist n rs)) p X (fun k x => X (n + (k * n + x))) b
  vb : (SX.sm n X).natAbs < 2 ^ 217
  val : SX.sm n X = SX.sm (n * n + n) fun i => (SX.offP n (costM w (dist n rs)) p).lim i * Y i
/-- offers that fit have no greater sum than the greatest ones -/
theorem BestO.most {X Y : Nat → Int} {b : Int} (n0 : 0 < n) (B : BestO n w rs p X Y b) {O : Nat → Int} {U : Nat → Nat → Int} {c : Int} (s : SX.Off n (costM w (dist n rs)) p O U c) : SX.sm n O * b ≤ SX.sm n X * c := by
  have a := SX.Pg.weak (SX.off_fit n0 s) B.best.dul
  have v : (SX.sm (SX.offP n (costM w (dist n rs)) p).w fun j => (fun j => if j < n then O j else U ((j - n) / n) ((j - n) % n)) j * SX.offG n j) = SX.sm n O := by
    refine (SX.off_val (X := fun j => if j < n then O j else U ((j - n) / n) ((j - n) % n))).trans (SX.sm_ext n fun k hk => ?_)
    rw [if_pos hk]
  rw [v] at a
  rw [B.val]
  exact a
end
end PL
namespace PL
open PySem PySem.Spec PyProof.Rows L2 DL
end PL
namespace PL
open PySem PySem.Spec PyProof.Rows L2 DL
end PL
namespace PL
open PySem PySem.Spec PyProof.Rows L2 DL
end PL
namespace PL
open PySem PySem.Spec PyProof.Rows L2 DL
end PL
namespace PL
open PySem PySem.Spec PyProof.Rows L2 DL
section
variable {n : Nat} {S : Nat → List Nat}
/-- what is paid in turns: 0 for who had no turn, no house is paid above its price, and each turn leaves a house of its row paid -/
structure PayR (S : Nat → List Nat) (p y : Nat → Int) (pre : List Nat) : Prop where
  nn : ∀ k, 0 ≤ y k
  out : ∀ k, k ∉ pre → y k = 0
  fe : ∀ x, payX (RS S) y pre x ≤ p x
  ti : ∀ a k b, pre = a ++ k :: b → ∃ x ∈ S k, payX (RS S) y (a ++ [k]) x = p x
theorem payX_congr {y y' : Nat → Int} : ∀ {os : List Nat}, (∀ k ∈ os, y k = y' k) → ∀ x, payX (RS S) y os x = payX (RS S) y' os x
  | [], _, _ => rfl
  | k :: r, h, x => by
    have ih := payX_congr (os := r) (fun j hj => h j (List.mem_cons_of_mem _ hj)) x
    unfold payX at *
    rw [List.map_cons, List.sum_cons, List.map_cons, List.sum_cons, ih, h k (List.mem_cons_self ..)]
theorem payX_one (y : Nat → Int) (k x : Nat) : payX (RS S) y [k] x = if x ∈ S k then y k else 0 := by
  unfold payX RS
  rw [List.map_cons, List.map_nil, List.sum_cons, List.sum_nil, Int.add_zero]
  by_cases c : x ∈ S k
  · rw [if_pos c, if_pos c]
  · rw [if_neg c, if_neg c]
theorem PayR.next {p y : Nat → Int} {pre : List Nat} (h : PayR S p y pre) {k : Nat} (kn : k ∉ pre) {v : Int} (v1 : ∀ x ∈ S k, v ≤ p x - payX (RS S) y pre x) (v2 : ∃ x ∈ S k, v = p x - payX (RS S) y pre x) : PayR S p (fun j => if j = k then v else y j) (pre ++ [k]) := by
  have eq : ∀ j ∈ pre, y j = (fun j => if j = k then v else y j) j := fun j hj => (if_neg fun q => kn (by rw [← q]; exact hj)).symm
  have e1 : ∀ x, payX (RS S) (fun j => if j = k then v else y j) (pre ++ [k]) x = payX (RS S) y pre x + if x ∈ S k then v else 0 := fun x => by
    rw [payX_app, ← payX_congr eq, payX_one]
    rw [if_pos (rfl : k = k)]
  have v0 : 0 ≤ v := by
    obtain ⟨x, _, e⟩ := v2
    have := h.fe x
    omega
  refine ⟨fun j => ?_, fun j hj => ?_, fun x => ?_, fun a i b e => ?_⟩
  · show 0 ≤ if j = k then v else y j
    split
    · exact v0
    · exact h.nn j
  · show (if j = k then v else y j) = 0
    rw [if_neg fun q => hj (by rw [q]; exact List.mem_append_right _ (List.mem_singleton.mpr rfl))]
    exact h.out j fun q => hj (List.mem_append_left _ q)
  · rw [e1]
    by_cases c : x ∈ S k
    · rw [if_pos c]
      have := v1 x c
      omega
    · rw [if_neg c]
      have := h.fe x
      omega
  · by_cases c : b = []
    · subst c
      have e' := List.append_inj' e rfl
      obtain ⟨q1, q2⟩ := e'
      have q3 : k = i := (List.cons.inj q2).1
      subst q3
      subst q1
      obtain ⟨x, hx, ev⟩ := v2
      refine ⟨x, hx, ?_⟩
      rw [e1, if_pos hx, ev]
      omega
    · obtain ⟨b', z, eb⟩ : ∃ b' z, b = b' ++ [z] := ⟨b.dropLast, b.getLast c, (List.dropLast_concat_getLast c).symm⟩
      subst eb
      have e2 : pre ++ [k] = (a ++ i :: b') ++ [z] := by rw [e, List.append_assoc]; rfl
      obtain ⟨q1, q2⟩ := List.append_inj' e2 rfl
      obtain ⟨x, hx, ev⟩ := h.ti a i b' q1
      refine ⟨x, hx, ?_⟩
      rw [← ev]
      refine (payX_congr (fun j hj => eq j ?_) x).symm
      rw [q1]
      rcases List.mem_append.mp hj with t | t
      · exact List.mem_append_left _ t
      · rw [List.mem_singleton.mp t]
        exact List.mem_append_right _ (List.mem_cons_self ..)
open Classical in
open Classical in
end
end PL
namespace PL
open PySem PySem.Spec PyProof.Rows L2 DL
end PL
namespace PL
open PySem PySem.Spec PyProof.Rows L2 DL
end PL
namespace DG
open PySem PySem.Spec PyProof.Rows L2 DL PL
def rest87 : Gs :=
  (gSeq (gAsg (lf (cK .none)) (bNm 9))
  (gSeq (gTry 11 csAll (xExpr (eMeth 2 "run" mx_Town_run (cCons (cVar 3) cNil)))
  (gAsg (lf (cIf (bT (cIsE 11 csAll "InvalidLine")) (cFldE 11 csAll "word") (cK (.str "other")))) (bNm 9)))
  (gIf (lfb (bOr (bNot (bT (cN (mm__law_alike 6) (cCons (cVar 9) (cCons (cVar 10) cNil))))) (bV (c2 oNe (cTup (cCons (cProp 2 mm_Town_houses) (cCons (cProp 2 mm_Town_web) (cCons (cProp 2 mm_Town_steps) cNil)))) (cVar 5)))))
  (gRet (lf (cK (.bool false))))
  gNx)))
def tail87 : Gs :=
  (gSeq (gAsg (lf (cK (.str "none"))) (bNm 9))
  (gSeq (gTry 11 csAll (xExpr (eMake mx_Town___init__ (cCons (cVar 7) cNil)))
  (gAsg (lf (cIf (bT (cIsE 11 csAll "BadWeb")) (cFldE 11 csAll "index") (cK (.str "other")))) (bNm 9)))
  (gRet (rAnd (lf (c2 oEq (cVar 9) (cVar 8))) (r2 oEq (rN dLst (rCons (shE (methE 2 "run" mm_Town_run (cCons (cK (.str "sum")) cNil))) (rCons (shE (methE 2 "run" mm_Town_run (cCons (cK (.str "next")) cNil))) (rCons (shE (methE 2 "run" mm_Town_run (cCons (cK (.str "spare")) cNil))) (rCons (shE (methE 2 "run" mm_Town_run (cCons (cK (.str "reach")) cNil))) rNil))))) (lf (cLst (cCons (cK (.str "0")) (cCons (cK (.str "0")) (cCons (cK (.str "none")) (cCons (cK (.str "5")) cNil)))))))))))
def TR : List D := [.tuple [.str "", .int 1], .tuple [.str "  ", .int 1], .tuple [.str "Open 0", .int 1], .tuple [.str "open", .int 2], .tuple [.str "open 1", .int 2], .tuple [.str "open 3", .int 2], .tuple [.str "open -1", .int 2], .tuple [.str "open 00", .int 2], .tuple [.str "open 0 1", .int 3], .tuple [.str "open x", .int 2], .tuple [.str "close", .int 2], .tuple [.str "close 0", .int 2], .tuple [.str "close 1 1", .int 3], .tuple [.str "close 3", .int 2], .tuple [.str "weigh", .int 2], .tuple [.str "weigh 3 1", .int 2], .tuple [.str "weigh 0", .int 3], .tuple [.str "weigh 0 101", .int 3], .tuple [.str "weigh 0 -1", .int 3], .tuple [.str "weigh 0 01", .int 3], .tuple [.str "weigh 1 0", .int 3], .tuple [.str "weigh 0 1 1", .int 4], .tuple [.str "sum 1", .int 2], .tuple [.str "reach 0", .int 2], .tuple [.str "next 0", .int 2], .tuple [.str "spare 1", .int 2], .tuple [.str "undo", .int 1], .tuple [.str "sums", .int 1], .tuple [.str "load 0", .int 2], .tuple [.str "open 1000", .int 2], .tuple [.str "weigh 1 1000", .int 3], .tuple [.str "open +0", .int 2]]
def BW : List D := [.tuple [.none, .none], .tuple [.tuple [], .none], .tuple [.tuple [.tuple [.int 1, .int 1]], .none], .tuple [.list [.tuple [.int 1, .int 1], .tuple [.tuple [.int 0, .int 1, .int 1]]], .none], .tuple [.tuple [.tuple [.int 1, .int 1], .list [.tuple [.int 0, .int 1, .int 1]]], .none], .tuple [.tuple [.tuple [.int 0, .int 0], .tuple [.tuple [.int 0, .int 1, .int 1]]], .none], .tuple [.tuple [.tuple [.int 1], .tuple []], .none], .tuple [.tuple [.tuple [.int 1, .int 1, .int 1, .int 1, .int 1, .int 1, .int 1, .int 1, .int 1], .tuple [.tuple [.int 0, .int 1, .int 1]]], .none], .tuple [.tuple [.tuple [.int 1, .int 101], .tuple [.tuple [.int 0, .int 1, .int 1]]], .none], .tuple [.tuple [.tuple [.int 1, .int (-1)], .tuple [.tuple [.int 0, .int 1, .int 1]]], .none], .tuple [.dict [], .none], .tuple [.tuple [.tuple [.bool true, .int 1], .tuple [.tuple [.int 0, .int 1, .int 1]]], .none], .tuple [.tuple [.tuple [.int 1, .int 1, .int 1], .tuple [.tuple [.int 0, .int 1, .int 1]]], .none], .tuple [.tuple [.tuple [.int 1, .int 1], .tuple []], .none], .tuple [.tuple [.tuple [.int 1, .int 1], .tuple [.tuple [.int 0, .int 1, .int 1]], .int 0], .none], .tuple [.int 0, .none], .tuple [.tuple [.tuple [.int 1, .int 1], .tuple [.tuple [.int 0, .int 1, .int 1], .tuple [.int 0, .int 1, .int 1]]], .int 1], .tuple [.tuple [.tuple [.int 1, .int 1], .tuple [.tuple [.int 1, .int 0, .int 1]]], .int 0], .tuple [.tuple [.tuple [.int 1, .int 1], .tuple [.tuple [.int 0, .int 0, .int 1]]], .int 0], .tuple [.tuple [.tuple [.int 1, .int 1], .tuple [.tuple [.int 0, .int 2, .int 1]]], .int 0], .tuple [.tuple [.tuple [.int 1, .int 1], .tuple [.tuple [.int 0, .int 1, .int 0]]], .int 0], .tuple [.tuple [.tuple [.int 1, .int 1], .tuple [.tuple [.int 0, .int 1, .int 101]]], .int 0], .tuple [.tuple [.tuple [.int 1, .int 1], .tuple [.tuple [.int 0, .int 1]]], .int 0], .tuple [.tuple [.tuple [.int 1, .int 1, .int 1], .tuple [.tuple [.int 0, .int 1, .int 1], .tuple [.int 0, .int 2, .bool true]]], .int 1], .tuple [.tuple [.tuple [.int 1, .int 1], .tuple [.list [.int 0, .int 1, .int 1]]], .int 0], .tuple [.tuple [.tuple [.int 1, .int 1], .tuple [.none]], .int 0], .tuple [.tuple [.tuple [.int 1, .int 1], .tuple [.tuple [.int 0, .str "1", .int 1]]], .int 0], .tuple [.tuple [.tuple [.int 1, .int 1], .tuple [.tuple [.int 0, .int 1, .int 1], .tuple [.int 0, .int 1, .int 1], .tuple [.int 0, .int 1, .int 1], .tuple [.int 0, .int 1, .int 1], .tuple [.int 0, .int 1, .int 1], .tuple [.int 0, .int 1, .int 1], .tuple [.int 0, .int 1, .int 1], .tuple [.int 0, .int 1, .int 1], .tuple [.int 0, .int 1, .int 1], .tuple [.int 0, .int 1, .int 1], .tuple [.int 0, .int 1, .int 1], .tuple [.int 0, .int 1, .int 1], .tuple [.int 0, .int 1, .int 1], .tuple [.int 0, .int 1, .int 1], .tuple [.int 0, .int 1, .int 1]]], .none]]
def rho1 : DL.Env := match gs_law_head (fun ρ => some (.nx, ρ)) (some (.sh (.list [])) :: List.replicate 11 none) with
  | some p => p.2
  | none => []
def FS : List (Str × DL.Fd) := match rho1[(2 : Nat)]? with
  | some (some (.ob _ fs)) => fs
  | _ => []
def BF : D := match rho1[(5 : Nat)]? with
  | some (some (.sh d)) => d
  | _ => .none
def envT (x0 : D) (ds : List D) (e3 e6 e9 e10 : Option E) : DL.Env := [some (.sh x0), some (.own (.list ds)), some (.ob 0 FS), e3, some (.sh (.list TR)), some (.sh BF), e6, none, none, e9, e10, none]
theorem bw_e : mm__law_bad_webs [] = some (.list BW) := by kernel_rfl
def okT (x : D) : Prop := ∃ l due : D, x = .tuple [l, due] ∧ ∀ (x0 : D) (ds : List D) (d : D) (e9 : Option E), rest87 (envT x0 ds (some (.sh l)) (some (.sh d)) e9 (some (.sh due))) = some (.nx, envT x0 ds (some (.sh l)) (some (.sh d)) (some (.sh due)) (some (.sh due)))
theorem t_0 : okT (.tuple [.str "", .int 1]) := ⟨.str "", .int 1, rfl, fun x0 ds d e9 => by kernel_rfl⟩
theorem t_1 : okT (.tuple [.str "  ", .int 1]) := ⟨.str "  ", .int 1, rfl, fun x0 ds d e9 => by kernel_rfl⟩
theorem t_2 : okT (.tuple [.str "Open 0", .int 1]) := ⟨.str "Open 0", .int 1, rfl, fun x0 ds d e9 => by kernel_rfl⟩
theorem t_3 : okT (.tuple [.str "open", .int 2]) := ⟨.str "open", .int 2, rfl, fun x0 ds d e9 => by kernel_rfl⟩
theorem t_4 : okT (.tuple [.str "open 1", .int 2]) := ⟨.str "open 1", .int 2, rfl, fun x0 ds d e9 => by kernel_rfl⟩
theorem t_5 : okT (.tuple [.str "open 3", .int 2]) := ⟨.str "open 3", .int 2, rfl, fun x0 ds d e9 => by kernel_rfl⟩
theorem t_6 : okT (.tuple [.str "open -1", .int 2]) := ⟨.str "open -1", .int 2, rfl, fun x0 ds d e9 => by kernel_rfl⟩
theorem t_7 : okT (.tuple [.str "open 00", .int 2]) := ⟨.str "open 00", .int 2, rfl, fun x0 ds d e9 => by kernel_rfl⟩
theorem t_8 : okT (.tuple [.str "open 0 1", .int 3]) := ⟨.str "open 0 1", .int 3, rfl, fun x0 ds d e9 => by kernel_rfl⟩
theorem t_9 : okT (.tuple [.str "open x", .int 2]) := ⟨.str "open x", .int 2, rfl, fun x0 ds d e9 => by kernel_rfl⟩
theorem t_10 : okT (.tuple [.str "close", .int 2]) := ⟨.str "close", .int 2, rfl, fun x0 ds d e9 => by kernel_rfl⟩
theorem t_11 : okT (.tuple [.str "close 0", .int 2]) := ⟨.str "close 0", .int 2, rfl, fun x0 ds d e9 => by kernel_rfl⟩
theorem t_12 : okT (.tuple [.str "close 1 1", .int 3]) := ⟨.str "close 1 1", .int 3, rfl, fun x0 ds d e9 => by kernel_rfl⟩
theorem t_13 : okT (.tuple [.str "close 3", .int 2]) := ⟨.str "close 3", .int 2, rfl, fun x0 ds d e9 => by kernel_rfl⟩
theorem t_14 : okT (.tuple [.str "weigh", .int 2]) := ⟨.str "weigh", .int 2, rfl, fun x0 ds d e9 => by kernel_rfl⟩
theorem t_15 : okT (.tuple [.str "weigh 3 1", .int 2]) := ⟨.str "weigh 3 1", .int 2, rfl, fun x0 ds d e9 => by kernel_rfl⟩
theorem t_16 : okT (.tuple [.str "weigh 0", .int 3]) := ⟨.str "weigh 0", .int 3, rfl, fun x0 ds d e9 => by kernel_rfl⟩
theorem t_17 : okT (.tuple [.str "weigh 0 101", .int 3]) := ⟨.str "weigh 0 101", .int 3, rfl, fun x0 ds d e9 => by kernel_rfl⟩
theorem t_18 : okT (.tuple [.str "weigh 0 -1", .int 3]) := ⟨.str "weigh 0 -1", .int 3, rfl, fun x0 ds d e9 => by kernel_rfl⟩
theorem t_19 : okT (.tuple [.str "weigh 0 01", .int 3]) := ⟨.str "weigh 0 01", .int 3, rfl, fun x0 ds d e9 => by kernel_rfl⟩
theorem t_20 : okT (.tuple [.str "weigh 1 0", .int 3]) := ⟨.str "weigh 1 0", .int 3, rfl, fun x0 ds d e9 => by kernel_rfl⟩
theorem t_21 : okT (.tuple [.str "weigh 0 1 1", .int 4]) := ⟨.str "weigh 0 1 1", .int 4, rfl, fun x0 ds d e9 => by kernel_rfl⟩
theorem t_22 : okT (.tuple [.str "sum 1", .int 2]) := ⟨.str "sum 1", .int 2, rfl, fun x0 ds d e9 => by kernel_rfl⟩
theorem t_23 : okT (.tuple [.str "reach 0", .int 2]) := ⟨.str "reach 0", .int 2, rfl, fun x0 ds d e9 => by kernel_rfl⟩
theorem t_24 : okT (.tuple [.str "next 0", .int 2]) := ⟨.str "next 0", .int 2, rfl, fun x0 ds d e9 => by kernel_rfl⟩
theorem t_25 : okT (.tuple [.str "spare 1", .int 2]) := ⟨.str "spare 1", .int 2, rfl, fun x0 ds d e9 => by kernel_rfl⟩
theorem t_26 : okT (.tuple [.str "undo", .int 1]) := ⟨.str "undo", .int 1, rfl, fun x0 ds d e9 => by kernel_rfl⟩
theorem t_27 : okT (.tuple [.str "sums", .int 1]) := ⟨.str "sums", .int 1, rfl, fun x0 ds d e9 => by kernel_rfl⟩
theorem t_28 : okT (.tuple [.str "load 0", .int 2]) := ⟨.str "load 0", .int 2, rfl, fun x0 ds d e9 => by kernel_rfl⟩
theorem t_29 : okT (.tuple [.str "open 1000", .int 2]) := ⟨.str "open 1000", .int 2, rfl, fun x0 ds d e9 => by kernel_rfl⟩
theorem t_30 : okT (.tuple [.str "weigh 1 1000", .int 3]) := ⟨.str "weigh 1 1000", .int 3, rfl, fun x0 ds d e9 => by kernel_rfl⟩
theorem t_31 : okT (.tuple [.str "open +0", .int 2]) := ⟨.str "open +0", .int 2, rfl, fun x0 ds d e9 => by kernel_rfl⟩
theorem tr_all : ∀ x ∈ TR, okT x := List.forall_mem_cons.mpr ⟨t_0, List.forall_mem_cons.mpr ⟨t_1, List.forall_mem_cons.mpr ⟨t_2, List.forall_mem_cons.mpr ⟨t_3, List.forall_mem_cons.mpr ⟨t_4, List.forall_mem_cons.mpr ⟨t_5, List.forall_mem_cons.mpr ⟨t_6, List.forall_mem_cons.mpr ⟨t_7, List.forall_mem_cons.mpr ⟨t_8, List.forall_mem_cons.mpr ⟨t_9, List.forall_mem_cons.mpr ⟨t_10, List.forall_mem_cons.mpr ⟨t_11, List.forall_mem_cons.mpr ⟨t_12, List.forall_mem_cons.mpr ⟨t_13, List.forall_mem_cons.mpr ⟨t_14, List.forall_mem_cons.mpr ⟨t_15, List.forall_mem_cons.mpr ⟨t_16, List.forall_mem_cons.mpr ⟨t_17, List.forall_mem_cons.mpr ⟨t_18, List.forall_mem_cons.mpr ⟨t_19, List.forall_mem_cons.mpr ⟨t_20, List.forall_mem_cons.mpr ⟨t_21, List.forall_mem_cons.mpr ⟨t_22, List.forall_mem_cons.mpr ⟨t_23, List.forall_mem_cons.mpr ⟨t_24, List.forall_mem_cons.mpr ⟨t_25, List.forall_mem_cons.mpr ⟨t_26, List.forall_mem_cons.mpr ⟨t_27, List.forall_mem_cons.mpr ⟨t_28, List.forall_mem_cons.mpr ⟨t_29, List.forall_mem_cons.mpr ⟨t_30, List.forall_mem_cons.mpr ⟨t_31, fun _ h => nomatch h⟩⟩⟩⟩⟩⟩⟩⟩⟩⟩⟩⟩⟩⟩⟩⟩⟩⟩⟩⟩⟩⟩⟩⟩⟩⟩⟩⟩⟩⟩⟩⟩
def okW (x : D) : Prop := ∃ v i : D, x = .tuple [v, i] ∧ ∀ (x0 : D) (ds : List D) (d3 d6 d9 d10 : D), (tail87 (((envT x0 ds (some (.sh d3)) (some (.sh d6)) (some (.sh d9)) (some (.sh d10))).set 7 (some (.sh v))).set 8 (some (.sh i)))).map (·.1) = some (.ret (.bool true))
theorem w_0 : okW (.tuple [.none, .none]) := ⟨.none, .none, rfl, fun x0 ds d3 d6 d9 d10 => by kernel_rfl⟩
theorem w_1 : okW (.tuple [.tuple [], .none]) := ⟨.tuple [], .none, rfl, fun x0 ds d3 d6 d9 d10 => by kernel_rfl⟩
theorem w_2 : okW (.tuple [.tuple [.tuple [.int 1, .int 1]], .none]) := ⟨.tuple [.tuple [.int 1, .int 1]], .none, rfl, fun x0 ds d3 d6 d9 d10 => by kernel_rfl⟩
theorem w_3 : okW (.tuple [.list [.tuple [.int 1, .int 1], .tuple [.tuple [.int 0, .int 1, .int 1]]], .none]) := ⟨.list [.tuple [.int 1, .int 1], .tuple [.tuple [.int 0, .int 1, .int 1]]], .none, rfl, fun x0 ds d3 d6 d9 d10 => by kernel_rfl⟩
theorem w_4 : okW (.tuple [.tuple [.tuple [.int 1, .int 1], .list [.tuple [.int 0, .int 1, .int 1]]], .none]) := ⟨.tuple [.tuple [.int 1, .int 1], .list [.tuple [.int 0, .int 1, .int 1]]], .none, rfl, fun x0 ds d3 d6 d9 d10 => by kernel_rfl⟩
theorem w_5 : okW (.tuple [.tuple [.tuple [.int 0, .int 0], .tuple [.tuple [.int 0, .int 1, .int 1]]], .none]) := ⟨.tuple [.tuple [.int 0, .int 0], .tuple [.tuple [.int 0, .int 1, .int 1]]], .none, rfl, fun x0 ds d3 d6 d9 d10 => by kernel_rfl⟩
theorem w_6 : okW (.tuple [.tuple [.tuple [.int 1], .tuple []], .none]) := ⟨.tuple [.tuple [.int 1], .tuple []], .none, rfl, fun x0 ds d3 d6 d9 d10 => by kernel_rfl⟩
theorem w_7 : okW (.tuple [.tuple [.tuple [.int 1, .int 1, .int 1, .int 1, .int 1, .int 1, .int 1, .int 1, .int 1], .tuple [.tuple [.int 0, .int 1, .int 1]]], .none]) := ⟨.tuple [.tuple [.int 1, .int 1, .int 1, .int 1, .int 1, .int 1, .int 1, .int 1, .int 1], .tuple [.tuple [.int 0, .int 1, .int 1]]], .none, rfl, fun x0 ds d3 d6 d9 d10 => by kernel_rfl⟩
theorem w_8 : okW (.tuple [.tuple [.tuple [.int 1, .int 101], .tuple [.tuple [.int 0, .int 1, .int 1]]], .none]) := ⟨.tuple [.tuple [.int 1, .int 101], .tuple [.tuple [.int 0, .int 1, .int 1]]], .none, rfl, fun x0 ds d3 d6 d9 d10 => by kernel_rfl⟩
theorem w_9 : okW (.tuple [.tuple [.tuple [.int 1, .int (-1)], .tuple [.tuple [.int 0, .int 1, .int 1]]], .none]) := ⟨.tuple [.tuple [.int 1, .int (-1)], .tuple [.tuple [.int 0, .int 1, .int 1]]], .none, rfl, fun x0 ds d3 d6 d9 d10 => by kernel_rfl⟩
theorem w_10 : okW (.tuple [.dict [], .none]) := ⟨.dict [], .none, rfl, fun x0 ds d3 d6 d9 d10 => by kernel_rfl⟩
theorem w_11 : okW (.tuple [.tuple [.tuple [.bool true, .int 1], .tuple [.tuple [.int 0, .int 1, .int 1]]], .none]) := ⟨.tuple [.tuple [.bool true, .int 1], .tuple [.tuple [.int 0, .int 1, .int 1]]], .none, rfl, fun x0 ds d3 d6 d9 d10 => by kernel_rfl⟩
theorem w_12 : okW (.tuple [.tuple [.tuple [.int 1, .int 1, .int 1], .tuple [.tuple [.int 0, .int 1, .int 1]]], .none]) := ⟨.tuple [.tuple [.int 1, .int 1, .int 1], .tuple [.tuple [.int 0, .int 1, .int 1]]], .none, rfl, fun x0 ds d3 d6 d9 d10 => by kernel_rfl⟩
theorem w_13 : okW (.tuple [.tuple [.tuple [.int 1, .int 1], .tuple []], .none]) := ⟨.tuple [.tuple [.int 1, .int 1], .tuple []], .none, rfl, fun x0 ds d3 d6 d9 d10 => by kernel_rfl⟩
theorem w_14 : okW (.tuple [.tuple [.tuple [.int 1, .int 1], .tuple [.tuple [.int 0, .int 1, .int 1]], .int 0], .none]) := ⟨.tuple [.tuple [.int 1, .int 1], .tuple [.tuple [.int 0, .int 1, .int 1]], .int 0], .none, rfl, fun x0 ds d3 d6 d9 d10 => by kernel_rfl⟩
theorem w_15 : okW (.tuple [.int 0, .none]) := ⟨.int 0, .none, rfl, fun x0 ds d3 d6 d9 d10 => by kernel_rfl⟩
theorem w_16 : okW (.tuple [.tuple [.tuple [.int 1, .int 1], .tuple [.tuple [.int 0, .int 1, .int 1], .tuple [.int 0, .int 1, .int 1]]], .int 1]) := ⟨.tuple [.tuple [.int 1, .int 1], .tuple [.tuple [.int 0, .int 1, .int 1], .tuple [.int 0, .int 1, .int 1]]], .int 1, rfl, fun x0 ds d3 d6 d9 d10 => by kernel_rfl⟩
theorem w_17 : okW (.tuple [.tuple [.tuple [.int 1, .int 1], .tuple [.tuple [.int 1, .int 0, .int 1]]], .int 0]) := ⟨.tuple [.tuple [.int 1, .int 1], .tuple [.tuple [.int 1, .int 0, .int 1]]], .int 0, rfl, fun x0 ds d3 d6 d9 d10 => by kernel_rfl⟩
theorem w_18 : okW (.tuple [.tuple [.tuple [.int 1, .int 1], .tuple [.tuple [.int 0, .int 0, .int 1]]], .int 0]) := ⟨.tuple [.tuple [.int 1, .int 1], .tuple [.tuple [.int 0, .int 0, .int 1]]], .int 0, rfl, fun x0 ds d3 d6 d9 d10 => by kernel_rfl⟩
theorem w_19 : okW (.tuple [.tuple [.tuple [.int 1, .int 1], .tuple [.tuple [.int 0, .int 2, .int 1]]], .int 0]) := ⟨.tuple [.tuple [.int 1, .int 1], .tuple [.tuple [.int 0, .int 2, .int 1]]], .int 0, rfl, fun x0 ds d3 d6 d9 d10 => by kernel_rfl⟩
theorem w_20 : okW (.tuple [.tuple [.tuple [.int 1, .int 1], .tuple [.tuple [.int 0, .int 1, .int 0]]], .int 0]) := ⟨.tuple [.tuple [.int 1, .int 1], .tuple [.tuple [.int 0, .int 1, .int 0]]], .int 0, rfl, fun x0 ds d3 d6 d9 d10 => by kernel_rfl⟩
theorem w_21 : okW (.tuple [.tuple [.tuple [.int 1, .int 1], .tuple [.tuple [.int 0, .int 1, .int 101]]], .int 0]) := ⟨.tuple [.tuple [.int 1, .int 1], .tuple [.tuple [.int 0, .int 1, .int 101]]], .int 0, rfl, fun x0 ds d3 d6 d9 d10 => by kernel_rfl⟩
theorem w_22 : okW (.tuple [.tuple [.tuple [.int 1, .int 1], .tuple [.tuple [.int 0, .int 1]]], .int 0]) := ⟨.tuple [.tuple [.int 1, .int 1], .tuple [.tuple [.int 0, .int 1]]], .int 0, rfl, fun x0 ds d3 d6 d9 d10 => by kernel_rfl⟩
theorem w_23 : okW (.tuple [.tuple [.tuple [.int 1, .int 1, .int 1], .tuple [.tuple [.int 0, .int 1, .int 1], .tuple [.int 0, .int 2, .bool true]]], .int 1]) := ⟨.tuple [.tuple [.int 1, .int 1, .int 1], .tuple [.tuple [.int 0, .int 1, .int 1], .tuple [.int 0, .int 2, .bool true]]], .int 1, rfl, fun x0 ds d3 d6 d9 d10 => by kernel_rfl⟩
theorem w_24 : okW (.tuple [.tuple [.tuple [.int 1, .int 1], .tuple [.list [.int 0, .int 1, .int 1]]], .int 0]) := ⟨.tuple [.tuple [.int 1, .int 1], .tuple [.list [.int 0, .int 1, .int 1]]], .int 0, rfl, fun x0 ds d3 d6 d9 d10 => by kernel_rfl⟩
theorem w_25 : okW (.tuple [.tuple [.tuple [.int 1, .int 1], .tuple [.none]], .int 0]) := ⟨.tuple [.tuple [.int 1, .int 1], .tuple [.none]], .int 0, rfl, fun x0 ds d3 d6 d9 d10 => by kernel_rfl⟩
theorem w_26 : okW (.tuple [.tuple [.tuple [.int 1, .int 1], .tuple [.tuple [.int 0, .str "1", .int 1]]], .int 0]) := ⟨.tuple [.tuple [.int 1, .int 1], .tuple [.tuple [.int 0, .str "1", .int 1]]], .int 0, rfl, fun x0 ds d3 d6 d9 d10 => by kernel_rfl⟩
theorem w_27 : okW (.tuple [.tuple [.tuple [.int 1, .int 1], .tuple [.tuple [.int 0, .int 1, .int 1], .tuple [.int 0, .int 1, .int 1], .tuple [.int 0, .int 1, .int 1], .tuple [.int 0, .int 1, .int 1], .tuple [.int 0, .int 1, .int 1], .tuple [.int 0, .int 1, .int 1], .tuple [.int 0, .int 1, .int 1], .tuple [.int 0, .int 1, .int 1], .tuple [.int 0, .int 1, .int 1], .tuple [.int 0, .int 1, .int 1], .tuple [.int 0, .int 1, .int 1], .tuple [.int 0, .int 1, .int 1], .tuple [.int 0, .int 1, .int 1], .tuple [.int 0, .int 1, .int 1], .tuple [.int 0, .int 1, .int 1]]], .none]) := ⟨.tuple [.tuple [.int 1, .int 1], .tuple [.tuple [.int 0, .int 1, .int 1], .tuple [.int 0, .int 1, .int 1], .tuple [.int 0, .int 1, .int 1], .tuple [.int 0, .int 1, .int 1], .tuple [.int 0, .int 1, .int 1], .tuple [.int 0, .int 1, .int 1], .tuple [.int 0, .int 1, .int 1], .tuple [.int 0, .int 1, .int 1], .tuple [.int 0, .int 1, .int 1], .tuple [.int 0, .int 1, .int 1], .tuple [.int 0, .int 1, .int 1], .tuple [.int 0, .int 1, .int 1], .tuple [.int 0, .int 1, .int 1], .tuple [.int 0, .int 1, .int 1], .tuple [.int 0, .int 1, .int 1]]], .none, rfl, fun x0 ds d3 d6 d9 d10 => by kernel_rfl⟩
theorem bw_all : ∀ x ∈ BW, okW x := List.forall_mem_cons.mpr ⟨w_0, List.forall_mem_cons.mpr ⟨w_1, List.forall_mem_cons.mpr ⟨w_2, List.forall_mem_cons.mpr ⟨w_3, List.forall_mem_cons.mpr ⟨w_4, List.forall_mem_cons.mpr ⟨w_5, List.forall_mem_cons.mpr ⟨w_6, List.forall_mem_cons.mpr ⟨w_7, List.forall_mem_cons.mpr ⟨w_8, List.forall_mem_cons.mpr ⟨w_9, List.forall_mem_cons.mpr ⟨w_10, List.forall_mem_cons.mpr ⟨w_11, List.forall_mem_cons.mpr ⟨w_12, List.forall_mem_cons.mpr ⟨w_13, List.forall_mem_cons.mpr ⟨w_14, List.forall_mem_cons.mpr ⟨w_15, List.forall_mem_cons.mpr ⟨w_16, List.forall_mem_cons.mpr ⟨w_17, List.forall_mem_cons.mpr ⟨w_18, List.forall_mem_cons.mpr ⟨w_19, List.forall_mem_cons.mpr ⟨w_20, List.forall_mem_cons.mpr ⟨w_21, List.forall_mem_cons.mpr ⟨w_22, List.forall_mem_cons.mpr ⟨w_23, List.forall_mem_cons.mpr ⟨w_24, List.forall_mem_cons.mpr ⟨w_25, List.forall_mem_cons.mpr ⟨w_26, List.forall_mem_cons.mpr ⟨w_27, fun _ h => nomatch h⟩⟩⟩⟩⟩⟩⟩⟩⟩⟩⟩⟩⟩⟩⟩⟩⟩⟩⟩⟩⟩⟩⟩⟩⟩⟩⟩⟩
theorem turn {ns : List Int} {x0 : D} (st : Stt) (hk : 0 ≤ st.k) (d : D) (e3 e6 e9 e10 : Option E) : ∃ ρ1, bNm 6 d (envT x0 (stD ns st) e3 e6 e9 e10) = some ρ1 ∧ wG gs_law_f2 ρ1 fun fl ρ' => fl = .nx ∧ ∃ (s : Stt) (d3 d6 d9 d10 : D), 0 ≤ s.k ∧ ρ' = envT x0 (stD ns s) (some (.sh d3)) (some (.sh d6)) (some (.sh d9)) (some (.sh d10)) := by
  refine ⟨_, rfl, ?_⟩
  obtain ⟨x, s1, p1, hx, k1⟩ := pick_st ns st hk TR (by decide) (by decide)
  obtain ⟨l, due, ex, hr⟩ := tr_all x hx
  subst ex
  have e : rRow 1 mm__law_pick (lfs (cCons (cVar 4) cNil)) (envT x0 (stD ns st) e3 (some (.sh d)) e9 e10) = some (.tuple [l, due], envT x0 (stD ns s1) e3 (some (.sh d)) e9 e10) := by
    unfold rRow
    show (some (stD ns st)).bind _ = _
    rw [Option.bind_some]
    show (some ([PyData.list TR], _)).bind _ = _
    rw [Option.bind_some]
    show (some (stD ns st)).bind _ = _
    rw [Option.bind_some, p1]
    rfl
  refine wG.nxt (h := rest87) (ρ2 := envT x0 (stD ns s1) (some (.sh l)) (some (.sh d)) e9 (some (.sh due))) ?_ ⟨_, _, hr x0 (stD ns s1) d e9, rfl, s1, l, d, due, due, k1, rfl⟩
  unfold gAsg
  rw [show (envT x0 (stD ns st) e3 e6 e9 e10).set 6 (some (.sh d)) = envT x0 (stD ns st) e3 (some (.sh d)) e9 e10 from rfl, e]
  rfl
theorem last {ns : List Int} {x0 : D} (st : Stt) (hk : 0 ≤ st.k) (d3 d6 d9 d10 : D) : wG ((gSeq (gAsg (rRow 1 mm__law_pick (lfs (cCons (cN mm__law_bad_webs cNil) cNil))) (bTp 2 (bCons (bNm 7) (bCons (bNm 8) bNil))))
  (gSeq (gAsg (lf (cK (.str "none"))) (bNm 9))
  (gSeq (gTry 11 csAll (xExpr (eMake mx_Town___init__ (cCons (cVar 7) cNil)))
  (gAsg (lf (cIf (bT (cIsE 11 csAll "BadWeb")) (cFldE 11 csAll "index") (cK (.str "other")))) (bNm 9)))
  (gRet (rAnd (lf (c2 oEq (cVar 9) (cVar 8))) (r2 oEq (rN dLst (rCons (shE (methE 2 "run" mm_Town_run (cCons (cK (.str "sum")) cNil))) (rCons (shE (methE 2 "run" mm_Town_run (cCons (cK (.str "next")) cNil))) (rCons (shE (methE 2 "run" mm_Town_run (cCons (cK (.str "spare")) cNil))) (rCons (shE (methE 2 "run" mm_Town_run (cCons (cK (.str "reach")) cNil))) rNil))))) (lf (cLst (cCons (cK (.str "0")) (cCons (cK (.str "0")) (cCons (cK (.str "none")) (cCons (cK (.str "5")) cNil))))))))))))) (envT x0 (stD ns st) (some (.sh d3)) (some (.sh d6)) (some (.sh d9)) (some (.sh d10))) fun fl _ => fl = .ret (.bool true) := by
  obtain ⟨x, s1, p1, hx, k1⟩ := pick_st ns st hk BW (by decide) (by decide)
  obtain ⟨v, i, ex, hr⟩ := bw_all x hx
  subst ex
  have e : rRow 1 mm__law_pick (lfs (cCons (cN mm__law_bad_webs cNil) cNil)) (envT x0 (stD ns st) (some (.sh d3)) (some (.sh d6)) (some (.sh d9)) (some (.sh d10))) = some (.tuple [v, i], envT x0 (stD ns s1) (some (.sh d3)) (some (.sh d6)) (some (.sh d9)) (some (.sh d10))) := by
    have e1 : lfs (cCons (cN mm__law_bad_webs cNil) cNil) (envT x0 (stD ns st) (some (.sh d3)) (some (.sh d6)) (some (.sh d9)) (some (.sh d10))) = some ([.list BW], envT x0 (stD ns st) (some (.sh d3)) (some (.sh d6)) (some (.sh d9)) (some (.sh d10))) := by
      unfold lfs cCons cN cNil
      rw [Option.bind_some, bw_e]
      rfl
    unfold rRow
    show (some (stD ns st)).bind _ = _
    rw [Option.bind_some, e1, Option.bind_some]
    show (some (stD ns st)).bind _ = _
    rw [Option.bind_some, p1]
    rfl
  refine wG.nxt (h := tail87) (ρ2 := (((envT x0 (stD ns s1) (some (.sh d3)) (some (.sh d6)) (some (.sh d9)) (some (.sh d10))).set 7 (some (.sh v))).set 8 (some (.sh i)))) ?_ ?_
  · unfold gAsg
    rw [e]
    rfl
  · obtain ⟨⟨fl, ρ'⟩, e1, e2⟩ := Option.map_eq_some_iff.mp (hr x0 (stD ns s1) d3 d6 d9 d10)
    exact ⟨fl, ρ', e1, e2⟩
theorem for_turns {b : D → DL.Env → Option DL.Env} {g : Gs} (I : DL.Env → Prop) (step : ∀ d ρ, I ρ → ∃ ρ1, b d ρ = some ρ1 ∧ wG g ρ1 fun fl ρ' => fl = .nx ∧ I ρ') : ∀ (ds : List D) (ρ : DL.Env) (Q : Fl → DL.Env → Prop), I ρ → (∀ ρ', I ρ' → Q .nx ρ') → wG (gLoop b g ds) ρ Q
  | [], ρ, Q, i, q => wG.lnil (q ρ i)
  | d :: ds, ρ, Q, i, q => by
    obtain ⟨ρ1, e1, fl, ρ2, e2, hfl, i2⟩ := step d ρ i
    subst hfl
    exact wG.lcons e1 ⟨.nx, ρ2, e2, for_turns I step ds ρ2 Q i2 q⟩
theorem law_true (ns : List Int) (hl : ns.length ≤ 63) : mm_law [.list (ns.map .int)] = some (.bool true) := by
  have e : gs_law_head gs_law_rest (some (.sh (.list (ns.map .int))) :: List.replicate 11 none) = gs_law_rest (envT (.list (ns.map .int)) (stD ns ⟨0, 6387, 0⟩) (some (.sh (.str "weigh 0 0"))) none none none) := by kernel_rfl
  have w : wG gs_law_rest (envT (.list (ns.map .int)) (stD ns ⟨0, 6387, 0⟩) (some (.sh (.str "weigh 0 0"))) none none none) fun fl _ => fl = .ret (.bool true) := by
    unfold gs_law_rest
    refine wG.seq (wG.for (ds := rangeD 0 8) (by exact rfl) ?_)
    show wG (gLoop (bNm 6) gs_law_f2 (rangeD 0 1 ++ (List.range 7).map fun i => .int ((0 : Int) + ((i + 1 : Nat) : Int)))) _ _
    obtain ⟨ρ1, e1, fl, ρ2, e2, hfl, i2⟩ := turn (ns := ns) (x0 := .list (ns.map .int)) ⟨0, 6387, 0⟩ (Int.le_refl _) (.int ((0 : Int) + ((0 : Nat) : Int))) (some (.sh (.str "weigh 0 0"))) none none none
    subst hfl
    refine wG.lcons e1 ⟨.nx, ρ2, e2, ?_⟩
    refine for_turns (fun ρ' => ∃ (s : Stt) (d3 d6 d9 d10 : D), 0 ≤ s.k ∧ ρ' = envT (.list (ns.map .int)) (stD ns s) (some (.sh d3)) (some (.sh d6)) (some (.sh d9)) (some (.sh d10))) (fun d ρ h => ?_) _ _ _ i2 fun ρ' h => ?_
    · obtain ⟨s, d3, d6, d9, d10, hs, er⟩ := h
      subst er
      exact turn s hs d _ _ _ _
    · obtain ⟨s, d3, d6, d9, d10, hs, er⟩ := h
      subst er
      exact last s hs d3 d6 d9 d10
  obtain ⟨fl, ρ', e2, hfl⟩ := w
  subst hfl
  have e3 : gs_law (some (.sh (.list (ns.map .int))) :: List.replicate 11 none) = some (.ret (.bool true), ρ') := e.trans e2
  have e4 : mm_law [.list (ns.map .int)] = (gs_law (some (.sh (.list (ns.map .int))) :: List.replicate 11 none)).bind fin := rfl
  rw [e4, e3]
  rfl
end DG
namespace DG
open PySem PySem.Spec PyProof.Rows L2 DL
set_option maxHeartbeats 0 in
theorem all_mk {l : PySem.W.OpenLaw} {w : World} {K : PySem.W.Frag} {h : Heap} {mg : Str → Option Value} {fa C f0 f1 f2 f3 f4 f5 f6 f7 f8 f9 f10 f11 f12 f13 f14 f15 f16 f17 f18 f19 f20 f21 : Addr} (X : K.In h) (G : h.Ns mainGlobals mg) (hfa : mg "law" = some (.ref fa)) {AH E_BadWeb E_InvalidLine E_NotText fI_BadWeb cda_BadWeb cc_BadWeb fI_InvalidLine cda_InvalidLine cc_InvalidLine : Addr} {nq_HouseError : Str} {N_HouseError : Addr} {bs_HouseError : List Value} {sn_HouseError : List Str} {sub_HouseError : List Value} {ab_HouseError : Bool} {col_HouseError : Option Bool} {dd_HouseError : Option Addr} {k0_HouseError k1_HouseError k2_HouseError k3_HouseError k5_HouseError : Option Value} {nq_BadWeb : Str} {N_BadWeb : Addr} {bs_BadWeb : List Value} {sn_BadWeb : List Str} {sub_BadWeb : List Value} {ab_BadWeb : Bool} {col_BadWeb : Option Bool} {dd_BadWeb : Option Addr} {k0_BadWeb k1_BadWeb k2_BadWeb k3_BadWeb k5_BadWeb : Option Value} {oc_BadWeb kV_BadWeb dc_BadWeb pm_BadWeb ct_BadWeb ccl_BadWeb cl_BadWeb : Value} {od_BadWeb an_BadWeb cdd_BadWeb cld_BadWeb : Option Addr} {osl_BadWeb ccs_BadWeb csl_BadWeb : Array (Option Value)} {vs_BadWeb : Array Value} {fl_BadWeb : Str} {tf_BadWeb : Tok} {nq_InvalidLine : Str} {N_InvalidLine : Addr} {bs_InvalidLine : List Value} {sn_InvalidLine : List Str} {sub_InvalidLine : List Value} {ab_InvalidLine : Bool} {col_InvalidLine : Option Bool} {dd_InvalidLine : Option Addr} {k0_InvalidLine k1_InvalidLine k2_InvalidLine k3_InvalidLine k5_InvalidLine : Option Value} {oc_InvalidLine kV_InvalidLine dc_InvalidLine pm_InvalidLine ct_InvalidLine ccl_InvalidLine cl_InvalidLine : Value} {od_InvalidLine an_InvalidLine cdd_InvalidLine cld_InvalidLine : Option Addr} {osl_InvalidLine ccs_InvalidLine csl_InvalidLine : Array (Option Value)} {vs_InvalidLine : Array Value} {fl_InvalidLine : Str} {tf_InvalidLine : Tok} {nq_NotText : Str} {N_NotText : Addr} {bs_NotText : List Value} {sn_NotText : List Str} {sub_NotText : List Value} {ab_NotText : Bool} {col_NotText : Option Bool} {dd_NotText : Option Addr} {k0_NotText k1_NotText k2_NotText k3_NotText k5_NotText : Option Value}
    {od0 an0 od1 an1 od2 an2 od3 an3 od4 an4 od5 an5 od6 an6 od7 an7 od8 an8 od9 an9 od10 an10 od11 an11 od12 an12 od13 an13 od14 an14 od15 an15 od16 an16 od17 an17 od18 an18 od19 an19 od20 an20 od21 an21 : Option Addr} {sl0 sl1 sl2 sl3 sl4 sl5 sl6 sl7 sl8 sl9 sl10 sl11 sl12 sl13 sl14 sl15 sl16 sl17 sl18 sl19 sl20 sl21 : Array (Option Value)} {oc0 kV0 dc0 pm0 cd0 ct0 oc1 kV1 dc1 pm1 cd1 ct1 oc2 kV2 dc2 pm2 cd2 ct2 oc3 kV3 dc3 pm3 cd3 ct3 oc4 kV4 dc4 pm4 cd4 ct4 oc5 kV5 dc5 pm5 cd5 ct5 oc6 kV6 dc6 pm6 cd6 ct6 oc7 kV7 dc7 pm7 cd7 ct7 oc8 kV8 dc8 pm8 cd8 ct8 oc9 kV9 dc9 pm9 cd9 ct9 oc10 kV10 dc10 pm10 cd10 ct10 oc11 kV11 dc11 pm11 cd11 ct11 oc12 kV12 dc12 pm12 cd12 ct12 oc13 kV13 dc13 pm13 cd13 ct13 oc14 kV14 dc14 pm14 cd14 ct14 oc15 kV15 dc15 pm15 cd15 ct15 oc16 kV16 dc16 pm16 cd16 ct16 oc17 kV17 dc17 pm17 cd17 ct17 oc18 kV18 dc18 pm18 cd18 ct18 oc19 kV19 dc19 pm19 cd19 ct19 oc20 kV20 dc20 pm20 cd20 ct20 oc21 kV21 dc21 pm21 cd21 ct21 : Value} {t_MOST_POINTS t_MOST_WEIGHT t_MOST_LENGTH t_MOST_ROADS t_DIGITS : Tok} {p18 p19 p20 : Addr} {rest18 rest19 rest20 : List Value} {kA_STEPS : Addr} {kN_STEPS : Nat} {kh_STEPS_0 kh_STEPS_1 kh_STEPS_2 : Int} {ks_STEPS_0 ks_STEPS_1 ks_STEPS_2 kv_STEPS_0 kv_STEPS_1 kv_STEPS_2 kw_STEPS_0 kw_STEPS_1 kw_STEPS_2 : Tok} {kA_QUESTIONS : Addr} {kD_QUESTIONS : Option Addr} {kN_QUESTIONS : Nat} {kS_QUESTIONS : Array (Option Value)} {ks_QUESTIONS_0 ks_QUESTIONS_1 ks_QUESTIONS_2 ks_QUESTIONS_3 ks_QUESTIONS_4 : Tok}
    (H : ∀ ns : List Int, ns.length ≤ 63 → mm_law [.list (ns.map .int)] = some (.bool true))
    (aC : PySem.W.nsIn K mainGlobals "Town" = some (some (.ref C)))
    (pg : PySem.W.plainGet K C Str.empty = true)
    (hd : PySem.W.hasDictIn K C = true)
    (po : PySem.W.plainOver K C = true)
    (sa : PySem.W.findIn K (.ref C) "__setattr__" = some (some (.builtin "object.__setattr__")))
    (mk : PySem.W.makesIn K C = true)
    (kc : PySem.W.keepIn K (.ref C) = true)
    (n_state : PySem.W.findIn K (.ref C) "state" = some none)
    (n_past : PySem.W.findIn K (.ref C) "past" = some none)
    (n_future : PySem.W.findIn K (.ref C) "future" = some none)
    (a0 : PySem.W.nsIn K mainGlobals "is_in" = some (some (.ref f0)))
    (l0 : K.lookup f0 = some ⟨oc0, od0, .func (PySem.W.fnOf "is_in" "is_in" (defArgs st_is_in) (defBody st_is_in) (defScope st_is_in) .none kV0 dc0 pm0 an0 cd0 ct0), sl0⟩)
    (c0 : PySem.W.codeIn K cd0 "is_in" = true)
    (k0 : PySem.W.keepIn K (.ref f0) = true)
    (a1 : PySem.W.nsIn K mainGlobals "is_weights" = some (some (.ref f1)))
    (l1 : K.lookup f1 = some ⟨oc1, od1, .func (PySem.W.fnOf "is_weights" "is_weights" (defArgs st_is_weights) (defBody st_is_weights) (defScope st_is_weights) .none kV1 dc1 pm1 an1 cd1 ct1), sl1⟩)
    (c1 : PySem.W.codeIn K cd1 "is_weights" = true)
    (k1 : PySem.W.keepIn K (.ref f1) = true)
    (a2 : PySem.W.nsIn K mainGlobals "is_road" = some (some (.ref f2)))
    (l2 : K.lookup f2 = some ⟨oc2, od2, .func (PySem.W.fnOf "is_road" "is_road" (defArgs st_is_road) (defBody st_is_road) (defScope st_is_road) .none kV2 dc2 pm2 an2 cd2 ct2), sl2⟩)
    (c2 : PySem.W.codeIn K cd2 "is_road" = true)
    (k2 : PySem.W.keepIn K (.ref f2) = true)
    (a3 : PySem.W.nsIn K mainGlobals "parts_in" = some (some (.ref f3)))
    (l3 : K.lookup f3 = some ⟨oc3, od3, .func (PySem.W.fnOf "parts_in" "parts_in" (defArgs st_parts_in) (defBody st_parts_in) (defScope st_parts_in) .none kV3 dc3 pm3 an3 cd3 ct3), sl3⟩)
    (c3 : PySem.W.codeIn K cd3 "parts_in" = true)
    (k3 : PySem.W.keepIn K (.ref f3) = true)
    (a4 : PySem.W.nsIn K mainGlobals "need_web" = some (some (.ref f4)))
    (l4 : K.lookup f4 = some ⟨oc4, od4, .func (PySem.W.fnOf "need_web" "need_web" (defArgs st_need_web) (defBody st_need_web) (defScope st_need_web) .none kV4 dc4 pm4 an4 cd4 ct4), sl4⟩)
    (c4 : PySem.W.codeIn K cd4 "need_web" = true)
    (k4 : PySem.W.keepIn K (.ref f4) = true)
    (a5 : PySem.W.findIn K (.ref C) "__init__" = some (some (.ref f5)))
    (i5 : PySem.W.isFn K (.ref f5) = true)
    (l5 : K.lookup f5 = some ⟨oc5, od5, .func (PySem.W.fnOf "__init__" "Town.__init__" (defArgs st_Town___init__) (defBody st_Town___init__) (defScope st_Town___init__) .none kV5 dc5 pm5 an5 cd5 ct5), sl5⟩)
    (c5 : PySem.W.codeIn K cd5 "Town.__init__" = true)
    (k5 : PySem.W.keepIn K (.ref f5) = true)
    (a6 : PySem.W.nsIn K mainGlobals "_law_taken" = some (some (.ref f6)))
    (l6 : K.lookup f6 = some ⟨oc6, od6, .func (PySem.W.fnOf "_law_taken" "_law_taken" (defArgs st__law_taken) (defBody st__law_taken) (defScope st__law_taken) .none kV6 dc6 pm6 an6 cd6 ct6), sl6⟩)
    (c6 : PySem.W.codeIn K cd6 "_law_taken" = true)
    (k6 : PySem.W.keepIn K (.ref f6) = true)
    (a7 : PySem.W.nsIn K mainGlobals "_law_pick" = some (some (.ref f7)))
    (l7 : K.lookup f7 = some ⟨oc7, od7, .func (PySem.W.fnOf "_law_pick" "_law_pick" (defArgs st__law_pick) (defBody st__law_pick) (defScope st__law_pick) .none kV7 dc7 pm7 an7 cd7 ct7), sl7⟩)
    (c7 : PySem.W.codeIn K cd7 "_law_pick" = true)
    (k7 : PySem.W.keepIn K (.ref f7) = true)
    (a8 : PySem.W.nsIn K mainGlobals "_law_alike" = some (some (.ref f8)))
    (l8 : K.lookup f8 = some ⟨oc8, od8, .func (PySem.W.fnOf "_law_alike" "_law_alike" (defArgs st__law_alike) (defBody st__law_alike) (defScope st__law_alike) .none kV8 dc8 pm8 an8 cd8 ct8), sl8⟩)
    (c8 : PySem.W.codeIn K cd8 "_law_alike" = true)
    (k8 : PySem.W.keepIn K (.ref f8) = true)
    (a9 : PySem.W.nsIn K mainGlobals "_law_bad_webs" = some (some (.ref f9)))
    (l9 : K.lookup f9 = some ⟨oc9, od9, .func (PySem.W.fnOf "_law_bad_webs" "_law_bad_webs" (defArgs st__law_bad_webs) (defBody st__law_bad_webs) (defScope st__law_bad_webs) .none kV9 dc9 pm9 an9 cd9 ct9), sl9⟩)
    (c9 : PySem.W.codeIn K cd9 "_law_bad_webs" = true)
    (k9 : PySem.W.keepIn K (.ref f9) = true)
    (a10 : PySem.W.nsIn K mainGlobals "whole" = some (some (.ref f10)))
    (l10 : K.lookup f10 = some ⟨oc10, od10, .func (PySem.W.fnOf "whole" "whole" (defArgs st_whole) (defBody st_whole) (defScope st_whole) .none kV10 dc10 pm10 an10 cd10 ct10), sl10⟩)
    (c10 : PySem.W.codeIn K cd10 "whole" = true)
    (k10 : PySem.W.keepIn K (.ref f10) = true)
    (a11 : PySem.W.findIn K (.ref C) "number" = some (some (.ref f11)))
    (i11 : PySem.W.isFn K (.ref f11) = true)
    (l11 : K.lookup f11 = some ⟨oc11, od11, .func (PySem.W.fnOf "number" "Town.number" (defArgs st_Town_number) (defBody st_Town_number) (defScope st_Town_number) .none kV11 dc11 pm11 an11 cd11 ct11), sl11⟩)
    (c11 : PySem.W.codeIn K cd11 "Town.number" = true)
    (k11 : PySem.W.keepIn K (.ref f11) = true)
    (a12 : PySem.W.findIn K (.ref C) "after" = some (some (.ref f12)))
    (i12 : PySem.W.isFn K (.ref f12) = true)
    (l12 : K.lookup f12 = some ⟨oc12, od12, .func (PySem.W.fnOf "after" "Town.after" (defArgs st_Town_after) (defBody st_Town_after) (defScope st_Town_after) .none kV12 dc12 pm12 an12 cd12 ct12), sl12⟩)
    (c12 : PySem.W.codeIn K cd12 "Town.after" = true)
    (k12 : PySem.W.keepIn K (.ref f12) = true)
    (a13 : PySem.W.nsIn K mainGlobals "table_of" = some (some (.ref f13)))
    (l13 : K.lookup f13 = some ⟨oc13, od13, .func (PySem.W.fnOf "table_of" "table_of" (defArgs st_table_of) (defBody st_table_of) (defScope st_table_of) .none kV13 dc13 pm13 an13 cd13 ct13), sl13⟩)
    (c13 : PySem.W.codeIn K cd13 "table_of" = true)
    (k13 : PySem.W.keepIn K (.ref f13) = true)
    (a14 : PySem.W.nsIn K mainGlobals "near_in" = some (some (.ref f14)))
    (l14 : K.lookup f14 = some ⟨oc14, od14, .func (PySem.W.fnOf "near_in" "near_in" (defArgs st_near_in) (defBody st_near_in) (defScope st_near_in) .none kV14 dc14 pm14 an14 cd14 ct14), sl14⟩)
    (c14 : PySem.W.codeIn K cd14 "near_in" = true)
    (k14 : PySem.W.keepIn K (.ref f14) = true)
    (a15 : PySem.W.nsIn K mainGlobals "sum_in" = some (some (.ref f15)))
    (l15 : K.lookup f15 = some ⟨oc15, od15, .func (PySem.W.fnOf "sum_in" "sum_in" (defArgs st_sum_in) (defBody st_sum_in) (defScope st_sum_in) .none kV15 dc15 pm15 an15 cd15 ct15), sl15⟩)
    (c15 : PySem.W.codeIn K cd15 "sum_in" = true)
    (k15 : PySem.W.keepIn K (.ref f15) = true)
    (a16 : PySem.W.findIn K (.ref C) "told" = some (some (.ref f16)))
    (i16 : PySem.W.isFn K (.ref f16) = true)
    (l16 : K.lookup f16 = some ⟨oc16, od16, .func (PySem.W.fnOf "told" "Town.told" (defArgs st_Town_told) (defBody st_Town_told) (defScope st_Town_told) .none kV16 dc16 pm16 an16 cd16 ct16), sl16⟩)
    (c16 : PySem.W.codeIn K cd16 "Town.told" = true)
    (k16 : PySem.W.keepIn K (.ref f16) = true)
    (a17 : PySem.W.findIn K (.ref C) "run" = some (some (.ref f17)))
    (i17 : PySem.W.isFn K (.ref f17) = true)
    (l17 : K.lookup f17 = some ⟨oc17, od17, .func (PySem.W.fnOf "run" "Town.run" (defArgs st_Town_run) (defBody st_Town_run) (defScope st_Town_run) .none kV17 dc17 pm17 an17 cd17 ct17), sl17⟩)
    (c17 : PySem.W.codeIn K cd17 "Town.run" = true)
    (k17 : PySem.W.keepIn K (.ref f17) = true)
    (pa18 : PySem.W.findIn K (.ref C) "houses" = some (some (.ref p18)))
    (pg18 : PySem.W.specialIn K (.ref p18) "__get__" = some (some (.builtin "property.__get__")))
    (pt18 : PySem.W.takesIn K (.ref p18) = some true)
    (pr18 : PySem.W.recIn K p18 "property" = some (.ref f18 :: rest18))
    (l18 : K.lookup f18 = some ⟨oc18, od18, .func (PySem.W.fnOf "houses" "Town.houses" (defArgs st_Town_houses) (defBody st_Town_houses) (defScope st_Town_houses) .none kV18 dc18 pm18 an18 cd18 ct18), sl18⟩)
    (c18 : PySem.W.codeIn K cd18 "Town.houses" = true)
    (k18 : PySem.W.keepIn K (.ref f18) = true)
    (pa19 : PySem.W.findIn K (.ref C) "web" = some (some (.ref p19)))
    (pg19 : PySem.W.specialIn K (.ref p19) "__get__" = some (some (.builtin "property.__get__")))
    (pt19 : PySem.W.takesIn K (.ref p19) = some true)
    (pr19 : PySem.W.recIn K p19 "property" = some (.ref f19 :: rest19))
    (l19 : K.lookup f19 = some ⟨oc19, od19, .func (PySem.W.fnOf "web" "Town.web" (defArgs st_Town_web) (defBody st_Town_web) (defScope st_Town_web) .none kV19 dc19 pm19 an19 cd19 ct19), sl19⟩)
    (c19 : PySem.W.codeIn K cd19 "Town.web" = true)
    (k19 : PySem.W.keepIn K (.ref f19) = true)
    (pa20 : PySem.W.findIn K (.ref C) "steps" = some (some (.ref p20)))
    (pg20 : PySem.W.specialIn K (.ref p20) "__get__" = some (some (.builtin "property.__get__")))
    (pt20 : PySem.W.takesIn K (.ref p20) = some true)
    (pr20 : PySem.W.recIn K p20 "property" = some (.ref f20 :: rest20))
    (l20 : K.lookup f20 = some ⟨oc20, od20, .func (PySem.W.fnOf "steps" "Town.steps" (defArgs st_Town_steps) (defBody st_Town_steps) (defScope st_Town_steps) .none kV20 dc20 pm20 an20 cd20 ct20), sl20⟩)
    (c20 : PySem.W.codeIn K cd20 "Town.steps" = true)
    (k20 : PySem.W.keepIn K (.ref f20) = true)
    (a21 : PySem.W.nsIn K mainGlobals "law" = some (some (.ref f21)))
    (l21 : K.lookup f21 = some ⟨oc21, od21, .func (PySem.W.fnOf "law" "law" (defArgs st_law) (defBody st_law) (defScope st_law) .none kV21 dc21 pm21 an21 cd21 ct21), sl21⟩)
    (c21 : PySem.W.codeIn K cd21 "law" = true)
    (k21 : PySem.W.keepIn K (.ref f21) = true)
    (z_int : PySem.W.nsIn K mainGlobals "int" = some none)
    (z_isinstance : PySem.W.nsIn K mainGlobals "isinstance" = some none)
    (z_bool : PySem.W.nsIn K mainGlobals "bool" = some none)
    (z_tuple : PySem.W.nsIn K mainGlobals "tuple" = some none)
    (z_len : PySem.W.nsIn K mainGlobals "len" = some none)
    (g_MOST_POINTS : PySem.W.nsIn K mainGlobals "MOST_POINTS" = some (some (.int 8 t_MOST_POINTS)))
    (g_MOST_WEIGHT : PySem.W.nsIn K mainGlobals "MOST_WEIGHT" = some (some (.int 100 t_MOST_WEIGHT)))
    (z_sum : PySem.W.nsIn K mainGlobals "sum" = some none)
    (g_MOST_LENGTH : PySem.W.nsIn K mainGlobals "MOST_LENGTH" = some (some (.int 100 t_MOST_LENGTH)))
    (z_list : PySem.W.nsIn K mainGlobals "list" = some none)
    (z_sorted : PySem.W.nsIn K mainGlobals "sorted" = some none)
    (g_MOST_ROADS : PySem.W.nsIn K mainGlobals "MOST_ROADS" = some (some (.int 14 t_MOST_ROADS)))
    (z_enumerate : PySem.W.nsIn K mainGlobals "enumerate" = some none)
    (z_range : PySem.W.nsIn K mainGlobals "range" = some none)
    (z_str : PySem.W.nsIn K mainGlobals "str" = some none)
    (g_DIGITS : PySem.W.nsIn K mainGlobals "DIGITS" = some (some (.str "0123456789" t_DIGITS)))
    (z_min : PySem.W.nsIn K mainGlobals "min" = some none)
    (z_zip : PySem.W.nsIn K mainGlobals "zip" = some none)
    (z_max : PySem.W.nsIn K mainGlobals "max" = some none)
    (b_HouseError : PySem.W.nsIn K mainGlobals "HouseError" = some (some (.ref AH)))
    (x_HouseError : K.lookup AH = some (excClassObj "HouseError" nq_HouseError AH N_HouseError bs_HouseError veT true sn_HouseError sub_HouseError ab_HouseError col_HouseError dd_HouseError k0_HouseError k1_HouseError k2_HouseError k3_HouseError k5_HouseError "ValueError.__new__"))
    (ty_HouseError : PySem.W.typeIn K (.ref AH) = some (.type "type"))
    (hsp : PySem.W.specialIn K (.builtin "object.__class__") "__get__" = some (some (.builtin "getset_descriptor.__get__")))
    (htk : PySem.W.takesIn K (.builtin "object.__class__") = some true)
    (b_BadWeb : PySem.W.nsIn K mainGlobals "BadWeb" = some (some (.ref E_BadWeb)))
    (x_BadWeb : K.lookup E_BadWeb = some (excClassObj "BadWeb" nq_BadWeb E_BadWeb N_BadWeb bs_BadWeb ((.ref AH) :: veT) true sn_BadWeb sub_BadWeb ab_BadWeb col_BadWeb dd_BadWeb k0_BadWeb k1_BadWeb k2_BadWeb k3_BadWeb k5_BadWeb "ValueError.__new__"))
    (ty_BadWeb : PySem.W.typeIn K (.ref E_BadWeb) = some (.type "type"))
    (ga_BadWeb : PySem.W.findIn K (.ref E_BadWeb) "__getattribute__" = some (some (.builtin "BaseException.__getattribute__")))
    (gg_BadWeb : PySem.W.findIn K (.ref E_BadWeb) "__getattr__" = some none)
    (cz_BadWeb : PySem.W.findIn K (.ref E_BadWeb) "__class__" = some (some (.builtin "object.__class__")))
    (kC_BadWeb : PySem.W.keepIn K (.ref E_BadWeb) = true)
    (ex_BadWeb : PySem.W.subIn K (.ref E_BadWeb) (.type "BaseException") = some true)
    (no_index_BadWeb : PySem.W.findIn K (.ref E_BadWeb) "index" = some none)
    (no_word_BadWeb : PySem.W.findIn K (.ref E_BadWeb) "word" = some none)
    (sa_BadWeb : PySem.W.findIn K (.ref E_BadWeb) "__setattr__" = some (some (.builtin "object.__setattr__")))
    (in_BadWeb : PySem.W.findIn K (.ref E_BadWeb) "__init__" = some (some (.ref fI_BadWeb)))
    (ti_BadWeb : PySem.W.typeIn K (.ref fI_BadWeb) = some (.type "function"))
    (li_BadWeb : K.lookup fI_BadWeb = some ⟨oc_BadWeb, od_BadWeb, .func (PySem.W.ksFn "__init__" "BadWeb.__init__" ⟨[], [⟨"self", none, ⟨9, 17, 9, 21⟩⟩, ⟨"index", none, ⟨9, 23, 9, 28⟩⟩], none, [], [], none, []⟩ (supBody "index" ⟨10, 8, 10, 13⟩ ⟨10, 8, 10, 15⟩ ⟨10, 8, 10, 24⟩ ⟨10, 25, 10, 30⟩ ⟨10, 8, 10, 31⟩ ⟨10, 8, 10, 31⟩ ⟨11, 8, 11, 12⟩ ⟨11, 8, 11, 18⟩ ⟨11, 21, 11, 26⟩ ⟨11, 8, 11, 26⟩) (supScope "index") .none kV_BadWeb dc_BadWeb pm_BadWeb an_BadWeb (.ref cda_BadWeb) ct_BadWeb cc_BadWeb), osl_BadWeb⟩)
    (ci_BadWeb : PySem.W.codeIn K (.ref cda_BadWeb) "BadWeb.__init__" = true)
    (lc_BadWeb : K.lookup cda_BadWeb = some ⟨ccl_BadWeb, cdd_BadWeb, .fields vs_BadWeb, ccs_BadWeb⟩)
    (v2_BadWeb : vs_BadWeb[2]? = some (.str fl_BadWeb tf_BadWeb))
    (fi_BadWeb : ((l.prog.main.file : Str) == fl_BadWeb) = true)
    (lk_BadWeb : K.lookup cc_BadWeb = some ⟨cl_BadWeb, cld_BadWeb, .cell (some (.ref E_BadWeb)), csl_BadWeb⟩)
    (hn_BadWeb : PySem.W.findIn K (.ref E_BadWeb) "index" = some none)
    (su_BadWeb : PySem.W.ks_superIn K E_BadWeb E_BadWeb "__init__" = some (some (.builtin "ValueError.__init__")))
    (op_BadWeb : PySem.W.nsIn K cStatics "thirdparty.any" = some none)
    (ve_BadWeb : PySem.W.subIn K (.ref E_BadWeb) (.type "ValueError") = some true)
    (mr_BadWeb : PySem.W.mroIn K E_BadWeb (.ref E_BadWeb) = some true)
    (to_BadWeb : (l.prog.main.scope.names.lookup ("super" : Str)).isSome = false)
    (b_InvalidLine : PySem.W.nsIn K mainGlobals "InvalidLine" = some (some (.ref E_InvalidLine)))
    (x_InvalidLine : K.lookup E_InvalidLine = some (excClassObj "InvalidLine" nq_InvalidLine E_InvalidLine N_InvalidLine bs_InvalidLine ((.ref AH) :: veT) true sn_InvalidLine sub_InvalidLine ab_InvalidLine col_InvalidLine dd_InvalidLine k0_InvalidLine k1_InvalidLine k2_InvalidLine k3_InvalidLine k5_InvalidLine "ValueError.__new__"))
    (ty_InvalidLine : PySem.W.typeIn K (.ref E_InvalidLine) = some (.type "type"))
    (ga_InvalidLine : PySem.W.findIn K (.ref E_InvalidLine) "__getattribute__" = some (some (.builtin "BaseException.__getattribute__")))
    (gg_InvalidLine : PySem.W.findIn K (.ref E_InvalidLine) "__getattr__" = some none)
    (cz_InvalidLine : PySem.W.findIn K (.ref E_InvalidLine) "__class__" = some (some (.builtin "object.__class__")))
    (kC_InvalidLine : PySem.W.keepIn K (.ref E_InvalidLine) = true)
    (ex_InvalidLine : PySem.W.subIn K (.ref E_InvalidLine) (.type "BaseException") = some true)
    (no_index_InvalidLine : PySem.W.findIn K (.ref E_InvalidLine) "index" = some none)
    (no_word_InvalidLine : PySem.W.findIn K (.ref E_InvalidLine) "word" = some none)
    (sa_InvalidLine : PySem.W.findIn K (.ref E_InvalidLine) "__setattr__" = some (some (.builtin "object.__setattr__")))
    (in_InvalidLine : PySem.W.findIn K (.ref E_InvalidLine) "__init__" = some (some (.ref fI_InvalidLine)))
    (ti_InvalidLine : PySem.W.typeIn K (.ref fI_InvalidLine) = some (.type "function"))
    (li_InvalidLine : K.lookup fI_InvalidLine = some ⟨oc_InvalidLine, od_InvalidLine, .func (PySem.W.ksFn "__init__" "InvalidLine.__init__" ⟨[], [⟨"self", none, ⟨18, 17, 18, 21⟩⟩, ⟨"word", none, ⟨18, 23, 18, 27⟩⟩], none, [], [], none, []⟩ (supBody "word" ⟨19, 8, 19, 13⟩ ⟨19, 8, 19, 15⟩ ⟨19, 8, 19, 24⟩ ⟨19, 25, 19, 29⟩ ⟨19, 8, 19, 30⟩ ⟨19, 8, 19, 30⟩ ⟨20, 8, 20, 12⟩ ⟨20, 8, 20, 17⟩ ⟨20, 20, 20, 24⟩ ⟨20, 8, 20, 24⟩) (supScope "word") .none kV_InvalidLine dc_InvalidLine pm_InvalidLine an_InvalidLine (.ref cda_InvalidLine) ct_InvalidLine cc_InvalidLine), osl_InvalidLine⟩)
    (ci_InvalidLine : PySem.W.codeIn K (.ref cda_InvalidLine) "InvalidLine.__init__" = true)
    (lc_InvalidLine : K.lookup cda_InvalidLine = some ⟨ccl_InvalidLine, cdd_InvalidLine, .fields vs_InvalidLine, ccs_InvalidLine⟩)
    (v2_InvalidLine : vs_InvalidLine[2]? = some (.str fl_InvalidLine tf_InvalidLine))
    (fi_InvalidLine : ((l.prog.main.file : Str) == fl_InvalidLine) = true)
    (lk_InvalidLine : K.lookup cc_InvalidLine = some ⟨cl_InvalidLine, cld_InvalidLine, .cell (some (.ref E_InvalidLine)), csl_InvalidLine⟩)
    (hn_InvalidLine : PySem.W.findIn K (.ref E_InvalidLine) "word" = some none)
    (su_InvalidLine : PySem.W.ks_superIn K E_InvalidLine E_InvalidLine "__init__" = some (some (.builtin "ValueError.__init__")))
    (op_InvalidLine : PySem.W.nsIn K cStatics "thirdparty.any" = some none)
    (ve_InvalidLine : PySem.W.subIn K (.ref E_InvalidLine) (.type "ValueError") = some true)
    (mr_InvalidLine : PySem.W.mroIn K E_InvalidLine (.ref E_InvalidLine) = some true)
    (to_InvalidLine : (l.prog.main.scope.names.lookup ("super" : Str)).isSome = false)
    (b_NotText : PySem.W.nsIn K mainGlobals "NotText" = some (some (.ref E_NotText)))
    (x_NotText : K.lookup E_NotText = some (excClassObj "NotText" nq_NotText E_NotText N_NotText bs_NotText ((.ref AH) :: veT) true sn_NotText sub_NotText ab_NotText col_NotText dd_NotText k0_NotText k1_NotText k2_NotText k3_NotText k5_NotText "ValueError.__new__"))
    (ty_NotText : PySem.W.typeIn K (.ref E_NotText) = some (.type "type"))
    (ga_NotText : PySem.W.findIn K (.ref E_NotText) "__getattribute__" = some (some (.builtin "BaseException.__getattribute__")))
    (gg_NotText : PySem.W.findIn K (.ref E_NotText) "__getattr__" = some none)
    (cz_NotText : PySem.W.findIn K (.ref E_NotText) "__class__" = some (some (.builtin "object.__class__")))
    (kC_NotText : PySem.W.keepIn K (.ref E_NotText) = true)
    (ex_NotText : PySem.W.subIn K (.ref E_NotText) (.type "BaseException") = some true)
    (no_index_NotText : PySem.W.findIn K (.ref E_NotText) "index" = some none)
    (no_word_NotText : PySem.W.findIn K (.ref E_NotText) "word" = some none)
    (q_NotText : PySem.W.excIn K E_NotText veT "ValueError.__new__" = true)
    (zsup : PySem.W.nsIn K mainGlobals "super" = some none)
    (aK_STEPS : PySem.W.nsIn K mainGlobals "STEPS" = some (some (.ref kA_STEPS)))
    (lK_STEPS : K.lookup kA_STEPS = some ⟨.type "dict", none, .dict #[⟨kh_STEPS_0, .str "open" ks_STEPS_0, .int 2 kv_STEPS_0⟩, ⟨kh_STEPS_1, .str "close" ks_STEPS_1, .int 2 kv_STEPS_1⟩, ⟨kh_STEPS_2, .str "weigh" ks_STEPS_2, .int 3 kv_STEPS_2⟩] kN_STEPS, #[]⟩)
    (kq_STEPS_0 : kh_STEPS_0 = PyData.keyHash w.params "open")
    (kq_STEPS_1 : kh_STEPS_1 = PyData.keyHash w.params "close")
    (kq_STEPS_2 : kh_STEPS_2 = PyData.keyHash w.params "weigh")
    (kl_STEPS : (kA_STEPS == sysModules) = false)
    (kn_STEPS_0 : PySem.W.nsIn K kA_STEPS "open" = some (some (.int 2 kw_STEPS_0)))
    (kn_STEPS_1 : PySem.W.nsIn K kA_STEPS "close" = some (some (.int 2 kw_STEPS_1)))
    (kn_STEPS_2 : PySem.W.nsIn K kA_STEPS "weigh" = some (some (.int 3 kw_STEPS_2)))
    (kn_STEPS_3 : PySem.W.nsIn K kA_STEPS "sum" = some none)
    (kn_STEPS_4 : PySem.W.nsIn K kA_STEPS "reach" = some none)
    (kn_STEPS_5 : PySem.W.nsIn K kA_STEPS "load" = some none)
    (kn_STEPS_6 : PySem.W.nsIn K kA_STEPS "next" = some none)
    (kn_STEPS_7 : PySem.W.nsIn K kA_STEPS "spare" = some none)
    (kn_STEPS_8 : PySem.W.nsIn K kA_STEPS "Open" = some none)
    (kn_STEPS_9 : PySem.W.nsIn K kA_STEPS "undo" = some none)
    (kn_STEPS_10 : PySem.W.nsIn K kA_STEPS "sums" = some none)
    (aK_QUESTIONS : PySem.W.nsIn K mainGlobals "QUESTIONS" = some (some (.ref kA_QUESTIONS)))
    (lK_QUESTIONS : K.lookup kA_QUESTIONS = some ⟨.type "tuple", kD_QUESTIONS, .seq #[.str "sum" ks_QUESTIONS_0, .str "reach" ks_QUESTIONS_1, .str "load" ks_QUESTIONS_2, .str "next" ks_QUESTIONS_3, .str "spare" ks_QUESTIONS_4] kN_QUESTIONS, kS_QUESTIONS⟩) :
    ∃ fd : FuncData, (∀ (s : Shared) (v : Value), BindsTo s fd ⟨[v], []⟩ [("_law_script", v)]) ∧ ∀ base : Heap, K.In base → base.Ns mainGlobals mg → FnOk l.prog w K mg base CX0 7 fa fd ["_law_script"] (spLaw K 63) := by
  have e := hfa.symm.trans (PySem.W.mg_of X G a21)
  cases e
  have T : Txt mg := ⟨PySem.W.mg_none_of X G z_int, PySem.W.mg_none_of X G z_isinstance, PySem.W.mg_none_of X G z_bool, PySem.W.mg_none_of X G z_tuple, PySem.W.mg_none_of X G z_len, ⟨_, PySem.W.mg_of X G g_MOST_POINTS⟩, ⟨_, PySem.W.mg_of X G g_MOST_WEIGHT⟩, PySem.W.mg_none_of X G z_sum, ⟨_, PySem.W.mg_of X G g_MOST_LENGTH⟩, PySem.W.mg_none_of X G z_list, PySem.W.mg_none_of X G z_sorted, ⟨_, PySem.W.mg_of X G g_MOST_ROADS⟩, PySem.W.mg_none_of X G z_enumerate, PySem.W.mg_none_of X G z_range, PySem.W.mg_none_of X G z_str, ⟨_, PySem.W.mg_of X G g_DIGITS⟩, PySem.W.mg_none_of X G z_min, PySem.W.mg_none_of X G z_zip, PySem.W.mg_none_of X G z_max⟩
  have TC : TxC K C := ⟨⟨pg, hd, po, sa⟩, n_state, n_past, n_future⟩
  have TK : TxK K w mg := ⟨⟨⟨_, _, _, PySem.W.mg_of X G aK_STEPS, ⟨lK_STEPS, ⟨⟨_, _, rfl, kq_STEPS_0⟩, ⟨⟨_, _, rfl, kq_STEPS_1⟩, ⟨⟨_, _, rfl, kq_STEPS_2⟩, trivial⟩⟩⟩, kl_STEPS⟩, List.forall_mem_cons.mpr ⟨⟨(fun i hi => by cases hi; exact ⟨_, kn_STEPS_0⟩), fun h => nomatch h⟩, List.forall_mem_cons.mpr ⟨⟨(fun i hi => by cases hi; exact ⟨_, kn_STEPS_1⟩), fun h => nomatch h⟩, List.forall_mem_cons.mpr ⟨⟨(fun i hi => by cases hi; exact ⟨_, kn_STEPS_2⟩), fun h => nomatch h⟩, List.forall_mem_cons.mpr ⟨⟨(fun i hi => nomatch hi), fun _ => kn_STEPS_3⟩, List.forall_mem_cons.mpr ⟨⟨(fun i hi => nomatch hi), fun _ => kn_STEPS_4⟩, List.forall_mem_cons.mpr ⟨⟨(fun i hi => nomatch hi), fun _ => kn_STEPS_5⟩, List.forall_mem_cons.mpr ⟨⟨(fun i hi => nomatch hi), fun _ => kn_STEPS_6⟩, List.forall_mem_cons.mpr ⟨⟨(fun i hi => nomatch hi), fun _ => kn_STEPS_7⟩, List.forall_mem_cons.mpr ⟨⟨(fun i hi => nomatch hi), fun _ => kn_STEPS_8⟩, List.forall_mem_cons.mpr ⟨⟨(fun i hi => nomatch hi), fun _ => kn_STEPS_9⟩, List.forall_mem_cons.mpr ⟨⟨(fun i hi => nomatch hi), fun _ => kn_STEPS_10⟩, fun q hq => nomatch hq⟩⟩⟩⟩⟩⟩⟩⟩⟩⟩⟩⟩⟩, ⟨⟨_, PySem.W.mg_of X G aK_QUESTIONS, fun _ => .inr ⟨_, _, _, lK_QUESTIONS, rfl, rfl, by have := small1000 (n := 5) (by decide); show 5 ≤ _; omega, (.cons ⟨_, rfl⟩ (.cons ⟨_, rfl⟩ (.cons ⟨_, rfl⟩ (.cons ⟨_, rfl⟩ (.cons ⟨_, rfl⟩ .nil)))))⟩⟩⟩⟩
  have hh : ErrH K mg AH := ⟨PySem.W.mg_of X G b_HouseError, ⟨_, _, _, _, _, _, _, _, _, _, _, _, _, x_HouseError⟩, ty_HouseError, hsp, htk⟩
  have ec_BadWeb : ErrC K mg AH "BadWeb" E_BadWeb := ⟨PySem.W.mg_of X G b_BadWeb, ⟨_, _, _, _, _, _, _, _, _, _, _, _, _, x_BadWeb⟩, ty_BadWeb, ga_BadWeb, gg_BadWeb, cz_BadWeb, by decide⟩
  have ec_InvalidLine : ErrC K mg AH "InvalidLine" E_InvalidLine := ⟨PySem.W.mg_of X G b_InvalidLine, ⟨_, _, _, _, _, _, _, _, _, _, _, _, _, x_InvalidLine⟩, ty_InvalidLine, ga_InvalidLine, gg_InvalidLine, cz_InvalidLine, by decide⟩
  have ec_NotText : ErrC K mg AH "NotText" E_NotText := ⟨PySem.W.mg_of X G b_NotText, ⟨_, _, _, _, _, _, _, _, _, _, _, _, _, x_NotText⟩, ty_NotText, ga_NotText, gg_NotText, cz_NotText, by decide⟩
  have es : Errs K mg AH csAll := (errs_cons ec_BadWeb (errs_cons ec_InvalidLine (errs_cons ec_NotText errs_nil)))
  have oe_BadWeb : OwnS K l.prog mg "BadWeb" "index" := ⟨⟨E_BadWeb, fI_BadWeb, PySem.W.mg_of X G b_BadWeb, ⟨⟨⟨_, _, _, _, _, _, _, _, _, _, _, _, _, _, _, x_BadWeb, rfl⟩, sa_BadWeb, ex_BadWeb, ty_BadWeb, kC_BadWeb⟩, in_BadWeb, ti_BadWeb, ⟨_, _, _, _, _, _, _, _, _, _, _, _, _, _, _, _, _, _, _, _, _, _, _, _, _, _, _, _, _, _, _, _, _, li_BadWeb, ci_BadWeb, lc_BadWeb, v2_BadWeb, fi_BadWeb, lk_BadWeb, rfl, rfl, rfl, fun _ _ => rfl, fun L => ⟨_, rfl⟩, rfl, rfl, rfl⟩, ⟨by decide, by decide⟩, hn_BadWeb, su_BadWeb, op_BadWeb, ve_BadWeb, mr_BadWeb, to_BadWeb⟩⟩, PySem.W.mg_none_of X G zsup⟩
  have oe_InvalidLine : OwnS K l.prog mg "InvalidLine" "word" := ⟨⟨E_InvalidLine, fI_InvalidLine, PySem.W.mg_of X G b_InvalidLine, ⟨⟨⟨_, _, _, _, _, _, _, _, _, _, _, _, _, _, _, x_InvalidLine, rfl⟩, sa_InvalidLine, ex_InvalidLine, ty_InvalidLine, kC_InvalidLine⟩, in_InvalidLine, ti_InvalidLine, ⟨_, _, _, _, _, _, _, _, _, _, _, _, _, _, _, _, _, _, _, _, _, _, _, _, _, _, _, _, _, _, _, _, _, li_InvalidLine, ci_InvalidLine, lc_InvalidLine, v2_InvalidLine, fi_InvalidLine, lk_InvalidLine, rfl, rfl, rfl, fun _ _ => rfl, fun L => ⟨_, rfl⟩, rfl, rfl, rfl⟩, ⟨by decide, by decide⟩, hn_InvalidLine, su_InvalidLine, op_InvalidLine, ve_InvalidLine, mr_InvalidLine, to_InvalidLine⟩⟩, PySem.W.mg_none_of X G zsup⟩
  have oe_NotText : Own0 K mg "NotText" := ⟨⟨E_NotText, PySem.W.mg_of X G b_NotText, q_NotText, kC_NotText, ex_NotText, ty_NotText⟩⟩
  have TE : TxE l.prog K mg AH := ⟨hh, es, oe_BadWeb, oe_InvalidLine, oe_NotText, (nof_cons (PySem.W.mg_of X G b_BadWeb) no_index_BadWeb (nof_cons (PySem.W.mg_of X G b_InvalidLine) no_index_InvalidLine (nof_cons (PySem.W.mg_of X G b_NotText) no_index_NotText nof_nil))), (nof_cons (PySem.W.mg_of X G b_BadWeb) no_word_BadWeb (nof_cons (PySem.W.mg_of X G b_InvalidLine) no_word_InvalidLine (nof_cons (PySem.W.mg_of X G b_NotText) no_word_NotText nof_nil)))⟩
  refine ⟨PySem.W.fnOf "law" "law" (defArgs st_law) (defBody st_law) (defScope st_law) .none kV21 dc21 pm21 an21 cd21 ct21, fun s v => .of_eq rfl, fun base _ _ => ?_⟩
  have F0 := fun_mk (st := st_is_in) l0 c0 k0
  have B0 := F0.binds (ps := ["value", "least", "most"]) fun _ _ _ _ _ _ us hl => match us, hl with | [_, _, _], _ => rfl
  have O0 := ok_is_in (P := l.prog) (w := w) (base := base) F0 T 
  have C0 : Cal l.prog w K mg base 1 "is_in" _ := ⟨⟨_, _, _, O0, PySem.W.mg_of X G a0, k0, B0⟩⟩
  have F1 := fun_mk (st := st_is_weights) l1 c1 k1
  have B1 := F1.binds (ps := ["value"]) fun _ _ _ _ _ _ us hl => match us, hl with | [_], _ => rfl
  have O1 := ok_is_weights (P := l.prog) (w := w) (base := base) F1 T C0
  have C1 : Cal l.prog w K mg base 2 "is_weights" _ := ⟨⟨_, _, _, O1, PySem.W.mg_of X G a1, k1, B1⟩⟩
  have F2 := fun_mk (st := st_is_road) l2 c2 k2
  have B2 := F2.binds (ps := ["value", "count"]) fun _ _ _ _ _ _ us hl => match us, hl with | [_, _], _ => rfl
  have O2 := ok_is_road (P := l.prog) (w := w) (base := base) F2 T C0
  have C2 : Cal l.prog w K mg base 2 "is_road" _ := ⟨⟨_, _, _, O2, PySem.W.mg_of X G a2, k2, B2⟩⟩
  have F3 := fun_mk (st := st_parts_in) l3 c3 k3
  have B3 := F3.binds (ps := ["points", "roads"]) fun _ _ _ _ _ _ us hl => match us, hl with | [_, _], _ => rfl
  have O3 := ok_parts_in (P := l.prog) (w := w) (base := base) F3 T 
  have C3 : Cal l.prog w K mg base 1 "parts_in" _ := ⟨⟨_, _, _, O3, PySem.W.mg_of X G a3, k3, B3⟩⟩
  have F4 := fun_mk (st := st_need_web) l4 c4 k4
  have B4 := F4.binds (ps := ["web"]) fun _ _ _ _ _ _ us hl => match us, hl with | [_], _ => rfl
  have O4 := ok_need_web (P := l.prog) (w := w) (base := base) F4 T C1 C2 C3
  have C4 : Cal l.prog w K mg base 3 "need_web" _ := ⟨⟨_, _, _, O4, PySem.W.mg_of X G a4, k4, B4⟩⟩
  have O4E := okE_need_web (P := l.prog) (w := w) (base := base) F4 T TE C1 C2 C3
  have C4E : CalX l.prog w K mg base 3 "need_web" _ := ⟨⟨_, _, _, O4E, PySem.W.mg_of X G a4, k4, B4⟩⟩
  have F5 := fun_mk (st := st_Town___init__) l5 c5 k5
  have B5 := F5.binds (ps := ["self", "web"]) fun _ _ _ _ _ _ us hl => match us, hl with | [_, _], _ => rfl
  have O5 := ok_Town___init__ (P := l.prog) (w := w) (base := base) TK TC F5 T C4
  have O5E := okE_Town___init__ (P := l.prog) (w := w) (base := base) TK TC F5 T TE C4E
  have M5 : CalM l.prog w K mg base 4 C "__init__" _ := ⟨TC.cl, _, _, _, O5, ⟨a5, i5, k5⟩, B5⟩
  have F6 := fun_mk (st := st__law_taken) l6 c6 k6
  have B6 := F6.binds (ps := ["_law_row", "_law_many"]) fun _ _ _ _ _ _ us hl => match us, hl with | [_, _], _ => rfl
  have O6 := ok__law_taken (P := l.prog) (w := w) (base := base) F6 T 
  have C6 : Cal l.prog w K mg base 1 "_law_taken" _ := ⟨⟨_, _, _, O6, PySem.W.mg_of X G a6, k6, B6⟩⟩
  have F7 := fun_mk (st := st__law_pick) l7 c7 k7
  have B7 := F7.binds (ps := ["_law_row", "_law_things"]) fun _ _ _ _ _ _ us hl => match us, hl with | [_, _], _ => rfl
  have O7 := ok__law_pick (P := l.prog) (w := w) (base := base) F7 T C6
  have C7 : Cal l.prog w K mg base 2 "_law_pick" _ := ⟨⟨_, _, _, O7, PySem.W.mg_of X G a7, k7, B7⟩⟩
  have F8 := fun_mk (st := st__law_alike) l8 c8 k8
  have B8 := F8.binds (ps := ["_law_found", "_law_due"]) fun _ _ _ _ _ _ us hl => match us, hl with | [_, _], _ => rfl
  have O8 := ok__law_alike (P := l.prog) (w := w) (base := base) F8 T  (PySem.W.mg_of X G a8) B8 6
  have C8 : Cal l.prog w K mg base 6 "_law_alike" _ := ⟨⟨_, _, _, O8, PySem.W.mg_of X G a8, k8, B8⟩⟩
  have F9 := fun_mk (st := st__law_bad_webs) l9 c9 k9
  have B9 := F9.binds (ps := []) fun _ _ _ _ _ _ us hl => match us, hl with | [], _ => rfl
  have O9 := ok__law_bad_webs (P := l.prog) (w := w) (base := base) F9 T 
  have C9 : Cal l.prog w K mg base 1 "_law_bad_webs" _ := ⟨⟨_, _, _, O9, PySem.W.mg_of X G a9, k9, B9⟩⟩
  have F10 := fun_mk (st := st_whole) l10 c10 k10
  have B10 := F10.binds (ps := ["word"]) fun _ _ _ _ _ _ us hl => match us, hl with | [_], _ => rfl
  have O10 := ok_whole (P := l.prog) (w := w) (base := base) F10 T 
  have C10 : Cal l.prog w K mg base 1 "whole" _ := ⟨⟨_, _, _, O10, PySem.W.mg_of X G a10, k10, B10⟩⟩
  have F11 := fun_mk (st := st_Town_number) l11 c11 k11
  have B11 := F11.binds (ps := ["self", "words", "at", "allowed"]) fun _ _ _ _ _ _ us hl => match us, hl with | [_, _, _, _], _ => rfl
  have O11 := ok_Town_number (P := l.prog) (w := w) (base := base) TK TC F11 T C10
  have O11E := okE_Town_number (P := l.prog) (w := w) (base := base) TK TC F11 T TE C10
  have M11E : CalMX l.prog w K mg base 2 C "number" _ := ⟨TC.cl, _, _, _, O11E, ⟨a11, i11, k11⟩, B11⟩
  have M11 : CalM l.prog w K mg base 2 C "number" _ := ⟨TC.cl, _, _, _, O11, ⟨a11, i11, k11⟩, B11⟩
  have F12 := fun_mk (st := st_Town_after) l12 c12 k12
  have B12 := F12.binds (ps := ["self", "words"]) fun _ _ _ _ _ _ us hl => match us, hl with | [_, _], _ => rfl
  have O12 := ok_Town_after (P := l.prog) (w := w) (base := base) TK TC F12 T M11
  have O12E := okE_Town_after (P := l.prog) (w := w) (base := base) TK TC F12 T TE M11E
  have M12E : CalMX l.prog w K mg base 3 C "after" _ := ⟨TC.cl, _, _, _, O12E, ⟨a12, i12, k12⟩, B12⟩
  have M12 : CalM l.prog w K mg base 3 C "after" _ := ⟨TC.cl, _, _, _, O12, ⟨a12, i12, k12⟩, B12⟩
  have F13 := fun_mk (st := st_table_of) l13 c13 k13
  have B13 := F13.binds (ps := ["web"]) fun _ _ _ _ _ _ us hl => match us, hl with | [_], _ => rfl
  have O13 := ok_table_of (P := l.prog) (w := w) (base := base) F13 T 
  have C13 : Cal l.prog w K mg base 1 "table_of" _ := ⟨⟨_, _, _, O13, PySem.W.mg_of X G a13, k13, B13⟩⟩
  have F14 := fun_mk (st := st_near_in) l14 c14 k14
  have B14 := F14.binds (ps := ["rows", "houses"]) fun _ _ _ _ _ _ us hl => match us, hl with | [_, _], _ => rfl
  have O14 := ok_near_in (P := l.prog) (w := w) (base := base) F14 T 
  have C14 : Cal l.prog w K mg base 1 "near_in" _ := ⟨⟨_, _, _, O14, PySem.W.mg_of X G a14, k14, B14⟩⟩
  have F15 := fun_mk (st := st_sum_in) l15 c15 k15
  have B15 := F15.binds (ps := ["weights", "rows", "houses"]) fun _ _ _ _ _ _ us hl => match us, hl with | [_, _, _], _ => rfl
  have O15 := ok_sum_in (P := l.prog) (w := w) (base := base) F15 T C14
  have C15 : Cal l.prog w K mg base 2 "sum_in" _ := ⟨⟨_, _, _, O15, PySem.W.mg_of X G a15, k15, B15⟩⟩
  have F16 := fun_mk (st := st_Town_told) l16 c16 k16
  have B16 := F16.binds (ps := ["self", "word"]) fun _ _ _ _ _ _ us hl => match us, hl with | [_, _], _ => rfl
  have O16 := ok_Town_told (P := l.prog) (w := w) (base := base) TK TC F16 T C13 C15 C14
  have M16 : CalM l.prog w K mg base 3 C "told" _ := ⟨TC.cl, _, _, _, O16, ⟨a16, i16, k16⟩, B16⟩
  have F17 := fun_mk (st := st_Town_run) l17 c17 k17
  have B17 := F17.binds (ps := ["self", "line"]) fun _ _ _ _ _ _ us hl => match us, hl with | [_, _], _ => rfl
  have O17 := ok_Town_run (P := l.prog) (w := w) (base := base) TK TC F17 T M12 M16
  have O17x := okx_Town_run (P := l.prog) (w := w) (base := base) TK TC F17 T M12 M16
  have M17x : CalM l.prog w K mg base 4 C "run" _ := ⟨TC.cl, _, _, _, O17x, ⟨a17, i17, k17⟩, B17⟩
  have O17E := okE_Town_run (P := l.prog) (w := w) (base := base) TK TC F17 T TE M16 M12E
  have M17E : CalMX l.prog w K mg base 4 C "run" _ := ⟨TC.cl, _, _, _, O17E, ⟨a17, i17, k17⟩, B17⟩
  have M17 : CalM l.prog w K mg base 4 C "run" _ := ⟨TC.cl, _, _, _, O17, ⟨a17, i17, k17⟩, B17⟩
  have F18 := fun_mk (st := st_Town_houses) l18 c18 k18
  have B18 := F18.binds (ps := ["self"]) fun _ _ _ _ _ _ us hl => match us, hl with | [_], _ => rfl
  have O18 := ok_Town_houses (P := l.prog) (w := w) (base := base) TK TC F18 T 
  have M18 : CalG l.prog w K mg base 1 C "houses" _ := ⟨TC.cl, _, _, _, _, O18, ⟨pa18, pg18, pt18, ⟨_, pr18⟩⟩, B18⟩
  have F19 := fun_mk (st := st_Town_web) l19 c19 k19
  have B19 := F19.binds (ps := ["self"]) fun _ _ _ _ _ _ us hl => match us, hl with | [_], _ => rfl
  have O19 := ok_Town_web (P := l.prog) (w := w) (base := base) TK TC F19 T 
  have M19 : CalG l.prog w K mg base 1 C "web" _ := ⟨TC.cl, _, _, _, _, O19, ⟨pa19, pg19, pt19, ⟨_, pr19⟩⟩, B19⟩
  have F20 := fun_mk (st := st_Town_steps) l20 c20 k20
  have B20 := F20.binds (ps := ["self"]) fun _ _ _ _ _ _ us hl => match us, hl with | [_], _ => rfl
  have O20 := ok_Town_steps (P := l.prog) (w := w) (base := base) TK TC F20 T 
  have M20 : CalG l.prog w K mg base 1 C "steps" _ := ⟨TC.cl, _, _, _, _, O20, ⟨pa20, pg20, pt20, ⟨_, pr20⟩⟩, B20⟩
  have F21 := fun_mk (st := st_law) l21 c21 k21
  exact DL.ok_law (ok_law TK TC F21 T TE C7 C8 C9 ⟨mk, a5, i5, kc⟩ O5 B5 (PySem.W.mg_of X G aC) M17 M17x M18 M19 M20 M17E O5E) H
theorem walk {l : PySem.W.OpenLaw} {q : Program} {loose : List Str} {XP : (Str → Option Value) → Heap → Prop} {YP : World → Heap → Prop} {d : DefRec} {K : Params → PySem.W.Frag} (hn : l.most = some 63) (hdf : d.params.defaults = [])
    (hY : ∀ (w : World) (h : Heap), YP w h → (K w.params).In h)
    (F : ∀ (w : World) (mg : Str → Option Value) (fa : Addr) (h : Heap), (K w.params).In h → h.Ns mainGlobals mg → mg d.name = some (.ref fa) →
      ∃ fd : FuncData, (∀ (s : Shared) (u : Value), BindsTo s fd ⟨[u], []⟩ [("_law_script", u)]) ∧ ∀ base : Heap, (K w.params).In base → base.Ns mainGlobals mg → FnOk l.prog w (K w.params) mg base CX0 7 fa fd ["_law_script"] (spLaw (K w.params) 63)) :
    PySem.W.WalkO q loose XP YP l.row.toRowW d [] (fun f vs => PySem.call f vs) :=
  L2.walk_of (n := 63) (k := 7) (x := "_law_script") (CX := fun _ => CX0) (sp := fun w => spLaw (K w.params) 63) hn (by decide) hdf ⟨rfl, by decide, by decide⟩ hY F (fun _ _ a ns hl _ hS => ⟨a, ns, rfl, hS, hl, fun _ => rfl⟩) fun _ _ _ _ _ z => z
end DG
open PySem PySem.W PyProof.Rows in
set_option maxRecDepth 100000 in
set_option maxHeartbeats 0 in
theorem PySem.Challenge.cw_nearhouses_k87_lines_refused_holds : PySem.Challenge.rw_nearhouses_k87_lines_refused.Holds := by
  w_on; o_law; k_head; (case hw => w_witness2)
  k_fill
  refine DG.walk (l := PySem.Challenge.rw_nearhouses_k87_lines_refused) rfl rfl (fun w h Y => PySem.W.kIn_of Y) ?F
  case F =>
    intro w mg fa h KX G hmg
    refine' DG.all_mk KX G hmg DG.law_true ?aC ?pg ?hd ?po ?sa ?mk ?kc ?n_state ?n_past ?n_future ?a0 ?l0 ?c0 ?k0 ?a1 ?l1 ?c1 ?k1 ?a2 ?l2 ?c2 ?k2 ?a3 ?l3 ?c3 ?k3 ?a4 ?l4 ?c4 ?k4 ?a5 ?i5 ?l5 ?c5 ?k5 ?a6 ?l6 ?c6 ?k6 ?a7 ?l7 ?c7 ?k7 ?a8 ?l8 ?c8 ?k8 ?a9 ?l9 ?c9 ?k9 ?a10 ?l10 ?c10 ?k10 ?a11 ?i11 ?l11 ?c11 ?k11 ?a12 ?i12 ?l12 ?c12 ?k12 ?a13 ?l13 ?c13 ?k13 ?a14 ?l14 ?c14 ?k14 ?a15 ?l15 ?c15 ?k15 ?a16 ?i16 ?l16 ?c16 ?k16 ?a17 ?i17 ?l17 ?c17 ?k17 ?pa18 ?pg18 ?pt18 ?pr18 ?l18 ?c18 ?k18 ?pa19 ?pg19 ?pt19 ?pr19 ?l19 ?c19 ?k19 ?pa20 ?pg20 ?pt20 ?pr20 ?l20 ?c20 ?k20 ?a21 ?l21 ?c21 ?k21 ?z_int ?z_isinstance ?z_bool ?z_tuple ?z_len ?g_MOST_POINTS ?g_MOST_WEIGHT ?z_sum ?g_MOST_LENGTH ?z_list ?z_sorted ?g_MOST_ROADS ?z_enumerate ?z_range ?z_str ?g_DIGITS ?z_min ?z_zip ?z_max ?b_HouseError ?x_HouseError ?ty_HouseError ?hsp ?htk ?b_BadWeb ?x_BadWeb ?ty_BadWeb ?ga_BadWeb ?gg_BadWeb ?cz_BadWeb ?kC_BadWeb ?ex_BadWeb ?no_index_BadWeb ?no_word_BadWeb ?sa_BadWeb ?in_BadWeb ?ti_BadWeb ?li_BadWeb ?ci_BadWeb ?lc_BadWeb ?v2_BadWeb ?fi_BadWeb ?lk_BadWeb ?hn_BadWeb ?su_BadWeb ?op_BadWeb ?ve_BadWeb ?mr_BadWeb ?to_BadWeb ?b_InvalidLine ?x_InvalidLine ?ty_InvalidLine ?ga_InvalidLine ?gg_InvalidLine ?cz_InvalidLine ?kC_InvalidLine ?ex_InvalidLine ?no_index_InvalidLine ?no_word_InvalidLine ?sa_InvalidLine ?in_InvalidLine ?ti_InvalidLine ?li_InvalidLine ?ci_InvalidLine ?lc_InvalidLine ?v2_InvalidLine ?fi_InvalidLine ?lk_InvalidLine ?hn_InvalidLine ?su_InvalidLine ?op_InvalidLine ?ve_InvalidLine ?mr_InvalidLine ?to_InvalidLine ?b_NotText ?x_NotText ?ty_NotText ?ga_NotText ?gg_NotText ?cz_NotText ?kC_NotText ?ex_NotText ?no_index_NotText ?no_word_NotText ?q_NotText ?zsup ?aK_STEPS ?lK_STEPS ?kq_STEPS_0 ?kq_STEPS_1 ?kq_STEPS_2 ?kl_STEPS ?kn_STEPS_0 ?kn_STEPS_1 ?kn_STEPS_2 ?kn_STEPS_3 ?kn_STEPS_4 ?kn_STEPS_5 ?kn_STEPS_6 ?kn_STEPS_7 ?kn_STEPS_8 ?kn_STEPS_9 ?kn_STEPS_10 ?aK_QUESTIONS ?lK_QUESTIONS
    (case aC => k_is)
    (case pg => k_is)
    (case hd => k_is)
    (case po => k_is)
    (case sa => k_is)
    (case mk => k_is)
    (case kc => k_is)
    (case n_state => k_is)
    (case n_past => k_is)
    (case n_future => k_is)
    (case a0 => k_is)
    (case l0 => k_is)
    (case c0 => k_is)
    (case k0 => k_is)
    (case a1 => k_is)
    (case l1 => k_is)
    (case c1 => k_is)
    (case k1 => k_is)
    (case a2 => k_is)
    (case l2 => k_is)
    (case c2 => k_is)
    (case k2 => k_is)
    (case a3 => k_is)
    (case l3 => k_is)
    (case c3 => k_is)
    (case k3 => k_is)
    (case a4 => k_is)
    (case l4 => k_is)
    (case c4 => k_is)
    (case k4 => k_is)
    (case a5 => k_is)
    (case i5 => k_is)
    (case l5 => k_is)
    (case c5 => k_is)
    (case k5 => k_is)
    (case a6 => k_is)
    (case l6 => k_is)
    (case c6 => k_is)
    (case k6 => k_is)
    (case a7 => k_is)
    (case l7 => k_is)
    (case c7 => k_is)
    (case k7 => k_is)
    (case a8 => k_is)
    (case l8 => k_is)
    (case c8 => k_is)
    (case k8 => k_is)
    (case a9 => k_is)
    (case l9 => k_is)
    (case c9 => k_is)
    (case k9 => k_is)
    (case a10 => k_is)
    (case l10 => k_is)
    (case c10 => k_is)
    (case k10 => k_is)
    (case a11 => k_is)
    (case i11 => k_is)
    (case l11 => k_is)
    (case c11 => k_is)
    (case k11 => k_is)
    (case a12 => k_is)
    (case i12 => k_is)
    (case l12 => k_is)
    (case c12 => k_is)
    (case k12 => k_is)
    (case a13 => k_is)
    (case l13 => k_is)
    (case c13 => k_is)
    (case k13 => k_is)
    (case a14 => k_is)
    (case l14 => k_is)
    (case c14 => k_is)
    (case k14 => k_is)
    (case a15 => k_is)
    (case l15 => k_is)
    (case c15 => k_is)
    (case k15 => k_is)
    (case a16 => k_is)
    (case i16 => k_is)
    (case l16 => k_is)
    (case c16 => k_is)
    (case k16 => k_is)
    (case a17 => k_is)
    (case i17 => k_is)
    (case l17 => k_is)
    (case c17 => k_is)
    (case k17 => k_is)
    (case pa18 => k_is)
    (case pg18 => k_is)
    (case pt18 => k_is)
    (case pr18 => k_is)
    (case l18 => k_is)
    (case c18 => k_is)
    (case k18 => k_is)
    (case pa19 => k_is)
    (case pg19 => k_is)
    (case pt19 => k_is)
    (case pr19 => k_is)
    (case l19 => k_is)
    (case c19 => k_is)
    (case k19 => k_is)
    (case pa20 => k_is)
    (case pg20 => k_is)
    (case pt20 => k_is)
    (case pr20 => k_is)
    (case l20 => k_is)
    (case c20 => k_is)
    (case k20 => k_is)
    (case a21 => k_is)
    (case l21 => k_is)
    (case c21 => k_is)
    (case k21 => k_is)
    (case z_int => k_is)
    (case z_isinstance => k_is)
    (case z_bool => k_is)
    (case z_tuple => k_is)
    (case z_len => k_is)
    (case g_MOST_POINTS => k_is)
    (case g_MOST_WEIGHT => k_is)
    (case z_sum => k_is)
    (case g_MOST_LENGTH => k_is)
    (case z_list => k_is)
    (case z_sorted => k_is)
    (case g_MOST_ROADS => k_is)
    (case z_enumerate => k_is)
    (case z_range => k_is)
    (case z_str => k_is)
    (case g_DIGITS => k_is)
    (case z_min => k_is)
    (case z_zip => k_is)
    (case z_max => k_is)
    (case b_HouseError => k_is)
    (case x_HouseError => k_is)
    (case ty_HouseError => k_is)
    (case hsp => k_is)
    (case htk => k_is)
    (case b_BadWeb => k_is)
    (case x_BadWeb => k_is)
    (case ty_BadWeb => k_is)
    (case ga_BadWeb => k_is)
    (case gg_BadWeb => k_is)
    (case cz_BadWeb => k_is)
    (case kC_BadWeb => k_is)
    (case ex_BadWeb => k_is)
    (case no_index_BadWeb => k_is)
    (case no_word_BadWeb => k_is)
    (case sa_BadWeb => k_is)
    (case in_BadWeb => k_is)
    (case ti_BadWeb => k_is)
    (case li_BadWeb => k_is)
    (case ci_BadWeb => k_is)
    (case lc_BadWeb => k_is)
    (case v2_BadWeb => first | rfl | kernel_rfl)
    (case fi_BadWeb => first | kernel_rfl | rfl)
    (case lk_BadWeb => k_is)
    (case hn_BadWeb => k_is)
    (case su_BadWeb => ks_is)
    (case op_BadWeb => k_is)
    (case ve_BadWeb => k_is)
    (case mr_BadWeb => k_is)
    (case to_BadWeb => first | kernel_rfl | rfl)
    (case b_InvalidLine => k_is)
    (case x_InvalidLine => k_is)
    (case ty_InvalidLine => k_is)
    (case ga_InvalidLine => k_is)
    (case gg_InvalidLine => k_is)
    (case cz_InvalidLine => k_is)
    (case kC_InvalidLine => k_is)
    (case ex_InvalidLine => k_is)
    (case no_index_InvalidLine => k_is)
    (case no_word_InvalidLine => k_is)
    (case sa_InvalidLine => k_is)
    (case in_InvalidLine => k_is)
    (case ti_InvalidLine => k_is)
    (case li_InvalidLine => k_is)
    (case ci_InvalidLine => k_is)
    (case lc_InvalidLine => k_is)
    (case v2_InvalidLine => first | rfl | kernel_rfl)
    (case fi_InvalidLine => first | kernel_rfl | rfl)
    (case lk_InvalidLine => k_is)
    (case hn_InvalidLine => k_is)
    (case su_InvalidLine => ks_is)
    (case op_InvalidLine => k_is)
    (case ve_InvalidLine => k_is)
    (case mr_InvalidLine => k_is)
    (case to_InvalidLine => first | kernel_rfl | rfl)
    (case b_NotText => k_is)
    (case x_NotText => k_is)
    (case ty_NotText => k_is)
    (case ga_NotText => k_is)
    (case gg_NotText => k_is)
    (case cz_NotText => k_is)
    (case kC_NotText => k_is)
    (case ex_NotText => k_is)
    (case no_index_NotText => k_is)
    (case no_word_NotText => k_is)
    (case q_NotText => first | kernel_rfl | rfl)
    (case zsup => k_is)
    (case aK_STEPS => k_is)
    (case lK_STEPS => k_is)
    (case kq_STEPS_0 => first | rfl | kernel_rfl)
    (case kq_STEPS_1 => first | rfl | kernel_rfl)
    (case kq_STEPS_2 => first | rfl | kernel_rfl)
    (case kl_STEPS => first | rfl | kernel_rfl)
    (case kn_STEPS_0 => k_is)
    (case kn_STEPS_1 => k_is)
    (case kn_STEPS_2 => k_is)
    (case kn_STEPS_3 => k_is)
    (case kn_STEPS_4 => k_is)
    (case kn_STEPS_5 => k_is)
    (case kn_STEPS_6 => k_is)
    (case kn_STEPS_7 => k_is)
    (case kn_STEPS_8 => k_is)
    (case kn_STEPS_9 => k_is)
    (case kn_STEPS_10 => k_is)
    (case aK_QUESTIONS => k_is)
    (case lK_QUESTIONS => k_is)
